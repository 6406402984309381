import PyProof.Rows.All
import Wide.All
import OpenK.AllK
import Wide.FinOn
import HandS.ForMost
import HandS.Walk
import HandS.Wide
import HandS.Deep
import HandS.IsInst
import HandS.Flow
import HandS.Rev
import HandS.Conv
import HandS.TupLen
import HandS.More
import HandS.SortInts
import HandS.SetFor
import HandS.TupSets
import HandS.SetKeys
import HandS.Records
import HandS.Rev
import HandS.RevTup
import PyProof.ListNew
import KE.SortData
import KE.DataCmp
import KE.DataMinMax
import HandS.More
import KE.KDictWalk
import KE.KDictSum
import HandS.Strs
import HandS.DictEq
import PyProof.P3Eq
import HandS.Keys
import KE.KDictCopyH
import HandS.TupSets
import HandS.Exc
import HandS.ExcOwn
import HandS.WordsExc
import HandS.TryOnly
import KE.KExcIs
import HandS.ExcField
import HandS.ExcInit
import PySem.Challenge.RW_knotwise_k17_whole_regions_never_more
set_option maxHeartbeats 0
set_option Elab.async false
set_option linter.all false
set_option maxRecDepth 100000
set_option autoImplicit false
namespace Mir
open PySem PySem.Spec L2

/-! ### data -/
inductive D where
  | non | bl (b : Bool) | int (i : Int) | str (x : Str)
  | lst (xs : List D) | tup (xs : List D)
  | dk (ks : List Key) (ds : List D) | dt (ks : List (List Key)) (ds : List D)
  | ob (c : Str) (C : Addr) (ns : List Str) (ds : List D) | exn (c : Str) (C : Addr) (ns : List Str) (ds : List D)
/-- an exception's object at a -/
def ExH (cls : Value) (d : Option Addr) (a : Addr) : HO := .ext fun h => ∃ oe vs, h.get? a = some oe ∧ Zc cls d oe ∧ oe.data = .fields vs
/-- what is shared wherever it stands -/
def isIm : HO → Bool
  | .tup _ => true
  | .ins _ _ _ => true
  | _ => false

mutual
def D.imm : D → Bool
  | .non => true | .bl _ => true | .int _ => true | .str _ => true
  | .lst _ => false | .tup xs => immAll xs | .dk _ _ => false | .dt _ _ => false
  | .ob _ _ _ ds => immAll ds | .exn _ _ _ _ => false
def immAll : List D → Bool
  | [] => true
  | d :: ds => d.imm && immAll ds
end
theorem immAll_iff : ∀ {ds : List D}, immAll ds = true ↔ ∀ d ∈ ds, d.imm = true
  | [] => by simp [immAll]
  | d :: ds => by simp [immAll, immAll_iff (ds := ds)]

/-! ### what a value stands for, over a heap of what is shared -/
mutual
inductive Rp (G : Hp) : V → D → Prop
  | non : Rp G .non .non
  | bl (b : Bool) : Rp G (.bl b) (.bl b)
  | int (i : Int) : Rp G (.int i) (.int i)
  | str (x : Str) : Rp G (.str x) (.str x)
  | lst {a : Addr} {vs : List V} {ds : List D} : G a = some (.lst vs) → RpAll G vs ds → Rp G (.ref a) (.lst ds)
  | tup {a : Addr} {vs : List V} {ds : List D} : G a = some (.tup vs) → RpAll G vs ds → Rp G (.ref a) (.tup ds)
  | dk {a : Addr} {kvs : List (Key × V)} {ks : List Key} {ds : List D} : G a = some (.dK kvs) → kvs.map (·.1) = ks → RpAll G (kvs.map (·.2)) ds → Rp G (.ref a) (.dk ks ds)
  | dt {a : Addr} {kvs : List (List Key × V)} {ks : List (List Key)} {ds : List D} : G a = some (.dT kvs) → kvs.map (·.1) = ks → RpAll G (kvs.map (·.2)) ds → Rp G (.ref a) (.dt ks ds)
  | ob {a C dx : Addr} {kvs : List (Str × V)} {ns : List Str} {ds : List D} {c : Str} : G a = some (.ins C dx kvs) → kvs.map (·.1) = ns → RpAll G (kvs.map (·.2)) ds → Rp G (.ref a) (.ob c C ns ds)
  | exn0 {a C : Addr} {c : Str} : G a = some (ExH (.ref C) none a) → Rp G (.ref a) (.exn c C [] [])
  | exn {a C dx : Addr} {kvs : List (Str × V)} {ns : List Str} {ds : List D} {c : Str} : G a = some (ExH (.ref C) (some dx) a) → G dx = some (.xd kvs) → kvs.map (·.1) = ns → RpAll G (kvs.map (·.2)) ds → Rp G (.ref a) (.exn c C ns ds)
inductive RpAll (G : Hp) : List V → List D → Prop
  | nil : RpAll G [] []
  | cons {v : V} {vs : List V} {d : D} {ds : List D} : Rp G v d → RpAll G vs ds → RpAll G (v :: vs) (d :: ds)
end

mutual
theorem Rp.mono {G G' : Hp} (k : ∀ a o, G a = some o → G' a = some o) : ∀ {v : V} {d : D}, Rp G v d → Rp G' v d
  | _, _, .non => .non
  | _, _, .bl b => .bl b
  | _, _, .int i => .int i
  | _, _, .str x => .str x
  | _, _, .lst h r => .lst (k _ _ h) (RpAll.mono k r)
  | _, _, .tup h r => .tup (k _ _ h) (RpAll.mono k r)
  | _, _, .dk h e r => .dk (k _ _ h) e (RpAll.mono k r)
  | _, _, .dt h e r => .dt (k _ _ h) e (RpAll.mono k r)
  | _, _, .ob h e r => .ob (k _ _ h) e (RpAll.mono k r)
  | _, _, .exn0 h => .exn0 (k _ _ h)
  | _, _, .exn h1 h2 e r => .exn (k _ _ h1) (k _ _ h2) e (RpAll.mono k r)
theorem RpAll.mono {G G' : Hp} (k : ∀ a o, G a = some o → G' a = some o) : ∀ {vs : List V} {ds : List D}, RpAll G vs ds → RpAll G' vs ds
  | _, _, .nil => .nil
  | _, _, .cons h r => .cons (Rp.mono k h) (RpAll.mono k r)
end
/-! the tuples are the same in both heaps: what holds no list, no dict stands in both -/
mutual
theorem Rp.immTo {G G' : Hp} (k : ∀ a u, isIm u = true → G a = some u → G' a = some u) : ∀ {v : V} {d : D}, Rp G v d → d.imm = true → Rp G' v d
  | _, _, .non, _ => .non
  | _, _, .bl b, _ => .bl b
  | _, _, .int i, _ => .int i
  | _, _, .str x, _ => .str x
  | _, _, .lst _ _, h => by simp [D.imm] at h
  | _, _, .tup h r, e => .tup (k _ _ rfl h) (RpAll.immTo k r (by simpa [D.imm] using e))
  | _, _, .dk _ _ _, h => by simp [D.imm] at h
  | _, _, .dt _ _ _, h => by simp [D.imm] at h
  | _, _, .ob h e1 r, e => .ob (k _ _ rfl h) e1 (RpAll.immTo k r (by simpa [D.imm] using e))
  | _, _, .exn0 _, h => by simp [D.imm] at h
  | _, _, .exn _ _ _ _, h => by simp [D.imm] at h
theorem RpAll.immTo {G G' : Hp} (k : ∀ a u, isIm u = true → G a = some u → G' a = some u) : ∀ {vs : List V} {ds : List D}, RpAll G vs ds → immAll ds = true → RpAll G' vs ds
  | _, _, .nil, _ => .nil
  | _, _, .cons h r, e => by
    rw [immAll, Bool.and_eq_true] at e
    exact .cons (Rp.immTo k h e.1) (RpAll.immTo k r e.2)
end
theorem RpAll.length {G : Hp} : ∀ {vs : List V} {ds : List D}, RpAll G vs ds → vs.length = ds.length
  | _, _, .nil => rfl
  | _, _, .cons _ r => by simp [r.length]
theorem RpAll.get {G : Hp} : ∀ {vs : List V} {ds : List D} {i : Nat} {d : D}, RpAll G vs ds → ds[i]? = some d → ∃ v, vs[i]? = some v ∧ Rp G v d
  | _, _, _, _, .nil, e => by simp at e
  | _, _, 0, _, .cons h _, e => by simp at e; subst e; exact ⟨_, rfl, h⟩
  | _, _, i + 1, d, .cons _ r, e => by
    obtain ⟨v, h1, h2⟩ := RpAll.get (i := i) (d := d) r (by simpa using e)
    exact ⟨v, by simpa using h1, h2⟩
theorem RpAll.get' {G : Hp} : ∀ {vs : List V} {ds : List D} {i : Nat} {v : V}, RpAll G vs ds → vs[i]? = some v → ∃ d, ds[i]? = some d ∧ Rp G v d
  | _, _, _, _, .nil, e => by simp at e
  | _, _, 0, _, .cons h _, e => by simp at e; subst e; exact ⟨_, rfl, h⟩
  | _, _, i + 1, d, .cons _ r, e => by
    obtain ⟨v, h1, h2⟩ := RpAll.get' (i := i) (v := d) r (by simpa using e)
    exact ⟨v, by simpa using h1, h2⟩
theorem RpAll.append {G : Hp} : ∀ {vs ws : List V} {ds es : List D}, RpAll G vs ds → RpAll G ws es → RpAll G (vs ++ ws) (ds ++ es)
  | _, _, _, _, .nil, s => s
  | _, _, _, _, .cons h r, s => .cons h (RpAll.append r s)
theorem RpAll.take {G : Hp} : ∀ {vs : List V} {ds : List D} (n : Nat), RpAll G vs ds → RpAll G (vs.take n) (ds.take n)
  | _, _, 0, _ => .nil
  | _, _, _ + 1, .nil => .nil
  | _, _, n + 1, .cons h r => .cons h (RpAll.take n r)
theorem RpAll.drop {G : Hp} : ∀ {vs : List V} {ds : List D} (n : Nat), RpAll G vs ds → RpAll G (vs.drop n) (ds.drop n)
  | _, _, 0, r => r
  | _, _, _ + 1, .nil => .nil
  | _, _, n + 1, .cons _ r => RpAll.drop n r
theorem RpAll.rev {G : Hp} : ∀ {vs : List V} {ds : List D}, RpAll G vs ds → RpAll G vs.reverse ds.reverse
  | _, _, .nil => .nil
  | _, _, .cons h r => by
    rw [List.reverse_cons, List.reverse_cons]
    exact RpAll.append (RpAll.rev r) (.cons h .nil)
theorem RpAll.set {G : Hp} : ∀ {vs : List V} {ds : List D} (i : Nat) {v : V} {d : D}, RpAll G vs ds → Rp G v d → RpAll G (vs.set i v) (ds.set i d)
  | _, _, _, _, _, .nil, _ => .nil
  | _, _, 0, _, _, .cons _ r, h => .cons h r
  | _, _, i + 1, _, _, .cons q r, h => .cons q (RpAll.set i r h)

/-- a heap without its locks -/
def unf : HO → HO
  | .frz _ u => u
  | o => o
def view (H : Hp) : Hp := fun a => (H a).map unf
theorem view_rd {H : Hp} {a : Addr} {u : HO} (h : view H a = some u) : Rd H a u := by
  unfold view at h
  cases e : H a with
  | none => rw [e] at h; cases h
  | some o =>
    rw [e] at h
    have q : unf o = u := Option.some.inj h
    cases o with
    | frz ob w => exact .inr ⟨ob, by rw [e]; exact congrArg some (congrArg _ q)⟩
    | _ => exact .inl (by rw [e]; exact congrArg some q)
theorem view_ext {H H' : Hp} (k : ∀ a o, H a = some o → H' a = some o) : ∀ a o, view H a = some o → view H' a = some o := fun a o h => by
  unfold view at h ⊢
  cases e : H a with
  | none => rw [e] at h; cases h
  | some u => rw [e] at h; rw [k a u e]; exact h

/-! ### what is owned: Od k: the lists and dicts of the first k levels stand at the addresses of the footprint and nowhere else -/
mutual
inductive Od (G H : Hp) : Nat → List Addr → V → D → Prop
  | sh {k : Nat} {v : V} {d : D} : (k = 0 ∨ d.imm = true) → Rp G v d → Od G H k [] v d
  | lst {k : Nat} {a : Addr} {vs : List V} {ds : List D} {f : List Addr} : H a = some (.lst vs) → OdAll G H k f vs ds → Od G H (k + 1) (a :: f) (.ref a) (.lst ds)
  | tup {k : Nat} {a : Addr} {vs : List V} {ds : List D} {f : List Addr} : H a = some (.tup vs) → OdAll G H k f vs ds → Od G H (k + 1) f (.ref a) (.tup ds)
  | dk {k : Nat} {a : Addr} {kvs : List (Key × V)} {ks : List Key} {ds : List D} {f : List Addr} : H a = some (.dK kvs) → kvs.map (·.1) = ks → OdAll G H k f (kvs.map (·.2)) ds → Od G H (k + 1) (a :: f) (.ref a) (.dk ks ds)
  | dt {k : Nat} {a : Addr} {kvs : List (List Key × V)} {ks : List (List Key)} {ds : List D} {f : List Addr} : H a = some (.dT kvs) → kvs.map (·.1) = ks → OdAll G H k f (kvs.map (·.2)) ds → Od G H (k + 1) (a :: f) (.ref a) (.dt ks ds)
inductive OdAll (G H : Hp) : Nat → List Addr → List V → List D → Prop
  | nil {k : Nat} : OdAll G H k [] [] []
  | cons {k : Nat} {f g : List Addr} {v : V} {vs : List V} {d : D} {ds : List D} : Od G H k f v d → OdAll G H k g vs ds → OdAll G H k (f ++ g) (v :: vs) (d :: ds)
end
end Mir

namespace Mir
open PySem PySem.Spec L2

mutual
theorem Od.frame {G G' H H' : Hp} (hG : ∀ a u, G a = some u → G' a = some u) : ∀ {k : Nat} {f : List Addr} {v : V} {d : D}, (∀ a u, H a = some u → (a ∈ f ∨ ∃ xs, u = .tup xs) → H' a = some u) → Od G H k f v d → Od G' H' k f v d
  | _, _, _, _, _, .sh h r => .sh h (r.mono hG)
  | _, _, _, _, hH, .lst h r => .lst (hH _ _ h (.inl List.mem_cons_self)) (OdAll.frame hG (fun a u e q => hH a u e (q.imp (List.mem_cons_of_mem _) id)) r)
  | _, _, _, _, hH, .tup h r => .tup (hH _ _ h (.inr ⟨_, rfl⟩)) (OdAll.frame hG hH r)
  | _, _, _, _, hH, .dk h e r => .dk (hH _ _ h (.inl List.mem_cons_self)) e (OdAll.frame hG (fun a u e q => hH a u e (q.imp (List.mem_cons_of_mem _) id)) r)
  | _, _, _, _, hH, .dt h e r => .dt (hH _ _ h (.inl List.mem_cons_self)) e (OdAll.frame hG (fun a u e q => hH a u e (q.imp (List.mem_cons_of_mem _) id)) r)
theorem OdAll.frame {G G' H H' : Hp} (hG : ∀ a u, G a = some u → G' a = some u) : ∀ {k : Nat} {f : List Addr} {vs : List V} {ds : List D}, (∀ a u, H a = some u → (a ∈ f ∨ ∃ xs, u = .tup xs) → H' a = some u) → OdAll G H k f vs ds → OdAll G' H' k f vs ds
  | _, _, _, _, _, .nil => .nil
  | _, _, _, _, hH, .cons h r => .cons (Od.frame hG (fun a u e q => hH a u e (q.imp (List.mem_append_left _) id)) h) (OdAll.frame hG (fun a u e q => hH a u e (q.imp (List.mem_append_right _) id)) r)
end
mutual
theorem Od.frozen {G G' H : Hp} (hG : ∀ a u, G a = some u → G' a = some u) (hT : ∀ a xs, H a = some (.tup xs) → G' a = some (.tup xs)) : ∀ {k : Nat} {f : List Addr} {v : V} {d : D}, (∀ a u, H a = some u → a ∈ f → G' a = some u) → Od G H k f v d → Rp G' v d
  | _, _, _, _, _, .sh _ r => r.mono hG
  | _, _, _, _, hH, .lst h r => .lst (hH _ _ h List.mem_cons_self) (OdAll.frozen hG hT (fun a u e q => hH a u e (List.mem_cons_of_mem _ q)) r)
  | _, _, _, _, hH, .tup h r => .tup (hT _ _ h) (OdAll.frozen hG hT hH r)
  | _, _, _, _, hH, .dk h e r => .dk (hH _ _ h List.mem_cons_self) e (OdAll.frozen hG hT (fun a u e q => hH a u e (List.mem_cons_of_mem _ q)) r)
  | _, _, _, _, hH, .dt h e r => .dt (hH _ _ h List.mem_cons_self) e (OdAll.frozen hG hT (fun a u e q => hH a u e (List.mem_cons_of_mem _ q)) r)
theorem OdAll.frozen {G G' H : Hp} (hG : ∀ a u, G a = some u → G' a = some u) (hT : ∀ a xs, H a = some (.tup xs) → G' a = some (.tup xs)) : ∀ {k : Nat} {f : List Addr} {vs : List V} {ds : List D}, (∀ a u, H a = some u → a ∈ f → G' a = some u) → OdAll G H k f vs ds → RpAll G' vs ds
  | _, _, _, _, _, .nil => .nil
  | _, _, _, _, hH, .cons h r => .cons (Od.frozen hG hT (fun a u e q => hH a u e (List.mem_append_left _ q)) h) (OdAll.frozen hG hT (fun a u e q => hH a u e (List.mem_append_right _ q)) r)
end
/-- what is owned is a list or a dict -/
def isMu : HO → Prop
  | .lst _ => True
  | .dK _ => True
  | .dT _ => True
  | _ => False
theorem im_mu {u : HO} (h : isIm u = true) (m : isMu u) : False := by cases u <;> first | exact m.elim | cases h
theorem isMu.unf {u : HO} (h : isMu u) : unf u = u := by cases u <;> first | rfl | exact h.elim
mutual
theorem Od.mu {G H : Hp} : ∀ {k : Nat} {f : List Addr} {v : V} {d : D}, Od G H k f v d → ∀ p ∈ f, ∃ u, H p = some u ∧ isMu u
  | _, _, _, _, .sh _ _, p, hp => by cases hp
  | _, _, _, _, .lst h r, p, hp => by
    rcases List.mem_cons.mp hp with rfl | hp
    · exact ⟨_, h, trivial⟩
    · exact OdAll.mu r p hp
  | _, _, _, _, .tup h r, p, hp => OdAll.mu r p hp
  | _, _, _, _, .dk h _ r, p, hp => by
    rcases List.mem_cons.mp hp with rfl | hp
    · exact ⟨_, h, trivial⟩
    · exact OdAll.mu r p hp
  | _, _, _, _, .dt h _ r, p, hp => by
    rcases List.mem_cons.mp hp with rfl | hp
    · exact ⟨_, h, trivial⟩
    · exact OdAll.mu r p hp
theorem OdAll.mu {G H : Hp} : ∀ {k : Nat} {f : List Addr} {vs : List V} {ds : List D}, OdAll G H k f vs ds → ∀ p ∈ f, ∃ u, H p = some u ∧ isMu u
  | _, _, _, _, .nil, p, hp => by cases hp
  | _, _, _, _, .cons h r, p, hp => by
    rcases List.mem_append.mp hp with hp | hp
    · exact Od.mu h p hp
    · exact OdAll.mu r p hp
end
/-- a level's zero owns nothing -/
theorem Od.zero {G H : Hp} {f : List Addr} {v : V} {d : D} (h : Od G H 0 f v d) : f = [] ∧ Rp G v d := by
  cases h with
  | sh _ r => exact ⟨rfl, r⟩
theorem Od.of {G H : Hp} {v : V} {d : D} (r : Rp G v d) : Od G H 0 [] v d := .sh (.inl rfl) r
theorem Od.im {G H : Hp} {k : Nat} {v : V} {d : D} (r : Rp G v d) (h : d.imm = true) : Od G H k [] v d := .sh (.inr h) r

abbrev Hold := V × Nat × D
inductive HoldAll (G H : Hp) : List Hold → List Addr → Prop
  | nil : HoldAll G H [] []
  | cons {v : V} {k : Nat} {d : D} {hs : List Hold} {f g : List Addr} : Od G H k f v d → HoldAll G H hs g → HoldAll G H ((v, k, d) :: hs) (f ++ g)
theorem HoldAll.perm {G H : Hp} {hs hs' : List Hold} (p : hs.Perm hs') : ∀ {fp}, HoldAll G H hs fp → ∃ fp', HoldAll G H hs' fp' ∧ fp.Perm fp' := by
  induction p with
  | nil => intro fp h; exact ⟨fp, h, List.Perm.refl _⟩
  | cons x _ ih =>
    intro fp h
    cases h with
    | cons h1 h2 =>
      obtain ⟨g, h3, q⟩ := ih h2
      exact ⟨_, .cons h1 h3, List.Perm.append_left _ q⟩
  | swap x y l =>
    intro fp h
    cases h with
    | cons h1 h2 =>
      cases h2 with
      | @cons _ _ _ _ f2 g2 h2 h3 =>
        refine ⟨_, .cons h2 (.cons h1 h3), ?_⟩
        rw [← List.append_assoc, ← List.append_assoc]
        exact List.Perm.append_right _ List.perm_append_comm
  | trans _ _ ih1 ih2 =>
    intro fp h
    obtain ⟨g, h1, q1⟩ := ih1 h
    obtain ⟨g', h2, q2⟩ := ih2 h1
    exact ⟨g', h2, q1.trans q2⟩
theorem HoldAll.frame {G G' H H' : Hp} (hG : ∀ a u, G a = some u → G' a = some u) : ∀ {hs : List Hold} {fp : List Addr}, (∀ a u, H a = some u → (a ∈ fp ∨ ∃ xs, u = .tup xs) → H' a = some u) → HoldAll G H hs fp → HoldAll G' H' hs fp
  | _, _, _, .nil => .nil
  | _, _, hH, .cons h r => .cons (h.frame hG (fun a u e q => hH a u e (q.imp (List.mem_append_left _) id))) (HoldAll.frame hG (fun a u e q => hH a u e (q.imp (List.mem_append_right _) id)) r)
theorem HoldAll.mu {G H : Hp} : ∀ {hs : List Hold} {fp : List Addr}, HoldAll G H hs fp → ∀ p ∈ fp, ∃ u, H p = some u ∧ isMu u
  | _, _, .nil, p, hp => by cases hp
  | _, _, .cons h r, p, hp => (List.mem_append.mp hp).elim (Od.mu h p) (HoldAll.mu r p)
/-- all of one level -/
def lev (k : Nat) (vs : List V) (ds : List D) : List Hold := List.zipWith (fun v d => (v, k, d)) vs ds
theorem HoldAll.ofAll {G H : Hp} : ∀ {k : Nat} {f : List Addr} {vs : List V} {ds : List D} {hs : List Hold} {g : List Addr}, OdAll G H k f vs ds → HoldAll G H hs g → HoldAll G H (lev k vs ds ++ hs) (f ++ g)
  | _, _, _, _, _, _, .nil, s => s
  | _, _, _, _, _, _, .cons h r, s => by
    rw [List.append_assoc]
    exact HoldAll.cons h (HoldAll.ofAll r s)
theorem HoldAll.toAll {G H : Hp} : ∀ {k : Nat} {vs : List V} {ds : List D} {hs : List Hold} {fp : List Addr}, vs.length = ds.length → HoldAll G H (lev k vs ds ++ hs) fp → ∃ f g, fp = f ++ g ∧ OdAll G H k f vs ds ∧ HoldAll G H hs g
  | _, [], [], _, fp, _, h => ⟨[], fp, rfl, .nil, h⟩
  | _, [], _ :: _, _, _, e, _ => by simp at e
  | _, _ :: _, [], _, _, e, _ => by simp at e
  | k, v :: vs, d :: ds, hs, fp, e, h => by
    have h' : HoldAll G H ((v, k, d) :: (lev k vs ds ++ hs)) fp := h
    cases h' with
    | cons h1 h2 =>
      obtain ⟨f, g, rfl, h3, h4⟩ := HoldAll.toAll (by simpa using e) h2
      exact ⟨_, g, (List.append_assoc _ _ _).symm, .cons h1 h3, h4⟩

theorem set_self {α : Type} : ∀ {l : List α} {i : Nat} {x : α}, l[i]? = some x → l.set i x = l
  | [], _, _, h => by simp at h
  | y :: l, 0, x, h => by simp at h; subst h; rfl
  | y :: l, i + 1, x, h => congrArg (List.cons y) (set_self (l := l) (by simpa using h))
abbrev Env := List (Option (Nat × D))
def slots : Env → St → List Hold
  | some (k, d) :: e, some v :: s => (v, k, d) :: slots e s
  | some _ :: e, none :: s => slots e s
  | none :: e, _ :: s => slots e s
  | _, _ => []
theorem slots_take : ∀ {env : Env} {σ : St} {i : Nat} {k : Nat} {d : D} {v : V}, env[i]? = some (some (k, d)) → σ[i]? = some (some v) → (slots env σ).Perm ((v, k, d) :: slots (env.set i none) σ)
  | some _ :: e, some w :: s, 0, _, _, _, h1, h2 => by
    simp at h1 h2
    subst h1 h2
    exact List.Perm.refl _
  | some (k', d') :: e, some w :: s, i + 1, k, d, v, h1, h2 => by
    have ih := slots_take (env := e) (σ := s) (i := i) (by simpa using h1) (by simpa using h2)
    exact (List.Perm.cons _ ih).trans (List.Perm.swap _ _ _)
  | some _ :: e, none :: s, i + 1, k, d, v, h1, h2 => slots_take (env := e) (σ := s) (i := i) (by simpa using h1) (by simpa using h2)
  | none :: e, x :: s, i + 1, k, d, v, h1, h2 => by
    have ih := slots_take (env := e) (σ := s) (i := i) (by simpa using h1) (by simpa using h2)
    cases x <;> exact ih
  | none :: e, x :: s, 0, k, d, v, h1, h2 => by simp at h1
  | some _ :: e, none :: s, 0, k, d, v, h1, h2 => by simp at h2
  | [], _, _, _, _, _, h1, _ => by simp at h1
  | _ :: _, [], _, _, _, _, _, h2 => by simp at h2
theorem slots_none : ∀ {env : Env} {σ : St} {i : Nat} {x : Option V}, env[i]? = some none → slots env (σ.set i x) = slots env σ
  | none :: e, y :: s, 0, x, h => by cases x <;> cases y <;> rfl
  | some (k, d) :: e, y :: s, i + 1, x, h => by
    have ih := slots_none (env := e) (σ := s) (i := i) (x := x) (by simpa using h)
    cases y with
    | none => exact ih
    | some v => exact congrArg (List.cons _) ih
  | none :: e, y :: s, i + 1, x, h => by
    have ih := slots_none (env := e) (σ := s) (i := i) (x := x) (by simpa using h)
    cases y <;> exact ih
  | some _ :: e, y :: s, 0, x, h => by simp at h
  | [], _, _, _, h => by simp at h
  | some _ :: _, [], _, _, h => rfl
  | none :: _, [], _, _, h => rfl
/-- the slots of an env that is weaker -/
theorem slots_drop : ∀ {env : Env} {σ : St} (i : Nat), ∃ l, (slots env σ).Perm (l ++ slots (env.set i none) σ)
  | [], _, i => ⟨[], by simp⟩
  | x :: e, [], i => ⟨[], by cases i <;> cases x <;> exact List.Perm.refl _⟩
  | none :: e, y :: s, 0 => ⟨[], by cases y <;> exact List.Perm.refl _⟩
  | some (k, d) :: e, none :: s, 0 => ⟨[], List.Perm.refl _⟩
  | some (k, d) :: e, some v :: s, 0 => ⟨[(v, k, d)], List.Perm.refl _⟩
  | none :: e, y :: s, i + 1 => by
    obtain ⟨l, h⟩ := slots_drop (env := e) (σ := s) i
    exact ⟨l, by cases y <;> exact h⟩
  | some (k, d) :: e, none :: s, i + 1 => by
    obtain ⟨l, h⟩ := slots_drop (env := e) (σ := s) i
    exact ⟨l, h⟩
  | some (k, d) :: e, some v :: s, i + 1 => by
    obtain ⟨l, h⟩ := slots_drop (env := e) (σ := s) i
    exact ⟨l, (List.Perm.cons _ h).trans List.perm_middle.symm⟩

/-- where a def began: the heap, what was shared in it -/
structure Bs where
  h : Hp
  g : Hp
instance : CoeFun Bs (fun _ => Hp) := ⟨Bs.h⟩
structure Good (B : Bs) (G H : Hp) : Prop where
  bs : ∀ a o, B a = some o → H a = some o
  g0 : ∀ a, B a ≠ none → G a = B.g a
  gs : ∀ a u, G a = some u → view H a = some u
  gt : ∀ a u, isIm u = true → view H a = some u → G a = some u
  nf : ∀ a u, isIm u = true → view H a = some u → H a = some u
structure EnvOk (B : Bs) (H : Hp) (env : Env) (σ : St) (tm : List Hold) : Prop where
  ex : ∃ G fp, Good B G H ∧ HoldAll G H (slots env σ ++ tm) fp ∧ fp.Nodup ∧ ∀ p ∈ fp, B p = none ∧ G p = none
  len : env.length = σ.length
  has : ∀ (i : Nat) kd, env[i]? = some (some kd) → ∃ v, σ[i]? = some (some v)

section
variable {B : Bs} {H : Hp} {env : Env} {σ : St} {tm tm' : List Hold}
theorem EnvOk.perm (h : EnvOk B H env σ tm) (p : tm.Perm tm') : EnvOk B H env σ tm' := by
  obtain ⟨⟨G, fp, g, hs, nd, hp⟩, h2, h3⟩ := h
  obtain ⟨fp', hs', q⟩ := hs.perm (List.Perm.append_left _ p)
  exact ⟨⟨G, fp', g, hs', q.nodup_iff.mp nd, fun p hm => hp p (q.mem_iff.mpr hm)⟩, h2, h3⟩
/-- what is held no longer -/
theorem EnvOk.less {l : List Hold} (h : EnvOk B H env σ (l ++ tm)) : EnvOk B H env σ tm := by
  obtain ⟨⟨G, fp, g, hs, nd, hp⟩, h2, h3⟩ := h
  obtain ⟨fp', hs', q⟩ := hs.perm (hs' := l ++ (slots env σ ++ tm)) (by
    rw [← List.append_assoc, ← List.append_assoc]
    exact List.Perm.append_right _ List.perm_append_comm)
  have cut : ∀ (l : List Hold) {fp : List Addr}, HoldAll G H (l ++ (slots env σ ++ tm)) fp → ∃ f g, fp = f ++ g ∧ HoldAll G H (slots env σ ++ tm) g := by
    intro l
    induction l with
    | nil => intro fp h; exact ⟨[], fp, rfl, h⟩
    | cons x l ih =>
      intro fp h
      cases h with
      | cons h1 h2 =>
        obtain ⟨f, g, rfl, h3⟩ := ih h2
        exact ⟨_, g, (List.append_assoc _ _ _).symm, h3⟩
  obtain ⟨f, g', rfl, h4⟩ := cut l hs'
  have nd' := q.nodup_iff.mp nd
  exact ⟨⟨G, g', g, h4, (List.nodup_append.mp nd').2.1, fun p hm => hp p (q.mem_iff.mpr (List.mem_append_right _ hm))⟩, h2, h3⟩
theorem EnvOk.tail {x : Hold} (h : EnvOk B H env σ (x :: tm)) : EnvOk B H env σ tm := EnvOk.less (l := [x]) h
theorem EnvOk.tail2 {x y : Hold} (h : EnvOk B H env σ (x :: y :: tm)) : EnvOk B H env σ (x :: tm) := (h.perm (List.Perm.swap _ _ _)).tail
theorem EnvOk.swap {x y : Hold} (h : EnvOk B H env σ (x :: y :: tm)) : EnvOk B H env σ (y :: x :: tm) := h.perm (List.Perm.swap _ _ _)
/-- a slot's content goes to the hand -/
theorem EnvOk.move {i k : Nat} {d : D} {v : V} (h : EnvOk B H env σ tm) (e : env[i]? = some (some (k, d))) (s : σ[i]? = some (some v)) : EnvOk B H (env.set i none) σ ((v, k, d) :: tm) := by
  obtain ⟨⟨G, fp, g, hs, nd, hp⟩, h2, h3⟩ := h
  obtain ⟨fp', hs', q⟩ := hs.perm (hs' := slots (env.set i none) σ ++ (v, k, d) :: tm) (((slots_take e s).append_right _).trans List.perm_middle.symm)
  refine ⟨⟨G, fp', g, hs', q.nodup_iff.mp nd, fun p hm => hp p (q.mem_iff.mpr hm)⟩, by simpa using h2, fun j kd e' => ?_⟩
  by_cases ej : i = j
  · subst ej
    rw [List.getElem?_set_self (List.getElem?_eq_some_iff.mp e).1] at e'
    cases e'
  · rw [List.getElem?_set_ne ej] at e'
    exact h3 j kd e'
theorem EnvOk.forget (h : EnvOk B H env σ tm) (i : Nat) : EnvOk B H (env.set i none) σ tm := by
  obtain ⟨l, q⟩ := slots_drop (env := env) (σ := σ) i
  obtain ⟨⟨G, fp, g, hs, nd, hp⟩, h2, h3⟩ := h
  obtain ⟨fp', hs', q'⟩ := hs.perm (hs' := slots (env.set i none) σ ++ (l ++ tm)) (by
    refine (q.append_right _).trans ?_
    rw [← List.append_assoc]
    exact List.Perm.append_right _ List.perm_append_comm)
  have h' : EnvOk B H (env.set i none) σ (l ++ tm) := by
    refine ⟨⟨G, fp', g, hs', q'.nodup_iff.mp nd, fun p hm => hp p (q'.mem_iff.mpr hm)⟩, by simpa using h2, fun j kd e' => ?_⟩
    by_cases ej : i = j
    · subst ej
      rw [List.getElem?_set] at e'
      simp at e'
    · rw [List.getElem?_set_ne ej] at e'
      exact h3 j kd e'
  exact h'.less
def clear : Env → List Nat → Env
  | env, [] => env
  | env, i :: is => clear (env.set i none) is
theorem EnvOk.clear : ∀ {env : Env} (is : List Nat), EnvOk B H env σ tm → EnvOk B H (clear env is) σ tm
  | _, [], h => h
  | _, i :: is, h => EnvOk.clear is (h.forget i)
/-- .. and to a slot -/
theorem EnvOk.store {i k : Nat} {d : D} {v : V} (h : EnvOk B H env σ ((v, k, d) :: tm)) (hi : i < env.length) : EnvOk B H (env.set i (some (k, d))) (σ.set i (some v)) tm := by
  have h1 := h.forget i
  obtain ⟨⟨G, fp, g, hs, nd, hp⟩, h2, h3⟩ := h1
  have e1 : (env.set i none)[i]? = some none := List.getElem?_set_self hi
  have e2 : (env.set i (some (k, d)))[i]? = some (some (k, d)) := List.getElem?_set_self hi
  have hσ : i < σ.length := by rw [← h.len]; exact hi
  have e3 : (σ.set i (some v))[i]? = some (some v) := List.getElem?_set_self hσ
  have q := slots_take e2 e3
  rw [List.set_set, slots_none e1] at q
  obtain ⟨fp', hs', q'⟩ := hs.perm (hs' := slots (env.set i (some (k, d))) (σ.set i (some v)) ++ tm) (List.perm_middle.trans (q.symm.append_right _))
  refine ⟨⟨G, fp', g, hs', q'.nodup_iff.mp nd, fun p hm => hp p (q'.mem_iff.mpr hm)⟩, by simpa using h.len, fun j kd e' => ?_⟩
  by_cases ej : i = j
  · subst ej
    exact ⟨v, e3⟩
  · rw [List.getElem?_set_ne ej] at e'
    rw [List.getElem?_set_ne ej]
    exact h.has j kd e'
/-- σ may change where env knows nothing -/
theorem EnvOk.blank {i : Nat} {x : Option V} (h : EnvOk B H env σ tm) (e : env[i]? = some none) : EnvOk B H env (σ.set i x) tm := by
  obtain ⟨⟨G, fp, g, hs, nd, hp⟩, h2, h3⟩ := h
  refine ⟨⟨G, fp, g, by rw [slots_none e]; exact hs, nd, hp⟩, by simpa using h2, fun j kd e' => ?_⟩
  by_cases ej : i = j
  · subst ej
    rw [e] at e'
    cases e'
  · rw [List.getElem?_set_ne ej]
    exact h3 j kd e'
theorem Good.rp {G : Hp} (g : Good B G H) {k : Nat} {f : List Addr} {v : V} {d : D} (h : Od G H k f v d) (hf : ∀ p ∈ f, ∃ u, H p = some u ∧ isMu u) : Rp (view H) v d := by
  refine h.frozen g.gs (fun a xs e => by unfold view; rw [e]; rfl) fun a u e m => ?_
  obtain ⟨u', e', m'⟩ := hf a m
  rw [e] at e'
  cases e'
  unfold view
  rw [e]
  exact congrArg some m'.unf
/-- the first thing in the hand may be read -/
theorem EnvOk.rp {k : Nat} {d : D} {v : V} (h : EnvOk B H env σ ((v, k, d) :: tm)) : Rp (view H) v d := by
  obtain ⟨⟨G, fp, g, hs, nd, hp⟩, h2, h3⟩ := h
  obtain ⟨fp', hs', q⟩ := hs.perm (hs' := (v, k, d) :: (slots env σ ++ tm)) List.perm_middle
  cases hs' with
  | cons h1 _ => exact g.rp h1 h1.mu
theorem EnvOk.slot {i k : Nat} {d : D} (h : EnvOk B H env σ tm) (e : env[i]? = some (some (k, d))) : ∃ v, σ[i]? = some (some v) ∧ Rp (view H) v d := by
  obtain ⟨v, hv⟩ := h.has i _ e
  exact ⟨v, hv, (h.move e hv).rp⟩
/-- what is shared may be held twice -/
theorem EnvOk.dup {d : D} {v : V} (h : EnvOk B H env σ ((v, 0, d) :: tm)) : EnvOk B H env σ ((v, 0, d) :: (v, 0, d) :: tm) := by
  obtain ⟨⟨G, fp, g, hs, nd, hp⟩, h2, h3⟩ := h
  obtain ⟨fp', hs', q⟩ := hs.perm (hs' := (v, 0, d) :: (slots env σ ++ tm)) List.perm_middle
  cases hs' with
  | @cons _ _ _ _ f1 g1 h1 h4 =>
    obtain ⟨rfl, r⟩ := h1.zero
    obtain ⟨fp2, hs2, q2⟩ := (HoldAll.cons (Od.of (H := H) r) (HoldAll.cons h1 h4)).perm (hs' := slots env σ ++ (v, 0, d) :: (v, 0, d) :: tm) ((List.Perm.cons _ List.perm_middle.symm).trans List.perm_middle.symm)
    simp only [List.nil_append] at q q2
    have q3 := q.trans q2
    exact ⟨⟨G, fp2, g, hs2, q3.nodup_iff.mp nd, fun p hm => hp p (q3.mem_iff.mpr hm)⟩, h2, h3⟩
/-- a thing that may be read and holds no list and no dict -/
theorem EnvOk.imm {k : Nat} {d : D} {v : V} (h : EnvOk B H env σ tm) (r : Rp (view H) v d) (hd : d.imm = true) : EnvOk B H env σ ((v, k, d) :: tm) := by
  obtain ⟨⟨G, fp, g, hs, nd, hp⟩, h2, h3⟩ := h
  have r' : Rp G v d := r.immTo g.gt hd
  obtain ⟨fp2, hs2, q2⟩ := (HoldAll.cons (Od.im (H := H) (k := k) r' hd) hs).perm (hs' := slots env σ ++ (v, k, d) :: tm) List.perm_middle.symm
  simp only [List.nil_append] at q2
  exact ⟨⟨G, fp2, g, hs2, q2.nodup_iff.mp nd, fun p hm => hp p (q2.mem_iff.mpr hm)⟩, h2, h3⟩
/-- a slot that is shared -/
theorem EnvOk.slot0 {i : Nat} {d : D} (h : EnvOk B H env σ tm) (e : env[i]? = some (some (0, d))) : ∃ v, σ[i]? = some (some v) ∧ EnvOk B H env σ ((v, 0, d) :: tm) := by
  obtain ⟨v, hv⟩ := h.has i _ e
  refine ⟨v, hv, ?_⟩
  have hi : i < env.length := (List.getElem?_eq_some_iff.mp e).1
  have h1 := ((h.move e hv).dup).store (i := i) (by simpa using hi)
  have e1 : (env.set i none).set i (some (0, d)) = env := by
    rw [List.set_set]
    exact set_self e
  have e2 : σ.set i (some v) = σ := set_self hv
  rw [e1, e2] at h1
  exact h1
/-- G and H grow, what is owned stays -/
theorem EnvOk.grow {H' : Hp} (h : EnvOk B H env σ tm) (hH : ∀ a u, H a = some u → H' a = some u) (hB : ∀ a, H a = none → B a = none)
    (more : List Hold) (mk : ∀ G, Good B G H → ∃ G' f, (∀ a u, G a = some u → G' a = some u) ∧ (∀ a, H a ≠ none → G' a = G a) ∧ Good B G' H' ∧ HoldAll G' H' more f ∧ f.Nodup ∧ ∀ p ∈ f, H p = none ∧ G' p = none) : EnvOk B H' env σ (more ++ tm) := by
  obtain ⟨⟨G, fp, g, hs, nd, hp⟩, h2, h3⟩ := h
  obtain ⟨G', f, g1, g2, g3, g4, g5, g6⟩ := mk G g
  have hs' : HoldAll G' H' (slots env σ ++ tm) fp := hs.frame g1 fun a u e _ => hH a u e
  have app : ∀ {l : List Hold} {f : List Addr} {m : List Hold} {g : List Addr}, HoldAll G' H' l f → HoldAll G' H' m g → HoldAll G' H' (l ++ m) (f ++ g) := by
    intro l
    induction l with
    | nil => intro f m g a b; cases a; exact b
    | cons x l ih =>
      intro f m g a b
      cases a with
      | cons a1 a2 =>
        rw [List.append_assoc]
        exact .cons a1 (ih a2 b)
  obtain ⟨fp2, hs2, q2⟩ := (app g4 hs').perm (hs' := slots env σ ++ (more ++ tm)) (by
    rw [← List.append_assoc, ← List.append_assoc]
    exact List.Perm.append_right _ List.perm_append_comm)
  have mu := hs.mu
  have nd2 : (f ++ fp).Nodup := List.nodup_append.mpr ⟨g5, nd, fun a ha b hb e => by
    subst e
    obtain ⟨u, e, _⟩ := mu a hb
    rw [(g6 a ha).1] at e
    cases e⟩
  refine ⟨⟨G', fp2, g3, hs2, q2.nodup_iff.mp nd2, fun p hm => ?_⟩, h2, h3⟩
  rcases List.mem_append.mp (q2.mem_iff.mpr hm) with hm | hm
  · exact ⟨hB p (g6 p hm).1, (g6 p hm).2⟩
  · obtain ⟨u, e, _⟩ := mu p hm
    exact ⟨(hp p hm).1, by rw [g2 p (by rw [e]; simp)]; exact (hp p hm).2⟩
theorem EnvOk.bnone (h : EnvOk B H env σ tm) : ∀ a, H a = none → B a = none := fun a e => by
  obtain ⟨⟨G, fp, g, _⟩, _⟩ := h
  cases q : B a with
  | none => rfl
  | some o => rw [g.bs a o q] at e; cases e
theorem view_none {H : Hp} {a : Addr} (h : H a = none) : view H a = none := by unfold view; rw [h]; rfl
theorem view_upd {H : Hp} {p : Addr} {o : HO} : view (upd H p o) = upd (view H) p (unf o) := by
  funext a
  unfold view upd
  by_cases e : a = p
  · rw [if_pos e, if_pos e]; rfl
  · rw [if_neg e, if_neg e]
theorem up_keep {H : Hp} {p : Addr} {o : HO} (hp : H p = none) : ∀ a u, H a = some u → upd H p o a = some u := fun a u e => by
  rw [upd_ne (ne_of_none e hp)]; exact e
theorem Good.gnone {G : Hp} (g : Good B G H) {p : Addr} (hp : H p = none) : G p = none := by
  cases q : G p with
  | none => rfl
  | some u => rw [← g.gs p u q, view_none hp] 
/-- a new list or dict at p; its items go with it -/
theorem Good.newMu {G : Hp} (g : Good B G H) {p : Addr} {o : HO} (hp : H p = none) (hu : unf o = o) (ho : isIm o = false) : Good B G (upd H p o) where
  g0 := g.g0
  bs := fun a u e => up_keep hp a u (g.bs a u e)
  gs := fun a u e => by
    rw [view_upd, hu]
    exact up_keep (view_none hp) a u (g.gs a u e)
  gt := fun a xs im e => by
    rw [view_upd, hu] at e
    by_cases q : a = p
    · subst q
      rw [upd_same] at e
      rw [Option.some.inj e, im] at ho; cases ho
    · rw [upd_ne q] at e
      exact g.gt a xs im e
  nf := fun a xs im e => by
    rw [view_upd, hu] at e
    by_cases q : a = p
    · subst q
      rw [upd_same] at e
      rw [Option.some.inj e, im] at ho; cases ho
    · rw [upd_ne q] at e ⊢
      exact g.nf a xs im e
theorem Good.newSh {G : Hp} (g : Good B G H) {p : Addr} {o : HO} (hp : H p = none) (hu : unf o = o) : Good B (upd G p o) (upd H p o) where
  g0 := fun a e => by
    have : a ≠ p := fun z => by
      subst z
      cases q : B a with
      | none => exact e q
      | some u => rw [g.bs a u q] at hp; cases hp
    rw [upd_ne this]
    exact g.g0 a e
  bs := fun a u e => up_keep hp a u (g.bs a u e)
  gs := fun a u e => by
    rw [view_upd, hu]
    by_cases q : a = p
    · subst q
      rw [upd_same] at e ⊢
      exact e
    · rw [upd_ne q] at e ⊢
      exact g.gs a u e
  gt := fun a xs im e => by
    rw [view_upd, hu] at e
    by_cases q : a = p
    · subst q
      rw [upd_same] at e ⊢
      exact e
    · rw [upd_ne q] at e ⊢
      exact g.gt a xs im e
  nf := fun a xs im e => by
    rw [view_upd, hu] at e
    by_cases q : a = p
    · subst q
      rw [upd_same] at e ⊢
      exact e
    · rw [upd_ne q] at e ⊢
      exact g.nf a xs im e
theorem EnvOk.tupAt {a : Addr} {xs : List V} (h : EnvOk B H env σ tm) (e : view H a = some (.tup xs)) : H a = some (.tup xs) := by
  obtain ⟨⟨G, fp, g, _⟩, _⟩ := h
  exact g.nf a _ rfl e
theorem EnvOk.imAt {a : Addr} {u : HO} (h : EnvOk B H env σ tm) (im : isIm u = true) (e : view H a = some u) : H a = some u := by
  obtain ⟨⟨G, fp, g, _⟩, _⟩ := h
  exact g.nf a _ im e
/-- the hand's first things, taken apart -/
theorem EnvOk.apart {l : List Hold} (h : EnvOk B H env σ (l ++ tm)) : ∃ G f g, Good B G H ∧ HoldAll G H l f ∧ HoldAll G H (slots env σ ++ tm) g ∧ (f ++ g).Nodup ∧ (∀ p ∈ f ++ g, B p = none ∧ G p = none) := by
  obtain ⟨⟨G, fp, g, hs, nd, hp⟩, h2, h3⟩ := h
  obtain ⟨fp', hs', q⟩ := hs.perm (hs' := l ++ (slots env σ ++ tm)) (by
    rw [← List.append_assoc, ← List.append_assoc]
    exact List.Perm.append_right _ List.perm_append_comm)
  have cut : ∀ (l : List Hold) {fp : List Addr}, HoldAll G H (l ++ (slots env σ ++ tm)) fp → ∃ f g, fp = f ++ g ∧ HoldAll G H l f ∧ HoldAll G H (slots env σ ++ tm) g := by
    intro l
    induction l with
    | nil => intro fp h; exact ⟨[], fp, rfl, .nil, h⟩
    | cons x l ih =>
      intro fp h
      cases h with
      | cons h1 h2 =>
        obtain ⟨f, g, rfl, h3, h4⟩ := ih h2
        exact ⟨_, g, (List.append_assoc _ _ _).symm, .cons h1 h3, h4⟩
  obtain ⟨f, g', rfl, h4, h5⟩ := cut l hs'
  exact ⟨G, f, g', g, h4, h5, q.nodup_iff.mp nd, fun p hm => hp p (q.mem_iff.mpr hm)⟩
/-- .. and put together -/
theorem EnvOk.join {G : Hp} {l : List Hold} {f g : List Addr} (h2 : env.length = σ.length) (h3 : ∀ (i : Nat) kd, env[i]? = some (some kd) → ∃ v, σ[i]? = some (some v)) (hg : Good B G H) (hl : HoldAll G H l f) (hr : HoldAll G H (slots env σ ++ tm) g) (nd : (f ++ g).Nodup) (hp : ∀ p ∈ f ++ g, B p = none ∧ G p = none) : EnvOk B H env σ (l ++ tm) := by
  have app : ∀ {l : List Hold} {f : List Addr} {m : List Hold} {g : List Addr}, HoldAll G H l f → HoldAll G H m g → HoldAll G H (l ++ m) (f ++ g) := by
    intro l
    induction l with
    | nil => intro f m g a b; cases a; exact b
    | cons x l ih =>
      intro f m g a b
      cases a with
      | cons a1 a2 =>
        rw [List.append_assoc]
        exact .cons a1 (ih a2 b)
  obtain ⟨fp2, hs2, q2⟩ := (app hl hr).perm (hs' := slots env σ ++ (l ++ tm)) (by
    rw [← List.append_assoc, ← List.append_assoc]
    exact List.Perm.append_right _ List.perm_append_comm)
  exact ⟨⟨G, fp2, hg, hs2, q2.nodup_iff.mp nd, fun p hm => hp p (q2.mem_iff.mpr hm)⟩, h2, h3⟩
/-- what is owned becomes shared -/
theorem EnvOk.freeze {k : Nat} {d : D} {v : V} (h : EnvOk B H env σ ((v, k, d) :: tm)) : EnvOk B H env σ ((v, 0, d) :: tm) := by
  have h2 := h.len
  have h3 := h.has
  obtain ⟨G, f, g, hg, hl, hr, nd, hp⟩ := EnvOk.apart (l := [(v, k, d)]) h
  cases hl with
  | @cons _ _ _ _ f1 g1 h1 hn =>
    cases hn
    rw [List.append_nil] at nd hp
    have m1 := h1.mu
    obtain ⟨nd1, nd2, nd3⟩ := List.nodup_append.mp nd
    let G' : Hp := fun a => if a ∈ f1 then H a else G a
    have out : ∀ a, a ∉ f1 → G' a = G a := fun a ha => if_neg ha
    have inn : ∀ a, a ∈ f1 → G' a = H a := fun a ha => if_pos ha
    have e1 : ∀ a u, G a = some u → G' a = some u := fun a u e => by
      by_cases q : a ∈ f1
      · rw [(hp a (List.mem_append_left _ q)).2] at e; cases e
      · rw [out a q]; exact e
    have hg' : Good B G' H := ⟨hg.bs, fun a e => by
      rw [out a fun q => e (hp a (List.mem_append_left _ q)).1]
      exact hg.g0 a e, fun a u e => by
      by_cases q : a ∈ f1
      · rw [inn a q] at e
        obtain ⟨u', e', m'⟩ := m1 a q
        rw [e] at e'; cases e'
        unfold view; rw [e]; exact congrArg some m'.unf
      · rw [out a q] at e; exact hg.gs a u e, fun a xs im e => by
      by_cases q : a ∈ f1
      · obtain ⟨u', e', m'⟩ := m1 a q
        unfold view at e; rw [e'] at e
        have e2 : unf u' = xs := Option.some.inj e
        rw [m'.unf] at e2
        rw [e2] at m'
        exact (im_mu im m').elim
      · rw [out a q]; exact hg.gt a xs im e, hg.nf⟩
    have r : Rp G' v d := h1.frozen e1 (fun a xs e => hg'.gt a _ rfl (by unfold view; rw [e]; rfl)) fun a u e m => by rw [inn a m]; exact e
    refine EnvOk.join (l := [(v, 0, d)]) (G := G') (f := []) (g := g) h2 h3 hg' (HoldAll.cons (f := []) (g := []) (.of r) .nil) (hr.frame e1 fun _ _ e _ => e) nd2 fun p hm => ?_
    have hm' : p ∈ g := hm
    refine ⟨(hp p (List.mem_append_right _ hm')).1, ?_⟩
    rw [out p fun q => nd3 p q p hm' rfl]
    exact (hp p (List.mem_append_right _ hm')).2
end
end Mir

namespace Mir
open PySem PySem.Spec L2

section
variable {B : Bs} {H : Hp} {env : Env} {σ : St} {tm tm' : List Hold} {k : Nat} {vs : List V} {ds : List D} {p : Addr}
theorem EnvOk.newMu {o : HO} {d : D} (h : EnvOk B H env σ (lev k vs ds ++ tm)) (hl : vs.length = ds.length) (hp : H p = none) (hu : unf o = o) (ho : isIm o = false)
    (mk : ∀ (G H' : Hp) (f : List Addr), H' p = some o → OdAll G H' k f vs ds → Od G H' (k + 1) (p :: f) (.ref p) d) : EnvOk B (upd H p o) env σ ((.ref p, k + 1, d) :: tm) := by
  have h2 := h.len
  have h3 := h.has
  have hb := h.bnone p hp
  obtain ⟨G, f, g, hg, hf, hr, nd, hq⟩ := h.apart
  have hfm := hf.mu
  have hrm := hr.mu
  have hf' : HoldAll G H (lev k vs ds ++ []) f := by rw [List.append_nil]; exact hf
  obtain ⟨f1, f2, e, ha, hn⟩ := HoldAll.toAll hl hf'
  cases hn
  rw [List.append_nil] at e
  subst e
  have hH : ∀ a u, H a = some u → upd H p o a = some u := up_keep hp
  have hgp := hg.gnone hp
  refine EnvOk.join (l := [(.ref p, k + 1, d)]) (G := G) (f := (p :: f) ++ []) (g := g) h2 h3 (hg.newMu hp hu ho) (.cons (mk _ _ _ upd_same (ha.frame (fun _ _ e => e) fun a u e _ => hH a u e)) .nil) (hr.frame (fun _ _ e => e) fun a u e _ => hH a u e) ?_ ?_
  · rw [List.append_nil, List.cons_append]
    refine List.nodup_cons.mpr ⟨fun m => ?_, nd⟩
    rcases List.mem_append.mp m with m | m
    · obtain ⟨u, e, _⟩ := hfm p m; rw [hp] at e; cases e
    · obtain ⟨u, e, _⟩ := hrm p m; rw [hp] at e; cases e
  · rw [List.append_nil, List.cons_append]
    intro q m
    rcases List.mem_cons.mp m with rfl | m
    · exact ⟨hb, hgp⟩
    · exact hq q m
theorem EnvOk.newLst (h : EnvOk B H env σ (lev k vs ds ++ tm)) (hl : vs.length = ds.length) (hp : H p = none) : EnvOk B (upd H p (.lst vs)) env σ ((.ref p, k + 1, .lst ds) :: tm) :=
  h.newMu hl hp rfl rfl fun _ _ _ e r => .lst e r
theorem EnvOk.newDk {kvs : List (Key × V)} {ks : List Key} (h : EnvOk B H env σ (lev k (kvs.map (·.2)) ds ++ tm)) (hl : kvs.length = ds.length) (hk : kvs.map (·.1) = ks) (hp : H p = none) : EnvOk B (upd H p (.dK kvs)) env σ ((.ref p, k + 1, .dk ks ds) :: tm) :=
  h.newMu (by simpa using hl) hp rfl rfl fun _ _ _ e r => .dk e hk r
theorem EnvOk.newDt {kvs : List (List Key × V)} {ks : List (List Key)} (h : EnvOk B H env σ (lev k (kvs.map (·.2)) ds ++ tm)) (hl : kvs.length = ds.length) (hk : kvs.map (·.1) = ks) (hp : H p = none) : EnvOk B (upd H p (.dT kvs)) env σ ((.ref p, k + 1, .dt ks ds) :: tm) :=
  h.newMu (by simpa using hl) hp rfl rfl fun _ _ _ e r => .dt e hk r
theorem EnvOk.newTup (h : EnvOk B H env σ (lev k vs ds ++ tm)) (hl : vs.length = ds.length) (hp : H p = none) : EnvOk B (upd H p (.tup vs)) env σ ((.ref p, k + 1, .tup ds) :: tm) := by
  have h2 := h.len
  have h3 := h.has
  obtain ⟨G, f, g, hg, hf, hr, nd, hq⟩ := h.apart
  have hfm := hf.mu
  have hrm := hr.mu
  have hf' : HoldAll G H (lev k vs ds ++ []) f := by rw [List.append_nil]; exact hf
  obtain ⟨f1, f2, e, ha, hn⟩ := HoldAll.toAll hl hf'
  cases hn
  rw [List.append_nil] at e
  subst e
  have hH : ∀ a u, H a = some u → upd H p (.tup vs) a = some u := up_keep hp
  have hgp := hg.gnone hp
  have hG : ∀ a u, G a = some u → upd G p (.tup vs) a = some u := up_keep hgp
  refine EnvOk.join (l := [(.ref p, k + 1, .tup ds)]) (G := upd G p (.tup vs)) (f := f ++ []) (g := g) h2 h3 (hg.newSh hp rfl) (.cons (.tup upd_same (ha.frame hG fun a u e _ => hH a u e)) .nil) (hr.frame hG fun a u e _ => hH a u e) ?_ ?_
  · rw [List.append_nil]; exact nd
  · rw [List.append_nil]
    intro q m
    refine ⟨(hq q m).1, ?_⟩
    have qp : q ≠ p := fun z => by
      subst z
      rcases List.mem_append.mp m with m | m
      · obtain ⟨u, e, _⟩ := hfm q m; rw [hp] at e; cases e
      · obtain ⟨u, e, _⟩ := hrm q m; rw [hp] at e; cases e
    rw [upd_ne qp]
    exact (hq q m).2
/-- the heap without p -/
def del (H : Hp) (p : Addr) : Hp := fun a => if a = p then none else H a
theorem del_self {H : Hp} {p : Addr} : del H p p = none := if_pos rfl
theorem del_ne {H : Hp} {p a : Addr} (h : a ≠ p) : del H p a = H a := if_neg h
theorem upd_del {H : Hp} {p : Addr} {o : HO} : upd (del H p) p o = upd H p o := by
  funext a
  unfold upd
  by_cases e : a = p
  · rw [if_pos e, if_pos e]
  · rw [if_neg e, if_neg e]; exact del_ne e
/-- what is owned is taken out of the heap, its items go to the hand -/
theorem EnvOk.takeMu {d : D} (h : EnvOk B H env σ ((.ref p, k + 1, d) :: tm)) (im : d.imm = false) (nt : ∀ xs, d ≠ .tup xs) :
    ∃ o vs ds, H p = some o ∧ vs.length = ds.length ∧ ((o = .lst vs ∧ d = .lst ds) ∨ (∃ kvs, o = .dK kvs ∧ d = .dk (kvs.map (·.1)) ds ∧ vs = kvs.map (·.2)) ∨ (∃ kvs, o = .dT kvs ∧ d = .dt (kvs.map (·.1)) ds ∧ vs = kvs.map (·.2))) ∧ EnvOk B (del H p) env σ (lev k vs ds ++ tm) := by
  have h2 := h.len
  have h3 := h.has
  obtain ⟨G, f, g, hg, hf, hr, nd, hq⟩ := EnvOk.apart (l := [(.ref p, k + 1, d)]) h
  have fin : ∀ {f1 : List Addr} {vs : List V} {ds : List D} {o : HO}, f = p :: f1 → H p = some o → (∀ xs, o ≠ .tup xs) → OdAll G H k f1 vs ds → EnvOk B (del H p) env σ (lev k vs ds ++ tm) := fun {f1 vs ds o} ef hp hnt ha => by
    subst ef
    rw [List.cons_append] at nd hq
    obtain ⟨nd1, nd2⟩ := List.nodup_cons.mp nd
    have hH : ∀ {l : List Addr}, p ∉ l → ∀ a u, H a = some u → (a ∈ l ∨ ∃ xs, u = .tup xs) → del H p a = some u := fun {l} hl a u e q => by
      have : a ≠ p := fun z => by
        subst z
        rcases q with q | ⟨xs, q⟩
        · exact hl q
        · rw [hp] at e; cases e; exact hnt xs q
      rw [del_ne this]; exact e
    have hgp : G p = none := (hq p List.mem_cons_self).2
    have hbp : B p = none := (hq p List.mem_cons_self).1
    have np : ∀ {F : Hp} {a : Addr} {u : HO}, F p = none → F a = some u → a ≠ p := fun n e z => by subst z; rw [n] at e; cases e
    have hg' : Good B G (del H p) := ⟨fun a o e => by rw [del_ne (np hbp e)]; exact hg.bs a o e, hg.g0, fun a u e => by
      have := hg.gs a u e
      unfold view at this ⊢
      rw [del_ne (np hgp e)]; exact this, fun a xs im e => by
      unfold view at e
      by_cases q : a = p
      · subst q; rw [del_self] at e; cases e
      · rw [del_ne q] at e; exact hg.gt a xs im e, fun a xs im e => by
      unfold view at e
      by_cases q : a = p
      · subst q; rw [del_self] at e; cases e
      · rw [del_ne q] at e ⊢; exact hg.nf a xs im e⟩
    have hv : HoldAll G (del H p) (lev k vs ds ++ []) (f1 ++ []) := HoldAll.ofAll (ha.frame (fun _ _ e => e) (hH fun m => nd1 (List.mem_append_left _ m))) .nil
    rw [List.append_nil, List.append_nil] at hv
    exact EnvOk.join h2 h3 hg' hv (hr.frame (fun _ _ e => e) (hH fun m => nd1 (List.mem_append_right _ m))) nd2 fun q m => hq q (List.mem_cons_of_mem _ m)
  cases hf with
  | @cons _ _ _ _ f1 g1 h1 hn =>
    cases hn
    rw [List.append_nil] at fin
    have len : ∀ {k : Nat} {f : List Addr} {vs : List V} {ds : List D}, OdAll G H k f vs ds → vs.length = ds.length := fun {k f vs ds} r => by
      induction vs generalizing ds f with
      | nil => cases r; rfl
      | cons v vs ih => cases r with | cons _ r => simp [ih r]
    cases h1 with
    | sh hz r => rcases hz with hz | hz
                 · cases hz
                 · rw [im] at hz; cases hz
    | lst e r => exact ⟨_, _, _, e, len r, .inl ⟨rfl, rfl⟩, fin rfl e (fun _ z => nomatch z) r⟩
    | tup e r => exact absurd rfl (nt _)
    | dk e ek r =>
      subst ek
      exact ⟨_, _, _, e, len r, .inr (.inl ⟨_, rfl, rfl, rfl⟩), fin rfl e (fun _ z => nomatch z) r⟩
    | dt e ek r =>
      subst ek
      exact ⟨_, _, _, e, len r, .inr (.inr ⟨_, rfl, rfl, rfl⟩), fin rfl e (fun _ z => nomatch z) r⟩
theorem EnvOk.takeLst (h : EnvOk B H env σ ((.ref p, k + 1, .lst ds) :: tm)) : ∃ vs, H p = some (.lst vs) ∧ vs.length = ds.length ∧ EnvOk B (del H p) env σ (lev k vs ds ++ tm) := by
  obtain ⟨o, vs, ds', hp, hl, q, h'⟩ := h.takeMu rfl (fun _ z => nomatch z)
  rcases q with ⟨rfl, e⟩ | ⟨kvs, rfl, e, rfl⟩ | ⟨kvs, rfl, e, rfl⟩
  · cases e; exact ⟨vs, hp, hl, h'⟩
  · cases e
  · cases e
theorem EnvOk.takeDk {ks : List Key} (h : EnvOk B H env σ ((.ref p, k + 1, .dk ks ds) :: tm)) : ∃ kvs, H p = some (.dK kvs) ∧ kvs.map (·.1) = ks ∧ kvs.length = ds.length ∧ EnvOk B (del H p) env σ (lev k (kvs.map (·.2)) ds ++ tm) := by
  obtain ⟨o, vs, ds', hp, hl, q, h'⟩ := h.takeMu rfl (fun _ z => nomatch z)
  rcases q with ⟨rfl, e⟩ | ⟨kvs, rfl, e, rfl⟩ | ⟨kvs, rfl, e, rfl⟩
  · cases e
  · cases e; exact ⟨kvs, hp, rfl, by simpa using hl, h'⟩
  · cases e
theorem EnvOk.takeDt {ks : List (List Key)} (h : EnvOk B H env σ ((.ref p, k + 1, .dt ks ds) :: tm)) : ∃ kvs, H p = some (.dT kvs) ∧ kvs.map (·.1) = ks ∧ kvs.length = ds.length ∧ EnvOk B (del H p) env σ (lev k (kvs.map (·.2)) ds ++ tm) := by
  obtain ⟨o, vs, ds', hp, hl, q, h'⟩ := h.takeMu rfl (fun _ z => nomatch z)
  rcases q with ⟨rfl, e⟩ | ⟨kvs, rfl, e, rfl⟩ | ⟨kvs, rfl, e, rfl⟩
  · cases e
  · cases e
  · cases e; exact ⟨kvs, hp, rfl, by simpa using hl, h'⟩
/-- an owned thing stands at an address -/
theorem EnvOk.isRef {v : V} {d : D} (h : EnvOk B H env σ ((v, k, d) :: tm)) (im : d.imm = false) : ∃ p, v = .ref p := by
  have r := h.rp
  cases r with
  | lst => exact ⟨_, rfl⟩
  | tup => exact ⟨_, rfl⟩
  | dk => exact ⟨_, rfl⟩
  | dt => exact ⟨_, rfl⟩
  | ob => exact ⟨_, rfl⟩
  | exn0 => exact ⟨_, rfl⟩
  | exn => exact ⟨_, rfl⟩
  | _ => simp [D.imm] at im
theorem lev_append {k : Nat} : ∀ {vs : List V} {ds : List D} (ws : List V) (es : List D), vs.length = ds.length → lev k (vs ++ ws) (ds ++ es) = lev k vs ds ++ lev k ws es
  | [], [], _, _, _ => rfl
  | [], _ :: _, _, _, e => by simp at e
  | _ :: _, [], _, _, e => by simp at e
  | v :: vs, d :: ds, ws, es, e => congrArg (List.cons _) (lev_append (vs := vs) (ds := ds) ws es (by simpa using e))
/-- all that can be read of shared things -/
theorem EnvOk.levs {vs : List V} {ds : List D} (h : EnvOk B H env σ tm) (r : RpAll (view H) vs ds) (hi : immAll ds = true) {k : Nat} : EnvOk B H env σ (lev k vs ds ++ tm) := by
  induction r using RpAll.rec (motive_1 := fun _ _ _ => True) with
  | nil => exact h
  | cons hr _ _ ih =>
    rw [immAll, Bool.and_eq_true] at hi
    exact (ih hi.2).imm hr hi.1
  | _ => trivial
/-- the items of a shared list, tuple are shared -/
theorem EnvOk.items {d : D} {v : V} (h : EnvOk B H env σ ((v, 0, d) :: tm)) : ∀ {ds : List D}, (d = .lst ds ∨ d = .tup ds ∨ (∃ ks, d = .dk ks ds) ∨ ∃ ks, d = .dt ks ds) → ∃ (p : Addr) (o : HO) (vs : List V), v = .ref p ∧ view H p = some o ∧ vs.length = ds.length ∧
    (d = .lst ds → o = .lst vs) ∧ (d = .tup ds → o = .tup vs) ∧ (∀ ks, d = .dk ks ds → ∃ kvs, o = .dK kvs ∧ kvs.map (·.1) = ks ∧ vs = kvs.map (·.2)) ∧ (∀ ks, d = .dt ks ds → ∃ kvs, o = .dT kvs ∧ kvs.map (·.1) = ks ∧ vs = kvs.map (·.2)) ∧ RpAll (view H) vs ds ∧ EnvOk B H env σ (lev 0 vs ds ++ (v, 0, d) :: tm) := by
  intro ds hd
  have h2 := h.len
  have h3 := h.has
  obtain ⟨G, f, g, hg, hf, hr, nd, hq⟩ := EnvOk.apart (l := [(v, 0, d)]) h
  cases hf with
  | @cons _ _ _ _ f1 g1 h1 hn =>
    cases hn
    obtain ⟨rfl, r⟩ := h1.zero
    have fin : ∀ {vs : List V}, RpAll G vs ds → EnvOk B H env σ (lev 0 vs ds ++ (v, 0, d) :: tm) := fun {vs} ra => by
      have hv : HoldAll G H (lev 0 vs ds ++ [(v, 0, d)]) [] := by
        clear hd
        induction ra using RpAll.rec (motive_1 := fun _ _ _ => True) with
        | nil => exact HoldAll.cons (f := []) (g := []) (.of r) .nil
        | cons hr _ _ ih => exact HoldAll.cons (f := []) (g := []) (.of hr) ih
        | _ => trivial
      have := EnvOk.join (l := lev 0 vs ds ++ [(v, 0, d)]) (f := []) h2 h3 hg hv hr nd hq
      rw [List.append_assoc] at this
      exact this
    cases r with
    | lst e ra =>
      rcases hd with q | q | ⟨_, q⟩ | ⟨_, q⟩ <;> cases q
      exact ⟨_, _, _, rfl, hg.gs _ _ e, ra.length, fun _ => rfl, (fun q => nomatch q), (fun _ q => nomatch q), (fun _ q => nomatch q), ra.mono hg.gs, fin ra⟩
    | tup e ra =>
      rcases hd with q | q | ⟨_, q⟩ | ⟨_, q⟩ <;> cases q
      exact ⟨_, _, _, rfl, hg.gs _ _ e, ra.length, (fun q => nomatch q), fun _ => rfl, (fun _ q => nomatch q), (fun _ q => nomatch q), ra.mono hg.gs, fin ra⟩
    | dk e ek ra =>
      rcases hd with q | q | ⟨_, q⟩ | ⟨_, q⟩ <;> cases q
      exact ⟨_, _, _, rfl, hg.gs _ _ e, ra.length, (fun q => nomatch q), (fun q => nomatch q), (fun ks q => by cases q; exact ⟨_, rfl, ek, rfl⟩), (fun _ q => nomatch q), ra.mono hg.gs, fin ra⟩
    | dt e ek ra =>
      rcases hd with q | q | ⟨_, q⟩ | ⟨_, q⟩ <;> cases q
      exact ⟨_, _, _, rfl, hg.gs _ _ e, ra.length, (fun q => nomatch q), (fun q => nomatch q), (fun _ q => nomatch q), (fun ks q => by cases q; exact ⟨_, rfl, ek, rfl⟩), ra.mono hg.gs, fin ra⟩
    | _ => rcases hd with q | q | ⟨_, q⟩ | ⟨_, q⟩ <;> cases q
end
end Mir

namespace Mir
open PySem PySem.Spec L2

/-! ### results -/
inductive Res (α : Type) where
  | ok (a : α) | exc (c : Str) (ns : List Str) (as : List D) | bad
def Res.bind {α β : Type} : Res α → (α → Res β) → Res β
  | .ok a, f => f a
  | .exc c ns as, _ => .exc c ns as
  | .bad, _ => .bad
instance : Monad Res where
  pure := .ok
  bind := Res.bind
theorem bind_ok {α β : Type} {x : Res α} {f : α → Res β} {b : β} (h : (x >>= f) = .ok b) : ∃ a, x = .ok a ∧ f a = .ok b := by
  cases x with
  | ok a => exact ⟨a, rfl, h⟩
  | exc c ns as => cases h
  | bad => cases h
@[simp] theorem ok_bind {α β : Type} (a : α) (f : α → Res β) : (Res.ok a >>= f) = f a := rfl
@[simp] theorem pure_ok {α : Type} (a : α) : (pure a : Res α) = .ok a := rfl
/-- a guard -/
def chk (b : Bool) : Res Unit := if b then .ok () else .bad
theorem chk_ok {b : Bool} {u : Unit} (h : chk b = .ok u) : b = true := by
  cases b with
  | true => rfl
  | false => cases h
@[simp] theorem chk_true : chk true = .ok () := rfl
inductive Ctl where
  | nx (e : Env) | bk (e : Env) | ct (e : Env) | rt (d : D)

def Ext (H H' : Hp) : Prop := ∀ a o, H a = some o → H' a = some o
theorem Ext.refl (H : Hp) : Ext H H := fun _ _ h => h
theorem Ext.trans {H H1 H2 : Hp} (a : Ext H H1) (b : Ext H1 H2) : Ext H H2 := fun c o h => b c o (a c o h)
theorem Ext.upd {H : Hp} {p : Addr} {o : HO} (h : H p = none) : Ext H (upd H p o) := up_keep h
theorem Ext.rp {H H' : Hp} (h : Ext H H') {v : V} {d : D} (r : Rp (view H) v d) : Rp (view H') v d := r.mono (view_ext h)
theorem Ext.rpAll {H H' : Hp} (h : Ext H H') {v : List V} {d : List D} (r : RpAll (view H) v d) : RpAll (view H') v d := r.mono (view_ext h)

/-! ### the readings by meaning -/
def wE (X : Cx) (e : Expr) : TE := fun σ H Q => ∀ (pins : List (Addr × Obj)) (s : Shared), Inv X pins σ H s → wpAny (model X.prog X.w) X.A (eval e X.env) (EP X pins σ Q) X.xe s
theorem pe_sem {X : Cx} {e : Expr} : PE X e (wE X e) := ⟨fun pins s _ _ _ I h => h pins s I⟩
theorem wE_of {X : Cx} {e : Expr} {t : TE} (h : PE X e t) {σ : St} {H : Hp} {Q : VK} (ht : t σ H Q) : wE X e σ H Q := fun pins s I => h.run pins s σ H Q I ht
def wT (X : Cx) (e : Expr) : TT := fun σ H Q => ∀ (pins : List (Addr × Obj)) (s : Shared), Inv X pins σ H s → wpAny (model X.prog X.w) X.A (isTrue e X.env (eval e X.env)) (TP X pins σ Q) X.xe s
theorem pt_sem {X : Cx} {e : Expr} : PT X e (wT X e) := ⟨fun pins s _ _ _ I h => h pins s I⟩
theorem wT_of {X : Cx} {e : Expr} {t : TT} (h : PT X e t) {σ : St} {H : Hp} {Q : Bool → Hp → Prop} (ht : t σ H Q) : wT X e σ H Q := fun pins s I => h.run pins s σ H Q I ht
def wW (X : Cx) (e : Expr) : TT := fun σ H Q => ∀ (whole : Sem Value) (pins : List (Addr × Obj)) (s : Shared), Inv X pins σ H s → wpAny (model X.prog X.w) X.A (isTrue e X.env whole) (TP X pins σ Q) X.xe s
theorem pw_sem {X : Cx} {e : Expr} : PW X e (wW X e) := ⟨fun w pins s _ _ _ I h => h w pins s I⟩
theorem wW_of {X : Cx} {e : Expr} {t : TT} (h : PW X e t) {σ : St} {H : Hp} {Q : Bool → Hp → Prop} (ht : t σ H Q) : wW X e σ H Q := fun w pins s I => h.run w pins s σ H Q I ht
def wA (X : Cx) (es : List Expr) : TA := fun σ H Q => ∀ (pos : Pos) (pins : List (Addr × Obj)) (s : Shared), Inv X pins σ H s → wpAny (model X.prog X.w) X.A (spliced (backTo pos (starEach es X.env))) (AP X pins σ Q) X.xe s
theorem pa_sem {X : Cx} {e : List Expr} : PA X e (wA X e) := ⟨fun p pins s _ _ _ I h => h p pins s I⟩
theorem wA_of {X : Cx} {e : List Expr} {t : TA} (h : PA X e t) {σ : St} {H : Hp} {Q : List V → Hp → Prop} (ht : t σ H Q) : wA X e σ H Q := fun p pins s I => h.run p pins s σ H Q I ht
def wS (X : Cx) (st : Stmt) : TS := fun D σ H => ∀ (pins : List (Addr × Obj)) (s : Shared), Inv X pins σ H s → wpAny (model X.prog X.w) X.A (exec st X.env) (SP X pins D) X.xe s
theorem ps_sem {X : Cx} {e : Stmt} : PS X e (wS X e) := ⟨fun pins s _ _ _ I h => h pins s I⟩
theorem wS_of {X : Cx} {e : Stmt} {t : TS} (h : PS X e t) {σ : St} {H : Hp} {D : Ends} (ht : t D σ H) : wS X e D σ H := fun pins s I => h.run pins s σ H D I ht
def wB (X : Cx) (st : List Stmt) : TS := fun D σ H => ∀ (pins : List (Addr × Obj)) (s : Shared), Inv X pins σ H s → wpAny (model X.prog X.w) X.A (execs st X.env) (SP X pins D) X.xe s
theorem pss_sem {X : Cx} {e : List Stmt} : PSs X e (wB X e) := ⟨fun pins s _ _ _ I h => h pins s I⟩
theorem wB_of {X : Cx} {e : List Stmt} {t : TS} (h : PSs X e t) {σ : St} {H : Hp} {D : Ends} (ht : t D σ H) : wB X e D σ H := fun pins s I => h.run pins s σ H D I ht

/-! ### the judgements: an expression's worth by its mirror m -/
/-- its value is handed on, owned to the level k; the slots cs are given away -/
def SE (X : Cx) (k : Nat) (cs : List Nat) (e : Expr) (m : Env → Res D) : Prop := ∀ (B : Bs) (H : Hp) (env : Env) (σ : St) (tm : List Hold) (d : D) (Q : VK), EnvOk B H env σ tm → m env = .ok d →
  (∀ v H', Ext H H' → EnvOk B H' (clear env cs) σ ((v, k, d) :: tm) → Q v H') → wE X e σ H Q
/-- its value may be read -/
def SB (X : Cx) (e : Expr) (m : Env → Res D) : Prop := ∀ (B : Bs) (H : Hp) (env : Env) (σ : St) (tm : List Hold) (d : D) (Q : VK), EnvOk B H env σ tm → m env = .ok d →
  (∀ v H', Ext H H' → EnvOk B H' env σ tm → Rp (view H') v d → Q v H') → wE X e σ H Q
/-- .. and holds no list, no dict -/
def SC (X : Cx) (e : Expr) (m : Env → Res D) : Prop := ∀ (B : Bs) (H : Hp) (env : Env) (σ : St) (tm : List Hold) (d : D) (Q : VK), EnvOk B H env σ tm → m env = .ok d →
  (∀ v H', Ext H H' → EnvOk B H' env σ tm → Rp (view H') v d → d.imm = true → Q v H') → wE X e σ H Q
/-- a test -/
def ST (X : Cx) (e : Expr) (m : Env → Res Bool) : Prop := ∀ (B : Bs) (H : Hp) (env : Env) (σ : St) (tm : List Hold) (b : Bool) (Q : Bool → Hp → Prop), EnvOk B H env σ tm → m env = .ok b →
  (∀ H', Ext H H' → EnvOk B H' env σ tm → Q b H') → wT X e σ H Q
def SW (X : Cx) (e : Expr) (m : Env → Res Bool) : Prop := ∀ (B : Bs) (H : Hp) (env : Env) (σ : St) (tm : List Hold) (b : Bool) (Q : Bool → Hp → Prop), EnvOk B H env σ tm → m env = .ok b →
  (∀ H', Ext H H' → EnvOk B H' env σ tm → Q b H') → wW X e σ H Q
/-- arguments that may be read -/
def SAB (X : Cx) (es : List Expr) (m : Env → Res (List D)) : Prop := ∀ (B : Bs) (H : Hp) (env : Env) (σ : St) (tm : List Hold) (ds : List D) (Q : List V → Hp → Prop), EnvOk B H env σ tm → m env = .ok ds →
  (∀ vs H', Ext H H' → EnvOk B H' env σ tm → RpAll (view H') vs ds → Q vs H') → wA X es σ H Q
/-- items that are handed on -/
def SAE (X : Cx) (k : Nat) (cs : List Nat) (es : List Expr) (m : Env → Res (List D)) : Prop := ∀ (B : Bs) (H : Hp) (env : Env) (σ : St) (tm : List Hold) (ds : List D) (Q : List V → Hp → Prop), EnvOk B H env σ tm → m env = .ok ds →
  (∀ vs H', Ext H H' → vs.length = ds.length → EnvOk B H' (clear env cs) σ (lev k vs ds ++ tm) → Q vs H') → wA X es σ H Q

section
variable {X : Cx} {e a b : Expr} {m ma mb : Env → Res D} {k : Nat} {cs : List Nat} {pos : Pos}
theorem sb_c (h : SC X e m) : SB X e m := fun B H env σ tm d Q ok hm q => h B H env σ tm d Q ok hm fun v H' x ok' r _ => q v H' x ok' r
theorem se_c (h : SC X e m) : SE X k [] e m := fun B H env σ tm d Q ok hm q => h B H env σ tm d Q ok hm fun v H' x ok' r i => q v H' x (ok'.imm r i)
theorem sb_e (h : SE X k [] e m) : SB X e m := fun B H env σ tm d Q ok hm q => h B H env σ tm d Q ok hm fun v H' x ok' => q v H' x ok'.tail ok'.rp
/-- what is read and holds no list, no dict -/
def mImm (m : Env → Res D) : Env → Res D := fun env => m env >>= fun d => if d.imm then .ok d else .bad
theorem sc_b (h : SB X e m) : SC X e (mImm m) := fun B H env σ tm d Q ok hm q => by
  obtain ⟨d', h1, h2⟩ := bind_ok hm
  by_cases hi : d'.imm = true
  · rw [if_pos hi] at h2
    cases h2
    exact h B H env σ tm d Q ok h1 fun v H' x ok' r => q v H' x ok' r hi
  · rw [if_neg hi] at h2; cases h2
theorem se_0 (h : SE X k cs e m) : SE X 0 cs e m := fun B H env σ tm d Q ok hm q => h B H env σ tm d Q ok hm fun v H' x ok' => q v H' x ok'.freeze

/-! ### names -/
def mVar (i : Nat) : Env → Res D := fun env => match env[i]? with
  | some (some (_, d)) => .ok d
  | _ => .bad
def mVarK (i k : Nat) : Env → Res D := fun env => match env[i]? with
  | some (some (j, d)) => if j = k then .ok d else .bad
  | _ => .bad
theorem sb_var {i : Nat} (h : PE X e (tVar i)) : SB X e (mVar i) := fun B H env σ tm d Q ok hm q => by
  unfold mVar at hm
  split at hm
  · rename_i j d' e1
    cases hm
    obtain ⟨v, hv, r⟩ := ok.slot e1
    exact wE_of h ⟨v, hv, q v H (Ext.refl H) ok r⟩
  · cases hm
theorem se_var {i : Nat} (h : PE X e (tVar i)) : SE X 0 [] e (mVarK i 0) := fun B H env σ tm d Q ok hm q => by
  unfold mVarK at hm
  split at hm
  · rename_i j d' e1
    split at hm
    · rename_i ej
      subst ej
      cases hm
      obtain ⟨v, hv, ok'⟩ := ok.slot0 e1
      exact wE_of h ⟨v, hv, q v H (Ext.refl H) ok'⟩
    · cases hm
  · cases hm
/-- a slot's content is given away -/
theorem se_move {i : Nat} (h : PE X e (tVar i)) : SE X k [i] e (mVarK i k) := fun B H env σ tm d Q ok hm q => by
  unfold mVarK at hm
  split at hm
  · rename_i j d' e1
    split at hm
    · rename_i ej
      subst ej
      cases hm
      obtain ⟨v, hv, r⟩ := ok.slot e1
      exact wE_of h ⟨v, hv, q v H (Ext.refl H) (ok.move e1 hv)⟩
    · cases hm
  · cases hm

/-! ### constants -/
def mC (d : D) : Env → Res D := fun _ => .ok d
theorem sc_of {d : D} {v : V} (h : PE X e (tC v)) (r : ∀ G, Rp G v d) (hi : d.imm = true) : SC X e (mC d) := fun B H env σ tm d' Q ok hm q => by
  cases hm
  exact wE_of h (q v H (Ext.refl H) ok (r _) hi)
theorem sc_int {i : Int} {j pos} : SC X (.Constant (.int i) j pos) (mC (.int i)) := sc_of pe_int (fun _ => .int i) rfl
theorem sc_bl {i : Bool} {j pos} : SC X (.Constant (.bool i) j pos) (mC (.bl i)) := sc_of pe_bl (fun _ => .bl i) rfl
theorem sc_non {j pos} : SC X (.Constant .none j pos) (mC .non) := sc_of pe_non (fun _ => .non) rfl
theorem sc_str {i : Str} {j pos} : SC X (.Constant (.str i) j pos) (mC (.str i)) := sc_of pe_str (fun _ => .str i) rfl

/-! ### operators on values -/
def OpC (X : Cx) (f : Value → Value → Sem Value) (g : D → D → Res D) : Prop := ∃ r : R2, OpR X f r ∧ ∀ (x y : V) (dx dy d : D) (H : Hp) (Q : VK), Rp (view H) x dx → Rp (view H) y dy → g dx dy = .ok d →
  (∀ v, Rp (view H) v d → d.imm = true → Q v H) → r x y H Q
def mOp (g : D → D → Res D) (ma mb : Env → Res D) : Env → Res D := fun env => ma env >>= fun x => mb env >>= fun y => g x y
theorem two {g : D → D → Res D} {env : Env} {d : D} (h : mOp g ma mb env = .ok d) : ∃ x y, ma env = .ok x ∧ mb env = .ok y ∧ g x y = .ok d := by
  obtain ⟨x, h1, h2⟩ := bind_ok h
  obtain ⟨y, h3, h4⟩ := bind_ok h2
  exact ⟨x, y, h1, h3, h4⟩
theorem sb2 (ha : SB X a ma) (hb : SB X b mb) {B : Bs} {H : Hp} {env : Env} {σ : St} {tm : List Hold} {x y : D} (ok : EnvOk B H env σ tm) (hx : ma env = .ok x) (hy : mb env = .ok y) {R : V → V → Hp → Prop}
    (q : ∀ v u H', Ext H H' → EnvOk B H' env σ tm → Rp (view H') v x → Rp (view H') u y → R v u H') : wE X a σ H fun v H1 => wE X b σ H1 fun u H2 => R v u H2 :=
  ha B H env σ tm x _ ok hx fun v H1 x1 ok1 r1 => hb B H1 env σ tm y _ ok1 hy fun u H2 x2 ok2 r2 => q v u H2 (x1.trans x2) ok2 (x2.rp r1) r2
theorem sc_op {op : Operator} {g : D → D → Res D} (ho : OpC X (binaryOp op) g) (ha : SB X a ma) (hb : SB X b mb) : SC X (.BinOp a op b pos) (mOp g ma mb) := fun B H env σ tm d Q ok hm q => by
  obtain ⟨x, y, hx, hy, hg⟩ := two hm
  obtain ⟨r, hr, hq⟩ := ho
  exact wE_of (pe_op hr pe_sem pe_sem) (sb2 ha hb ok hx hy fun v u H' x' ok' r1 r2 => hq v u _ _ _ H' Q r1 r2 hg fun z rz iz => q z H' x' ok' rz iz)
theorem sc_cmp {op : CmpOp} {g : D → D → Res D} (ho : OpC X (compareOp op) g) (ha : SB X a ma) (hb : SB X b mb) (hm : behindInMarks op b = false) : SC X (.Compare a [op] [b] pos) (mOp g ma mb) := fun B H env σ tm d Q ok hm' q => by
  obtain ⟨x, y, hx, hy, hg⟩ := two hm'
  obtain ⟨r, hr, hq⟩ := ho
  exact wE_of (pe_cmpR hr pe_sem pe_sem hm) (sb2 ha hb ok hx hy fun v u H' x' ok' r1 r2 => hq v u _ _ _ H' Q r1 r2 hg fun z rz iz => q z H' x' ok' rz iz)
def toB : D → Res Bool
  | .bl b => .ok b
  | _ => .bad
def mTb (m : Env → Res D) : Env → Res Bool := fun env => m env >>= toB
theorem toB_ok {d : D} {b : Bool} (h : toB d = .ok b) : d = .bl b := by
  cases d with
  | bl c => cases h; rfl
  | _ => cases h
theorem st_cmp {op : CmpOp} {g : D → D → Res D} (ho : OpC X (compareOp op) g) (ha : SB X a ma) (hb : SB X b mb) (hm : behindInMarks op b = false) : ST X (.Compare a [op] [b] pos) (mTb (mOp g ma mb)) := fun B H env σ tm d Q ok hm' q => by
  obtain ⟨z, hz, hd⟩ := bind_ok hm'
  have hd' := toB_ok hd
  subst hd'
  obtain ⟨x, y, hx, hy, hg⟩ := two hz
  obtain ⟨r, hr, hq⟩ := ho
  refine wT_of (pt_cmpR hr pe_sem pe_sem hm) (sb2 ha hb ok hx hy fun v u H' x' ok' r1 r2 => hq v u _ _ _ H' _ r1 r2 hg fun z rz iz => ?_)
  cases rz
  exact ⟨_, rfl, q H' x' ok'⟩
/-- a value True or False as a test -/
theorem st_val (h : SB X e m) (he : ∀ whole, isTrue e X.env whole = (do let v ← whole; standAt e.pos; holding [v] (truthy v)) := by intro _; rfl) : ST X e (mTb m) := fun B H env σ tm d Q ok hm' q => by
  obtain ⟨z, hz, hd⟩ := bind_ok hm'
  have hd' := toB_ok hd
  subst hd'
  refine wT_of (pt_val pe_sem he) (h B H env σ tm _ _ ok hz fun v H' x ok' r => ?_)
  cases r
  exact ⟨_, rfl, q H' x ok'⟩

/-! ### unary -/
def mUn (g : D → Res D) (m : Env → Res D) : Env → Res D := fun env => m env >>= g
def gNeg : D → Res D
  | .int i => .ok (.int (-i))
  | _ => .bad
theorem sc_neg (ha : SB X a ma) : SC X (.UnaryOp .USub a pos) (mUn gNeg ma) := fun B H env σ tm d Q ok hm q => by
  obtain ⟨x, hx, hg⟩ := bind_ok hm
  refine wE_of (pe_un un_neg pe_sem) (ha B H env σ tm x _ ok hx fun v H' x' ok' r => ?_)
  cases r with
  | int i => cases hg; exact ⟨i, rfl, q _ H' x' ok' (.int _) rfl⟩
  | _ => cases hg
/-! ### and, or, not -/
def mNotB (m : Env → Res Bool) : Env → Res Bool := fun env => m env >>= fun b => .ok (!b)
def mAndB (m n : Env → Res Bool) : Env → Res Bool := fun env => m env >>= fun b => if b then n env else .ok false
def mOrB (m n : Env → Res Bool) : Env → Res Bool := fun env => m env >>= fun b => if b then .ok true else n env
variable {ta tb : Env → Res Bool} {rest : List Expr}
theorem st_not (ha : ST X a ta) : ST X (.UnaryOp .Not a pos) (mNotB ta) := fun B H env σ tm d Q ok hm q => by
  obtain ⟨x, hx, hg⟩ := bind_ok hm
  cases hg
  exact wT_of (pt_not pt_sem) (ha B H env σ tm x _ ok hx fun H' x' ok' => q H' x' ok')
theorem sw_and1 (ha : ST X a ta) : SW X (.BoolOp .And [a] pos) ta := fun B H env σ tm d Q ok hm q => wW_of (pw_and1 pt_sem) (ha B H env σ tm d Q ok hm q)
theorem sw_or1 (ha : ST X a ta) : SW X (.BoolOp .Or [a] pos) ta := fun B H env σ tm d Q ok hm q => wW_of (pw_or1 pt_sem) (ha B H env σ tm d Q ok hm q)
theorem sw_and (ha : ST X a ta) (hb : SW X (.BoolOp .And (b :: rest) pos) tb) : SW X (.BoolOp .And (a :: b :: rest) pos) (mAndB ta tb) := fun B H env σ tm d Q ok hm q => by
  obtain ⟨x, hx, hg⟩ := bind_ok hm
  refine wW_of (pw_and pt_sem pw_sem) (ha B H env σ tm x _ ok hx fun H1 x1 ok1 => ?_)
  cases x with
  | true => exact hb B H1 env σ tm d Q ok1 hg fun H2 x2 ok2 => q H2 (x1.trans x2) ok2
  | false => cases hg; exact q H1 x1 ok1
theorem sw_or (ha : ST X a ta) (hb : SW X (.BoolOp .Or (b :: rest) pos) tb) : SW X (.BoolOp .Or (a :: b :: rest) pos) (mOrB ta tb) := fun B H env σ tm d Q ok hm q => by
  obtain ⟨x, hx, hg⟩ := bind_ok hm
  refine wW_of (pw_or pt_sem pw_sem) (ha B H env σ tm x _ ok hx fun H1 x1 ok1 => ?_)
  cases x with
  | false => exact hb B H1 env σ tm d Q ok1 hg fun H2 x2 ok2 => q H2 (x1.trans x2) ok2
  | true => cases hg; exact q H1 x1 ok1
theorem st_w (h : SW X e ta) : ST X e ta := fun B H env σ tm d Q ok hm q pins s I => h B H env σ tm d Q ok hm q _ pins s I
/-- .. as values -/
def mAndV (ma mb : Env → Res D) : Env → Res D := fun env => ma env >>= fun x => toB x >>= fun b => if b then mb env else .ok (.bl false)
def mOrV (ma mb : Env → Res D) : Env → Res D := fun env => ma env >>= fun x => toB x >>= fun b => if b then .ok (.bl true) else mb env
theorem sc_one {op} (h : SC X a ma) : SC X (.BoolOp op [a] pos) ma := fun B H env σ tm d Q ok hm q => wE_of (pe_one pe_sem) (h B H env σ tm d Q ok hm q)
theorem sc_and (ha : SB X a ma) (hb : SC X (.BoolOp .And (b :: rest) pos) mb) : SC X (.BoolOp .And (a :: b :: rest) pos) (mAndV ma mb) := fun B H env σ tm d Q ok hm q => by
  obtain ⟨x, hx, hg⟩ := bind_ok hm
  obtain ⟨c, hc, hg⟩ := bind_ok hg
  have := toB_ok hc
  subst this
  refine wE_of (pe_and pe_sem pe_sem) (ha B H env σ tm _ _ ok hx fun v H1 x1 ok1 r1 => ?_)
  cases r1
  refine ⟨c, rfl, ?_⟩
  cases c with
  | true => rw [if_pos rfl]; exact hb B H1 env σ tm d Q ok1 hg fun v H2 x2 ok2 => q v H2 (x1.trans x2) ok2
  | false => cases hg; exact q _ H1 x1 ok1 (.bl false) rfl
theorem sc_or (ha : SB X a ma) (hb : SC X (.BoolOp .Or (b :: rest) pos) mb) : SC X (.BoolOp .Or (a :: b :: rest) pos) (mOrV ma mb) := fun B H env σ tm d Q ok hm q => by
  obtain ⟨x, hx, hg⟩ := bind_ok hm
  obtain ⟨c, hc, hg⟩ := bind_ok hg
  have := toB_ok hc
  subst this
  refine wE_of (pe_or pe_sem pe_sem) (ha B H env σ tm _ _ ok hx fun v H1 x1 ok1 r1 => ?_)
  cases r1
  refine ⟨c, rfl, ?_⟩
  cases c with
  | false => exact hb B H1 env σ tm d Q ok1 hg fun v H2 x2 ok2 => q v H2 (x1.trans x2) ok2
  | true => cases hg; exact q _ H1 x1 ok1 (.bl true) rfl
/-- not e as a value -/
def mNotV (m : Env → Res D) : Env → Res D := fun env => m env >>= fun x => toB x >>= fun b => .ok (.bl (!b))
theorem sc_not (ha : SB X a ma) : SC X (.UnaryOp .Not a pos) (mNotV ma) := fun B H env σ tm d Q ok hm q => by
  obtain ⟨x, hx, hg⟩ := bind_ok hm
  obtain ⟨c, hc, hg⟩ := bind_ok hg
  have := toB_ok hc
  subst this
  cases hg
  refine wE_of (pe_not pe_sem) (ha B H env σ tm _ _ ok hx fun v H1 x1 ok1 r1 => ?_)
  cases r1
  exact ⟨c, rfl, q _ H1 x1 ok1 (.bl _) rfl⟩
/-- a if t else b -/
def mIf {α : Type} (t : Env → Res Bool) (ma mb : Env → Res α) : Env → Res α := fun env => t env >>= fun c => if c then ma env else mb env
theorem se_if {c : Expr} (hc : ST X c ta) (ha : SE X k [] a ma) (hb : SE X k [] b mb) : SE X k [] (.IfExp c a b pos) (mIf ta ma mb) := fun B H env σ tm d Q ok hm q => by
  obtain ⟨x, hx, hg⟩ := bind_ok hm
  refine wE_of (pe_ifExp pt_sem pe_sem pe_sem) (hc B H env σ tm x _ ok hx fun H1 x1 ok1 => ?_)
  cases x with
  | true => rw [if_pos rfl] at hg ⊢; exact ha B H1 env σ tm d Q ok1 hg fun v H2 x2 ok2 => q v H2 (x1.trans x2) ok2
  | false => exact hb B H1 env σ tm d Q ok1 hg fun v H2 x2 ok2 => q v H2 (x1.trans x2) ok2
theorem sc_if {c : Expr} (hc : ST X c ta) (ha : SC X a ma) (hb : SC X b mb) : SC X (.IfExp c a b pos) (mIf ta ma mb) := fun B H env σ tm d Q ok hm q => by
  obtain ⟨x, hx, hg⟩ := bind_ok hm
  refine wE_of (pe_ifExp pt_sem pe_sem pe_sem) (hc B H env σ tm x _ ok hx fun H1 x1 ok1 => ?_)
  cases x with
  | true => rw [if_pos rfl] at hg ⊢; exact ha B H1 env σ tm d Q ok1 hg fun v H2 x2 ok2 => q v H2 (x1.trans x2) ok2
  | false => exact hb B H1 env σ tm d Q ok1 hg fun v H2 x2 ok2 => q v H2 (x1.trans x2) ok2

/-! ### arguments, displays -/
def mNilA : Env → Res (List D) := fun _ => .ok []
def mConsA (m : Env → Res D) (n : Env → Res (List D)) : Env → Res (List D) := fun env => m env >>= fun x => n env >>= fun xs => .ok (x :: xs)
theorem sab_nil : SAB X [] mNilA := fun B H env σ tm ds Q ok hm q => by
  cases hm
  exact wA_of pa_nil (q [] H (Ext.refl H) ok .nil)
theorem sab_cons {es : List Expr} {ms : Env → Res (List D)} (he : SB X e m) (hs : SAB X es ms) (hst : starEach (e :: es) X.env = (false, eval e X.env) :: starEach es X.env := by rfl) : SAB X (e :: es) (mConsA m ms) := fun B H env σ tm ds Q ok hm q => by
  obtain ⟨x, hx, hg⟩ := bind_ok hm
  obtain ⟨xs, hxs, hg⟩ := bind_ok hg
  cases hg
  refine wA_of (pa_cons pe_sem pa_sem hst) (he B H env σ tm x _ ok hx fun v H1 x1 ok1 r1 => hs B H1 env σ tm xs _ ok1 hxs fun vs H2 x2 ok2 r2 => ?_)
  exact q _ H2 (x1.trans x2) ok2 (.cons (x2.rp r1) r2)
/-- items: the mirror of what stands behind sees the slots that are left -/
def mConsE (m : Env → Res D) (cs : List Nat) (n : Env → Res (List D)) : Env → Res (List D) := fun env => m env >>= fun x => n (clear env cs) >>= fun xs => .ok (x :: xs)
theorem clear_app : ∀ (env : Env) (cs cs' : List Nat), clear (clear env cs) cs' = clear env (cs ++ cs')
  | _, [], _ => rfl
  | env, c :: cs, cs' => clear_app (env.set c none) cs cs'
theorem sae_nil : SAE X k [] [] mNilA := fun B H env σ tm ds Q ok hm q => by
  cases hm
  exact wA_of pa_nil (q [] H (Ext.refl H) rfl ok)
theorem sae_cons {es : List Expr} {cs' : List Nat} {ms : Env → Res (List D)} (he : SE X k cs e m) (hs : SAE X k cs' es ms) (hst : starEach (e :: es) X.env = (false, eval e X.env) :: starEach es X.env := by rfl) : SAE X k (cs ++ cs') (e :: es) (mConsE m cs ms) := fun B H env σ tm ds Q ok hm q => by
  obtain ⟨x, hx, hg⟩ := bind_ok hm
  obtain ⟨xs, hxs, hg⟩ := bind_ok hg
  cases hg
  refine wA_of (pa_cons pe_sem pa_sem hst) (he B H env σ tm x _ ok hx fun v H1 x1 ok1 => hs B H1 (clear env cs) σ _ xs _ ok1 hxs fun vs H2 x2 hl ok2 => ?_)
  refine q _ H2 (x1.trans x2) (by simp [hl]) ?_
  rw [← clear_app]
  exact ok2.perm (List.perm_middle (l₁ := lev k vs xs) (a := (v, k, x)) (l₂ := tm))
def mTup (n : Env → Res (List D)) : Env → Res D := fun env => n env >>= fun xs => if xs.length ≤ sizeLine then .ok (.tup xs) else .bad
def mLst (n : Env → Res (List D)) : Env → Res D := fun env => n env >>= fun xs => if xs.length ≤ sizeLine then .ok (.lst xs) else .bad
theorem se_tup {es : List Expr} {ms : Env → Res (List D)} {x1} (hs : SAE X k cs es ms) : SE X (k + 1) cs (.Tuple es x1 pos) (mTup ms) := fun B H env σ tm d Q ok hm q => by
  obtain ⟨xs, hx, hg⟩ := bind_ok hm
  by_cases hl : xs.length ≤ sizeLine
  · rw [if_pos hl] at hg
    cases hg
    refine wE_of (pe_tup pa_sem) (hs B H env σ tm xs _ ok hx fun vs H1 x1 e1 ok1 => ⟨by rw [e1]; exact hl, fun p hp => ?_⟩)
    exact q _ _ (x1.trans (Ext.upd hp)) (ok1.newTup e1 hp)
  · rw [if_neg hl] at hg; cases hg
theorem se_lst {es : List Expr} {ms : Env → Res (List D)} (hs : SAE X k cs es ms) : SE X (k + 1) cs (.List es pos) (mLst ms) := fun B H env σ tm d Q ok hm q => by
  obtain ⟨xs, hx, hg⟩ := bind_ok hm
  by_cases hl : xs.length ≤ sizeLine
  · rw [if_pos hl] at hg
    cases hg
    refine wE_of (pe_lst pa_sem) (hs B H env σ tm xs _ ok hx fun vs H1 x1 e1 ok1 => ⟨by rw [e1]; exact hl, fun p hp => ?_⟩)
    exact q _ _ (x1.trans (Ext.upd hp)) (ok1.newLst e1 hp)
  · rw [if_neg hl] at hg; cases hg
/-- a tuple of things that hold no list, no dict -/
theorem sc_tup {es : List Expr} {ms : Env → Res (List D)} {x1} (hs : SAE X 0 [] es ms) : SC X (.Tuple es x1 pos) (mImm (mTup ms)) := sc_b (sb_e (se_0 (se_tup hs)))
end
end Mir

namespace Mir
open PySem PySem.Spec L2

/-! ### as the library's data -/
mutual
def D.py : D → PyData
  | .non => .none | .bl b => .bool b | .int i => .int i | .str x => .str x
  | .lst xs => .list (pyAll xs) | .tup xs => .tuple (pyAll xs) | .dk _ _ => .dict [] | .dt _ _ => .dict []
  | .ob _ _ _ _ => .dict [] | .exn _ _ _ _ => .dict []
def pyAll : List D → List PyData
  | [] => []
  | d :: ds => d.py :: pyAll ds
end
theorem pyAll_map : ∀ ds : List D, pyAll ds = ds.map D.py
  | [] => rfl
  | d :: ds => by rw [pyAll, pyAll_map ds]; rfl
mutual
theorem Rp.dp {K : PySem.W.Frag} {H : Hp} : ∀ {v : V} {d : D}, Rp (view H) v d → PyData.canLay0 d.py = true → Dp K H v d.py
  | _, _, .non, _ => .non
  | _, _, .bl b, _ => .bl b
  | _, _, .int i, _ => .int i
  | _, _, .str x, _ => .str x
  | _, _, .lst h r, e => .lst (.inl (view_rd h)) (RpAll.dp r (by simpa [D.py, PyData.canLay0] using e))
  | _, _, .tup h r, e => .tup (.inl (view_rd h)) (RpAll.dp r (by simpa [D.py, PyData.canLay0] using e))
  | _, _, .dk _ _ _, e => by simp [D.py, PyData.canLay0] at e
  | _, _, .dt _ _ _, e => by simp [D.py, PyData.canLay0] at e
  | _, _, .ob _ _ _, e => by simp [D.py, PyData.canLay0] at e
  | _, _, .exn0 _, e => by simp [D.py, PyData.canLay0] at e
  | _, _, .exn _ _ _ _, e => by simp [D.py, PyData.canLay0] at e
theorem RpAll.dp {K : PySem.W.Frag} {H : Hp} : ∀ {v : List V} {d : List D}, RpAll (view H) v d → PyData.canLayAll0 (pyAll d) = true → DpAll K H v (pyAll d)
  | _, _, .nil, _ => .nil
  | _, _, .cons h r, e => by
    rw [pyAll, PyData.canLayAll0, Bool.and_eq_true] at e
    exact .cons (Rp.dp h e.1) (RpAll.dp r e.2)
end
theorem shaped_lay {d : PyData} (h : SeqAt.shaped d = true) : PyData.canLay0 d = true := by
  unfold SeqAt.shaped at h
  rw [Bool.and_eq_true] at h
  exact h.1

/-! ### arithmetic -/
def gAdd : D → D → Res D
  | .int i, .int j => .ok (.int (i + j))
  | .str a, .str b => if a.length + b.length ≤ sizeLine then .ok (.str (a ++ b)) else .bad
  | _, _ => .bad
def gSub : D → D → Res D
  | .int i, .int j => .ok (.int (i - j))
  | _, _ => .bad
def mulOk (i j : Int) : Bool := (decide (-(2 ^ 64) < i) && decide (i < 2 ^ 64)) || (decide (-(2 ^ 64) < j) && decide (j < 2 ^ 64)) || decide (i.natAbs.log2 + j.natAbs.log2 < 1000000)
def gMul : D → D → Res D
  | .int i, .int j => if mulOk i j then .ok (.int (i * j)) else .bad
  | _, _ => .bad
def gMod : D → D → Res D
  | .int i, .int j => if 0 < j then .ok (.int (i % j)) else .bad
  | _, _ => .bad
def gFdv : D → D → Res D
  | .int i, .int j => if 0 < j ∧ j.natAbs.log2 < 9000 then .ok (.int (i / j)) else .bad
  | _, _ => .bad
def gPow : D → D → Res D
  | .int i, .int j => if 0 ≤ j ∧ j ≤ 1000000 ∧ i.natAbs < 2 ^ 64 then .ok (.int (i ^ j.toNat)) else .bad
  | _, _ => .bad
section
variable {X : Cx}
theorem op_i {f : Value → Value → Sem Value} {C : Int → Int → Prop} {g : Int → Int → Int} {gg : D → D → Res D} (ho : OpR X f (rI C fun i j => .int (g i j)))
    (hg : ∀ x y d, gg x y = .ok d → ∃ i j, x = .int i ∧ y = .int j ∧ C i j ∧ d = .int (g i j)) : OpC X f gg := ⟨_, ho, fun x y dx dy d H Q rx ry e q => by
  obtain ⟨i, j, rfl, rfl, c, rfl⟩ := hg _ _ _ e
  cases rx
  cases ry
  exact ⟨i, j, rfl, rfl, c, q _ (.int _) rfl⟩⟩
theorem o_sub : OpC X (binaryOp .Sub) gSub := by
  refine ⟨_, op_sub, fun x y dx dy d H Q rx ry e q => ?_⟩
  unfold gSub at e
  split at e
  · cases e; cases rx; cases ry; exact ⟨_, _, rfl, rfl, q _ (.int _) rfl⟩
  · cases e
theorem o_mul : OpC X (binaryOp .Mult) gMul := by
  have h1 : OpR X (binaryOp .Mult) (fun x y H Q => (rI CMul fun i j => .int (i * j)) x y H Q ∨ (rI CMulW fun i j => .int (i * j)) x y H Q) := fun pins s σ H x y v u Q I rx ry h => h.elim (fun h => op_mul pins s σ H x y v u Q I rx ry h) fun h => op_mulW pins s σ H x y v u Q I rx ry h
  refine ⟨_, h1, fun x y dx dy d H Q rx ry e q => ?_⟩
  unfold gMul at e
  split at e
  · rename_i i j
    split at e
    · rename_i hm
      cases e; cases rx; cases ry
      unfold mulOk at hm
      rw [Bool.or_eq_true, Bool.or_eq_true, Bool.and_eq_true, Bool.and_eq_true] at hm
      simp only [decide_eq_true_eq] at hm
      rcases hm with (hm | hm) | hm
      · exact .inl ⟨_, _, rfl, rfl, .inl hm, q _ (.int _) rfl⟩
      · exact .inl ⟨_, _, rfl, rfl, .inr hm, q _ (.int _) rfl⟩
      · exact .inr ⟨_, _, rfl, rfl, hm, q _ (.int _) rfl⟩
    · cases e
  · cases e
theorem o_mod : OpC X (binaryOp .Mod) gMod := op_i op_mod fun x y d h => by
  unfold gMod at h
  split at h
  · split at h
    · rename_i hj; cases h; exact ⟨_, _, rfl, rfl, hj, rfl⟩
    · cases h
  · cases h
theorem o_fdv : OpC X (binaryOp .FloorDiv) gFdv := op_i op_fdivW fun x y d h => by
  unfold gFdv at h
  split at h
  · split at h
    · rename_i hj; cases h; exact ⟨_, _, rfl, rfl, hj, rfl⟩
    · cases h
  · cases h
theorem o_pow : OpC X (binaryOp .Pow) gPow := op_i op_pow fun x y d h => by
  unfold gPow at h
  split at h
  · split at h
    · rename_i hj; cases h; exact ⟨_, _, rfl, rfl, hj, rfl⟩
    · cases h
  · cases h
theorem o_add : OpC X (binaryOp .Add) gAdd := by
  have h1 : OpR X (binaryOp .Add) (fun x y H Q => (rI0 fun i j => .int (i + j)) x y H Q ∨ (∃ i j, x = .str i ∧ y = .str j ∧ i.length + j.length ≤ sizeLine ∧ Q (.str (i ++ j)) H)) := fun pins s σ H x y v u Q I rx ry h => h.elim (fun h => op_add pins s σ H x y v u Q I rx ry h) fun h => op_add_str pins s σ H x y v u Q I rx ry h
  refine ⟨_, h1, fun x y dx dy d H Q rx ry e q => ?_⟩
  unfold gAdd at e
  split at e
  · cases e; cases rx; cases ry
    exact .inl ⟨_, _, rfl, rfl, q _ (.int _) rfl⟩
  · split at e
    · rename_i hl
      cases e; cases rx; cases ry
      exact .inr ⟨_, _, rfl, rfl, hl, q _ (.str _) rfl⟩
    · cases e
  · cases e

/-! ### comparisons -/
def shp (d : D) : Bool := SeqAt.shaped d.py
def gEq (x y : D) : Res D := if shp x && shp y then .ok (.bl (PyData.eqv x.py y.py)) else .bad
def gNe (x y : D) : Res D := if shp x && shp y then .ok (.bl (!PyData.eqv x.py y.py)) else .bad
theorem o_eq (hu : X.A.units + 64 < cLine) : OpC X (compareOp .Eq) gEq := by
  refine ⟨_, op_eqD hu, fun x y dx dy d H Q rx ry e q => ?_⟩
  unfold gEq at e
  split at e
  · rename_i hs
    rw [Bool.and_eq_true] at hs
    cases e
    exact ⟨_, _, rx.dp (shaped_lay hs.1), ry.dp (shaped_lay hs.2), hs.1, hs.2, q _ (.bl _) rfl⟩
  · cases e
theorem o_ne (hu : X.A.units + 64 < cLine) : OpC X (compareOp .NotEq) gNe := by
  refine ⟨_, op_neD hu, fun x y dx dy d H Q rx ry e q => ?_⟩
  unfold gNe at e
  split at e
  · rename_i hs
    rw [Bool.and_eq_true] at hs
    cases e
    exact ⟨_, _, rx.dp (shaped_lay hs.1), ry.dp (shaped_lay hs.2), hs.1, hs.2, q _ (.bl _) rfl⟩
  · cases e
/-- what may be set in order -/
def ordOk (x y : D) : Bool := shp x && shp y && PySem.W.alike x.py y.py && (match x with | .non => false | _ => true) && decide (min x.py.depth y.py.depth ≤ 60)
def gLt : D → D → Res D
  | .int i, .int j => .ok (.bl (decide (i < j)))
  | x, y => if ordOk x y then .ok (.bl (PySem.W.dataLt x.py y.py)) else .bad
def gGt : D → D → Res D
  | .int i, .int j => .ok (.bl (decide (j < i)))
  | x, y => if ordOk x y then .ok (.bl (PySem.W.dataLt y.py x.py)) else .bad
def gLe : D → D → Res D
  | .int i, .int j => .ok (.bl (decide (i ≤ j)))
  | x, y => if ordOk x y then .ok (.bl (!PySem.W.dataLt y.py x.py)) else .bad
def gGe : D → D → Res D
  | .int i, .int j => .ok (.bl (decide (j ≤ i)))
  | x, y => if ordOk x y then .ok (.bl (!PySem.W.dataLt x.py y.py)) else .bad
def rOrd (K : PySem.W.Frag) (f : PyData → PyData → Bool) : R2 := fun x y H Q => ∃ d e, Dp K H x d ∧ Dp K H y e ∧ PySem.W.alike d e = true ∧ d ≠ .none ∧ min d.depth e.depth ≤ 60 ∧ Q (.bl (f d e)) H
theorem op_ord {op : CmpOp} {f : PyData → PyData → Bool} (hu : X.A.units + 64 < cLine)
    (rule : ∀ {a b : Value} {da db : PyData} {as bs : List Addr} {s : Shared} {Q : Value → Shared → Prop}, Reads s.heap a da as → Reads s.heap b db bs → PySem.W.alike da db = true → da ≠ .none → X.A.units + min da.depth db.depth < cLine → Q (.bool (f da db)) s → wpAny (model X.prog X.w) X.A (compareOp op a b) Q X.xe s) : OpR X (compareOp op) (rOrd X.K f) := by
  intro pins s σ H x y v u Q I rx ry h
  obtain ⟨d, e, hd, he, ha, hn, hm, q⟩ := h
  obtain ⟨as, r1⟩ := Dp.reads I d x v hd rx
  obtain ⟨bs, r2⟩ := Dp.reads I e y u he ry
  exact rule r1 r2 ha hn (by omega) ⟨.bl _, H, I, rfl, q⟩
theorem ord_ok {x y : D} {H : Hp} {K : PySem.W.Frag} {v u : V} (h : ordOk x y = true) (rx : Rp (view H) v x) (ry : Rp (view H) u y) : Dp K H v x.py ∧ Dp K H u y.py ∧ PySem.W.alike x.py y.py = true ∧ x.py ≠ .none ∧ min x.py.depth y.py.depth ≤ 60 := by
  unfold ordOk at h
  simp only [Bool.and_eq_true, decide_eq_true_eq] at h
  obtain ⟨⟨⟨⟨h1, h2⟩, h3⟩, h4⟩, h5⟩ := h
  refine ⟨rx.dp (shaped_lay h1), ry.dp (shaped_lay h2), h3, ?_, h5⟩
  cases x <;> simp [D.py] at h4 ⊢
theorem o_ord {op : CmpOp} {f : PyData → PyData → Bool} {p : Int → Int → Bool} {g : D → D → Res D} (h1 : OpR X (compareOp op) (rI0 fun i j => .bl (p i j))) (h2 : OpR X (compareOp op) (rOrd X.K f))
    (hg : ∀ x y d, g x y = .ok d → (∃ i j, x = .int i ∧ y = .int j ∧ d = .bl (p i j)) ∨ (ordOk x y = true ∧ d = .bl (f x.py y.py))) : OpC X (compareOp op) g := by
  have h3 : OpR X (compareOp op) (fun x y H Q => (rI0 fun i j => .bl (p i j)) x y H Q ∨ rOrd X.K f x y H Q) := fun pins s σ H x y v u Q I rx ry h => h.elim (fun h => h1 pins s σ H x y v u Q I rx ry h) fun h => h2 pins s σ H x y v u Q I rx ry h
  refine ⟨_, h3, fun x y dx dy d H Q rx ry e q => ?_⟩
  rcases hg _ _ _ e with ⟨i, j, rfl, rfl, rfl⟩ | ⟨ho, rfl⟩
  · cases rx; cases ry
    exact .inl ⟨_, _, rfl, rfl, q _ (.bl _) rfl⟩
  · obtain ⟨a1, a2, a3, a4, a5⟩ := ord_ok (K := X.K) ho rx ry
    exact .inr ⟨_, _, a1, a2, a3, a4, a5, q _ (.bl _) rfl⟩
theorem o_lt (hu : X.A.units + 64 < cLine) : OpC X (compareOp .Lt) gLt := o_ord op_lt (op_ord (f := fun d e => PySem.W.dataLt d e) hu fun r1 r2 a n u q => PySem.W.lt_data r1 r2 a n u q) fun x y d h => by
  unfold gLt at h
  split at h
  · cases h; exact .inl ⟨_, _, rfl, rfl, rfl⟩
  · split at h
    · rename_i ho; cases h; exact .inr ⟨ho, rfl⟩
    · cases h
theorem o_gt (hu : X.A.units + 64 < cLine) : OpC X (compareOp .Gt) gGt := o_ord op_gt (op_ord (f := fun d e => PySem.W.dataLt e d) hu fun r1 r2 a n u q => PySem.W.gt_data r1 r2 a n u q) fun x y d h => by
  unfold gGt at h
  split at h
  · cases h; exact .inl ⟨_, _, rfl, rfl, rfl⟩
  · split at h
    · rename_i ho; cases h; exact .inr ⟨ho, rfl⟩
    · cases h
theorem o_le (hu : X.A.units + 64 < cLine) : OpC X (compareOp .LtE) gLe := o_ord op_le (op_ord (f := fun d e => !PySem.W.dataLt e d) hu fun r1 r2 a n u q => PySem.W.le_data r1 r2 a n u q) fun x y d h => by
  unfold gLe at h
  split at h
  · cases h; exact .inl ⟨_, _, rfl, rfl, rfl⟩
  · split at h
    · rename_i ho; cases h; exact .inr ⟨ho, rfl⟩
    · cases h
theorem o_ge (hu : X.A.units + 64 < cLine) : OpC X (compareOp .GtE) gGe := o_ord op_ge (op_ord (f := fun d e => !PySem.W.dataLt d e) hu fun r1 r2 a n u q => PySem.W.ge_data r1 r2 a n u q) fun x y d h => by
  unfold gGe at h
  split at h
  · cases h; exact .inl ⟨_, _, rfl, rfl, rfl⟩
  · split at h
    · rename_i ho; cases h; exact .inr ⟨ho, rfl⟩
    · cases h
/-- is None -/
def gIsN : D → Res D := fun d => .ok (.bl (match d with | .non => true | _ => false))
def gNotN : D → Res D := fun d => .ok (.bl (match d with | .non => false | _ => true))
variable {a b e : Expr} {ma mb m : Env → Res D} {pos : Pos} {k : Nat}
theorem sc_isN {j pos'} (ha : SB X a ma) : SC X (.Compare a [.Is] [.Constant .none j pos'] pos) (mUn gIsN ma) := fun B H env σ tm d Q ok hm q => by
  obtain ⟨x, hx, hg⟩ := bind_ok hm
  cases hg
  refine wE_of (pe_cmp (pc_isN pe_sem)) (ha B H env σ tm x _ ok hx fun v H1 x1 ok1 r1 => ?_)
  cases r1 <;> exact q _ H1 x1 ok1 (.bl _) rfl
theorem sc_notN {j pos'} (ha : SB X a ma) : SC X (.Compare a [.IsNot] [.Constant .none j pos'] pos) (mUn gNotN ma) := fun B H env σ tm d Q ok hm q => by
  obtain ⟨x, hx, hg⟩ := bind_ok hm
  cases hg
  refine wE_of (pe_cmp (pc_notN pe_sem)) (ha B H env σ tm x _ ok hx fun v H1 x1 ok1 r1 => ?_)
  cases r1 <;> exact q _ H1 x1 ok1 (.bl _) rfl
theorem st_isN {j pos'} (ha : SB X a ma) : ST X (.Compare a [.Is] [.Constant .none j pos'] pos) (mTb (mUn gIsN ma)) := fun B H env σ tm d Q ok hm q => by
  obtain ⟨z, hz, hd⟩ := bind_ok hm
  obtain ⟨x, hx, hg⟩ := bind_ok hz
  cases hg
  cases hd
  refine wT_of (pt_cmp (pc_isN pe_sem)) (ha B H env σ tm x _ ok hx fun v H1 x1 ok1 r1 => ?_)
  cases r1 <;> exact ⟨_, rfl, q H1 x1 ok1⟩
theorem st_notN {j pos'} (ha : SB X a ma) : ST X (.Compare a [.IsNot] [.Constant .none j pos'] pos) (mTb (mUn gNotN ma)) := fun B H env σ tm d Q ok hm q => by
  obtain ⟨z, hz, hd⟩ := bind_ok hm
  obtain ⟨x, hx, hg⟩ := bind_ok hz
  cases hg
  cases hd
  refine wT_of (pt_cmp (pc_notN pe_sem)) (ha B H env σ tm x _ ok hx fun v H1 x1 ok1 r1 => ?_)
  cases r1 <;> exact ⟨_, rfl, q H1 x1 ok1⟩

/-! ### truth -/
def gTru : D → Res Bool
  | .non => .ok false
  | .bl b => .ok b
  | .int i => .ok (i != 0)
  | .str z => if z.length ≤ sizeLine then .ok ((z.length : Int) != 0) else .bad
  | .lst xs => .ok (!xs.isEmpty)
  | .tup xs => .ok (!xs.isEmpty)
  | _ => .bad
theorem empty_len {α β : Type} {xs : List α} {ys : List β} (h : xs.length = ys.length) : (!xs.isEmpty) = !ys.isEmpty := by
  cases xs <;> cases ys <;> simp_all
theorem st_tru (ha : SB X a ma) (he : ∀ whole, isTrue a X.env whole = (do let v ← whole; standAt a.pos; holding [v] (truthy v)) := by intro _; rfl) : ST X a (fun env => ma env >>= gTru) := fun B H env σ tm d Q ok hm q => by
  obtain ⟨x, hx, hg⟩ := bind_ok hm
  refine wT_of (pt_truth pe_sem he) (ha B H env σ tm x _ ok hx fun v H1 x1 ok1 r1 => ?_)
  cases r1 with
  | non => cases hg; exact ⟨_, rfl, q H1 x1 ok1⟩
  | bl => cases hg; exact ⟨_, rfl, q H1 x1 ok1⟩
  | int => cases hg; exact ⟨_, rfl, q H1 x1 ok1⟩
  | str z =>
    unfold gTru at hg
    split at hg <;> first | cases hg | skip
    all_goals first | (rename_i e; cases e) | skip
    all_goals first | (split at hg; (rename_i hl; cases hg; exact ⟨_, ⟨hl, rfl⟩, q H1 x1 ok1⟩); cases hg) | skip
  | lst h r =>
    cases hg
    exact ⟨_, .inl ⟨_, .inl (view_rd h), (empty_len r.length).symm⟩, q H1 x1 ok1⟩
  | tup h r =>
    cases hg
    exact ⟨_, .inr (.inl ⟨_, .inl (view_rd h), (empty_len r.length).symm⟩), q H1 x1 ok1⟩
  | dk => cases hg
  | dt => cases hg
  | ob => cases hg
  | exn0 => cases hg
  | exn => cases hg

/-! ### subscripts -/
def gIx : D → D → Res D
  | .lst xs, .int i => match atI xs i with | some d => .ok d | none => .bad
  | .tup xs, .int i => match atI xs i with | some d => .ok d | none => .bad
  | .str z, .int i => if z.length ≤ sizeLine then (match atI z.cps.toList i with | some c => .ok (.str ⟨#[c]⟩) | none => .bad) else .bad
  | _, _ => .bad
theorem atI_rp {G : Hp} {vs : List V} {ds : List D} {i : Int} {d : D} (r : RpAll G vs ds) (h : atI ds i = some d) : ∃ v, atI vs i = some v ∧ Rp G v d := by
  unfold atI at h ⊢
  rw [r.length]
  cases e : ixN ds.length i with
  | none => rw [e] at h; cases h
  | some j =>
    rw [e] at h
    exact r.get (show ds[j]? = some d from h)
theorem sb_ix (ha : SB X a ma) (hb : SB X b mb) (hs : PlainIx b) : SB X (.Subscript a b pos) (mOp gIx ma mb) := fun B H env σ tm d Q ok hm q => by
  obtain ⟨x, y, hx, hy, hg⟩ := two hm
  refine wE_of (pe_ix ix_seq pe_sem pe_sem hs) (sb2 ha hb ok hx hy fun v u H' x' ok' r1 r2 => ?_)
  unfold gIx at hg
  split at hg
  · cases r1 with
    | lst h r =>
      cases r2
      split at hg
      · rename_i d' he
        cases hg
        obtain ⟨z, hz, rz⟩ := atI_rp r he
        exact .inl ⟨_, _, _, _, rfl, rfl, .inl (view_rd h), hz, q z H' x' ok' rz⟩
      · cases hg
  · cases r1 with
    | tup h r =>
      cases r2
      split at hg
      · rename_i d' he
        cases hg
        obtain ⟨z, hz, rz⟩ := atI_rp r he
        exact .inr (.inl ⟨_, _, _, _, rfl, rfl, .inl (view_rd h), hz, q z H' x' ok' rz⟩)
      · cases hg
  · cases r1
    cases r2
    split at hg
    · rename_i hl
      split at hg
      · rename_i c he
        cases hg
        exact .inr (.inr ⟨_, _, c, rfl, rfl, hl, he, q _ H' x' ok' (.str _)⟩)
      · cases hg
    · cases hg
  · cases hg
theorem lev_get {vs : List V} {ds : List D} {k i : Nat} {v : V} {d : D} (h1 : vs[i]? = some v) (h2 : ds[i]? = some d) : ∃ l, (lev k vs ds).Perm ((v, k, d) :: l) := by
  have : (v, k, d) ∈ lev k vs ds := by
    unfold lev
    rw [List.mem_iff_getElem?]
    exact ⟨i, by rw [List.getElem?_zipWith, h1, h2]⟩
  obtain ⟨l1, l2, e⟩ := List.append_of_mem this
  exact ⟨l1 ++ l2, by rw [e]; exact List.perm_middle⟩
theorem atI_some {α : Type} {xs : List α} {i : Int} {x : α} (h : atI xs i = some x) : ∃ j, ixN xs.length i = some j ∧ xs[j]? = some x := by
  unfold atI at h
  cases e : ixN xs.length i with
  | none => rw [e] at h; cases h
  | some j => rw [e] at h; exact ⟨j, rfl, h⟩
/-- a shared thing's item is shared -/
theorem se_ix (ha : SE X 0 [] a ma) (hb : SB X b mb) (hs : PlainIx b) : SE X 0 [] (.Subscript a b pos) (mOp gIx ma mb) := fun B H env σ tm d Q ok hm q => by
  obtain ⟨x, y, hx, hy, hg⟩ := two hm
  refine wE_of (pe_ix ix_seq pe_sem pe_sem hs) (ha B H env σ tm x _ ok hx fun v H1 x1 ok1 => hb B H1 env σ _ y _ ok1 hy fun u H2 x2 ok2 r2 => ?_)
  have fin : ∀ {ds : List D} {i : Int}, (x = .lst ds ∨ x = .tup ds) → y = .int i → atI ds i = some d → (rIx X.K) v u H2 Q := fun {ds i} hxx hyy he => by
    subst hyy
    cases r2
    obtain ⟨p, o, vs, ev, hp, hl, f1, f2, _, _, ra, ok3⟩ := ok2.items (ds := ds) (hxx.imp id .inl)
    obtain ⟨j, hj, hd⟩ := atI_some he
    obtain ⟨z, hz, rz⟩ := ra.get hd
    have hz' : atI vs i = some z := by
      unfold atI
      rw [hl, hj]
      exact hz
    obtain ⟨l, hp'⟩ := lev_get (k := 0) hz hd
    have ok4 : EnvOk B H2 env σ ((z, 0, d) :: tm) := by
      refine EnvOk.less (l := l ++ [(v, 0, x)]) (ok3.perm ((hp'.append_right _).trans ?_))
      have e : (l ++ [(v, 0, x)]) ++ (z, 0, d) :: tm = l ++ (v, 0, x) :: (z, 0, d) :: tm := by simp
      rw [e]
      have e2 : (z, 0, d) :: l ++ (v, 0, x) :: tm = (z, 0, d) :: ((l ++ [(v, 0, x)]) ++ tm) := by simp
      rw [e2]
      refine List.perm_middle.symm.trans ?_
      rw [e]
    have ext := x1.trans x2
    subst ev
    rcases hxx with e | e
    · have := f1 e
      subst this
      exact .inl ⟨_, _, _, _, rfl, rfl, .inl (view_rd hp), hz', q z H2 ext ok4⟩
    · have := f2 e
      subst this
      exact .inr (.inl ⟨_, _, _, _, rfl, rfl, .inl (view_rd hp), hz', q z H2 ext ok4⟩)
  unfold gIx at hg
  split at hg
  · split at hg
    · rename_i he; cases hg; exact fin (.inl rfl) rfl he
    · cases hg
  · split at hg
    · rename_i he; cases hg; exact fin (.inr rfl) rfl he
    · cases hg
  · split at hg
    · rename_i hl
      split at hg
      · rename_i c he
        cases hg
        have r1 := ok2.rp
        cases r1
        cases r2
        exact .inr (.inr ⟨_, _, c, rfl, rfl, hl, he, q _ H2 (x1.trans x2) (ok2.tail.imm (.str _) rfl)⟩)
      · cases hg
    · cases hg
  · cases hg
end
end Mir

namespace Mir
open PySem PySem.Spec L2

def wG (X : Cx) (tg : Expr) : TG := fun v σ H Q => ∀ (pins : List (Addr × Obj)) (s : Shared) (u : Value), Inv X pins σ H s → RelV v u → wpAny (model X.prog X.w) X.A (assign tg X.env u) (fun _ s' => ∃ σ' H', Inv X pins σ' H' s' ∧ Q σ' H') X.xe s
theorem pg_sem {X : Cx} {tg : Expr} : PG X tg (wG X tg) := ⟨fun pins s σ H v u Q I r h => h pins s u I r⟩
theorem wG_of {X : Cx} {tg : Expr} {t : TG} (h : PG X tg t) {v : V} {σ : St} {H : Hp} {Q : St → Hp → Prop} (ht : t v σ H Q) : wG X tg v σ H Q := fun pins s u I r => h.run pins s σ H v u Q I r ht
def wGs (X : Cx) (ts : List Expr) : TGs := fun vs σ H Q => ∀ (pins : List (Addr × Obj)) (s : Shared) (us : List Value), Inv X pins σ H s → Vals vs us → wpAny (model X.prog X.w) X.A (assignInOrder ((assignEach ts X.env).map (·.2)) us) (fun _ s' => ∃ σ' H', Inv X pins σ' H' s' ∧ Q σ' H') X.xe s
theorem pgs_sem {X : Cx} {tg : List Expr} : PGs X tg (wGs X tg) := ⟨fun pins s σ H v u Q I r h => h pins s u I r⟩
theorem wGs_of {X : Cx} {tg : List Expr} {t : TGs} (h : PGs X tg t) {v : List V} {σ : St} {H : Hp} {Q : St → Hp → Prop} (ht : t v σ H Q) : wGs X tg v σ H Q := fun pins s u I r => h.run pins s σ H v u Q I r ht
def wI (X : Cx) (tg it : Expr) : TI := fun σ H R => ∀ (pins : List (Addr × Obj)) (s : Shared), Inv X pins σ H s → wpAny (model X.prog X.w) X.A (eval it X.env) (fun v s1 => wpAny (model X.prog X.w) X.A (pyIter v) (PIE X pins σ tg R) X.xe s1) X.xe s
theorem pi_sem {X : Cx} {tg it : Expr} : PI X tg it (wI X tg it) := ⟨fun pins s σ H R I h => h pins s I⟩
theorem wI_of {X : Cx} {tg it : Expr} {t : TI} (h : PI X tg it t) {σ : St} {H : Hp} {R : It → Hp → Prop} (ht : t σ H R) : wI X tg it σ H R := fun pins s I => h.run pins s σ H R I ht

/-- a target: what stands in the hand goes into the slots -/
def Off (is : List Nat) (σ σ' : St) : Prop := σ'.length = σ.length ∧ ∀ j, j ∉ is → σ'[j]? = σ[j]?
def STg (X : Cx) (tg : Expr) (is : List Nat) (m : Nat → D → Env → Res Env) : Prop := ∀ (k : Nat) (B : Bs) (H : Hp) (env : Env) (σ : St) (tm : List Hold) (d : D) (v : V) (env' : Env) (Q : St → Hp → Prop), EnvOk B H env σ ((v, k, d) :: tm) → m k d env = .ok env' →
  (∀ σ', Off is σ σ' → EnvOk B H env' σ' tm → Q σ' H) → wG X tg v σ H Q
def STgs (X : Cx) (ts : List Expr) (is : List Nat) (m : Nat → List D → Env → Res Env) : Prop := ∀ (k : Nat) (B : Bs) (H : Hp) (env : Env) (σ : St) (tm : List Hold) (ds : List D) (vs : List V) (env' : Env) (Q : St → Hp → Prop), vs.length = ds.length → EnvOk B H env σ (lev k vs ds ++ tm) → m k ds env = .ok env' →
  (∀ σ', Off is σ σ' → EnvOk B H env' σ' tm → Q σ' H) → wGs X ts vs σ H Q
def tName (i : Nat) : Nat → D → Env → Res Env := fun k d env => if i < env.length then .ok (env.set i (some (k, d))) else .bad
theorem tg_name {X : Cx} {tg : Expr} {i : Nat} (h : PG X tg (gName i)) : STg X tg [i] (tName i) := fun k B H env σ tm d v env' Q ok hm q => by
  unfold tName at hm
  split at hm
  · rename_i hi
    cases hm
    exact wG_of h (q _ ⟨by simp, fun j hj => by rw [List.getElem?_set_ne (fun z => hj (by simp [z]))]⟩ (ok.store hi))
  · cases hm
def tNil : Nat → List D → Env → Res Env := fun _ ds env => match ds with
  | [] => .ok env
  | _ => .bad
def tCons (t : Nat → D → Env → Res Env) (u : Nat → List D → Env → Res Env) : Nat → List D → Env → Res Env := fun k ds env => match ds with
  | d :: r => t k d env >>= fun e => u k r e
  | _ => .bad
section
variable {X : Cx} {e a b tg it : Expr} {m ma mb : Env → Res D} {k : Nat} {cs : List Nat} {pos : Pos}
theorem tgs_nil : STgs X [] [] tNil := fun k B H env σ tm ds vs env' Q hl ok hm q => by
  unfold tNil at hm
  split at hm
  · cases hm
    have : vs = [] := List.length_eq_zero_iff.mp hl
    subst this
    exact wGs_of pgs_nil ⟨rfl, q σ ⟨rfl, fun _ _ => rfl⟩ ok⟩
  · cases hm
theorem tgs_cons {es : List Expr} {t : Nat → D → Env → Res Env} {u : Nat → List D → Env → Res Env} {is js : List Nat} (h1 : STg X e is t) (h2 : STgs X es js u)
    (hs : (assignEach (e :: es) X.env).map (·.2) = assign e X.env :: (assignEach es X.env).map (·.2) := by rfl) : STgs X (e :: es) (is ++ js) (tCons t u) := fun k B H env σ tm ds vs env' Q hl ok hm q => by
  unfold tCons at hm
  split at hm
  · rename_i d r
    obtain ⟨e1, h3, h4⟩ := bind_ok hm
    cases vs with
    | nil => simp at hl
    | cons v vr =>
      have ok' : EnvOk B H env σ ((v, k, d) :: (lev k vr r ++ tm)) := ok
      exact wGs_of (pgs_cons pg_sem pgs_sem hs) ⟨v, vr, rfl, h1 k B H env σ _ d v e1 _ ok' h3 fun σ' o1 ok2 => h2 k B H e1 σ' tm r vr env' Q (by simpa using hl) ok2 h4 fun σ2 o2 ok3 => q σ2 ⟨o2.1.trans o1.1, fun j hj => (o2.2 j fun z => hj (List.mem_append_right _ z)).trans (o1.2 j fun z => hj (List.mem_append_left _ z))⟩ ok3⟩
  · cases hm
/-- a tuple, taken apart -/
def tTupT (n : Nat) (u : Nat → List D → Env → Res Env) : Nat → D → Env → Res Env := fun k d env => match d with
  | .tup ds => if ds.length = n then u (k - 1) ds env else .bad
  | _ => .bad
theorem EnvOk.opTup {B : Bs} {H : Hp} {env : Env} {σ : St} {tm : List Hold} {v : V} {ds : List D} (h : EnvOk B H env σ ((v, k, .tup ds) :: tm)) : ∃ p vs, v = .ref p ∧ view H p = some (.tup vs) ∧ vs.length = ds.length ∧ EnvOk B H env σ (lev (k - 1) vs ds ++ tm) := by
  have h2 := h.len
  have h3 := h.has
  obtain ⟨G, f, g, hg, hf, hr, nd, hq⟩ := EnvOk.apart (l := [(v, k, D.tup ds)]) h
  cases hf with
  | @cons _ _ _ _ f1 g1 h1 hn =>
    cases hn
    rw [List.append_nil] at nd hq
    cases h1 with
    | sh hz r =>
      cases r with
      | @tup a0 vs0 _ e ra =>
        refine ⟨_, _, rfl, hg.gs _ _ e, ra.length, ?_⟩
        have hv : HoldAll G H (lev (k - 1) vs0 ds) [] := by
          have hz' : k - 1 = 0 ∨ immAll ds = true := hz.imp (fun z => by omega) fun z => by simpa [D.imm] using z
          clear hz hq nd e h
          induction ra using RpAll.rec (motive_1 := fun _ _ _ => True) with
          | nil => exact .nil
          | @cons v' vs' d' ds' hr' _ _ ih =>
            have a1 : k - 1 = 0 ∨ d'.imm = true := hz'.imp id fun z => by rw [immAll, Bool.and_eq_true] at z; exact z.1
            have a2 : k - 1 = 0 ∨ immAll ds' = true := hz'.imp id fun z => by rw [immAll, Bool.and_eq_true] at z; exact z.2
            exact HoldAll.cons (f := []) (g := []) (.sh a1 hr') (ih a2)
          | _ => trivial
        exact EnvOk.join h2 h3 hg hv hr nd hq
    | @tup k' a vs _ _ e ra =>
      refine ⟨_, vs, rfl, by unfold view; rw [e]; rfl, ?_, ?_⟩
      · have len : ∀ {k : Nat} {f : List Addr} {vs : List V} {ds : List D}, OdAll G H k f vs ds → vs.length = ds.length := fun {k f vs ds} r => by
          induction vs generalizing ds f with
          | nil => cases r; rfl
          | cons v vs ih => cases r with | cons _ r => simp [ih r]
        exact len ra
      · have hv : HoldAll G H (lev k' vs ds ++ []) (f1 ++ []) := HoldAll.ofAll ra .nil
        rw [List.append_nil, List.append_nil] at hv
        exact EnvOk.join h2 h3 hg hv hr nd hq
theorem tg_tup {es : List Expr} {j : Nat} {n : Nat} {u : Nat → List D → Env → Res Env} {is : List Nat} (hc : X.calm = true) (h : STgs X es is u) (hn : (assignEach es X.env).length = n := by rfl) (hst : (assignEach es X.env).findIdx? (·.1) = none := by rfl) : STg X (.Tuple es j pos) is (tTupT n u) := fun k B H env σ tm d v env' Q ok hm q => by
  unfold tTupT at hm
  split at hm
  · rename_i ds
    split at hm
    · rename_i hl
      obtain ⟨p, vs, rfl, hp, hvl, ok2⟩ := ok.opTup
      exact wG_of (pg_tup hc pgs_sem hn hst) ⟨p, vs, rfl, .inl (view_rd hp), hvl.trans hl, h (k - 1) B H env σ tm ds vs env' Q hvl ok2 hm q⟩
    · cases hm
  · cases hm

/-! ### statements -/
def Post (kr : Nat) (B : Bs) (tm : List Hold) (D : Ends) : Ctl → Prop
  | .nx e => ∀ σ' H', EnvOk B H' e σ' tm → D.nx σ' H'
  | .bk e => ∀ σ' H', EnvOk B H' e σ' tm → D.bk σ' H'
  | .ct e => ∀ σ' H', EnvOk B H' e σ' tm → D.ct σ' H'
  | .rt d => ∀ v H', EnvOk B H' [] [] ((v, kr, d) :: tm) → D.rt v H'
def S1 (X : Cx) (kr : Nat) (st : Stmt) (m : Env → Res Ctl) : Prop := ∀ (B : Bs) (H : Hp) (env : Env) (σ : St) (tm : List Hold) (D : Ends) (r : Ctl), EnvOk B H env σ tm → m env = .ok r → Post kr B tm D r → wS X st D σ H
def SS (X : Cx) (kr : Nat) (ss : List Stmt) (m : Env → Res Ctl) : Prop := ∀ (B : Bs) (H : Hp) (env : Env) (σ : St) (tm : List Hold) (D : Ends) (r : Ctl), EnvOk B H env σ tm → m env = .ok r → Post kr B tm D r → wB X ss D σ H
variable {kr : Nat} {st : Stmt} {ss : List Stmt} {m1 m2 : Env → Res Ctl}
def mSkip : Env → Res Ctl := fun env => .ok (.nx env)
def mSeq (m n : Env → Res Ctl) : Env → Res Ctl := fun env => m env >>= fun c => match c with
  | .nx e => n e
  | c => .ok c
theorem ss_nil : SS X kr [] mSkip := fun B H env σ tm D r ok hm p => by
  cases hm
  exact wB_of pss_nil (p σ H ok)
theorem ss_cons (h1 : S1 X kr st m1) (h2 : SS X kr ss m2) : SS X kr (st :: ss) (mSeq m1 m2) := fun B H env σ tm D r ok hm p => by
  obtain ⟨c, hc, hd⟩ := bind_ok hm
  refine wB_of (pss_cons ps_sem pss_sem) (h1 B H env σ tm { D with nx := wB X ss D } c ok hc ?_)
  cases c with
  | nx e => exact fun σ' H' ok' => h2 B H' e σ' tm D r ok' hd p
  | bk e => cases hd; exact p
  | ct e => cases hd; exact p
  | rt d => cases hd; exact p
theorem ss_one (h1 : S1 X kr st m1) : SS X kr [st] m1 := fun B H env σ tm D r ok hm p => wB_of (pss_one ps_sem) (h1 B H env σ tm D r ok hm p)
/-- something is forgotten ahead of a block -/
def mForget (is : List Nat) (m : Env → Res Ctl) : Env → Res Ctl := fun env => m (clear env is)
theorem ss_forget {is : List Nat} (h : SS X kr ss m1) : SS X kr ss (mForget is m1) := fun B H env σ tm D r ok hm p => h B H _ σ tm D r (ok.clear is) hm p
/-- a slot is shared from here on -/
def fz (i : Nat) (env : Env) : Env := match env[i]? with
  | some (some (_, d)) => env.set i (some (0, d))
  | _ => env
theorem EnvOk.fz {B : Bs} {H : Hp} {env : Env} {σ : St} {tm : List Hold} (h : EnvOk B H env σ tm) (i : Nat) : EnvOk B H (fz i env) σ tm := by
  unfold Mir.fz
  split
  · rename_i k d e
    obtain ⟨v, hv⟩ := h.has i _ e
    have hi : i < env.length := (List.getElem?_eq_some_iff.mp e).1
    have h1 := ((h.move e hv).freeze).store (i := i) (by simpa using hi)
    rw [List.set_set, set_self hv] at h1
    exact h1
  · exact h
def mFz (i : Nat) (m : Env → Res Ctl) : Env → Res Ctl := fun env => m (fz i env)
theorem ss_fz {i : Nat} (h : SS X kr ss m1) : SS X kr ss (mFz i m1) := fun B H env σ tm D r ok hm p => h B H _ σ tm D r (ok.fz i) hm p
theorem s1_fz {i : Nat} (h : S1 X kr st m1) : S1 X kr st (mFz i m1) := fun B H env σ tm D r ok hm p => h B H _ σ tm D r (ok.fz i) hm p

def mSet (i k : Nat) (cs : List Nat) (m : Env → Res D) : Env → Res Ctl := fun env => m env >>= fun d => tName i k d (clear env cs) >>= fun e => .ok (.nx e)
theorem s_set {i : Nat} {x : Str} {pos' : Pos} (hN : X.N.Nodup) (hi : X.N[i]? = some x) (hx : Loc X.env.scope x) (he : SE X k cs e m) (hs : swapsWith e (some (.Name x pos')) pos.line X.env = pure false := by rfl)
    (hf : X.fn x = true ∨ X.env.scope.names.lookup x = some .local := by first | exact .inl rfl | exact .inr rfl | assumption) : S1 X kr (.Assign [.Name x pos'] e pos) (mSet i k cs m) := fun B H env σ tm D r ok hm p => by
  obtain ⟨d, hd, h2⟩ := bind_ok hm
  obtain ⟨e', h3, h4⟩ := bind_ok h2
  cases h4
  unfold tName at h3
  split at h3
  · rename_i hl
    cases h3
    exact wS_of (ps_set hN hi hx pe_sem hs hf) (he B H env σ tm d _ ok hd fun v H' x' ok' => p _ _ (ok'.store hl))
  · cases h3
/-- any target -/
def mAsg (t : Nat → D → Env → Res Env) (k : Nat) (cs : List Nat) (m : Env → Res D) : Env → Res Ctl := fun env => m env >>= fun d => t k d (clear env cs) >>= fun e => .ok (.nx e)
theorem s_asg {t : Nat → D → Env → Res Env} {is : List Nat} (hg : STg X tg is t) (he : SE X k cs e m) (hs : swapsWithSole [tg] e pos.line X.env = pure false := by rfl) (hw : swappedStores [tg] e X.env = pure none := by rfl)
    (h1 : (assignEach [tg] X.env).map (·.2) = [assign tg X.env] := by rfl) : S1 X kr (.Assign [tg] e pos) (mAsg t k cs m) := fun B H env σ tm D r ok hm p => by
  obtain ⟨d, hd, h2⟩ := bind_ok hm
  obtain ⟨e', h3, h4⟩ := bind_ok h2
  cases h4
  exact wS_of (ps_asg pe_sem pg_sem hs hw h1) (he B H env σ tm d _ ok hd fun v H' x' ok' => hg k B H' _ σ tm d v e' _ ok' h3 fun σ2 _ ok2 => p σ2 H' ok2)
theorem EnvOk.noSlots {B : Bs} {H : Hp} {env : Env} {σ : St} {tm : List Hold} (h : EnvOk B H env σ tm) : EnvOk B H [] [] tm := by
  obtain ⟨⟨G, fp, g, hs, nd, hp⟩, h2, h3⟩ := h
  have h' : EnvOk B H [] [] (slots env σ ++ tm) := ⟨⟨G, fp, g, hs, nd, hp⟩, rfl, fun i kd e => by simp at e⟩
  exact h'.less
def mRet (m : Env → Res D) : Env → Res Ctl := fun env => m env >>= fun d => .ok (.rt d)
theorem s_ret (he : SE X kr cs e m) : S1 X kr (.Return (some e) pos) (mRet m) := fun B H env σ tm D r ok hm p => by
  obtain ⟨d, hd, h2⟩ := bind_ok hm
  cases h2
  exact wS_of (ps_ret pe_sem) (he B H env σ tm d _ ok hd fun v H' x' ok' => p v H' ok'.noSlots)
theorem s_retN : S1 X kr (.Return none pos) (fun _ => .ok (.rt .non)) := fun B H env σ tm D r ok hm p => by
  cases hm
  exact wS_of ps_retN (p .non H (ok.noSlots.imm .non rfl))
theorem s_if {c : Expr} {as bs : List Stmt} {t : Env → Res Bool} (hc : ST X c t) (ha : SS X kr as m1) (hb : SS X kr bs m2) : S1 X kr (.If c as bs pos) (mIf t m1 m2) := fun B H env σ tm D r ok hm p => by
  obtain ⟨b, hb', h2⟩ := bind_ok hm
  refine wS_of (ps_if pt_sem pss_sem pss_sem) (hc B H env σ tm b _ ok hb' fun H' x' ok' => ?_)
  cases b with
  | true => rw [if_pos rfl] at h2 ⊢; exact ha B H' env σ tm D r ok' h2 p
  | false => exact hb B H' env σ tm D r ok' h2 p
theorem s_pass : S1 X kr (.Pass pos) mSkip := fun B H env σ tm D r ok hm p => by
  cases hm
  exact wS_of ps_pass (p σ H ok)
theorem s_break : S1 X kr (.Break pos) (fun env => .ok (.bk env)) := fun B H env σ tm D r ok hm p => by
  cases hm
  exact wS_of ps_break (p σ H ok)
theorem s_cont : S1 X kr (.Continue pos) (fun env => .ok (.ct env)) := fun B H env σ tm D r ok hm p => by
  cases hm
  exact wS_of ps_continue (p σ H ok)
/-- what the proof never comes to -/
def mNo {α : Type} : Env → Res α := fun _ => .bad
theorem s_no : S1 X kr st mNo := fun B H env σ tm D r ok hm p => by cases hm
theorem ss_no : SS X kr ss mNo := fun B H env σ tm D r ok hm p => by cases hm

/-! ### for -/
/-- what an iterator gives, while what it leans on is held -/
def Yields (B : Bs) (J : It) (ex : List Hold) (ds : List D) : Prop := ∀ (i : Nat) (H : Hp) (env : Env) (σ : St) (tm : List Hold), EnvOk B H env σ (ex ++ tm) → (i = ds.length → J.stop i H) ∧ (i < ds.length → J.go i H ∧
  ∀ x H', J.yld i H x H' → ∃ d, ds[i]? = some d ∧ Ext H H' ∧ EnvOk B H' env σ ((x, 0, d) :: (ex ++ tm)))
def SI (X : Cx) (tg it : Expr) (m : Env → Res (List D)) : Prop := ∀ (B : Bs) (H : Hp) (env : Env) (σ : St) (tm : List Hold) (ds : List D) (R : It → Hp → Prop), EnvOk B H env σ tm → m env = .ok ds →
  (∀ J H' ex, Ext H H' → EnvOk B H' env σ (ex ++ tm) → Yields B J ex ds → R J H') → wI X tg it σ H R
def loop (t : Nat → D → Env → Res Env) (body : Env → Res Ctl) (fg : List Nat) : List D → Env → Res Ctl
  | [], env => .ok (.nx env)
  | x :: xs, env => t 0 x env >>= fun e1 => body e1 >>= fun c => match c with
    | .nx e => loop t body fg xs (clear e fg)
    | .ct e => loop t body fg xs (clear e fg)
    | .bk e => .ok (.nx (clear e fg))
    | .rt d => .ok (.rt d)
def mFor (m : Env → Res (List D)) (t : Nat → D → Env → Res Env) (body : Env → Res Ctl) (fg : List Nat) : Env → Res Ctl := fun env => m env >>= fun ds => loop t body fg ds env
theorem s_for {body : List Stmt} {mi : Env → Res (List D)} {t : Nat → D → Env → Res Env} {fg : List Nat} (hp : PassesOwn (model X.prog X.w) X.A X.env X.xe) (hc : X.calm = true) (hi : SI X tg it mi) {is : List Nat} (hg : STg X tg is t) (hb : SS X kr body m1)
    (hs : ∀ x, foldedSetIterable it X.env x = pure x := by intro _; rfl) : S1 X kr (.For tg it body [] pos) (mFor mi t m1 fg) := fun B H env σ tm D r ok hm p => by
  obtain ⟨ds, hd, hl⟩ := bind_ok hm
  refine wS_of (ps_for hp hc pi_sem pg_sem pss_sem hs) (hi B H env σ tm ds _ ok hd fun J H1 ex x1 ok1 Y => ?_)
  refine ⟨fun i m σ H => m = ds.length - i ∧ i ≤ ds.length ∧ ∃ env, EnvOk B H env σ (ex ++ tm) ∧ loop t m1 fg (ds.drop i) env = .ok r, ⟨ds.length, by simp, Nat.zero_le _, env, ok1, by simpa using hl⟩, ?_⟩
  rintro i n σ2 H2 ⟨rfl, hi2, env2, ok2, hr⟩
  obtain ⟨y1, y2⟩ := Y i H2 env2 σ2 tm ok2
  by_cases hlt : i < ds.length
  · obtain ⟨go, yl⟩ := y2 hlt
    refine .inr ⟨go, fun σ' H' => i + 1 ≤ ds.length ∧ ∃ env, EnvOk B H' env σ' (ex ++ tm) ∧ loop t m1 fg (ds.drop (i + 1)) env = .ok r, fun σ' H' ⟨h1, h2⟩ => ⟨ds.length - (i + 1), by omega, rfl, h1, h2⟩, fun x H3 hy => ?_⟩
    obtain ⟨d, hd2, x3, ok3⟩ := yl x H3 hy
    have hdr : ds.drop i = d :: ds.drop (i + 1) := by
      obtain ⟨h1, h2⟩ := List.getElem?_eq_some_iff.mp hd2
      rw [← h2]
      exact List.drop_eq_getElem_cons h1
    rw [hdr] at hr
    obtain ⟨e1, h3, h4⟩ := bind_ok hr
    obtain ⟨c, h5, h6⟩ := bind_ok h4
    refine hg 0 B H3 env2 σ2 (ex ++ tm) d x e1 _ ok3 h3 fun σ4 _ ok4 => ?_
    refine hb B H3 e1 σ4 (ex ++ tm) _ c ok4 h5 ?_
    cases c with
    | nx e => exact fun σ5 H5 ok5 => ⟨hlt, _, ok5.clear fg, h6⟩
    | ct e => exact fun σ5 H5 ok5 => ⟨hlt, _, ok5.clear fg, h6⟩
    | bk e =>
      cases h6
      exact fun σ5 H5 ok5 => p σ5 H5 ((ok5.clear fg).less)
    | rt d' =>
      cases h6
      refine fun v H5 ok5 => p v H5 (EnvOk.less (l := ex) (ok5.perm ?_))
      exact List.perm_middle.symm
  · have ei : i = ds.length := by omega
    refine .inl ⟨y1 ei, ?_⟩
    rw [ei, List.drop_length] at hr
    cases hr
    exact p σ2 H2 ok2.less

/-! ### iterators -/
def items : D → Res (List D)
  | .lst xs => .ok xs
  | .tup xs => .ok xs
  | _ => .bad
def itemsL : D → Res (List D)
  | .lst xs => .ok xs
  | _ => .bad
def itemsT : D → Res (List D)
  | .tup xs => .ok xs
  | _ => .bad
theorem EnvOk.item {B : Bs} {H : Hp} {env : Env} {σ : St} {tm : List Hold} {v x : V} {d y : D} {ds : List D} {vs : List V} {p : Addr} {i : Nat} (h : EnvOk B H env σ ((v, 0, d) :: tm)) (hd : d = .lst ds ∨ d = .tup ds) (ev : v = .ref p) (hp : view H p = some (.lst vs) ∨ view H p = some (.tup vs)) (hx : vs[i]? = some x) (hy : ds[i]? = some y) :
    EnvOk B H env σ ((x, 0, y) :: (v, 0, d) :: tm) := by
  obtain ⟨q, o, ws, ev', hq, hl, f1, f2, _, _, ra, ok⟩ := h.items (ds := ds) (hd.imp id .inl)
  rw [ev] at ev'
  cases ev'
  have ew : ws = vs := by
    rcases hd with rfl | rfl
    · rw [f1 rfl] at hq
      rcases hp with hp | hp <;> rw [hq] at hp <;> cases hp
      rfl
    · rw [f2 rfl] at hq
      rcases hp with hp | hp <;> rw [hq] at hp <;> cases hp
      rfl
  subst ew
  obtain ⟨l, hp'⟩ := lev_get (k := 0) hx hy
  refine EnvOk.less (l := l) (ok.perm ((hp'.append_right _).trans ?_))
  exact (List.perm_middle (l₁ := l) (a := (x, 0, y)) (l₂ := (v, 0, d) :: tm)).symm
theorem si_list (he : SE X 0 [] it m) : SI X tg it (fun env => m env >>= itemsL) := fun B H env σ tm ds R ok hm q => by
  obtain ⟨d, hd, h2⟩ := bind_ok hm
  unfold itemsL at h2
  split at h2
  · rename_i xs
    cases h2
    refine wI_of (pi_list pe_sem) (he B H env σ tm _ _ ok hd fun v H1 x1 ok1 => ?_)
    have r := ok1.rp
    cases r with
    | @lst a vs _ hv ra =>
      refine ⟨a, rfl, ⟨_, .inl (view_rd hv)⟩, q _ H1 [(.ref a, 0, .lst ds)] x1 ok1 fun i H2 env2 σ2 tm2 ok2 => ?_⟩
      have r2 := EnvOk.rp ok2
      cases r2 with
      | @lst _ ws _ hw rb =>
        have hs : SqL X.K H2 a ws := .inl (view_rd hw)
        refine ⟨fun ei => ⟨ws, hs, by have := rb.length; omega⟩, fun hi => ?_⟩
        obtain ⟨x, hx, rx⟩ := rb.get (List.getElem?_eq_getElem hi)
        refine ⟨⟨ws, x, hs, hx⟩, fun y H3 hy => ?_⟩
        obtain ⟨rfl, hy⟩ := hy
        have ey : y = x := Option.some.inj ((hy ws hs).symm.trans hx)
        subst ey
        exact ⟨_, List.getElem?_eq_getElem hi, Ext.refl _, EnvOk.item ok2 (.inl rfl) rfl (.inl hw) hx (List.getElem?_eq_getElem hi)⟩
  · cases h2
theorem si_tup (he : SE X 0 [] it m) : SI X tg it (fun env => m env >>= itemsT) := fun B H env σ tm ds R ok hm q => by
  obtain ⟨d, hd, h2⟩ := bind_ok hm
  unfold itemsT at h2
  split at h2
  · rename_i xs
    cases h2
    refine wI_of (pi_tup pe_sem) (he B H env σ tm _ _ ok hd fun v H1 x1 ok1 => ?_)
    have r := ok1.rp
    cases r with
    | @tup a vs _ hv ra =>
      refine ⟨a, rfl, ⟨_, .inl (view_rd hv)⟩, q _ H1 [(.ref a, 0, .tup ds)] x1 ok1 fun i H2 env2 σ2 tm2 ok2 => ?_⟩
      have r2 := EnvOk.rp ok2
      cases r2 with
      | @tup _ ws _ hw rb =>
        have hs : SqT X.K H2 a ws := .inl (view_rd hw)
        refine ⟨fun ei => ⟨ws, hs, by have := rb.length; omega⟩, fun hi => ?_⟩
        obtain ⟨x, hx, rx⟩ := rb.get (List.getElem?_eq_getElem hi)
        refine ⟨⟨ws, x, hs, hx⟩, fun y H3 hy => ?_⟩
        obtain ⟨rfl, hy⟩ := hy
        have ey : y = x := Option.some.inj ((hy ws hs).symm.trans hx)
        subst ey
        exact ⟨_, List.getElem?_eq_getElem hi, Ext.refl _, EnvOk.item ok2 (.inr rfl) rfl (.inr hw) hx (List.getElem?_eq_getElem hi)⟩
  · cases h2
def intsD (lo : Int) (n : Nat) : List D := (List.range n).map fun i => .int (lo + (i : Nat))
def rangeOk (i : Int) : Bool := decide (-(2 ^ 62) ≤ i) && decide (i < 2 ^ 62)
def gRng1 : D → Res (List D)
  | .int j => if rangeOk j then .ok (intsD 0 j.toNat) else .bad
  | _ => .bad
def gRng2 : D → D → Res (List D)
  | .int i, .int j => if rangeOk i && rangeOk j then .ok (intsD i (j - i).toNat) else .bad
  | _, _ => .bad
theorem rangeOk_iff {i : Int} : rangeOk i = true ↔ -(2 ^ 62) ≤ i ∧ i < 2 ^ 62 := by
  unfold rangeOk
  rw [Bool.and_eq_true, decide_eq_true_eq, decide_eq_true_eq]
theorem yields_range {B : Bs} {lo : Int} {n : Nat} : Yields B (Itr lo n) [] (intsD lo n) := fun i H env σ tm ok => by
  have hl : (intsD lo n).length = n := by unfold intsD; simp
  rw [hl]
  refine ⟨fun e => Nat.le_of_eq e.symm, fun hi => ⟨hi, fun x H' hy => ?_⟩⟩
  obtain ⟨rfl, rfl⟩ := hy
  refine ⟨.int (lo + i), ?_, Ext.refl _, ok.imm (.int _) rfl⟩
  unfold intsD
  rw [List.getElem?_map, List.getElem?_range hi]
  rfl
theorem si_range1 {p : Pos} (hg : Gl X "range") (hm : X.mg "range" = none) (ha : SB X a ma) (hs : starEach [a] X.env = [(false, eval a X.env)] := by rfl) : SI X tg (.Call (.Name "range" p) [a] [] pos) (fun env => ma env >>= gRng1) := fun B H env σ tm ds R ok hm' q => by
  obtain ⟨d, hd, h2⟩ := bind_ok hm'
  unfold gRng1 at h2
  split at h2
  · split at h2
    · rename_i hr
      cases h2
      obtain ⟨r1, r2⟩ := rangeOk_iff.mp hr
      refine wI_of (pi_range1 hg hm (pa_cons pe_sem pa_nil (by rw [hs]; rfl)) hs) (ha B H env σ tm _ _ ok hd fun v H1 x1 ok1 rv => ?_)
      cases rv
      exact ⟨_, rfl, r1, r2, q _ H1 [] x1 ok1 yields_range⟩
    · cases h2
  · cases h2
theorem si_range2 {p : Pos} (hg : Gl X "range") (hm : X.mg "range" = none) (ha : SB X a ma) (hb : SB X b mb) (hs : starEach [a, b] X.env = [(false, eval a X.env), (false, eval b X.env)] := by rfl) (hs2 : starEach [b] X.env = [(false, eval b X.env)] := by rfl) :
    SI X tg (.Call (.Name "range" p) [a, b] [] pos) (fun env => ma env >>= fun x => mb env >>= fun y => gRng2 x y) := fun B H env σ tm ds R ok hm' q => by
  obtain ⟨d, hd, h2⟩ := bind_ok hm'
  obtain ⟨d2, hd2, h2⟩ := bind_ok h2
  unfold gRng2 at h2
  split at h2
  · split at h2
    · rename_i hr
      cases h2
      rw [Bool.and_eq_true] at hr
      obtain ⟨r1, r2⟩ := rangeOk_iff.mp hr.1
      obtain ⟨r3, r4⟩ := rangeOk_iff.mp hr.2
      refine wI_of (pi_range2 hg hm (pa_cons pe_sem (pa_cons pe_sem pa_nil (by rw [hs2]; rfl)) (by rw [hs, hs2])) hs hs2) (ha B H env σ tm _ _ ok hd fun v H1 x1 ok1 rv => hb B H1 env σ tm _ _ ok1 hd2 fun u H2 x2 ok2 ru => ?_)
      cases rv
      cases ru
      exact ⟨_, _, rfl, ⟨r1, r2, r3, r4⟩, q _ H2 [] (x1.trans x2) ok2 yields_range⟩
    · cases h2
  · cases h2
end
end Mir

namespace Mir
open PySem PySem.Spec L2

theorem slots_cong : ∀ {env : Env} {σ σ' : St}, σ'.length = σ.length → (∀ (j : Nat) kd, env[j]? = some (some kd) → σ'[j]? = σ[j]?) → slots env σ' = slots env σ
  | [], σ, σ', _, _ => by cases σ <;> cases σ' <;> rfl
  | x :: e, [], [], _, _ => rfl
  | x :: e, [], _ :: _, h, _ => by simp at h
  | x :: e, _ :: _, [], h, _ => by simp at h
  | none :: e, y :: s, y' :: s', hl, h => by
    have ih := slots_cong (env := e) (σ := s) (σ' := s') (by simpa using hl) (fun j kd hj => by simpa using h (j + 1) kd (by simpa using hj))
    cases y <;> cases y' <;> exact ih
  | some kd :: e, y :: s, y' :: s', hl, h => by
    have ih := slots_cong (env := e) (σ := s) (σ' := s') (by simpa using hl) (fun j kd hj => by simpa using h (j + 1) kd (by simpa using hj))
    have e0 : y' = y := by simpa using h 0 kd rfl
    subst e0
    obtain ⟨k, d⟩ := kd
    cases y' with
    | none => exact ih
    | some v => exact congrArg (List.cons _) ih
theorem EnvOk.cong {B : Bs} {H : Hp} {env : Env} {σ σ' : St} {tm : List Hold} (h : EnvOk B H env σ tm) (hl : σ'.length = σ.length) (hs : ∀ (j : Nat) kd, env[j]? = some (some kd) → σ'[j]? = σ[j]?) : EnvOk B H env σ' tm := by
  obtain ⟨⟨G, fp, g, hh, nd, hp⟩, h2, h3⟩ := h
  exact ⟨⟨G, fp, g, by rw [slots_cong hl hs]; exact hh, nd, hp⟩, h2.trans hl.symm, fun i kd e => by rw [hs i kd e]; exact h3 i kd e⟩
theorem wipe_len : ∀ (σ : St) (vs : List Nat), (wipe σ vs).length = σ.length
  | _, [] => rfl
  | σ, v :: vs => by unfold wipe; rw [List.length_set, wipe_len σ vs]
theorem wipe_get : ∀ (σ : St) (vs : List Nat) (j : Nat), (wipe σ vs)[j]? = if j ∈ vs then (σ[j]?).map (fun _ => none) else σ[j]?
  | σ, [], j => by simp [wipe]
  | σ, v :: vs, j => by
    unfold wipe
    rw [List.getElem?_set]
    by_cases e : v = j
    · subst e
      rw [if_pos rfl, if_pos List.mem_cons_self, wipe_len]
      by_cases h : v < σ.length
      · rw [if_pos h, List.getElem?_eq_getElem h]; rfl
      · rw [if_neg h, List.getElem?_eq_none (by omega)]; rfl
    · rw [if_neg e, wipe_get σ vs j]
      have : (j ∈ v :: vs) ↔ j ∈ vs := by simp [Ne.symm e]
      by_cases h : j ∈ vs
      · rw [if_pos h, if_pos (this.mpr h)]
      · rw [if_neg h, if_neg fun z => h (this.mp z)]
theorem clear_len : ∀ (env : Env) (is : List Nat), (clear env is).length = env.length
  | _, [] => rfl
  | env, i :: is => by unfold clear; rw [clear_len, List.length_set]
theorem clear_get : ∀ (is : List Nat) (env : Env) (j : Nat), (clear env is)[j]? = if j ∈ is then (env[j]?).map (fun _ => none) else env[j]?
  | [], env, j => by simp [clear]
  | i :: is, env, j => by
    unfold clear
    rw [clear_get is, List.getElem?_set]
    by_cases e : i = j
    · subst e
      rw [if_pos rfl, if_pos List.mem_cons_self]
      by_cases h : i < env.length
      · rw [if_pos h, List.getElem?_eq_getElem h]
        split <;> rfl
      · rw [if_neg h, List.getElem?_eq_none (by omega)]
        split <;> rfl
    · rw [if_neg e]
      have : (j ∈ i :: is) ↔ j ∈ is := by simp [Ne.symm e]
      by_cases h : j ∈ is
      · rw [if_pos h, if_pos (this.mpr h)]
      · rw [if_neg h, if_neg fun z => h (this.mp z)]
/-- a target's mirror changes just its slots -/
def TgOk (is : List Nat) (t : Nat → D → Env → Res Env) : Prop := ∀ k d env env', t k d env = .ok env' → env'.length = env.length ∧ ∀ j, j ∉ is → env'[j]? = env[j]?
def TgsOk (is : List Nat) (t : Nat → List D → Env → Res Env) : Prop := ∀ k d env env', t k d env = .ok env' → env'.length = env.length ∧ ∀ j, j ∉ is → env'[j]? = env[j]?
theorem tok_name {i : Nat} : TgOk [i] (tName i) := fun k d env env' h => by
  unfold tName at h
  split at h
  · cases h
    exact ⟨by simp, fun j hj => by rw [List.getElem?_set_ne (fun z => hj (by simp [z]))]⟩
  · cases h
theorem toks_nil : TgsOk [] tNil := fun k d env env' h => by
  unfold tNil at h
  split at h
  · cases h; exact ⟨rfl, fun _ _ => rfl⟩
  · cases h
theorem toks_cons {is js : List Nat} {t : Nat → D → Env → Res Env} {u : Nat → List D → Env → Res Env} (h1 : TgOk is t) (h2 : TgsOk js u) : TgsOk (is ++ js) (tCons t u) := fun k d env env' h => by
  unfold tCons at h
  split at h
  · obtain ⟨e1, h3, h4⟩ := bind_ok h
    obtain ⟨a1, a2⟩ := h1 _ _ _ _ h3
    obtain ⟨b1, b2⟩ := h2 _ _ _ _ h4
    exact ⟨b1.trans a1, fun j hj => (b2 j fun z => hj (List.mem_append_right _ z)).trans (a2 j fun z => hj (List.mem_append_left _ z))⟩
  · cases h
theorem tok_tup {is : List Nat} {n : Nat} {u : Nat → List D → Env → Res Env} (h1 : TgsOk is u) : TgOk is (tTupT n u) := fun k d env env' h => by
  unfold tTupT at h
  split at h
  · split at h
    · exact h1 _ _ _ _ h
    · cases h
  · cases h
theorem wipe_off {σ σ' : St} {vs is : List Nat} (o : Off is (wipe σ vs) σ') (hs : ∀ i ∈ is, i ∈ vs) : wipe σ' vs = wipe σ vs := by
  refine List.ext_getElem? fun j => ?_
  rw [wipe_get, wipe_get]
  have hl : σ'.length = σ.length := o.1.trans (wipe_len σ vs)
  by_cases h : j ∈ vs
  · rw [if_pos h, if_pos h]
    by_cases hj : j < σ.length
    · rw [List.getElem?_eq_getElem hj, List.getElem?_eq_getElem (by omega)]; rfl
    · rw [List.getElem?_eq_none (by omega), List.getElem?_eq_none (by omega)]
  · rw [if_neg h, if_neg h, o.2 j fun z => h (hs j z), wipe_get, if_neg h]

/-! ### list comprehensions -/
section
variable {X : Cx} {e a b tg it elt : Expr} {m ma mb me : Env → Res D} {k : Nat} {cs : List Nat} {pos : Pos}
def SPT (X : Cx) (ifs : List Expr) (m : Env → Res Bool) : Prop := ∀ (B : Bs) (H : Hp) (env : Env) (σ : St) (tm : List Hold) (b : Bool) (Q : Bool → Hp → Prop), EnvOk B H env σ tm → m env = .ok b → (∀ H', Ext H H' → EnvOk B H' env σ tm → Q b H') →
  ∀ (pins : List (Addr × Obj)) (s : Shared), Inv X pins σ H s → wpAny (model X.prog X.w) X.A (forIn ifs true fun c r => if r = true then do let ok ← isTrue c X.env (eval c X.env); pure (ForInStep.yield ok) else pure (ForInStep.yield r)) (TP X pins σ Q) X.xe s
theorem spt_nil : SPT X [] (fun _ => .ok true) := fun B H env σ tm b Q ok hm q pins s I => by
  cases hm
  exact pts_nil.run pins s σ H Q I (q H (Ext.refl H) ok)
theorem spt_one {c : Expr} {t : Env → Res Bool} (h : ST X c t) : SPT X [c] t := fun B H env σ tm b Q ok hm q pins s I => (pts_one pt_sem).run pins s σ H Q I (h B H env σ tm b Q ok hm q)
def lcLoop (t : Nat → D → Env → Res Env) (mt : Env → Res Bool) (me : Env → Res D) (env : Env) : List D → Res (List D)
  | [] => .ok []
  | x :: xs => t 0 x env >>= fun e1 => mt e1 >>= fun b => if b then me e1 >>= fun y => lcLoop t mt me env xs >>= fun ys => .ok (y :: ys) else lcLoop t mt me env xs
/-- the comprehension's own slots hold nothing -/
def noOwn (own : List Nat) (env : Env) : Bool := own.all fun i => match env[i]? with
  | some none => true
  | _ => false
def mLc (mi : Env → Res (List D)) (t : Nat → D → Env → Res Env) (mt : Env → Res Bool) (me : Env → Res D) (own : List Nat) : Env → Res D := fun env =>
  chk (noOwn own env) >>= fun _ => mi env >>= fun ds => lcLoop t mt me env ds >>= fun ys => if ys.length ≤ sizeLine then .ok (.lst ys) else .bad
theorem noOwn_iff {own : List Nat} {env : Env} (h : noOwn own env = true) : ∀ i ∈ own, env[i]? = some none := fun i hi => by
  unfold noOwn at h
  have := List.all_eq_true.mp h i hi
  cases q : env[i]? with
  | none => rw [q] at this; cases this
  | some x =>
    cases x with
    | none => rfl
    | some y => rw [q] at this; cases this
abbrev Blk (X : Cx) (scope : Scope) (P : Cx → Prop) : Prop := ∀ (s : Shared) (H : Hp) (C : Addr) (cl : List (Str × Addr)) (fp : List Addr), P (X.blk s H scope (compEnvC scope cl C X.env) fp)
/-- the reading of the comprehension, at its mirror -/
theorem lc_read {wi : TI} {B : Bs} {H : Hp} {env : Env} {σ : St} {tm : List Hold} {own is : List Nat} {scope : Scope} {ifs : List Expr} {mi : Env → Res (List D)} {t : Nat → D → Env → Res Env} {mt : Env → Res Bool} {d : D} {Q : VK}
    (hi : ∀ (ds : List D) (R : It → Hp → Prop), mi env = .ok ds → (∀ J H' ex, Ext H H' → EnvOk B H' env σ (ex ++ tm) → Yields B J ex ds → R J H') → wi σ H R) (hg : Blk X scope fun Y => STg Y tg is t) (htg : TgOk is t) (his : ∀ i ∈ is, i ∈ own) (ht : Blk X scope fun Y => SPT Y ifs mt) (he : Blk X scope fun Y => SE Y k [] elt me) (ok : EnvOk B H env σ tm) (hm : mLc mi t mt me own env = .ok d)
    (q : ∀ v H', Ext H H' → EnvOk B H' env σ ((v, k + 1, d) :: tm) → Q v H') :
    tLc wi (fun v σ H Q => Blk X scope fun Y => wG Y tg v σ H Q) (fun σ H Q => Blk X scope fun Y => ∀ (pins : List (Addr × Obj)) (s : Shared), Inv Y pins σ H s → wpAny (model Y.prog Y.w) Y.A (forIn ifs true fun c r => if r = true then do let ok ← isTrue c Y.env (eval c Y.env); pure (ForInStep.yield ok) else pure (ForInStep.yield r)) (TP Y pins σ Q) Y.xe s)
      (fun σ H Q => Blk X scope fun Y => wE Y elt σ H Q) own σ H Q := by
  obtain ⟨u, hc, h2⟩ := bind_ok hm
  have hno := noOwn_iff (chk_ok hc)
  obtain ⟨ds, hds, h3⟩ := bind_ok h2
  obtain ⟨ys, hys, h4⟩ := bind_ok h3
  by_cases hl : ys.length ≤ sizeLine
  · rw [if_pos hl] at h4
    cases h4
    have offOwn : ∀ (j : Nat) kd, env[j]? = some (some kd) → j ∉ own := fun j kd e z => by rw [hno j z] at e; cases e
    refine hi ds _ hds fun J H1 ex x1 ok1 Y L hD => ?_
    have ok1' : EnvOk B H1 env (wipe σ own) (ex ++ tm) := ok1.cong (wipe_len _ _) fun j kd e => by rw [wipe_get, if_neg (offOwn j kd e)]
    have ok2 : EnvOk B (upd H1 L (.lst [])) env (wipe σ own) ((.ref L, k + 1, .lst []) :: (ex ++ tm)) := EnvOk.newLst (vs := []) (ds := []) ok1' rfl hD
    refine ⟨fun i m H' => m = ds.length - i ∧ i ≤ ds.length ∧ Ext H1 (del H' L) ∧ ∃ acc rest, ys = acc ++ rest ∧ lcLoop t mt me env (ds.drop i) = .ok rest ∧ EnvOk B H' env (wipe σ own) ((.ref L, k + 1, .lst acc) :: (ex ++ tm)), ⟨ds.length, by simp, Nat.zero_le _, fun a o e => ?_, [], ys, rfl, by simpa using hys, ok2⟩, ?_⟩
    · rw [del_ne (ne_of_none e hD), upd_ne (ne_of_none e hD)]; exact e
    rintro i n H2 ⟨rfl, hi2, x2, acc, rest, ey, hr, ok3⟩
    have swp : ∀ {H : Hp} {x : Hold}, EnvOk B H env (wipe σ own) (x :: (ex ++ tm)) → EnvOk B H env (wipe σ own) (ex ++ x :: tm) := fun h => h.perm List.perm_middle.symm
    obtain ⟨y1, y2⟩ := Y i H2 env (wipe σ own) _ (swp ok3)
    by_cases hlt : i < ds.length
    · obtain ⟨go, yl⟩ := y2 hlt
      refine .inr ⟨go, fun H' => i + 1 ≤ ds.length ∧ Ext H1 (del H' L) ∧ ∃ acc rest, ys = acc ++ rest ∧ lcLoop t mt me env (ds.drop (i + 1)) = .ok rest ∧ EnvOk B H' env (wipe σ own) ((.ref L, k + 1, .lst acc) :: (ex ++ tm)), fun H' ⟨h1, h2, h3⟩ => ⟨ds.length - (i + 1), by omega, rfl, h1, h2, h3⟩, fun x H3 hy => ?_⟩
      obtain ⟨d, hd2, x3, ok4⟩ := yl x H3 hy
      have hdr : ds.drop i = d :: ds.drop (i + 1) := by
        obtain ⟨h1, h2⟩ := List.getElem?_eq_some_iff.mp hd2
        rw [← h2]
        exact List.drop_eq_getElem_cons h1
      rw [hdr] at hr
      obtain ⟨e1, g1, hr⟩ := bind_ok hr
      obtain ⟨b, g2, hr⟩ := bind_ok hr
      have xd : ∀ {Ha Hb : Hp}, Ext Ha Hb → Ext H1 (del Ha L) → Ext H1 (del Hb L) := fun {Ha Hb} p r a o e => by
        have ha : a ≠ L := ne_of_none e hD
        have := r a o e
        rw [del_ne ha] at this ⊢
        exact p a o this
      intro sX HX CX clX fpX
      refine hg sX HX CX clX fpX 0 B H3 env (wipe σ own) (ex ++ (V.ref L, k + 1, D.lst acc) :: tm) d x e1 _ ok4 g1 fun σ4 o4 ok5 => ⟨wipe_off o4 his, ?_⟩
      intro sY HY CY clY fpY pins s I
      refine ht sY HY CY clY fpY B H3 e1 σ4 (ex ++ (V.ref L, k + 1, D.lst acc) :: tm) b _ ok5 g2 (fun H5 x5 ok6 => ?_) pins s I
      -- back to the frame's env
      obtain ⟨tl, tk⟩ := htg _ _ _ _ g1
      have ec : clear e1 own = env := List.ext_getElem? fun j => by
        rw [clear_get]
        by_cases h : j ∈ own
        · rw [if_pos h, hno j h]
          have hj : j < env.length := (List.getElem?_eq_some_iff.mp (hno j h)).1
          rw [List.getElem?_eq_getElem (by omega)]; rfl
        · rw [if_neg h, tk j fun z => h (his j z)]
      have back : ∀ {H : Hp} {tm : List Hold}, EnvOk B H e1 σ4 tm → EnvOk B H env (wipe σ own) tm := fun {H tm} h => by
        have h1 := h.clear own
        rw [ec] at h1
        exact h1.cong (by rw [o4.1]) fun j kd e => (o4.2 j fun z => offOwn j kd e (his j z)).symm
      cases b with
      | false =>
        refine (show i + 1 ≤ ds.length ∧ _ from ⟨hlt, xd (x3.trans x5) x2, acc, rest, ey, hr, (back ok6).perm List.perm_middle⟩)
      | true =>
        rw [if_pos rfl] at hr ⊢
        obtain ⟨y, g3, hr⟩ := bind_ok hr
        obtain ⟨rest', g4, hr⟩ := bind_ok hr
        cases hr
        intro sZ HZ CZ clZ fpZ
        refine he sZ HZ CZ clZ fpZ B H5 e1 σ4 (ex ++ (V.ref L, k + 1, D.lst acc) :: tm) y _ ok6 g3 fun v H6 x6 ok7 => ?_
        have ok8 : EnvOk B H6 env (wipe σ own) ((V.ref L, k + 1, D.lst acc) :: (v, k, y) :: (ex ++ tm)) := by
          have h1 : EnvOk B H6 env (wipe σ own) ((v, k, y) :: (ex ++ (V.ref L, k + 1, D.lst acc) :: tm)) := back ok7
          refine h1.perm ?_
          refine (List.Perm.cons _ (List.perm_middle (l₁ := ex) (a := (V.ref L, k + 1, D.lst acc)) (l₂ := tm))).trans (List.Perm.swap _ _ _)
        obtain ⟨vs, hL, hvl, ok9⟩ := ok8.takeLst
        have ok10 : EnvOk B (del H6 L) env (wipe σ own) (lev k (vs ++ [v]) (acc ++ [y]) ++ (ex ++ tm)) := by
          rw [lev_append [v] [y] hvl, List.append_assoc]
          exact ok9
        have ok11 := ok10.newLst (p := L) (by simp [hvl]) del_self
        rw [upd_del] at ok11
        refine ⟨vs, hL, ?_, hlt, fun a o e => ?_, acc ++ [y], rest', by rw [ey, List.append_assoc]; rfl, g4, ok11⟩
        · have : acc.length + (rest'.length + 1) ≤ sizeLine := by rw [ey] at hl; simpa using hl
          omega
        · have ha : a ≠ L := ne_of_none e hD
          have := xd (x3.trans (x5.trans x6)) x2 a o e
          rw [del_ne ha] at this ⊢
          rw [upd_ne ha]; exact this
    · have ei : i = ds.length := by omega
      refine .inl ⟨y1 ei, ?_⟩
      rw [ei, List.drop_length] at hr
      cases hr
      rw [List.append_nil] at ey
      subst ey
      refine q _ _ (fun a o e => ?_) ?_
      · have e1 := x1 a o e
        have := x2 a o e1
        rw [del_ne (ne_of_none e1 hD)] at this
        exact this
      · have ok5 := ok3.cong (σ' := σ) (wipe_len _ _).symm fun j kd e => by rw [wipe_get, if_neg (offOwn j kd e)]
        exact EnvOk.less (l := ex) (ok5.perm List.perm_middle.symm)
  · rw [if_neg hl] at h4; cases h4
theorem se_lc {own is : List Nat} {scope : Scope} {ifs : List Expr} {mi : Env → Res (List D)} {t : Nat → D → Env → Res Env} {mt : Env → Res Bool} (ow : List (Str × Nat)) (hc : X.calm = true) (hN : X.N.Nodup) (ok : BlkOk X.N X.env.scope scope ow) (eo : ow.map (·.2) = own)
    (hi : SI X tg it mi) (hg : Blk X scope fun Y => STg Y tg is t) (htg : TgOk is t) (his : ∀ i ∈ is, i ∈ own) (ht : Blk X scope fun Y => SPT Y ifs mt) (he : Blk X scope fun Y => SE Y k [] elt me)
    (hs : ∀ x, foldedSetIterable it X.env x = pure x := by intro _; rfl) : SE X (k + 1) [] (.ListComp elt [⟨tg, it, ifs, 0⟩] scope pos) (mLc mi t mt me own) := fun B H env σ tm d Q ok1 hm q => by
  subst eo
  exact wE_of (pe_lc hc hN pi_sem ok (fun s H C cl fp => ⟨fun pins s' σ H' v u Q I r h => h s H C cl fp pins s' u I r⟩) (fun s H C cl fp => ⟨fun pins s' σ H' Q I h => h s H C cl fp pins s' I⟩) (fun s H C cl fp => ⟨fun pins s' σ H' Q I h => h s H C cl fp pins s' I⟩) hs) (lc_read (fun ds R h q => hi B H env σ tm ds R ok1 h q) hg htg his ht he ok1 hm q)
/-- name = [..] -/
theorem s_setLc {kr : Nat} {i : Nat} {y : Str} {py : Pos} {spos : Pos} {own is : List Nat} {scope : Scope} {ifs : List Expr} {mi : Env → Res (List D)} {t : Nat → D → Env → Res Env} {mt : Env → Res Bool} (ow : List (Str × Nat)) (hc : X.calm = true) (hN : X.N.Nodup) (hy : X.N[i]? = some y) (hyl : X.env.scope.names.lookup y = some .local)
    (hsw : swapsWith (.ListComp elt [⟨tg, it, ifs, 0⟩] scope pos) (some (.Name y py)) spos.line X.env = pure true) (ok : BlkOk X.N X.env.scope scope ow) (eo : ow.map (·.2) = own)
    (hi : SI X tg it mi) (hg : Blk X scope fun Y => STg Y tg is t) (htg : TgOk is t) (his : ∀ i ∈ is, i ∈ own) (ht : Blk X scope fun Y => SPT Y ifs mt) (he : Blk X scope fun Y => SE Y k [] elt me)
    (hs : ∀ x, foldedSetIterable it X.env x = pure x := by intro _; rfl) : S1 X kr (.Assign [.Name y py] (.ListComp elt [⟨tg, it, ifs, 0⟩] scope pos) spos) (mSet i (k + 1) [] (mLc mi t mt me own)) := fun B H env σ tm D r ok1 hm p => by
  subst eo
  obtain ⟨d, hd, h2⟩ := bind_ok hm
  obtain ⟨e', h3, h4⟩ := bind_ok h2
  cases h4
  unfold tName at h3
  split at h3
  · rename_i hl
    cases h3
    exact wS_of (ps_setLc hc hN hy hyl hsw pi_sem ok (fun s H C cl fp => ⟨fun pins s' σ H' v u Q I r h => h s H C cl fp pins s' u I r⟩) (fun s H C cl fp => ⟨fun pins s' σ H' Q I h => h s H C cl fp pins s' I⟩) (fun s H C cl fp => ⟨fun pins s' σ H' Q I h => h s H C cl fp pins s' I⟩) hs) (lc_read (fun ds R h q => hi B H env σ tm ds R ok1 h q) hg htg his ht he ok1 hd fun v H' x' ok' => p _ _ (ok'.store hl))
  · cases h3
end
end Mir

namespace Mir
open PySem PySem.Spec L2

section
variable {X : Cx}
theorem lstR {X : Cx} {pins : List (Addr × Obj)} {σ : St} {H : Hp} {s : Shared} {l : Addr} {xs : List V} (I : Inv X pins σ H s) (hH : Rd H l (.lst xs)) : xs.length ≤ sizeLine ∧ ∃ (its : List Value) (n : Nat), Vals xs its ∧ xs.length = its.length ∧ s.heap.get? l = some { cls := .type "list", data := .seq its.toArray n } := by
  obtain ⟨z, its, n, r, e⟩ := hH.ok I.hok
  exact ⟨z, its, n, r, r.length, e⟩
def rCatR : R2 := fun x y H Q => ∃ l b xs zs, x = .ref l ∧ y = .ref b ∧ Rd H l (.lst xs) ∧ Rd H b (.lst zs) ∧ xs.length + zs.length ≤ sizeLine ∧ ∀ p, H p = none → Q (.ref p) (upd H p (.lst (xs ++ zs)))
theorem op_catR : OpR X (binaryOp .Add) rCatR := by
  intro pins s σ H x y v u Q I rx ry h
  obtain ⟨l, b, xs, zs, rfl, rfl, hH, hB, hz, q⟩ := h
  cases rx
  cases ry
  obtain ⟨z, its, n, r, hl, e⟩ := lstR I hH
  obtain ⟨z2, its2, n2, r2, hl2, e2⟩ := lstR I hB
  refine PySem.P.add_list e e2 ?_ (by rw [List.size_toArray, List.size_toArray]; omega)
  have ea : its.toArray ++ its2.toArray = (its ++ its2).toArray := by simp
  rw [ea]
  exact ⟨.ref _, _, I.lnew (t' := s.toks) (r.append r2) (by rw [List.length_append]; omega), rfl, q _ I.fresh⟩
def rExtR : V → List V → Hp → VK → Prop := fun x vs H Q => ∃ l b xs zs, x = .ref l ∧ vs = [.ref b] ∧ H l = some (.lst xs) ∧ Rd H b (.lst zs) ∧ xs.length + zs.length ≤ sizeLine ∧ Q .non (upd H l (.lst (xs ++ zs)))
theorem mt_extR : MtM X "list.extend" rExtR := by
  intro pins s σ H x vs v us Q I rx rv h
  obtain ⟨l, b, xs, zs, rfl, rfl, hH, hB, hz, q⟩ := h
  cases rx
  obtain ⟨u, rfl, ru⟩ := rv.one
  cases ru
  obtain ⟨z, its, n, r, hl, e⟩ := I.lstM hH
  obtain ⟨z2, its2, n2, r2, hl2, e2⟩ := lstR I hB
  have hsz : its.toArray.size + its2.toArray.size ≤ sizeLine := by rw [List.size_toArray, List.size_toArray]; omega
  have hlong : ¬ (!its.toArray.isEmpty && Builtin.List.listTooLong (its.toArray.size + its2.toArray.size)) = true := by
    rw [notLongL hsz, Bool.and_false]
    exact Bool.false_ne_true
  refine call_meets F.slot_list_extend ⟨_, e, rfl⟩ F.entry_list_extend (F.args_list_extend_2 _ _)
    (AutoSeq1.list_extend_list_list_0 l its.toArray n b its2.toArray n2 hlong (by rw [List.size_toArray]; omega) (by omega)) ⟨e, e2, ?_⟩
  refine ⟨.non, _, I.lset (its' := its ++ its2) hH e (by simp) (r.append r2) ?_, rfl, q⟩
  rw [List.length_append]
  omega
end

/-! ### lists that are read as a whole: their items go to new lists -/
def Sel (vs : List V) (ds : List D) (ws : List V) (es : List D) : Prop := ws.length = es.length ∧ ∀ (i : Nat) w e, ws[i]? = some w → es[i]? = some e → ∃ j : Nat, vs[j]? = some w ∧ ds[j]? = some e
def Pick (k : Nat) (B : Bs) (H : Hp) (ex : List Hold) (vs : List V) (ds : List D) : Prop := ∀ (H' : Hp) (env : Env) (σ : St) (tm : List Hold), Ext H H' → EnvOk B H' env σ (ex ++ tm) → ∀ ws es, Sel vs ds ws es → EnvOk B H' env σ (lev k ws es ++ (ex ++ tm))
theorem Sel.tail {vs : List V} {ds : List D} {w : V} {e : D} {ws : List V} {es : List D} (h : Sel vs ds (w :: ws) (e :: es)) : Sel vs ds ws es := ⟨by simpa using h.1, fun i w' e' h1 h2 => h.2 (i + 1) w' e' (by simpa using h1) (by simpa using h2)⟩
theorem pick_imm {k : Nat} {B : Bs} {H : Hp} {vs : List V} {ds : List D} (r : RpAll (view H) vs ds) (hi : immAll ds = true) : Pick k B H [] vs ds := fun H' env σ tm x ok ws es => by
  have r' := x.rpAll r
  induction ws generalizing es with
  | nil => intro s; cases es with
    | nil => exact ok
    | cons => exact absurd s.1 (by simp)
  | cons w ws ih =>
    intro s
    cases es with
    | nil => exact absurd s.1 (by simp)
    | cons e es =>
      obtain ⟨j, h1, h2⟩ := s.2 0 w e rfl rfl
      obtain ⟨d, h3, h4⟩ := r'.get' h1
      rw [h2] at h3
      cases h3
      exact (ih es s.tail).imm h4 (immAll_iff.mp hi e (List.mem_of_getElem? h2))
theorem pick_sh {B : Bs} {H : Hp} {v : V} {d : D} {p : Addr} {vs : List V} {ds : List D} (hd : d = .lst ds ∨ d = .tup ds) (ev : v = .ref p) (hp : view H p = some (.lst vs) ∨ view H p = some (.tup vs)) : Pick 0 B H [(v, 0, d)] vs ds := fun H' env σ tm x ok ws es => by
  have hp' : view H' p = some (.lst vs) ∨ view H' p = some (.tup vs) := hp.imp (view_ext x _ _) (view_ext x _ _)
  induction ws generalizing es with
  | nil => intro s; cases es with
    | nil => exact ok
    | cons => exact absurd s.1 (by simp)
  | cons w ws ih =>
    intro s
    cases es with
    | nil => exact absurd s.1 (by simp)
    | cons e es =>
      obtain ⟨j, h1, h2⟩ := s.2 0 w e rfl rfl
      have h3 : EnvOk B H' env σ ((v, 0, d) :: (lev 0 ws es ++ tm)) := (ih es s.tail).perm List.perm_middle
      have h4 := EnvOk.item h3 hd ev hp' h1 h2
      refine h4.perm (List.Perm.cons _ ?_)
      exact (List.perm_middle (l₁ := lev 0 ws es) (a := (v, 0, d)) (l₂ := tm)).symm
/-- c: a list, a tuple -/
def SL (X : Cx) (k : Nat) (c : List V → HO) (e : Expr) (m : Env → Res (List D)) : Prop := ∀ (B : Bs) (H : Hp) (env : Env) (σ : St) (tm : List Hold) (ds : List D) (Q : VK), EnvOk B H env σ tm → m env = .ok ds →
  (∀ p vs H' ex, Ext H H' → view H' p = some (c vs) → vs.length = ds.length → RpAll (view H') vs ds → EnvOk B H' env σ (ex ++ tm) → Pick k B H' ex vs ds → Q (.ref p) H') → wE X e σ H Q
section
variable {X : Cx} {e a b : Expr} {m ma mb : Env → Res D} {k : Nat} {cs : List Nat} {pos : Pos}
def immL (ds : List D) : Res (List D) := if immAll ds then .ok ds else .bad
theorem sl_imm (h : SB X e m) : SL X k .lst e (fun env => m env >>= fun d => itemsL d >>= immL) := fun B H env σ tm ds Q ok hm q => by
  obtain ⟨d, hd, h2⟩ := bind_ok hm
  obtain ⟨ds', h3, h4⟩ := bind_ok h2
  unfold itemsL at h3
  split at h3
  · cases h3
    unfold immL at h4
    split at h4
    · rename_i hi
      cases h4
      refine h B H env σ tm _ _ ok hd fun v H1 x1 ok1 r => ?_
      cases r with
      | lst hv ra => exact q _ _ H1 [] x1 hv ra.length ra ok1 (pick_imm ra hi)
    · cases h4
  · cases h3
theorem slt_imm (h : SB X e m) : SL X k .tup e (fun env => m env >>= fun d => itemsT d >>= immL) := fun B H env σ tm ds Q ok hm q => by
  obtain ⟨d, hd, h2⟩ := bind_ok hm
  obtain ⟨ds', h3, h4⟩ := bind_ok h2
  unfold itemsT at h3
  split at h3
  · cases h3
    unfold immL at h4
    split at h4
    · rename_i hi
      cases h4
      refine h B H env σ tm _ _ ok hd fun v H1 x1 ok1 r => ?_
      cases r with
      | tup hv ra => exact q _ _ H1 [] x1 hv ra.length ra ok1 (pick_imm ra hi)
    · cases h4
  · cases h3
theorem sl_sh (h : SE X 0 [] e m) : SL X 0 .lst e (fun env => m env >>= itemsL) := fun B H env σ tm ds Q ok hm q => by
  obtain ⟨d, hd, h2⟩ := bind_ok hm
  unfold itemsL at h2
  split at h2
  · cases h2
    refine h B H env σ tm _ _ ok hd fun v H1 x1 ok1 => ?_
    have r := ok1.rp
    cases r with
    | lst hv ra => exact q _ _ H1 [_] x1 hv ra.length ra ok1 (pick_sh (.inl rfl) rfl (.inl hv))
  · cases h2
theorem slt_sh (h : SE X 0 [] e m) : SL X 0 .tup e (fun env => m env >>= itemsT) := fun B H env σ tm ds Q ok hm q => by
  obtain ⟨d, hd, h2⟩ := bind_ok hm
  unfold itemsT at h2
  split at h2
  · cases h2
    refine h B H env σ tm _ _ ok hd fun v H1 x1 ok1 => ?_
    have r := ok1.rp
    cases r with
    | tup hv ra => exact q _ _ H1 [_] x1 hv ra.length ra ok1 (pick_sh (.inr rfl) rfl (.inr hv))
  · cases h2

/-! ### slices -/
def SO (X : Cx) (o : Option Expr) (m : Env → Res (Option Int)) : Prop := ∀ (B : Bs) (H : Hp) (env : Env) (σ : St) (tm : List Hold) (i : Option Int) (Q : Option Int → Hp → Prop), EnvOk B H env σ tm → m env = .ok i → (∀ H', Ext H H' → EnvOk B H' env σ tm → Q i H') →
  ∀ (pins : List (Addr × Obj)) (s : Shared), Inv X pins σ H s → wpAny (model X.prog X.w) X.A (evalPart o X.env) (fun u s' => ∃ o H', Inv X pins σ H' s' ∧ IsPart u o ∧ Q o H') X.xe s
def wO (X : Cx) (o : Option Expr) : TO := fun σ H Q => ∀ (pins : List (Addr × Obj)) (s : Shared), Inv X pins σ H s → wpAny (model X.prog X.w) X.A (evalPart o X.env) (fun u s' => ∃ o H', Inv X pins σ H' s' ∧ IsPart u o ∧ Q o H') X.xe s
theorem po_sem {o : Option Expr} : PO X o (wO X o) := ⟨fun pins s _ _ _ I h => h pins s I⟩
theorem so_none : SO X none (fun _ => .ok none) := fun B H env σ tm i Q ok hm q pins s I => by
  cases hm
  exact po_none.run pins s σ H Q I (q H (Ext.refl H) ok)
def toI : D → Res Int
  | .int i => .ok i
  | _ => .bad
theorem toI_ok {d : D} {i : Int} (h : toI d = .ok i) : d = .int i := by
  cases d with
  | int j => cases h; rfl
  | _ => cases h
theorem so_some (h : SB X e m) : SO X (some e) (fun env => m env >>= toI >>= fun i => .ok (some i)) := fun B H env σ tm i Q ok hm q pins s I => by
  obtain ⟨j, hj, h2⟩ := bind_ok hm
  obtain ⟨d, hd, h3⟩ := bind_ok hj
  have := toI_ok h3
  subst this
  cases h2
  refine (po_some pe_sem).run pins s σ H Q I (h B H env σ tm _ _ ok hd fun v H1 x1 ok1 r => ?_)
  cases r
  exact ⟨j, rfl, q H1 x1 ok1⟩
def cutD (xs : List D) (lo hi : Option Int) : List D := (xs.drop (HT.sIx xs.length 0 lo)).take (HT.sIx xs.length xs.length hi - HT.sIx xs.length 0 lo)
theorem sel_cut {vs : List V} {ds : List D} (hl : vs.length = ds.length) (lo hi : Option Int) : Sel vs ds (cutV vs lo hi) (cutD ds lo hi) := by
  unfold cutV cutD
  rw [hl]
  refine ⟨by simp [hl], fun i w e h1 h2 => ⟨HT.sIx ds.length 0 lo + i, ?_, ?_⟩⟩
  · rw [List.getElem?_take] at h1
    split at h1
    · rw [List.getElem?_drop] at h1; exact h1
    · cases h1
  · rw [List.getElem?_take] at h2
    split at h2
    · rw [List.getElem?_drop] at h2; exact h2
    · cases h2
def mSlice (m : Env → Res (List D)) (l u : Env → Res (Option Int)) : Env → Res D := fun env => m env >>= fun ds => l env >>= fun lo => u env >>= fun hi => .ok (.lst (cutD ds lo hi))
theorem se_slice {lo hi : Option Expr} {p2 : Pos} {ml mu : Env → Res (Option Int)} {mm : Env → Res (List D)} (h : SL X k .lst e mm) (hl : SO X lo ml) (hu : SO X hi mu) : SE X (k + 1) [] (.Subscript e (.Slice lo hi none p2) pos) (mSlice mm ml mu) := fun B H env σ tm d Q ok hm q => by
  obtain ⟨ds, hds, h2⟩ := bind_ok hm
  obtain ⟨i, hi', h3⟩ := bind_ok h2
  obtain ⟨j, hj', h4⟩ := bind_ok h3
  cases h4
  refine wE_of (pe_slice sl_list pe_sem po_sem po_sem) (h B H env σ tm ds _ ok hds fun p vs H1 ex x1 hp hl1 ra ok1 pk => ?_)
  refine hl B H1 env σ _ i _ ok1 hi' fun H2 x2 ok2 => hu B H2 env σ _ j _ ok2 hj' fun H3 x3 ok3 => ?_
  have x23 := x2.trans x3
  refine ⟨p, vs, rfl, .inl (view_rd (view_ext x23 _ _ hp)), fun l hnl => ?_⟩
  have s := sel_cut hl1 i j
  have ok4 := (pk H3 env σ tm x23 ok3 _ _ s).newLst s.1 hnl
  exact q _ _ ((x1.trans x23).trans (Ext.upd hnl)) (EnvOk.less (l := ex) (ok4.perm List.perm_middle.symm))
/-- a text's slice -/
def gCutS (z : D) (lo hi : Option Int) : Res D := match z with
  | .str z => if z.length ≤ sizeLine then .ok (.str (cutS z lo hi)) else .bad
  | _ => .bad
theorem sc_sliceS {lo hi : Option Expr} {p2 : Pos} {ml mu : Env → Res (Option Int)} (h : SB X e m) (hl : SO X lo ml) (hu : SO X hi mu) : SC X (.Subscript e (.Slice lo hi none p2) pos) (fun env => m env >>= fun z => ml env >>= fun lo => mu env >>= fun hi => gCutS z lo hi) := fun B H env σ tm d Q ok hm q => by
  obtain ⟨z, hz, h2⟩ := bind_ok hm
  obtain ⟨i, hi', h3⟩ := bind_ok h2
  obtain ⟨j, hj', h4⟩ := bind_ok h3
  unfold gCutS at h4
  split at h4
  · split at h4
    · rename_i hlz
      cases h4
      refine wE_of (pe_slice sl_str pe_sem po_sem po_sem) (h B H env σ tm _ _ ok hz fun v H1 x1 ok1 r => hl B H1 env σ tm i _ ok1 hi' fun H2 x2 ok2 => hu B H2 env σ tm j _ ok2 hj' fun H3 x3 ok3 => ?_)
      cases r
      exact ⟨_, rfl, hlz, q _ H3 (x1.trans (x2.trans x3)) ok3 (.str _) rfl⟩
    · cases h4
  · cases h4
/-- a tuple's slice, shorter than the tuple -/
def gCutT (ds : List D) (lo hi : Option Int) : Res D := if immAll ds && !(decide (HT.sIx ds.length 0 lo = 0) && decide (HT.sIx ds.length ds.length hi = ds.length)) then .ok (.tup (cutD ds lo hi)) else .bad
theorem sc_sliceT {lo hi : Option Expr} {p2 : Pos} {ml mu : Env → Res (Option Int)} (h : SB X e m) (hl : SO X lo ml) (hu : SO X hi mu) : SC X (.Subscript e (.Slice lo hi none p2) pos) (fun env => m env >>= itemsT >>= fun ds => ml env >>= fun lo => mu env >>= fun hi => gCutT ds lo hi) := fun B H env σ tm d Q ok hm q => by
  obtain ⟨ds, hz, h2⟩ := bind_ok hm
  obtain ⟨d', hd', h5⟩ := bind_ok hz
  obtain ⟨i, hi', h3⟩ := bind_ok h2
  obtain ⟨j, hj', h4⟩ := bind_ok h3
  unfold itemsT at h5
  split at h5
  · cases h5
    unfold gCutT at h4
    split at h4
    · rename_i hc
      cases h4
      rw [Bool.and_eq_true] at hc
      obtain ⟨c1, c2⟩ := hc
      refine wE_of (pe_slice sl_tup pe_sem po_sem po_sem) (h B H env σ tm _ _ ok hd' fun v H1 x1 ok1 r => hl B H1 env σ tm i _ ok1 hi' fun H2 x2 ok2 => hu B H2 env σ tm j _ ok2 hj' fun H3 x3 ok3 => ?_)
      have x23 := x2.trans x3
      cases r with
      | @tup a vs _ hv ra =>
        have hlen := ra.length
        refine ⟨a, vs, rfl, .inl (view_rd (view_ext x23 _ _ hv)), ?_, fun l hnl => ?_⟩
        · intro ⟨z1, z2⟩
          rw [hlen] at z1 z2
          rw [decide_eq_true z1, decide_eq_true z2] at c2
          cases c2
        · have s := sel_cut hlen i j
          have hi2 : immAll (cutD ds i j) = true := immAll_iff.mpr fun x hx => immAll_iff.mp c1 x (List.mem_of_mem_drop (List.mem_of_mem_take hx))
          have ok4 := ((pick_imm (k := 0) (x23.rpAll ra) c1 H3 env σ tm (Ext.refl _) ok3 _ _ s).newTup s.1 hnl)
          have r4 := ok4.rp
          exact q _ _ ((x1.trans x23).trans (Ext.upd hnl)) (EnvOk.tail ok4) r4 (by show immAll _ = true; exact hi2)
    · cases h4
  · cases h5

/-! ### lists joined, copied -/
theorem perm_aca {α : Type} (a b c : List α) : (a ++ (b ++ c)).Perm (b ++ (a ++ c)) := by
  rw [← List.append_assoc, ← List.append_assoc]
  exact List.Perm.append_right _ List.perm_append_comm
def mCat (m n : Env → Res (List D)) : Env → Res D := fun env => m env >>= fun xs => n env >>= fun ys => if xs.length + ys.length ≤ sizeLine then .ok (.lst (xs ++ ys)) else .bad
theorem sel_refl {vs : List V} {ds : List D} (hl : vs.length = ds.length) : Sel vs ds vs ds := ⟨hl, fun i w e h1 h2 => ⟨i, h1, h2⟩⟩
theorem se_cat {mm nn : Env → Res (List D)} (ha : SL X k .lst a mm) (hb : SL X k .lst b nn) : SE X (k + 1) [] (.BinOp a .Add b pos) (mCat mm nn) := fun B H env σ tm d Q ok hm q => by
  obtain ⟨xs, hx, h2⟩ := bind_ok hm
  obtain ⟨ys, hy, h3⟩ := bind_ok h2
  split at h3
  · rename_i hl
    cases h3
    refine wE_of (pe_op op_catR pe_sem pe_sem) (ha B H env σ tm xs _ ok hx fun p vs H1 ex x1 hp hl1 ra ok1 pk => hb B H1 env σ (ex ++ tm) ys _ ok1 hy fun p2 ws H2 ex2 x2 hp2 hl2 ra2 ok2 pk2 => ?_)
    refine ⟨p, p2, vs, ws, rfl, rfl, view_rd (view_ext x2 _ _ hp), view_rd hp2, by omega, fun l hnl => ?_⟩
    have ok3 := pk2 H2 env σ _ (Ext.refl _) ok2 _ _ (sel_refl hl2)
    have ok4 : EnvOk B H2 env σ (ex ++ (lev k ws ys ++ (ex2 ++ tm))) := ok3.perm ((List.Perm.append_left _ (perm_aca _ _ _)).trans (perm_aca _ _ _))
    have ok5 := pk H2 env σ _ x2 ok4 _ _ (sel_refl hl1)
    have ok6 : EnvOk B H2 env σ (lev k (vs ++ ws) (xs ++ ys) ++ (ex ++ (ex2 ++ tm))) := by
      rw [lev_append ws ys hl1, List.append_assoc]
      exact ok5.perm (List.Perm.append_left _ (perm_aca _ _ _))
    have ok7 := ok6.newLst (by simp [hl1, hl2]) hnl
    refine q _ _ ((x1.trans x2).trans (Ext.upd hnl)) (EnvOk.less (l := ex ++ ex2) (ok7.perm ?_))
    rw [← List.append_assoc]
    exact List.perm_middle.symm
  · cases h3
/-- list(xs) -/
theorem se_list {c : List V → HO} {p : Pos} {mm : Env → Res (List D)} (hcc : c = .lst ∨ c = .tup) (hg : Gl X "list") (hm0 : X.mg "list" = none) (h : SL X k c e mm) (he : starEach [e] X.env = (false, eval e X.env) :: starEach [] X.env := by rfl) (hpl : (backTo pos (starEach [] X.env)).any (·.1) = false := by rfl) : SE X (k + 1) [] (.Call (.Name "list" p) [e] [] pos) (fun env => mm env >>= fun ds => .ok (.lst ds)) := fun B H env σ tm d Q ok hm q => by
  obtain ⟨ds, hds, h2⟩ := bind_ok hm
  cases h2
  refine wE_of (pe_callTy call_list_of hg hm0 (by decide +kernel) (pa_cons pe_sem pa_nil he) (by decide) (by decide) he hpl) (h B H env σ tm ds _ ok hds fun p vs H1 ex x1 hp hl1 ra ok1 pk => ?_)
  refine ⟨p, vs, rfl, ?_, fun l hnl => ?_⟩
  · rcases hcc with rfl | rfl
    · exact .inl (.inl (view_rd hp))
    · exact .inr (.inl (view_rd hp))
  · have ok2 := (pk H1 env σ tm (Ext.refl _) ok1 _ _ (sel_refl hl1)).newLst hl1 hnl
    exact q _ _ (x1.trans (Ext.upd hnl)) (EnvOk.less (l := ex) (ok2.perm List.perm_middle.symm))
/-- len(x) -/
def gLen : D → Res D
  | .lst xs => .ok (.int xs.length)
  | .tup xs => .ok (.int xs.length)
  | .str z => if z.length ≤ sizeLine then .ok (.int z.length) else .bad
  | _ => .bad
theorem sc_len {p : Pos} (hg : Gl X "len") (hm0 : X.mg "len" = none) (h : SB X e m) (he : starEach [e] X.env = (false, eval e X.env) :: starEach [] X.env := by rfl) (hpl : (backTo pos (starEach [] X.env)).any (·.1) = false := by rfl) : SC X (.Call (.Name "len" p) [e] [] pos) (mUn gLen m) := fun B H env σ tm d Q ok hm q => by
  obtain ⟨x, hx, h2⟩ := bind_ok hm
  refine wE_of (pe_callB call_len hg hm0 PySem.boot_len (pa_cons pe_sem pa_nil he) (by decide) (by decide) he hpl) (h B H env σ tm _ _ ok hx fun v H1 x1 ok1 r => ?_)
  cases r with
  | lst hv ra => cases h2; exact ⟨_, _, rfl, .inl ⟨_, .inl (view_rd hv), rfl⟩, by rw [ra.length]; exact q _ H1 x1 ok1 (.int _) rfl⟩
  | tup hv ra => cases h2; exact ⟨_, _, rfl, .inr ⟨_, .inl (view_rd hv), rfl⟩, by rw [ra.length]; exact q _ H1 x1 ok1 (.int _) rfl⟩
  | str z =>
    have h3 : (if z.length ≤ sizeLine then Res.ok (D.int z.length) else .bad) = .ok d := h2
    split at h3
    · rename_i hl
      cases h3
      exact ⟨_, _, rfl, ⟨hl, rfl⟩, q _ H1 x1 ok1 (.int _) rfl⟩
    · cases h3
  | _ => cases h2
end
end Mir

namespace Mir
open PySem PySem.Spec L2
open PyProof.Rows (envOfC)

/-! ### what a def promises -/
structure RetOk (kr : Nat) (G H H' : Hp) (v : V) (d : D) : Prop where
  ex : ∃ (G' : Hp) (fp : List Addr), Good ⟨H, G⟩ G' H' ∧ Od G' H' kr fp v d ∧ fp.Nodup ∧ ∀ p ∈ fp, H p = none ∧ G' p = none
def spF (kr n : Nat) (F : List D → Res D) : Sp := fun vs H Q _ => vs.length = n ∧ ∃ (G : Hp) (ds : List D) (d : D), Good ⟨H, G⟩ G H ∧ RpAll G vs ds ∧ F ds = .ok d ∧ ∀ v H', RetOk kr G H H' v d → Q v H'
/-- the mirror of a def: its body's mirror, run -/
def runD (n : Nat) (m : Env → Res Ctl) : List D → Res D := fun ds => m (ds.map (fun d => some (0, d)) ++ List.replicate (n - ds.length) none) >>= fun c => match c with
  | .rt d => .ok d
  | .nx _ => .ok .non
  | _ => .bad
theorem slots_start : ∀ (vs : List V) (ds : List D) (n : Nat), vs.length = ds.length → slots (ds.map (fun d => some (0, d)) ++ List.replicate n none) (vs.map some ++ List.replicate n none) = lev 0 vs ds
  | [], [], n, _ => by
    induction n with
    | zero => rfl
    | succ n ih => exact ih
  | v :: vs, d :: ds, n, h => congrArg (List.cons (v, 0, d)) (slots_start vs ds n (by simpa using h))
  | [], _ :: _, _, h => by simp at h
  | _ :: _, [], _, h => by simp at h
theorem hold_lev {G H : Hp} {vs : List V} {ds : List D} (r : RpAll G vs ds) : HoldAll G H (lev 0 vs ds) [] := by
  induction r using RpAll.rec (motive_1 := fun _ _ _ => True) with
  | nil => exact .nil
  | cons hr _ _ ih => exact HoldAll.cons (f := []) (g := []) (.of hr) ih
  | _ => trivial
section
variable {P : Program} {w : World} {K : PySem.W.Frag} {mg : Str → Option Value} {base : Heap}
/-- THE RULE for a def -/
theorem def_ok {x qual : Str} {st : Stmt} {f : Addr} {fd : FuncData} {N ps : List Str} {k kr : Nat} {m : Env → Res Ctl} {n : Nat} {FF : List D → Res D} (F : Fun K x qual st f fd) (S : FnScope N ps (defScope st)) (hn : ps.length = n) (hFF : FF = runD N.length m)
    (hb : ∀ (cdv : Value) (A : Around) (outer : List PySem.Env) (s : Shared) (H : Hp) (E : XK), Room k (A.deeper (envOfC qual (defScope st) s.heap.objs.size f cdv)) → SS (cxOf CX0 P w K mg base N qual (defScope st) f cdv A outer s H E).nox kr (defBody st) m) :
    FnOk P w K mg base CX0 (k + 1) f fd ps (spF kr n FF) := by
  subst hn hFF
  refine F.ok S (fun vs H Q E h => h.1) (fun cdv A outer s H vs Q E hr h => ?_)
  obtain ⟨hl, G, ds, d, hg, ra, hF, q⟩ := h
  have hlen := ra.length
  refine ⟨_, pss_sem, ?_⟩
  have hF' : (m (ds.map (fun d => some (0, d)) ++ List.replicate (N.length - ds.length) none) >>= fun c => match c with | .rt d => .ok d | .nx _ => .ok .non | _ => Res.bad) = .ok d := hF
  obtain ⟨c, hc, hd⟩ := bind_ok hF'
  have ok : EnvOk ⟨H, G⟩ H (ds.map (fun d => some (0, d)) ++ List.replicate (N.length - ds.length) none) (L2.start N vs) [] := by
    unfold L2.start
    rw [hlen]
    refine ⟨⟨G, [], hg, by rw [slots_start _ _ _ hlen, List.append_nil]; exact hold_lev ra, List.nodup_nil, fun p hp => by cases hp⟩, by simp [hlen], fun i kd e => ?_⟩
    by_cases hi : i < ds.length
    · have hv : i < (vs.map some).length := by rw [List.length_map]; omega
      rw [List.getElem?_append_left hv, List.getElem?_map, List.getElem?_eq_getElem (by omega)]
      exact ⟨_, rfl⟩
    · rw [List.getElem?_append_right (by simpa using hi), List.getElem?_replicate] at e
      split at e <;> cases e
  refine hb cdv A outer s H E hr ⟨H, G⟩ H _ _ [] _ c ok hc ?_
  have fin : ∀ {v : V} {H' : Hp} {e : Env} {σ : St}, EnvOk ⟨H, G⟩ H' e σ [(v, kr, d)] → Q v H' := fun {v H' e σ} ok' => by
    obtain ⟨⟨G', fp, g, hh, nd, hp⟩, _⟩ := ok'.noSlots
    have hh' : HoldAll G' H' [(v, kr, d)] fp := hh
    cases hh' with
    | @cons _ _ _ _ f1 g1 h1 h2 =>
      cases h2
      rw [List.append_nil] at nd hp
      exact q v H' ⟨G', f1, g, h1, nd, hp⟩
  cases c with
  | nx e =>
    cases hd
    exact fun σ' H' ok' => fin (ok'.imm (k := kr) .non rfl)
  | rt d' =>
    cases hd
    exact fun v H' ok' => fin ok'
  | bk e => cases hd
  | ct e => cases hd
end

/-! ### calls -/
mutual
/-- below the first k levels stands no list, no dict -/
def immAt : Nat → D → Bool
  | 0, d => d.imm
  | k + 1, .lst ds => immAtL k ds
  | k + 1, .tup ds => immAtL k ds
  | k + 1, .dk _ ds => immAtL k ds
  | k + 1, .dt _ ds => immAtL k ds
  | _ + 1, _ => true
def immAtL : Nat → List D → Bool
  | _, [] => true
  | k, d :: ds => immAt k d && immAtL k ds
end
mutual
theorem Od.toImm {G G' H : Hp} (hT : ∀ a u, isIm u = true → G a = some u → G' a = some u) : ∀ {k : Nat} {f : List Addr} {v : V} {d : D}, Od G H k f v d → immAt k d = true → Od G' H k f v d
  | 0, _, _, _, .sh h r, e => .sh h (r.immTo hT (by simpa [immAt] using e))
  | k + 1, _, _, _, .sh h r, e => by
    rcases h with h | h
    · cases h
    · exact .sh (.inr h) (r.immTo hT h)
  | _, _, _, _, .lst h r, e => .lst h (OdAll.toImm hT r (by simpa [immAt] using e))
  | _, _, _, _, .tup h r, e => .tup h (OdAll.toImm hT r (by simpa [immAt] using e))
  | _, _, _, _, .dk h e1 r, e => .dk h e1 (OdAll.toImm hT r (by simpa [immAt] using e))
  | _, _, _, _, .dt h e1 r, e => .dt h e1 (OdAll.toImm hT r (by simpa [immAt] using e))
theorem OdAll.toImm {G G' H : Hp} (hT : ∀ a u, isIm u = true → G a = some u → G' a = some u) : ∀ {k : Nat} {f : List Addr} {v : List V} {d : List D}, OdAll G H k f v d → immAtL k d = true → OdAll G' H k f v d
  | _, _, _, _, .nil, _ => .nil
  | _, _, _, _, .cons h r, e => by
    rw [immAtL, Bool.and_eq_true] at e
    exact .cons (Od.toImm hT h e.1) (OdAll.toImm hT r e.2)
end
theorem Good.ne {B : Bs} {G H : Hp} (g : Good B G H) {a : Addr} {u : HO} (e : G a = some u) : H a ≠ none := fun z => by
  have := g.gs a u e
  rw [view_none z] at this
  cases this
/-- what has come of a call, its arguments read -/
theorem EnvOk.retB {B : Bs} {H H' : Hp} {env : Env} {σ : St} {tm : List Hold} {kr : Nat} {v : V} {d : D} (ok : EnvOk B H env σ tm) (r : RetOk kr (view H) H H' v d) (hi : immAt kr d = true) : Ext H H' ∧ EnvOk B H' env σ ((v, kr, d) :: tm) := by
  obtain ⟨G', f, g, od, nd, hf⟩ := r.ex
  have x : Ext H H' := g.bs
  refine ⟨x, ?_⟩
  refine ok.grow x ok.bnone [(v, kr, d)] fun G1 g1 => ?_
  refine ⟨fun a => if H a = none then G' a else G1 a, f, fun a u e => ?_, fun a e => if_neg e, ⟨fun a o e => x a o (g1.bs a o e), fun a e => ?_, fun a u e => ?_, fun a xs im e => ?_, g.nf⟩, ?_, nd, fun p hp => ?_⟩
  · show (if H a = none then G' a else G1 a) = some u
    rw [if_neg (g1.ne e)]; exact e
  · show (if H a = none then G' a else G1 a) = _
    have : H a ≠ none := fun z => e (ok.bnone a z)
    rw [if_neg this]; exact g1.g0 a e
  · have e' : (if H a = none then G' a else G1 a) = some u := e
    split at e'
    · exact g.gs a u e'
    · exact view_ext x a u (g1.gs a u e')
  · show (if H a = none then G' a else G1 a) = _
    split
    · exact g.gt a xs im e
    · rename_i hn
      cases q : H a with
      | none => exact absurd q hn
      | some o =>
        have e2 : H' a = some o := x a o q
        refine g1.gt a xs im ?_
        unfold view at e ⊢
        rw [q]; rw [e2] at e; exact e
  · refine HoldAll.cons (f := f) (g := []) (od.toImm (fun a xs im e => ?_) hi) .nil |> fun h => by rw [List.append_nil] at h; exact h
    show (if H a = none then G' a else G1 a) = _
    split
    · exact e
    · rename_i hn
      have e1 : G' a = view H a := g.g0 a hn
      exact g1.gt a xs im (e1.symm.trans e)
  · refine ⟨(hf p hp).1, ?_⟩
    show (if H p = none then G' p else G1 p) = _
    rw [if_pos (hf p hp).1]; exact (hf p hp).2
/-- .. its arguments shared -/
theorem EnvOk.ret0 {B : Bs} {H H' : Hp} {env : Env} {σ : St} {tm : List Hold} {kr : Nat} {vs : List V} {ds : List D} (hl : vs.length = ds.length) (ok : EnvOk B H env σ (lev 0 vs ds ++ tm)) :
    ∃ G, Good ⟨H, G⟩ G H ∧ RpAll G vs ds ∧ ∀ H' v d, RetOk kr G H H' v d → Ext H H' ∧ EnvOk B H' env σ ((v, kr, d) :: tm) := by
  have h2 := ok.len
  have h3 := ok.has
  obtain ⟨G1, f, g, hg, hf, hr, nd, hq⟩ := ok.apart
  have hf' : HoldAll G1 H (lev 0 vs ds ++ []) f := by rw [List.append_nil]; exact hf
  obtain ⟨f1, f2, e, ha, hn⟩ := HoldAll.toAll hl hf'
  cases hn
  rw [List.append_nil] at e
  subst e
  have ra : ∀ {f : List Addr} {vs : List V} {ds : List D}, OdAll G1 H 0 f vs ds → RpAll G1 vs ds := fun {f vs ds} r => by
    induction vs generalizing ds f with
    | nil => cases r; exact .nil
    | cons v vs ih => cases r with | cons h r => exact .cons h.zero.2 (ih r)
  refine ⟨G1, ⟨fun _ _ e => e, fun _ _ => rfl, hg.gs, hg.gt, hg.nf⟩, ra ha, fun H' v d r => ?_⟩
  obtain ⟨G', fr, gr, od, ndr, hfr⟩ := r.ex
  have x : Ext H H' := gr.bs
  refine ⟨x, ?_⟩
  have hG : ∀ a u, G1 a = some u → G' a = some u := fun a u e => (gr.g0 a (hg.ne e)).trans e
  have hrm := hr.mu
  refine EnvOk.join (l := [(v, kr, d)]) (G := G') (f := fr) (g := g) h2 h3 ⟨fun a o e => x a o (hg.bs a o e), fun a e => ?_, gr.gs, gr.gt, gr.nf⟩ ?_ (hr.frame hG fun a u e _ => x a u e) ?_ ?_
  · have : H a ≠ none := fun z => e (ok.bnone a z)
    exact (gr.g0 a this).trans (hg.g0 a e)
  · have := HoldAll.cons od (.nil (G := G') (H := H'))
    rw [List.append_nil] at this; exact this
  · refine List.nodup_append.mpr ⟨ndr, (List.nodup_append.mp nd).2.1, fun a m1 b m2 e => ?_⟩
    subst e
    obtain ⟨u, e, _⟩ := hrm a m2
    rw [(hfr a m1).1] at e; cases e
  · intro p m
    rcases List.mem_append.mp m with m | m
    · exact ⟨ok.bnone p (hfr p m).1, (hfr p m).2⟩
    · obtain ⟨u, e, _⟩ := hrm p m
      refine ⟨(hq p (List.mem_append_right _ m)).1, ?_⟩
      have : H p ≠ none := by rw [e]; simp
      exact (gr.g0 p this).trans (hq p (List.mem_append_right _ m)).2
section
variable {X : Cx} {e a b : Expr} {es : List Expr} {m ma mb : Env → Res D} {ms : Env → Res (List D)} {k kr n : Nat} {cs : List Nat} {pos p : Pos} {x : Str} {F : List D → Res D} {j : Nat} {f : Addr} {fd : FuncData} {ps : List Str}
/-- f(..), its arguments read, its worth owned to the level kr -/
def mCall (kr : Nat) (F : List D → Res D) (ms : Env → Res (List D)) : Env → Res D := fun env => ms env >>= fun ds => F ds >>= fun d => if immAt kr d then .ok d else .bad
theorem se_call (Fo : FnOk X.prog X.w X.K X.mg X.base CX0 j f fd ps (spF kr n F)) (hr : Room j X.A) (hg : Gl X x) (hm : X.mg x = some (.ref f)) (hk : PySem.W.keepIn X.K (.ref f) = true) (hb : Binds X.K fd ps [])
    (ha : SAB X (e :: es) ms) (hdb : (x == ("__debug__" : Str)) = false := by decide) (he : starEach (e :: es) X.env = (false, eval e X.env) :: starEach es X.env := by rfl) (hpl : (backTo pos (starEach es X.env)).any (·.1) = false := by rfl) (hl : ∀ env ds, ms env = .ok ds → ds.length = n) :
    SE X kr [] (.Call (.Name x p) (e :: es) [] pos) (mCall kr F ms) := fun B H env σ tm d Q ok hm' q => by
  obtain ⟨ds, hds, h2⟩ := bind_ok hm'
  obtain ⟨d', hF, h3⟩ := bind_ok h2
  split at h3
  · rename_i hi
    cases h3
    refine wE_of (pe_call Fo hr hg hm hk hb .nil pass0 pa_sem hdb he hpl) (ha B H env σ tm ds _ ok hds fun vs H1 x1 ok1 ra => ?_)
    rw [List.append_nil]
    refine ⟨by rw [ra.length]; exact hl _ _ hds, view H1, ds, _, ⟨fun _ _ e => e, fun _ _ => rfl, fun _ _ e => e, fun _ _ _ e => e, fun a xs im e => ok1.imAt im e⟩, ra, hF, fun v H' r => ?_⟩
    obtain ⟨x2, ok2⟩ := ok1.retB r hi
    exact q v H' (x1.trans x2) ok2
  · cases h3
theorem sab_len {ms : Env → Res (List D)} : ∀ {n : Nat}, (∀ env ds, ms env = .ok ds → ds.length = n) → ∀ {m : Env → Res D}, ∀ env ds, mConsA m ms env = .ok ds → ds.length = n + 1 := fun {n} h {m} env ds hm => by
  obtain ⟨y, _, h2⟩ := bind_ok hm
  obtain ⟨ys, h3, h4⟩ := bind_ok h2
  cases h4
  simp [h env ys h3]
theorem sab_len0 : ∀ env ds, mNilA env = .ok ds → ds.length = 0 := fun env ds h => by cases h; rfl
end
end Mir

namespace Mir
open PySem PySem.Spec L2

/-! ### dicts in the mirror -/
section
variable {κ : Type} [DecidableEq κ]
def dFind : List κ → List D → κ → Option D
  | k :: ks, d :: ds, x => if k = x then some d else dFind ks ds x
  | _, _, _ => none
def dPutK (ks : List κ) (x : κ) : List κ := if x ∈ ks then ks else ks ++ [x]
def dPutD : List κ → List D → κ → D → List D
  | k :: ks, d :: ds, x, y => (if k = x then y else d) :: dPutD ks ds x y
  | _, _, _, _ => []
def dPutV (ks : List κ) (ds : List D) (x : κ) (y : D) : List D := if x ∈ ks then dPutD ks ds x y else ds ++ [y]
theorem find_rp {G : Hp} : ∀ {kvs : List (κ × V)} {ds : List D} {x : κ}, RpAll G (kvs.map (·.2)) ds → (dFind (kvs.map (·.1)) ds x = none → valV kvs x = none) ∧ ∀ d, dFind (kvs.map (·.1)) ds x = some d → ∃ v, valV kvs x = some v ∧ Rp G v d
  | [], _, _, _ => ⟨fun _ => rfl, fun d h => by simp [dFind] at h⟩
  | (k, v) :: kvs, [], _, r => by cases r
  | (k, v) :: kvs, d :: ds, x, r => by
    cases r with
    | cons h r =>
      have ih := find_rp (kvs := kvs) (ds := ds) (x := x) r
      by_cases e : k = x
      · subst e
        refine ⟨fun h' => ?_, fun d' h' => ⟨v, ?_, ?_⟩⟩
        · have : (if k = k then some d else _) = none := h'
          rw [if_pos rfl] at this; cases this
        · unfold valV; simp
        · have : (if k = k then some d else _) = some d' := h'
          rw [if_pos rfl] at this; cases this; exact h
      · have e1 : valV ((k, v) :: kvs) x = valV kvs x := by unfold valV; simp [List.find?_cons, e]
        have e2 : dFind (((k, v) :: kvs).map (·.1)) (d :: ds) x = dFind (kvs.map (·.1)) ds x := if_neg e
        rw [e1, e2]
        exact ih
theorem putK_keys (kvs : List (κ × V)) (x : κ) (v : V) : (putK kvs x v).map (·.1) = dPutK (kvs.map (·.1)) x := by
  unfold putK dPutK
  by_cases h : x ∈ kvs.map (·.1)
  · have h' : (kvs.any fun kv => decide (kv.1 = x)) = true := by
      obtain ⟨p, hp, e⟩ := List.mem_map.mp h
      exact List.any_eq_true.mpr ⟨p, hp, decide_eq_true e⟩
    rw [if_pos h', if_pos h, List.map_map]
    refine List.map_congr_left fun p _ => ?_
    by_cases e : p.1 = x
    · simp [e]
    · simp [e]
  · have h' : ¬ (kvs.any fun kv => decide (kv.1 = x)) = true := fun q => by
      obtain ⟨p, hp, e⟩ := List.any_eq_true.mp q
      exact h (List.mem_map.mpr ⟨p, hp, of_decide_eq_true e⟩)
    rw [if_neg h', if_neg h]
    simp
theorem putV_len {ks : List κ} {ds : List D} {x : κ} {y : D} (h : ks.length = ds.length) : (dPutK ks x).length = (dPutV ks ds x y).length := by
  unfold dPutK dPutV
  have : ∀ (ks : List κ) (ds : List D), ks.length = ds.length → ks.length = (dPutD ks ds x y).length := fun ks ds h => by
    induction ks generalizing ds with
    | nil => rfl
    | cons k ks ih =>
      cases ds with
      | nil => simp at h
      | cons d ds => simp [dPutD, ih ds (by simpa using h)]
  by_cases e : x ∈ ks
  · rw [if_pos e, if_pos e]; exact this ks ds h
  · rw [if_neg e, if_neg e]; simp [h]
theorem putK_len' {kvs : List (κ × V)} {x : κ} {v : V} : (putK kvs x v).length = (dPutK (kvs.map (·.1)) x).length := by
  rw [← putK_keys kvs x v, List.length_map]
/-- the values behind a store: old ones or the new one -/
theorem putK_sel : ∀ {kvs : List (κ × V)} {ds : List D} {x : κ} {v : V} {y : D}, kvs.length = ds.length → Sel (kvs.map (·.2) ++ [v]) (ds ++ [y]) ((putK kvs x v).map (·.2)) (dPutV (kvs.map (·.1)) ds x y) := by
  intro kvs ds x v y hl
  have hlen : ((putK kvs x v).map (·.2)).length = (dPutV (kvs.map (·.1)) ds x y).length := by
    rw [List.length_map, putK_len', putV_len (by simpa using hl)]
  refine ⟨hlen, fun i w e h1 h2 => ?_⟩
  unfold putK at h1
  unfold dPutV at h2
  by_cases h : x ∈ kvs.map (·.1)
  · have h' : (kvs.any fun kv => decide (kv.1 = x)) = true := by
      obtain ⟨p, hp, e⟩ := List.mem_map.mp h
      exact List.any_eq_true.mpr ⟨p, hp, decide_eq_true e⟩
    rw [if_pos h', List.map_map] at h1
    rw [if_pos h] at h2
    have key : ∀ (kvs : List (κ × V)) (ds : List D) (i : Nat), kvs.length = ds.length → (kvs.map ((·.2) ∘ fun kv => if kv.1 = x then (kv.1, v) else kv))[i]? = some w → (dPutD (kvs.map (·.1)) ds x y)[i]? = some e → (w = v ∧ e = y) ∨ ((kvs.map (·.2))[i]? = some w ∧ ds[i]? = some e) := by
      intro kvs
      induction kvs with
      | nil => intro ds i _ q; simp at q
      | cons p kvs ih =>
        intro ds i hl q1 q2
        cases ds with
        | nil => simp at hl
        | cons d ds =>
          cases i with
          | zero =>
            simp [dPutD] at q1 q2
            by_cases e1 : p.1 = x
            · rw [if_pos e1] at q1 q2; exact .inl ⟨q1.symm, q2.symm⟩
            · rw [if_neg e1] at q1 q2; exact .inr ⟨by simp [q1], by simp [q2]⟩
          | succ i =>
            have := ih ds i (by simpa using hl) (by simpa using q1) (by simpa [dPutD] using q2)
            exact this.imp id fun z => ⟨by simpa using z.1, by simpa using z.2⟩
    rcases key kvs ds i hl h1 h2 with ⟨rfl, rfl⟩ | ⟨a1, a2⟩
    · exact ⟨kvs.length, by simp, by rw [hl]; simp⟩
    · have hi : i < ds.length := (List.getElem?_eq_some_iff.mp a2).1
      exact ⟨i, by rw [List.getElem?_append_left (by simp; omega)]; exact a1, by rw [List.getElem?_append_left hi]; exact a2⟩
  · have h' : ¬ (kvs.any fun kv => decide (kv.1 = x)) = true := fun q => by
      obtain ⟨p, hp, e⟩ := List.any_eq_true.mp q
      exact h (List.mem_map.mpr ⟨p, hp, of_decide_eq_true e⟩)
    rw [if_neg h'] at h1
    rw [if_neg h] at h2
    exact ⟨i, by simpa using h1, h2⟩
end
/-- keys -/
def keyOf : D → Option Key
  | .int i => some (.inl i)
  | .str z => some (.inr z)
  | _ => none
def keysOf : List D → Option (List Key)
  | [] => some []
  | d :: ds => match keyOf d, keysOf ds with
    | some k, some ks => some (k :: ks)
    | _, _ => none
def keyT : D → Option (List Key)
  | .tup ds => keysOf ds
  | _ => none
theorem keyOf_rp {G : Hp} {v : V} {d : D} {k : Key} (r : Rp G v d) (h : keyOf d = some k) : v = kV k := by
  cases r with
  | int i => cases h; rfl
  | str z => cases h; rfl
  | _ => simp [keyOf] at h
theorem keysOf_rp {G : Hp} : ∀ {vs : List V} {ds : List D} {ks : List Key}, RpAll G vs ds → keysOf ds = some ks → vs = ks.map kV
  | _, _, ks, .nil, h => by cases h; rfl
  | _, _, ks, .cons (d := d) (ds := ds) hr r, h => by
    unfold keysOf at h
    split at h
    · rename_i k ks' h1 h2
      cases h
      rw [keyOf_rp hr h1, keysOf_rp r h2]; rfl
    · cases h
theorem keyT_rp {B : Bs} {H : Hp} {env : Env} {σ : St} {tm : List Hold} {v : V} {d : D} {k : List Key} (ok : EnvOk B H env σ tm) (r : Rp (view H) v d) (h : keyT d = some k) : ∃ b, v = .ref b ∧ H b = some (.tup (k.map kV)) := by
  cases r with
  | tup hv ra => exact ⟨_, rfl, by rw [← keysOf_rp ra h]; exact ok.tupAt hv⟩
  | _ => simp [keyT] at h
/-- what a dict holds at a key: none where the key isn't one -/
def dGet : D → D → Option (Option D)
  | .dk ks ds, key => (keyOf key).map fun k => dFind ks ds k
  | .dt ks ds, key => (keyT key).map fun k => dFind ks ds k
  | _, _ => none
theorem dGet_rp {B : Bs} {H : Hp} {env : Env} {σ : St} {tm : List Hold} {v y : V} {d key : D} {o : Option D} (ok : EnvOk B H env σ tm) (r : Rp (view H) v d) (ry : Rp (view H) y key) (h : dGet d key = some o) :
    ∃ a ov, v = .ref a ∧ IsD H a ∧ DGet H a y ov ∧ (o = none → ov = none) ∧ ∀ x, o = some x → ∃ w, ov = some w ∧ Rp (view H) w x := by
  unfold dGet at h
  split at h
  · rename_i ks ds
    cases r with
    | @dk a kvs _ _ hv ek ra =>
      subst ek
      cases hk : keyOf key with
      | none => rw [hk] at h; cases h
      | some k =>
        rw [hk] at h
        cases h
        obtain ⟨f1, f2⟩ := find_rp (x := k) ra
        exact ⟨a, valV kvs k, rfl, .inl ⟨_, view_rd hv⟩, .inl ⟨kvs, k, view_rd hv, keyOf_rp ry hk, rfl⟩, f1, f2⟩
  · rename_i ks ds
    cases r with
    | @dt a kvs _ _ hv ek ra =>
      subst ek
      cases hk : keyT key with
      | none => rw [hk] at h; cases h
      | some k =>
        rw [hk] at h
        cases h
        obtain ⟨f1, f2⟩ := find_rp (x := k) ra
        obtain ⟨b, eb, hb⟩ := keyT_rp ok ry hk
        exact ⟨a, valV kvs k, rfl, .inr ⟨_, view_rd hv⟩, .inr ⟨kvs, k, b, view_rd hv, eb, hb, rfl⟩, f1, f2⟩
  · cases h
section
variable {X : Cx} {e o i a b : Expr} {m ma mb md mk : Env → Res D} {k kr : Nat} {cs : List Nat} {pos cpos apos : Pos}
/-- d[k] -/
def gDGet (d key : D) : Res D := match dGet d key with
  | some (some x) => .ok x
  | _ => .bad
theorem sb_dget (hu : X.A.units + 1 < cLine) (ho : SB X o md) (hi : SB X i mk) (hs : NoSl i) : SB X (.Subscript o i pos) (mOp gDGet md mk) := fun B H env σ tm d Q ok hm q => by
  obtain ⟨x, y, hx, hy, hg⟩ := two hm
  refine wE_of (pe_dget hu pe_sem pe_sem hs) (sb2 ho hi ok hx hy fun v u H' x' ok' r1 r2 => ?_)
  unfold gDGet at hg
  split at hg
  · rename_i z hz
    cases hg
    obtain ⟨p, ov, rfl, _, g, _, f2⟩ := dGet_rp ok' r1 r2 hz
    obtain ⟨w, rfl, rw'⟩ := f2 _ rfl
    exact ⟨p, w, rfl, g, q w H' x' ok' rw'⟩
  · cases hg
/-- k in d, k not in d -/
def gDIn (key d : D) : Res D := match dGet d key with
  | some o => .ok (.bl o.isSome)
  | none => .bad
def gDNotIn (key d : D) : Res D := match dGet d key with
  | some o => .ok (.bl (!o.isSome))
  | none => .bad
theorem some_eq {o : Option D} {ov : Option V} (h1 : o = none → ov = none) (h2 : ∀ x, o = some x → ∃ w, ov = some w ∧ True) : ov.isSome = o.isSome := by
  cases o with
  | none => rw [h1 rfl]; rfl
  | some x => obtain ⟨w, rfl, _⟩ := h2 x rfl; rfl
theorem din_core {x y d : D} {B : Bs} {H : Hp} {env : Env} {σ : St} {tm : List Hold} (hg : gDIn x y = .ok d) {v u : V} (ok' : EnvOk B H env σ tm) (r1 : Rp (view H) v x) (r2 : Rp (view H) u y) : ∃ a o, u = .ref a ∧ DGet H a v o ∧ d = .bl o.isSome := by
  unfold gDIn at hg
  split at hg
  · rename_i z hz
    cases hg
    obtain ⟨p, ov, rfl, _, g, f1, f2⟩ := dGet_rp ok' r2 r1 hz
    refine ⟨p, ov, rfl, g, ?_⟩
    rw [some_eq f1 fun x e => let ⟨w, a, _⟩ := f2 x e; ⟨w, a, trivial⟩]
  · cases hg
theorem dnotin_core {x y d : D} {B : Bs} {H : Hp} {env : Env} {σ : St} {tm : List Hold} (hg : gDNotIn x y = .ok d) {v u : V} (ok' : EnvOk B H env σ tm) (r1 : Rp (view H) v x) (r2 : Rp (view H) u y) : ∃ a o, u = .ref a ∧ DGet H a v o ∧ d = .bl (!o.isSome) := by
  unfold gDNotIn at hg
  split at hg
  · rename_i z hz
    cases hg
    obtain ⟨p, ov, rfl, _, g, f1, f2⟩ := dGet_rp ok' r2 r1 hz
    refine ⟨p, ov, rfl, g, ?_⟩
    rw [some_eq f1 fun x e => let ⟨w, a, _⟩ := f2 x e; ⟨w, a, trivial⟩]
  · cases hg
theorem sc_din (hu : X.A.units + 1 < cLine) (hi : SB X i mk) (ho : SB X o md) (h1 : behindInMarks .In o = false := by rfl) : SC X (.Compare i [.In] [o] pos) (mOp gDIn mk md) := fun B H env σ tm d Q ok hm q => by
  obtain ⟨x, y, hx, hy, hg⟩ := two hm
  refine wE_of (pe_cmp (pc_din hu pe_sem pe_sem) h1) (sb2 hi ho ok hx hy fun v u H' x' ok' r1 r2 => ?_)
  obtain ⟨p, ov, rfl, g, rfl⟩ := din_core hg ok' r1 r2
  exact ⟨p, ov, rfl, g, q _ H' x' ok' (.bl _) rfl⟩
theorem sc_dnotin (hu : X.A.units + 1 < cLine) (hi : SB X i mk) (ho : SB X o md) (h1 : behindInMarks .NotIn o = false := by rfl) : SC X (.Compare i [.NotIn] [o] pos) (mOp gDNotIn mk md) := fun B H env σ tm d Q ok hm q => by
  obtain ⟨x, y, hx, hy, hg⟩ := two hm
  refine wE_of (pe_cmp (pc_dnotin hu pe_sem pe_sem) h1) (sb2 hi ho ok hx hy fun v u H' x' ok' r1 r2 => ?_)
  obtain ⟨p, ov, rfl, g, rfl⟩ := dnotin_core hg ok' r1 r2
  exact ⟨p, ov, rfl, g, q _ H' x' ok' (.bl _) rfl⟩
theorem st_din (hu : X.A.units + 1 < cLine) (hi : SB X i mk) (ho : SB X o md) (h1 : behindInMarks .In o = false := by rfl) : ST X (.Compare i [.In] [o] pos) (mTb (mOp gDIn mk md)) := fun B H env σ tm d Q ok hm q => by
  obtain ⟨z, hz, hd⟩ := bind_ok hm
  have hd' := toB_ok hd
  subst hd'
  obtain ⟨x, y, hx, hy, hg⟩ := two hz
  refine wT_of (pt_cmp (pc_din hu pe_sem pe_sem) h1) (sb2 hi ho ok hx hy fun v u H' x' ok' r1 r2 => ?_)
  obtain ⟨p, ov, rfl, g, e⟩ := din_core hg ok' r1 r2
  cases e
  exact ⟨p, ov, rfl, g, _, rfl, q H' x' ok'⟩
theorem st_dnotin (hu : X.A.units + 1 < cLine) (hi : SB X i mk) (ho : SB X o md) (h1 : behindInMarks .NotIn o = false := by rfl) : ST X (.Compare i [.NotIn] [o] pos) (mTb (mOp gDNotIn mk md)) := fun B H env σ tm d Q ok hm q => by
  obtain ⟨z, hz, hd⟩ := bind_ok hm
  have hd' := toB_ok hd
  subst hd'
  obtain ⟨x, y, hx, hy, hg⟩ := two hz
  refine wT_of (pt_cmp (pc_dnotin hu pe_sem pe_sem) h1) (sb2 hi ho ok hx hy fun v u H' x' ok' r1 r2 => ?_)
  obtain ⟨p, ov, rfl, g, e⟩ := dnotin_core hg ok' r1 r2
  cases e
  exact ⟨p, ov, rfl, g, _, rfl, q H' x' ok'⟩
/-- d.get(k, x): what it tells may be read -/
def mGet2 (md mk m : Env → Res D) : Env → Res D := fun env => md env >>= fun d => mk env >>= fun y => m env >>= fun z => match dGet d y with
  | some o => .ok (o.getD z)
  | none => .bad
theorem sb_get2 (hu : X.A.units + 1 < cLine) (ho : SB X o md) (he : SB X a mk) (hf : SB X b m) (mm : M2 X o "get" apos a b cpos) : SB X (.Call (.Attribute o "get" apos) [a, b] [] cpos) (mGet2 md mk m) := fun B H env σ tm d Q ok hm q => by
  obtain ⟨x, hx, h2⟩ := bind_ok hm
  obtain ⟨y, hy, h3⟩ := bind_ok h2
  obtain ⟨z, hz, h4⟩ := bind_ok h3
  split at h4
  · rename_i oo ho'
    cases h4
    refine wE_of (pe_dget2 hu pe_sem pe_sem pe_sem mm) (ho B H env σ tm x _ ok hx fun v H1 x1 ok1 r1 => ?_)
    have isd : ∃ p, v = .ref p ∧ IsD H1 p := by
      cases r1 with
      | dk hv => exact ⟨_, rfl, .inl ⟨_, view_rd hv⟩⟩
      | dt hv => exact ⟨_, rfl, .inr ⟨_, view_rd hv⟩⟩
      | _ => simp [dGet] at ho'
    obtain ⟨p, rfl, hp⟩ := isd
    refine ⟨p, rfl, hp, he B H1 env σ tm y _ ok1 hy fun u H2 x2 ok2 r2 => hf B H2 env σ tm z _ ok2 hz fun w H3 x3 ok3 r3 => ?_⟩
    obtain ⟨p', ov, e, _, g, f1, f2⟩ := dGet_rp ok3 (x3.rp (x2.rp r1)) (x3.rp r2) ho'
    cases e
    refine ⟨ov, g, q _ H3 (x1.trans (x2.trans x3)) ok3 ?_⟩
    cases oo with
    | none => rw [f1 rfl]; exact r3
    | some t => obtain ⟨w', rfl, rw'⟩ := f2 t rfl; exact rw'
  · cases h4
/-- {} -/
theorem se_dnewK : SE X (k + 1) [] (.Dict [] [] pos) (mC (.dk [] [])) := fun B H env σ tm d Q ok hm q => by
  cases hm
  exact wE_of pe_dnewK fun p hp => q _ _ (Ext.upd hp) (EnvOk.newDk (kvs := []) (ds := []) ok rfl rfl hp)
theorem se_dnewT : SE X (k + 1) [] (.Dict [] [] pos) (mC (.dt [] [])) := fun B H env σ tm d Q ok hm q => by
  cases hm
  exact wE_of pe_dnewT fun p hp => q _ _ (Ext.upd hp) (EnvOk.newDt (kvs := []) (ds := []) ok rfl rfl hp)

/-! ### what a slot holds is changed -/
theorem EnvOk.slotMu {B : Bs} {H : Hp} {env : Env} {σ : St} {tm : List Hold} {j : Nat} {d : D} (ok : EnvOk B H env σ tm) (e : env[j]? = some (some (k + 1, d))) (im : d.imm = false) : ∃ p, σ[j]? = some (some (.ref p)) ∧ EnvOk B H (env.set j none) σ ((.ref p, k + 1, d) :: tm) := by
  obtain ⟨v, hv⟩ := ok.has j _ e
  have ok1 := ok.move e hv
  obtain ⟨p, rfl⟩ := ok1.isRef im
  exact ⟨p, hv, ok1⟩
theorem EnvOk.putBack {B : Bs} {H : Hp} {env : Env} {σ : St} {tm : List Hold} {j : Nat} {d d0 : D} {v : V} (hj : env[j]? = some (some (k, d0))) (hv : σ[j]? = some (some v)) (ok : EnvOk B H (env.set j none) σ ((v, k, d) :: tm)) : EnvOk B H (env.set j (some (k, d))) σ tm := by
  have hi : j < env.length := (List.getElem?_eq_some_iff.mp hj).1
  have h1 := ok.store (i := j) (by simpa using hi)
  rw [List.set_set, set_self hv] at h1
  exact h1
/-- the slot's list, the hand -/
def atL (env : Env) (j k : Nat) : Res (List D) := match env[j]? with
  | some (some (k', .lst ds)) => if k' = k then .ok ds else .bad
  | _ => .bad
theorem atL_ok {env : Env} {j k : Nat} {ds : List D} (h : atL env j k = .ok ds) : env[j]? = some (some (k, .lst ds)) := by
  unfold atL at h
  split at h
  · rename_i k' ds' he
    split at h
    · rename_i ek
      subst ek
      cases h
      exact he
    · cases h
  · cases h
theorem clear_some {env : Env} {cs : List Nat} {j : Nat} {kd : Nat × D} (h : (clear env cs)[j]? = some (some kd)) : env[j]? = some (some kd) := by
  induction cs generalizing env with
  | nil => exact h
  | cons c cs ih =>
    have h1 := ih h
    rw [List.getElem?_set] at h1
    split at h1
    · split at h1 <;> cases h1
    · exact h1
/-- x.append(e) -/
def mAppend (j k : Nat) (cs : List Nat) (m : Env → Res D) : Env → Res Ctl := fun env => m env >>= fun d => atL (clear env cs) j (k + 1) >>= fun ds =>
  if ds.length < sizeLine then .ok (.nx ((clear env cs).set j (some (k + 1, .lst (ds ++ [d]))))) else .bad
theorem s_append {j : Nat} (hx : PE X o (tVar j)) (he : SE X k cs e m)
    (hbase : attributeBase o "append" X.env (eval o X.env) = eval o X.env := by rfl)
    (hfew : ((backTo cpos (starEach [e] X.env)).all (fun x => !x.1) && (backToKw cpos (keywordEach [] X.env)).all (fun x => x.1.isSome)
      && decide ([e].length + ([] : List Keyword).length + (if ([] : List Keyword).isEmpty then 0 else 1) < 30)) = true := by rfl)
    (hline : (apos.endLine == cpos.line) = true := by rfl) (hs : starEach [e] X.env = (false, eval e X.env) :: starEach [] X.env := by rfl) (hplain : (backTo cpos (starEach [] X.env)).any (·.1) = false := by rfl)
    (hsw : swapsWith (.Call (.Attribute o "append" apos) [e] [] cpos) none pos.line X.env = pure false := by rfl) : S1 X kr (.Expr (.Call (.Attribute o "append" apos) [e] [] cpos) pos) (mAppend j k cs m) := fun B H env σ tm D r ok hm p => by
  obtain ⟨d, hd, h2⟩ := bind_ok hm
  obtain ⟨ds, hds, h3⟩ := bind_ok h2
  split at h3
  · rename_i hl
    cases h3
    have he1 := atL_ok hds
    obtain ⟨v, hv, rv⟩ := ok.slot (clear_some he1)
    refine wS_of (ps_expr (pe_bm F.plainAttrs_list F.slot_list_append F.type_list_append mt_append hx (pa_cons pe_sem pa_nil hs) hbase hfew hline hs hplain) hsw) ?_
    refine ⟨v, hv, ?_⟩
    cases rv with
    | @lst q vs0 _ hq ra0 =>
      refine ⟨.inl ⟨rfl, _, .inl (view_rd hq)⟩, ?_⟩
      refine he B H env σ tm d _ ok hd fun w H1 x1 ok1 => ?_
      obtain ⟨q', hv', ok2⟩ := ok1.slotMu he1 rfl
      rw [hv] at hv'
      cases hv'
      obtain ⟨vs, hL, hvl, ok3⟩ := ok2.takeLst
      refine ⟨q, vs, w, rfl, rfl, hL, by omega, ?_⟩
      have ok4 : EnvOk B (del H1 q) ((clear env cs).set j none) σ (lev k (vs ++ [w]) (ds ++ [d]) ++ tm) := by
        rw [lev_append [w] [d] hvl, List.append_assoc]
        exact ok3
      have ok5 := ok4.newLst (p := q) (by simp [hvl]) del_self
      rw [upd_del] at ok5
      exact p σ _ (ok5.putBack he1 hv)
  · cases h3
/-- x.extend(e) -/
def mExtend (j k : Nat) (m : Env → Res (List D)) : Env → Res Ctl := fun env => m env >>= fun es => atL env j (k + 1) >>= fun ds =>
  if ds.length + es.length ≤ sizeLine then .ok (.nx (env.set j (some (k + 1, .lst (ds ++ es))))) else .bad
theorem s_extend {j : Nat} {mm : Env → Res (List D)} (hx : PE X o (tVar j)) (he : SL X k .lst e mm)
    (hbase : attributeBase o "extend" X.env (eval o X.env) = eval o X.env := by rfl)
    (hfew : ((backTo cpos (starEach [e] X.env)).all (fun x => !x.1) && (backToKw cpos (keywordEach [] X.env)).all (fun x => x.1.isSome)
      && decide ([e].length + ([] : List Keyword).length + (if ([] : List Keyword).isEmpty then 0 else 1) < 30)) = true := by rfl)
    (hline : (apos.endLine == cpos.line) = true := by rfl) (hs : starEach [e] X.env = (false, eval e X.env) :: starEach [] X.env := by rfl) (hplain : (backTo cpos (starEach [] X.env)).any (·.1) = false := by rfl)
    (hsw : swapsWith (.Call (.Attribute o "extend" apos) [e] [] cpos) none pos.line X.env = pure false := by rfl) : S1 X kr (.Expr (.Call (.Attribute o "extend" apos) [e] [] cpos) pos) (mExtend j k mm) := fun B H env σ tm D r ok hm p => by
  obtain ⟨es, hd, h2⟩ := bind_ok hm
  obtain ⟨ds, hds, h3⟩ := bind_ok h2
  split at h3
  · rename_i hl
    cases h3
    have he1 := atL_ok hds
    obtain ⟨v, hv, rv⟩ := ok.slot he1
    refine wS_of (ps_expr (pe_bm F.plainAttrs_list F.slot_list_extend F.type_list_extend mt_extR hx (pa_cons pe_sem pa_nil hs) hbase hfew hline hs hplain) hsw) ?_
    refine ⟨v, hv, ?_⟩
    cases rv with
    | @lst q vs0 _ hq ra0 =>
      refine ⟨.inl ⟨rfl, _, .inl (view_rd hq)⟩, ?_⟩
      refine he B H env σ tm es _ ok hd fun w ws H1 ex x1 hw hwl raw ok1 pk => ?_
      have okp := pk H1 env σ tm (Ext.refl _) ok1 _ _ (sel_refl hwl)
      obtain ⟨q', hv', ok2⟩ := okp.slotMu he1 rfl
      rw [hv] at hv'
      cases hv'
      obtain ⟨vs, hL, hvl, ok3⟩ := ok2.takeLst
      refine ⟨q, w, vs, ws, rfl, rfl, hL, view_rd hw, by omega, ?_⟩
      have ok4 : EnvOk B (del H1 q) (env.set j none) σ (lev k (vs ++ ws) (ds ++ es) ++ (ex ++ tm)) := by
        rw [lev_append ws es hvl, List.append_assoc]
        exact ok3
      have ok5 := ok4.newLst (p := q) (by simp [hvl, hwl]) del_self
      rw [upd_del] at ok5
      exact p σ _ ((ok5.putBack he1 hv).less)
  · cases h3
/-- d[key] = e, d a dict whose values are shared -/
def atK (env : Env) (j : Nat) : Res D := match env[j]? with
  | some (some (1, d)) => .ok d
  | _ => .bad
theorem atK_ok {env : Env} {j : Nat} {d : D} (h : atK env j = .ok d) : env[j]? = some (some (1, d)) := by
  unfold atK at h
  split at h
  · rename_i d' he; cases h; exact he
  · cases h
def dSet (d key v : D) : Res D := match d with
  | .dk ks ds => if ds.length < sizeLine ∧ ks.length = ds.length then (match keyOf key with | some k => .ok (.dk (dPutK ks k) (dPutV ks ds k v)) | none => .bad) else .bad
  | .dt ks ds => if ds.length < sizeLine ∧ ks.length = ds.length then (match keyT key with | some k => .ok (.dt (dPutK ks k) (dPutV ks ds k v)) | none => .bad) else .bad
  | _ => .bad
def mDput (j : Nat) (cs : List Nat) (m mk : Env → Res D) : Env → Res Ctl := fun env => m env >>= fun d => mk (clear env cs) >>= fun y => atK (clear env cs) j >>= fun dd => dSet dd y d >>= fun d' => .ok (.nx ((clear env cs).set j (some (1, d'))))
theorem sel_lev0 {B : Bs} {H : Hp} {env : Env} {σ : St} {tm : List Hold} {vs : List V} {ds : List D} (ok : EnvOk B H env σ (lev 0 vs ds ++ tm)) : ∀ {ws : List V} {es : List D}, Sel vs ds ws es → EnvOk B H env σ (lev 0 ws es ++ (lev 0 vs ds ++ tm)) := by
  intro ws
  induction ws with
  | nil => intro es s; cases es with
    | nil => exact ok
    | cons => exact absurd s.1 (by simp)
  | cons w ws ih =>
    intro es s
    cases es with
    | nil => exact absurd s.1 (by simp)
    | cons e es =>
      obtain ⟨j, h1, h2⟩ := s.2 0 w e rfl rfl
      have h3 := ih s.tail
      obtain ⟨l, hp⟩ := lev_get (k := 0) h1 h2
      have h4 : EnvOk B H env σ ((w, 0, e) :: (l ++ (lev 0 ws es ++ tm))) := h3.perm ((perm_aca _ _ _).trans (hp.append_right _))
      refine h4.dup.perm (List.Perm.cons _ ?_)
      refine List.Perm.trans ?_ ((perm_aca (lev 0 vs ds) (lev 0 ws es) tm))
      exact (hp.append_right (lev 0 ws es ++ tm)).symm
theorem s_dput {j : Nat} {pos' : Pos} (hu : X.A.units + 1 < cLine) (hx : PE X o (tVar j)) (hi : SB X i mk) (hv : SE X 0 cs e m) (hs : swapsWith e (some (.Subscript o i pos')) pos.line X.env = pure false := by rfl) :
    S1 X kr (.Assign [.Subscript o i pos'] e pos) (mDput j cs m mk) := fun B H env σ tm D r ok hm p => by
  obtain ⟨d, hd, h2⟩ := bind_ok hm
  obtain ⟨y, hy, h3⟩ := bind_ok h2
  obtain ⟨dd, hdd, h4⟩ := bind_ok h3
  obtain ⟨d', hd', h5⟩ := bind_ok h4
  cases h5
  have he1 := atK_ok hdd
  refine wS_of (ps_dput hu hx pe_sem pe_sem hs) (hv B H env σ tm d _ ok hd fun w H1 x1 ok1 => ?_)
  obtain ⟨v, hv', rv⟩ := ok1.slot he1
  refine ⟨v, hv', hi B H1 (clear env cs) σ _ y _ ok1 hy fun u H2 x2 ok2 r2 => ?_⟩
  have im : dd.imm = false := by
    unfold dSet at hd'
    split at hd' <;> first | rfl | cases hd'
  obtain ⟨q, hq, ok3⟩ := ok2.slotMu he1 im
  rw [hv'] at hq
  cases hq
  unfold dSet at hd'
  split at hd'
  · rename_i ks ds
    split at hd'
    · rename_i hl
      split at hd'
      · rename_i kk hk
        cases hd'
        obtain ⟨kvs, hq, ek, hlen, ok4⟩ := ok3.takeDk
        refine ⟨q, _, rfl, .inl ⟨kvs, kk, hq, keyOf_rp r2 hk, by omega, rfl⟩, ?_⟩
        have ok5 : EnvOk B (del H2 q) ((clear env cs).set j none) σ (lev 0 (kvs.map (·.2) ++ [w]) (ds ++ [d]) ++ tm) := by
          rw [lev_append [w] [d] (by simpa using hlen), List.append_assoc]
          exact ok4
        subst ek
        have ok6 := sel_lev0 ok5 (putK_sel (x := kk) (v := w) (y := d) hlen)
        have ok7 := ok6.newDk (p := q) (kvs := putK kvs kk w) (by have := (putK_sel (x := kk) (v := w) (y := d) hlen).1; simpa using this) (putK_keys kvs kk w) del_self
        rw [upd_del] at ok7
        exact p σ _ ((EnvOk.less (l := lev 0 (kvs.map (·.2) ++ [w]) (ds ++ [d])) (ok7.perm List.perm_middle.symm |> fun h => h)).putBack he1 hv')
      · cases hd'
    · cases hd'
  · rename_i ks ds
    split at hd'
    · rename_i hl
      split at hd'
      · rename_i kk hk
        cases hd'
        obtain ⟨kvs, hq, ek, hlen, ok4⟩ := ok3.takeDt
        obtain ⟨bb, eb, hb⟩ := keyT_rp ok2 r2 hk
        refine ⟨q, _, rfl, .inr ⟨kvs, kk, bb, hq, eb, hb, by omega, rfl⟩, ?_⟩
        have ok5 : EnvOk B (del H2 q) ((clear env cs).set j none) σ (lev 0 (kvs.map (·.2) ++ [w]) (ds ++ [d]) ++ tm) := by
          rw [lev_append [w] [d] (by simpa using hlen), List.append_assoc]
          exact ok4
        subst ek
        have ok6 := sel_lev0 ok5 (putK_sel (x := kk) (v := w) (y := d) hlen)
        have ok7 := ok6.newDt (p := q) (kvs := putK kvs kk w) (by have := (putK_sel (x := kk) (v := w) (y := d) hlen).1; simpa using this) (putK_keys kvs kk w) del_self
        rw [upd_del] at ok7
        exact p σ _ ((EnvOk.less (l := lev 0 (kvs.map (·.2) ++ [w]) (ds ++ [d])) (ok7.perm List.perm_middle.symm |> fun h => h)).putBack he1 hv')
      · cases hd'
    · cases hd'
  · cases hd'
end
end Mir

namespace Mir
open PySem PySem.Spec L2

section
variable {X : Cx} {e a b tg it o : Expr} {m ma mb md : Env → Res D} {k kr : Nat} {cs : List Nat} {pos cpos apos : Pos} {m1 : Env → Res Ctl}
/-- the loop's own part -/
theorem for_core {B : Bs} {H : Hp} {env : Env} {σ : St} {tm ex : List Hold} {ds : List D} {J : It} {body : List Stmt} {t : Nat → D → Env → Res Env} {fg is : List Nat} {D : Ends} {r : Ctl} (hg : STg X tg is t) (hb : SS X kr body m1) (ok1 : EnvOk B H env σ (ex ++ tm)) (Y : Yields B J ex ds) (hl : loop t m1 fg ds env = .ok r) (p : Post kr B tm D r) :
    ∃ W : Nat → Nat → St → Hp → Prop, (∃ m, W 0 m σ H) ∧ ∀ i m σ H, W i m σ H →
      (J.stop i H ∧ D.nx σ H) ∨ (J.go i H ∧ ∃ N : St → Hp → Prop, (∀ σ' H', N σ' H' → ∃ m', m' < m ∧ W (i + 1) m' σ' H') ∧ ∀ x H', J.yld i H x H' → wG X tg x σ H' fun σ2 H2 => wB X body { D with nx := N, ct := N, bk := D.nx } σ2 H2) := by
  refine ⟨fun i m σ H => m = ds.length - i ∧ i ≤ ds.length ∧ ∃ env, EnvOk B H env σ (ex ++ tm) ∧ loop t m1 fg (ds.drop i) env = .ok r, ⟨ds.length, by simp, Nat.zero_le _, env, ok1, by simpa using hl⟩, ?_⟩
  rintro i n σ2 H2 ⟨rfl, hi2, env2, ok2, hr⟩
  obtain ⟨y1, y2⟩ := Y i H2 env2 σ2 tm ok2
  by_cases hlt : i < ds.length
  · obtain ⟨go, yl⟩ := y2 hlt
    refine .inr ⟨go, fun σ' H' => i + 1 ≤ ds.length ∧ ∃ env, EnvOk B H' env σ' (ex ++ tm) ∧ loop t m1 fg (ds.drop (i + 1)) env = .ok r, fun σ' H' ⟨h1, h2⟩ => ⟨ds.length - (i + 1), by omega, rfl, h1, h2⟩, fun x H3 hy => ?_⟩
    obtain ⟨d, hd2, x3, ok3⟩ := yl x H3 hy
    have hdr : ds.drop i = d :: ds.drop (i + 1) := by
      obtain ⟨h1, h2⟩ := List.getElem?_eq_some_iff.mp hd2
      rw [← h2]
      exact List.drop_eq_getElem_cons h1
    rw [hdr] at hr
    obtain ⟨e1, h3, h4⟩ := bind_ok hr
    obtain ⟨c, h5, h6⟩ := bind_ok h4
    refine hg 0 B H3 env2 σ2 (ex ++ tm) d x e1 _ ok3 h3 fun σ4 _ ok4 => ?_
    refine hb B H3 e1 σ4 (ex ++ tm) _ c ok4 h5 ?_
    cases c with
    | nx e => exact fun σ5 H5 ok5 => ⟨hlt, _, ok5.clear fg, h6⟩
    | ct e => exact fun σ5 H5 ok5 => ⟨hlt, _, ok5.clear fg, h6⟩
    | bk e =>
      cases h6
      exact fun σ5 H5 ok5 => p σ5 H5 ((ok5.clear fg).less)
    | rt d' =>
      cases h6
      refine fun v H5 ok5 => p v H5 (EnvOk.less (l := ex) (ok5.perm ?_))
      exact List.perm_middle.symm
  · have ei : i = ds.length := by omega
    refine .inl ⟨y1 ei, ?_⟩
    rw [ei, List.drop_length] at hr
    cases hr
    exact p σ2 H2 ok2.less

/-! ### dicts, walked -/
def pinB (B : Bs) (d : Addr) (o u : HO) : Bs := ⟨upd B.h d o, upd B.g d u⟩
theorem EnvOk.shAt {B : Bs} {H : Hp} {env : Env} {σ : St} {tm : List Hold} {d : Addr} {x : D} (ok : EnvOk B H env σ ((.ref d, 0, x) :: tm)) : ∃ G fp u, Good B G H ∧ G d = some u ∧ HoldAll G H (slots env σ ++ tm) fp ∧ fp.Nodup ∧ (∀ p ∈ fp, B p = none ∧ G p = none) := by
  obtain ⟨G, f, g, hg, hf, hr, nd, hq⟩ := EnvOk.apart (l := [(.ref d, 0, x)]) ok
  cases hf with
  | @cons _ _ _ _ f1 g1 h1 hn =>
    cases hn
    obtain ⟨rfl, r⟩ := h1.zero
    have : ∃ u, G d = some u := by
      cases r with
      | lst e => exact ⟨_, e⟩
      | tup e => exact ⟨_, e⟩
      | dk e => exact ⟨_, e⟩
      | dt e => exact ⟨_, e⟩
      | ob e => exact ⟨_, e⟩
      | exn0 e => exact ⟨_, e⟩
      | exn e => exact ⟨_, e⟩
    obtain ⟨u, hu⟩ := this
    exact ⟨G, g, u, hg, hu, hr, nd, hq⟩
/-- the object at d is to stay as it is, locked or not -/
theorem EnvOk.pin {B : Bs} {H : Hp} {env : Env} {σ : St} {tm : List Hold} {d : Addr} {x : D} {u o : HO} (ok : EnvOk B H env σ ((.ref d, 0, x) :: tm)) (hu : view H d = some u) (hH : isIm u = false) (ho : unf o = u) : EnvOk (pinB B d o u) (upd H d o) env σ tm := by
  have h2 := ok.len
  have h3 := ok.has
  obtain ⟨G, fp, u', hg, hG, hh, nd, hp⟩ := ok.shAt
  have eu : u' = u := Option.some.inj ((hg.gs d u' hG).symm.trans hu)
  subst eu
  have nd' : ∀ p ∈ fp, p ≠ d := fun p hm z => by
    have := (hp p hm).2
    rw [z, hG] at this; cases this
  have hv : view (upd H d o) = view H := by
    rw [view_upd, ho]
    funext a
    by_cases q : a = d
    · subst q; rw [upd_same, hu]
    · rw [upd_ne q]
  refine ⟨⟨G, fp, ⟨fun a z e => ?_, fun a e => ?_, fun a z e => by rw [hv]; exact hg.gs a z e, fun a xs im e => hg.gt a xs im (by rw [← hv]; exact e), fun a xs im e => ?_⟩, hh.frame (fun _ _ e => e) fun a z e q => ?_, nd, fun p hm => ⟨?_, (hp p hm).2⟩⟩, h2, h3⟩
  · have e' : upd B.h d o a = some z := e
    by_cases q : a = d
    · subst q; rw [upd_same] at e' ⊢; exact e'
    · rw [upd_ne q] at e' ⊢; exact hg.bs a z e'
  · have e' : upd B.h d o a ≠ none := e
    show G a = upd B.g d u' a
    by_cases q : a = d
    · subst q; rw [upd_same]; exact hG
    · rw [upd_ne q] at e' ⊢; exact hg.g0 a e'
  · by_cases q : a = d
    · subst q
      rw [hv, hu] at e
      rw [Option.some.inj e, im] at hH; cases hH
    · rw [upd_ne q]
      exact hg.nf a xs im (by rw [← hv]; exact e)
  · have : a ≠ d := fun z' => by
      subst z'
      rcases q with q | ⟨xs, q⟩
      · exact nd' a q rfl
      · subst q
        have := hg.gt a _ rfl (by unfold view; rw [e]; rfl)
        rw [hG] at this
        rw [Option.some.inj this] at hH; cases hH
    rw [upd_ne this]; exact e
  · show upd B.h d o p = none
    rw [upd_ne (nd' p hm)]; exact (hp p hm).1
theorem EnvOk.pinned {B : Bs} {H : Hp} {env : Env} {σ : St} {tm : List Hold} {d : Addr} {u o : HO} (ok : EnvOk (pinB B d o u) H env σ tm) : H d = some o := by
  obtain ⟨⟨G, fp, g, _⟩, _⟩ := ok
  exact g.bs d o upd_same
/-- .. and may be let go -/
theorem EnvOk.unpin {B : Bs} {H : Hp} {env : Env} {σ : St} {tm : List Hold} {d : Addr} {u o o' : HO} (ok : EnvOk (pinB B d o u) H env σ tm) (hB : ∀ z, B d = some z → z = o') (hg0 : B d ≠ none → B.g d = some u) (hm : isMu o → B d = none ∨ True) (ho : unf o' = u) (hH : isIm u = false) (hu : unf o = u) : EnvOk B (upd H d o') env σ tm := by
  have h2 := ok.len
  have h3 := ok.has
  have hd := ok.pinned
  obtain ⟨⟨G, fp, hg, hh, nd, hp⟩, _, _⟩ := ok
  have hG : G d = some u := (hg.g0 d (by show upd B.h d o d ≠ none; rw [upd_same]; simp)).trans upd_same
  have nd' : ∀ p ∈ fp, p ≠ d := fun p hm z => by
    have := (hp p hm).2
    rw [z, hG] at this; cases this
  have hv : view (upd H d o') = view H := by
    rw [view_upd, ho]
    funext a
    by_cases q : a = d
    · subst q; rw [upd_same]; unfold view; rw [hd]; exact congrArg some hu.symm
    · rw [upd_ne q]
  refine ⟨⟨G, fp, ⟨fun a z e => ?_, fun a e => ?_, fun a z e => by rw [hv]; exact hg.gs a z e, fun a xs im e => hg.gt a xs im (by rw [← hv]; exact e), fun a xs im e => ?_⟩, hh.frame (fun _ _ e => e) fun a z e q => ?_, nd, fun p hm => ⟨?_, (hp p hm).2⟩⟩, h2, h3⟩
  · by_cases q : a = d
    · subst q; rw [upd_same, hB z e]
    · rw [upd_ne q]
      exact hg.bs a z (by show upd B.h d o a = some z; rw [upd_ne q]; exact e)
  · by_cases q : a = d
    · subst q; rw [hG, hg0 e]
    · have := hg.g0 a (by show upd B.h d o a ≠ none; rw [upd_ne q]; exact e)
      rw [this]; exact upd_ne q
  · rw [hv] at e
    by_cases q : a = d
    · subst q
      have := hg.gt a xs im e
      rw [hG] at this
      rw [Option.some.inj this, im] at hH; cases hH
    · rw [upd_ne q]; exact hg.nf a xs im e
  · have : a ≠ d := fun z' => by
      subst z'
      rcases q with q | ⟨xs, q⟩
      · exact nd' a q rfl
      · subst q
        have := hg.gt a _ rfl (by unfold view; rw [e]; rfl)
        rw [hG] at this
        rw [Option.some.inj this] at hH; cases hH
    rw [upd_ne this]; exact e
  · have := (hp p hm).1
    have : upd B.h d o p = none := this
    rw [upd_ne (nd' p hm)] at this; exact this
theorem upd_self' {H : Hp} {d : Addr} {o : HO} (h : H d = some o) : upd H d o = H := by
  funext a
  by_cases q : a = d
  · subst q; rw [upd_same, h]
  · rw [upd_ne q]
/-- a for over a dict that stands in a slot; wi: its walk, asked at the locked dict -/
theorem for_dict {body : List Stmt} {t : Nat → D → Env → Res Env} {fg is : List Nat} {j : Nat} {wi : TI} {dd : D} {ds : List D} {B : Bs} {H : Hp} {env : Env} {σ : St} {tm : List Hold} {D : Ends} {r : Ctl} (hp : PassesOwn (model X.prog X.w) X.A X.env X.xe) (hc : X.calm = true) (hi : PI X tg it wi) (hg : STg X tg is t) (hb : SS X kr body m1) (hs : ∀ x, foldedSetIterable it X.env x = pure x)
    (ok : EnvOk B H env σ tm) (he : env[j]? = some (some (0, dd))) (hdd : (∃ ks vs, dd = .dk ks vs) ∨ ∃ ks vs, dd = .dt ks vs)
    (hw : ∀ (d : Addr) (od : Obj) (u : HO) (H' : Hp) (R : It → Hp → Prop), σ[j]? = some (some (.ref d)) → H' d = some (.frz od u) → Rp (view H') (.ref d) dd → (∀ J, Yields (pinB B d (.frz od u) u) J [(.ref d, 0, dd)] ds → R J H') → wi σ H' R)
    (hl : loop t m1 fg ds env = .ok r) (p : Post kr B tm D r) : wS X (.For tg it body [] pos) D σ H := by
  obtain ⟨v, hv, ok0⟩ := ok.slot0 he
  have r0 := ok0.rp
  have : ∃ d u, v = .ref d ∧ view H d = some u ∧ Mut (some u) ∧ unf u = u ∧ isIm u = false := by
    rcases hdd with ⟨ks, vs, rfl⟩ | ⟨ks, vs, rfl⟩
    · cases r0 with
      | dk hvw => exact ⟨_, _, rfl, hvw, trivial, rfl, rfl⟩
    · cases r0 with
      | dt hvw => exact ⟨_, _, rfl, hvw, trivial, rfl, rfl⟩
  obtain ⟨d, u, rfl, hvw, mu, huf, ht⟩ := this
  have hB : ∀ z, B d = some z → H d = some z := fun z e => by
    obtain ⟨⟨G, fp, g, _⟩, _⟩ := ok
    exact g.bs d z e
  have hBg : B d ≠ none → B.g d = some u := fun e => by
    obtain ⟨G, fp, u', g, hG, _⟩ := ok0.shAt
    have : u' = u := Option.some.inj ((g.gs d u' hG).symm.trans hvw)
    rw [← g.g0 d e, hG, this]
  -- the body's ends, the dict still locked
  have ends : ∀ (od : Obj) (o' : HO) (D1 : Ends), unf o' = u → (∀ z, B d = some z → z = o') → (∀ σ' H', H' d = some (.frz od u) → D.nx σ' (upd H' d o') → D1.nx σ' H') → (∀ v H', H' d = some (.frz od u) → D.rt v (upd H' d o') → D1.rt v H') → (∀ σ' H', H' d = some (.frz od u) → D.bk σ' (upd H' d o') → D1.bk σ' H') → (∀ σ' H', H' d = some (.frz od u) → D.ct σ' (upd H' d o') → D1.ct σ' H') → Post kr (pinB B d (.frz od u) u) tm D1 r := fun od o' D1 ho hz h1 h2 h3 h4 => by
    have un : ∀ {H' : Hp} {env' : Env} {σ' : St} {tm' : List Hold}, EnvOk (pinB B d (.frz od u) u) H' env' σ' tm' → EnvOk B (upd H' d o') env' σ' tm' := fun ok' => ok'.unpin hz hBg (fun _ => .inr trivial) ho ht rfl
    cases r with
    | nx e => exact fun σ' H' ok' => h1 _ _ ok'.pinned (p σ' _ (un ok'))
    | bk e => exact fun σ' H' ok' => h3 _ _ ok'.pinned (p σ' _ (un ok'))
    | ct e => exact fun σ' H' ok' => h4 _ _ ok'.pinned (p σ' _ (un ok'))
    | rt e => exact fun v H' ok' => h2 _ _ ok'.pinned (p v _ (un ok'))
  have go : ∀ (od : Obj) (H1 : Hp) (D1 : Ends), H1 = upd H d (.frz od u) → Post kr (pinB B d (.frz od u) u) tm D1 r → tFor wi (wG X tg) (wB X body) D1 σ H1 := fun od H1 D1 e1 p1 => by
    subst e1
    have ok1 : EnvOk (pinB B d (.frz od u) u) (upd H d (.frz od u)) env σ ((.ref d, 0, dd) :: tm) := (ok0.dup).pin hvw ht rfl
    exact hw d od u _ _ hv upd_same ok1.rp fun J Y => for_core hg hb (ex := [(.ref d, 0, dd)]) ok1 Y hl p1
  cases hH : H d with
  | none => rw [view_none hH] at hvw; cases hvw
  | some o1 =>
    have hu1 : unf o1 = u := by
      unfold view at hvw
      rw [hH] at hvw
      exact Option.some.inj hvw
    by_cases hfz : ∃ od, o1 = .frz od u
    · obtain ⟨od, rfl⟩ := hfz
      have e1 : H = upd H d (.frz od u) := (upd_self' hH).symm
      refine wS_of (ps_for hp hc hi pg_sem pss_sem hs) (go od H D e1 (ends od (.frz od u) D rfl (fun z e => Option.some.inj ((hB z e).symm.trans hH)) ?_ ?_ ?_ ?_))
      · intro σ' H' h1 h2; rw [upd_self' h1] at h2; exact h2
      · intro σ' H' h1 h2; rw [upd_self' h1] at h2; exact h2
      · intro σ' H' h1 h2; rw [upd_self' h1] at h2; exact h2
      · intro σ' H' h1 h2; rw [upd_self' h1] at h2; exact h2
    · have eo : o1 = u := by
        cases o1 with
        | frz od w => exact absurd ⟨od, congrArg _ hu1⟩ hfz
        | _ => exact hu1
      subst eo
      refine wS_of (ps_lock (ps_for hp hc hi pg_sem pss_sem hs)) ⟨d, o1, hH, mu, fun od => go od _ _ rfl (ends od o1 _ huf (fun z e => Option.some.inj ((hB z e).symm.trans hH)) ?_ ?_ ?_ ?_)⟩
      · exact fun σ' H' h1 h2 => ⟨h1, h2⟩
      · exact fun σ' H' h1 h2 => ⟨h1, h2⟩
      · exact fun σ' H' h1 h2 => ⟨h1, h2⟩
      · exact fun σ' H' h1 h2 => ⟨h1, h2⟩
def kD : Key → D
  | .inl i => .int i
  | .inr z => .str z
theorem kD_rp {G : Hp} (k : Key) : Rp G (kV k) (kD k) := by cases k <;> constructor
theorem kD_imm (k : Key) : (kD k).imm = true := by cases k <;> rfl
theorem kDs_rp {G : Hp} : ∀ ks : List Key, RpAll G (ks.map kV) (ks.map kD)
  | [] => .nil
  | k :: ks => .cons (kD_rp k) (kDs_rp ks)
theorem kDs_imm : ∀ ks : List Key, immAll (ks.map kD) = true
  | [] => rfl
  | k :: ks => by rw [List.map_cons, immAll, kD_imm, kDs_imm ks]; rfl
/-- what a dict gives when it is walked -/
def dKeys : D → Res (List D)
  | .dk ks _ => .ok (ks.map kD)
  | .dt ks _ => .ok (ks.map fun k => .tup (k.map kD))
  | _ => .bad
def dItems : D → Res (List D)
  | .dk ks ds => if ks.length = ds.length then .ok (List.zipWith (fun k d => .tup [kD k, d]) ks ds) else .bad
  | _ => .bad
def dVals : D → Res (List D)
  | .dk ks ds => if ks.length = ds.length then .ok ds else .bad
  | _ => .bad
theorem sh_slot {env : Env} {j : Nat} {d : D} (h : mVarK j 0 env = .ok d) : env[j]? = some (some (0, d)) := by
  unfold mVarK at h
  split at h
  · rename_i k' d' he
    split at h
    · rename_i ek
      subst ek
      cases h
      exact he
    · cases h
  · cases h
theorem dk_kvs {kvs : List (Key × V)} {i : Nat} {k : Key} {v : V} (h : kvs[i]? = some (k, v)) : (kvs.map (·.1))[i]? = some k ∧ (kvs.map (·.2))[i]? = some v := by
  rw [List.getElem?_map, List.getElem?_map, h]
  exact ⟨rfl, rfl⟩
theorem s_forItems {body : List Stmt} {t : Nat → D → Env → Res Env} {fg is : List Nat} {j : Nat} {elts : List Expr} {kk : Nat} {tpos : Pos} (hp : PassesOwn (model X.prog X.w) X.A X.env X.xe) (hc : X.calm = true) (hx : PE X o (tVar j)) (hg : STg X (.Tuple elts kk tpos) is t) (hb : SS X kr body m1)
    (hs : ∀ x, foldedSetIterable (.Call (.Attribute o "items" apos) [] [] cpos) X.env x = pure x := by intro _; rfl) (hbase : attributeBase o "items" X.env (eval o X.env) = eval o X.env := by rfl) (hline : (apos.endLine == cpos.line) = true := by rfl) :
    S1 X kr (.For (.Tuple elts kk tpos) (.Call (.Attribute o "items" apos) [] [] cpos) body [] pos) (mFor (fun env => mVarK j 0 env >>= dItems) t m1 fg) := fun B H env σ tm En r ok hm p => by
  obtain ⟨ds, hds, hl⟩ := bind_ok hm
  obtain ⟨dd, hdd, h2⟩ := bind_ok hds
  have he := sh_slot hdd
  unfold dItems at h2
  split at h2
  · rename_i ks vs
    split at h2
    · rename_i hlen
      cases h2
      refine for_dict hp hc (pi_items hx hbase hline) hg hb hs ok he (.inl ⟨_, _, rfl⟩) (fun d od u H' R hv hd rp q => ?_) hl p
      cases rp with
      | @dk _ kvs _ _ hvw ek ra =>
        have hdk : HO.dK kvs = u := by
          unfold view at hvw; rw [hd] at hvw; exact (Option.some.inj hvw).symm
        subst hdk
        subst ek
        refine ⟨_, hv, d, od, kvs, rfl, hd, q _ fun i H2 env2 σ2 tm2 ok2 => ?_⟩
        have hd2 : H2 d = some (.frz od (.dK kvs)) := ok2.pinned
        have hkl : kvs.length = vs.length := by simpa using hlen
        have hll : (List.zipWith (fun k d => D.tup [kD k, d]) (kvs.map (·.1)) vs).length = kvs.length := by simp [hkl]
        rw [hll]
        refine ⟨fun ei => ⟨hd2, by omega⟩, fun hi => ⟨⟨hd2, hi⟩, fun x H3 hy => ?_⟩⟩
        obtain ⟨T, k, v, hkv, rfl, hT, rfl⟩ := hy
        obtain ⟨g1, g2⟩ := dk_kvs hkv
        have hvi : vs[i]? = some vs[i] := List.getElem?_eq_getElem (by omega)
        have ok2' : EnvOk (pinB B d (.frz od (.dK kvs)) (.dK kvs)) H2 env2 σ2 ((V.ref d, 0, D.dk (kvs.map (·.1)) vs) :: tm2) := ok2
        obtain ⟨p', o', ws, ev, hvw2, hwl, _, _, f3, _, ra2, ok3⟩ := ok2'.items (ds := vs) (.inr (.inr (.inl ⟨_, rfl⟩)))
        cases ev
        obtain ⟨kvs', e1, e2, e3⟩ := f3 _ rfl
        have ek2 : kvs' = kvs := by
          subst e1
          unfold view at hvw2; rw [hd2] at hvw2
          have h9 : HO.dK kvs = HO.dK kvs' := Option.some.inj hvw2
          injection h9 with h10
          exact h10.symm
        subst ek2
        subst e3
        obtain ⟨l, hp'⟩ := lev_get (k := 0) g2 hvi
        have ok4 : EnvOk (pinB B d (.frz od (.dK kvs')) (.dK kvs')) H2 env2 σ2 ((v, 0, vs[i]) :: ((V.ref d, 0, D.dk (kvs'.map (·.1)) vs) :: tm2)) := by
          refine EnvOk.less (l := l) (ok3.perm ((hp'.append_right _).trans ?_))
          exact (List.perm_middle (l₁ := l) (a := (v, 0, vs[i])) (l₂ := (V.ref d, 0, D.dk (kvs'.map (·.1)) vs) :: tm2)).symm
        have ok5 := ok4.imm (k := 0) (kD_rp k) (kD_imm k)
        have ok6 := (EnvOk.newTup (k := 0) (vs := [kV k, v]) (ds := [kD k, vs[i]]) (tm := (V.ref d, 0, D.dk (kvs'.map (·.1)) vs) :: tm2) ok5 rfl hT).freeze
        exact ⟨_, by rw [List.getElem?_zipWith, g1, hvi], Ext.upd hT, ok6⟩
    · cases h2
  · cases h2
theorem s_forKeys {body : List Stmt} {t : Nat → D → Env → Res Env} {fg is : List Nat} {j : Nat} (hp : PassesOwn (model X.prog X.w) X.A X.env X.xe) (hc : X.calm = true) (hx : PE X it (tVar j)) (hg : STg X tg is t) (hb : SS X kr body m1) (hs : ∀ x, foldedSetIterable it X.env x = pure x := by intro _; rfl) :
    S1 X kr (.For tg it body [] pos) (mFor (fun env => mVarK j 0 env >>= dKeys) t m1 fg) := fun B H env σ tm En r ok hm p => by
  obtain ⟨ds, hds, hl⟩ := bind_ok hm
  obtain ⟨dd, hdd, h2⟩ := bind_ok hds
  have he := sh_slot hdd
  unfold dKeys at h2
  split at h2
  · rename_i ks vs
    cases h2
    refine for_dict hp hc (pi_keys hx) hg hb hs ok he (.inl ⟨_, _, rfl⟩) (fun d od u H' R hv hd rp q => ?_) hl p
    cases rp with
    | @dk _ kvs _ _ hvw ek ra =>
      have hdk : HO.dK kvs = u := by
        unfold view at hvw; rw [hd] at hvw; exact (Option.some.inj hvw).symm
      subst hdk
      subst ek
      refine ⟨_, hv, d, od, rfl, .inl ⟨kvs, hd, q _ fun i H2 env2 σ2 tm2 ok2 => ?_⟩⟩
      have hd2 : H2 d = some (.frz od (.dK kvs)) := ok2.pinned
      have hll : ((kvs.map (·.1)).map kD).length = kvs.length := by simp
      rw [hll]
      refine ⟨fun ei => ⟨hd2, by omega⟩, fun hi => ⟨⟨hd2, hi⟩, fun x H3 hy => ?_⟩⟩
      obtain ⟨rfl, k, v, hkv, rfl⟩ := hy
      obtain ⟨g1, g2⟩ := dk_kvs hkv
      exact ⟨kD k, by rw [List.getElem?_map, g1]; rfl, Ext.refl _, ok2.imm (kD_rp k) (kD_imm k)⟩
  · rename_i ks vs
    cases h2
    refine for_dict hp hc (pi_keys hx) hg hb hs ok he (.inr ⟨_, _, rfl⟩) (fun d od u H' R hv hd rp q => ?_) hl p
    cases rp with
    | @dt _ kvs _ _ hvw ek ra =>
      have hdk : HO.dT kvs = u := by
        unfold view at hvw; rw [hd] at hvw; exact (Option.some.inj hvw).symm
      subst hdk
      subst ek
      refine ⟨_, hv, d, od, rfl, .inr ⟨kvs, hd, q _ fun i H2 env2 σ2 tm2 ok2 => ?_⟩⟩
      have hd2 : H2 d = some (.frz od (.dT kvs)) := ok2.pinned
      have hll : ((kvs.map (·.1)).map fun k => D.tup (k.map kD)).length = kvs.length := by simp
      rw [hll]
      refine ⟨fun ei => ⟨hd2, by omega⟩, fun hi => ⟨⟨hd2, hi⟩, fun x H3 hy => ?_⟩⟩
      obtain ⟨rfl, k, v, T, hkv, rfl, hT⟩ := hy
      have g1 : (kvs.map (·.1))[i]? = some k := by rw [List.getElem?_map, hkv]; rfl
      refine ⟨.tup (k.map kD), by rw [List.getElem?_map, g1]; rfl, Ext.refl _, ok2.imm (.tup (vs := k.map kV) ?_ (kDs_rp k)) (by show immAll _ = true; exact kDs_imm k)⟩
      unfold view; rw [hT]; rfl
  · cases h2
end
end Mir

namespace Mir
open PySem PySem.Spec L2

/-! ### isinstance -/
inductive Ty6 where | int | bool | str | list | tuple | dict
def Ty6.s : Ty6 → String
  | .int => "int" | .bool => "bool" | .str => "str" | .list => "list" | .tuple => "tuple" | .dict => "dict"
inductive Tg where | non | bl | int | str | lst | tup | dic
def Tg.s : Tg → String
  | .non => "NoneType" | .bl => "bool" | .int => "int" | .str => "str" | .lst => "list" | .tup => "tuple" | .dic => "dict"
def tgD : D → Tg
  | .non => .non | .bl _ => .bl | .int _ => .int | .str _ => .str | .lst _ => .lst | .tup _ => .tup | .dk _ _ => .dic | .dt _ _ => .dic | .ob _ _ _ _ => .non | .exn _ _ _ _ => .non
/-- an object of an own class -/
def isOb : D → Bool
  | .ob _ _ _ _ => true
  | .exn _ _ _ _ => true
  | _ => false
def isiT : Ty6 → Tg → Bool
  | .int, .int => true | .int, .bl => true | .bool, .bl => true | .str, .str => true | .list, .lst => true | .tuple, .tup => true | .dict, .dic => true
  | _, _ => false
def isi (T : Ty6) (d : D) : Bool := isiT T (tgD d)
theorem kit_tab (T : Ty6) (t : Tg) : kitB t.s T.s = some (isiT T t) := by
  cases T <;> cases t <;> decide +kernel
abbrev tyN (d : D) : String := (tgD d).s
theorem kit_isi (T : Ty6) (d : D) : kitB (tyN d) T.s = some (isi T d) := kit_tab T (tgD d)
theorem kit_rp {X : Cx} {pins : List (Addr × Obj)} {σ : St} {H : Hp} {s : Shared} {x : V} {u : Value} {d : D} (I : Inv X pins σ H s) (rx : RelV x u) (r : Rp (view H) x d) (hob : isOb d = false) : ∃ P : Heap → Prop, PySem.W.KitX X.K u (.type (tyN d)) P ∧ P s.heap ∧ u ≠ .builtin "__main__.__loader__#opaque" := by
  cases r with
  | non => cases (show u = Value.none from rx); exact ⟨_, PySem.W.kitx_none, True.intro, fun z => nomatch z⟩
  | bl y => cases (show u = Value.bool y from rx); exact ⟨_, PySem.W.kitx_bool, True.intro, fun z => nomatch z⟩
  | int i => obtain ⟨t, q⟩ := (show ∃ t, u = Value.int i t from rx); cases q; exact ⟨_, PySem.W.kitx_int, True.intro, fun z => nomatch z⟩
  | str y => obtain ⟨t, q⟩ := (show ∃ t, u = Value.str y t from rx); cases q; exact ⟨_, PySem.W.kitx_str, True.intro, fun z => nomatch z⟩
  | @lst a xs _ ea =>
    cases (show u = Value.ref a from rx)
    obtain ⟨_, _, n, _, h1⟩ := (show ObjOk X.prog X.w H s.heap a (.lst xs) from (view_rd ea).ok I.hok)
    exact ⟨_, PySem.W.kitx_list, ⟨_, h1, rfl⟩, fun z => nomatch z⟩
  | @tup a xs _ ea =>
    cases (show u = Value.ref a from rx)
    obtain ⟨_, _, _, o, h1, h2, _⟩ := (show ObjOk X.prog X.w H s.heap a (.tup xs) from (view_rd ea).ok I.hok)
    exact ⟨_, PySem.W.kitx_tuple, ⟨o, h1, h2⟩, fun z => nomatch z⟩
  | @dk a kvs _ _ ea =>
    cases (show u = Value.ref a from rx)
    obtain ⟨_, _, vs, _, o, es, ep, h1, h2, _⟩ := (show ObjOk X.prog X.w H s.heap a (.dK kvs) from (view_rd ea).ok I.hok)
    exact ⟨_, PySem.W.kitx_dict, ⟨o, h1, h2.1⟩, fun z => nomatch z⟩
  | @dt a kvs _ _ ea =>
    cases (show u = Value.ref a from rx)
    obtain ⟨_, _, xs, _, o, es, ep, h1, h2, _⟩ := (show ObjOk X.prog X.w H s.heap a (.dT kvs) from (view_rd ea).ok I.hok)
    exact ⟨_, PySem.W.kitx_dict, ⟨o, h1, h2.1⟩, fun z => nomatch z⟩
  | ob => cases hob
  | exn0 => cases hob
  | exn => cases hob
theorem call_isiD {X : Cx} : CallR X (.builtin "isinstance") (fun xs H Q => ∃ x d T, xs = [x, .ty (Ty6.s T)] ∧ Rp (view H) x d ∧ isOb d = false ∧ Q (.bl (isi T d)) H) := by
  intro pins s σ H xs us Q I r h
  obtain ⟨x, d, T, rfl, rp, hob, q⟩ := h
  obtain ⟨u1, u2, rfl, r1, r2⟩ := vals2 r
  cases (show u2 = Value.type T.s from r2)
  obtain ⟨P, Z, p, hx⟩ := kit_rp I r1 rp hob
  exact PySem.W.kia_one Z I.kIn p (kit_ty (kit_isi T d)) hx fun tk => ⟨.bl _, H, I.tok tk, rfl, q⟩
section
variable {X : Cx} {e a b c : Expr} {m ma mb mc : Env → Res D} {k kr : Nat} {cs : List Nat} {pos p cpos apos : Pos}
def mIsi (T : Ty6) (m : Env → Res D) : Env → Res D := fun env => m env >>= fun d => if isOb d = true then .bad else .ok (.bl (isi T d))
theorem sc_isi {T : Ty6} (hg : Gl X "isinstance") (hm0 : X.mg "isinstance" = none) (h : SB X a m) (hT : PE X b (tC (.ty T.s))) (he : starEach [a, b] X.env = (false, eval a X.env) :: starEach [b] X.env := by rfl) (he2 : starEach [b] X.env = (false, eval b X.env) :: starEach [] X.env := by rfl) (hpl : (backTo pos (starEach [b] X.env)).any (·.1) = false := by rfl) :
    SC X (.Call (.Name "isinstance" p) [a, b] [] pos) (mIsi T m) := fun B H env σ tm d Q ok hm q => by
  obtain ⟨x, hx, h2⟩ := bind_ok hm
  split at h2
  · cases h2
  rename_i hob
  cases h2
  refine wE_of (pe_callB call_isiD hg hm0 (by decide +kernel) (pa_cons pe_sem (pa_cons hT pa_nil he2) he) (by decide) (by decide) he hpl) (h B H env σ tm _ _ ok hx fun v H1 x1 ok1 r => ?_)
  exact ⟨v, x, T, rfl, r, by simpa using hob, q _ H1 x1 ok1 (.bl _) rfl⟩
theorem pe_tyD {x : Str} {n : String} {pos : Pos} (hg : Gl X x) (hm : X.mg x = none) (hv : bootBuiltins x = some (.type n)) (hn : x ≠ "__name__" := by decide) (hd : (x == ("__debug__" : Str)) = false := by decide) : PE X (.Name x pos) (tC (.ty n)) := pe_bltn hg hm hv rfl hn hd

/-! ### dict(d), == of dicts -/
/-- dict(d) of a dict with keys that are numbers, texts; its values shared or of one level -/
def gDictC : D → Res D
  | .dk ks ds => if immAll ds then .ok (.dk ks ds) else .bad
  | _ => .bad
theorem se_dict (hg : Gl X "dict") (hm0 : X.mg "dict" = none) (h : SB X e m) (he : starEach [e] X.env = (false, eval e X.env) :: starEach [] X.env := by rfl) (hpl : (backTo pos (starEach [] X.env)).any (·.1) = false := by rfl) : SE X (k + 1) [] (.Call (.Name "dict" p) [e] [] pos) (fun env => m env >>= gDictC) := fun B H env σ tm d Q ok hm q => by
  obtain ⟨x, hx, h2⟩ := bind_ok hm
  unfold gDictC at h2
  split at h2
  · rename_i ks ds
    split at h2
    · rename_i hi
      cases h2
      refine wE_of (pe_callTy call_dictD hg hm0 (by decide +kernel) (pa_cons pe_sem pa_nil he) (by decide) (by decide) he hpl) (h B H env σ tm _ _ ok hx fun v H1 x1 ok1 r => ?_)
      cases r with
      | @dk q' kvs _ _ hv ek ra =>
        refine ⟨q', kvs, rfl, view_rd hv, fun l hnl => ?_⟩
        have hl := ra.length
        have ok2 := (ok1.levs (k := k) ra hi).newDk (p := l) (by simpa using hl) ek hnl
        exact q _ _ (x1.trans (Ext.upd hnl)) ok2
    · cases h2
  · cases h2
/-- two dicts that hold the same -/
def flatD : D → Bool
  | .non => true | .bl _ => true | .int _ => true | .str _ => true
  | _ => false
def scEq : D → D → Bool
  | .non, .non => true | .bl a, .bl b => a == b | .int a, .int b => a == b | .str a, .str b => decide (a = b)
  | _, _ => false
theorem scEq_eq {x y : D} (h : scEq x y = true) : x = y ∧ flatD x = true := by
  cases x <;> cases y <;> simp [scEq] at h <;> first | exact ⟨rfl, rfl⟩ | (subst h; exact ⟨rfl, rfl⟩)
/-- the same keys with the same flat values -/
def dSame : D → D → Bool
  | .dk ks ds, .dk ls es => decide (ks.length = ls.length) && decide (ks.length = ds.length) && decide (ls.length = es.length) && (List.zipWith (fun k d => match dFind ls es k with | some e => scEq d e | none => false) ks ds).all id
  | _, _ => false
theorem flat_rp {G : Hp} {v w : V} {d : D} (r1 : Rp G v d) (r2 : Rp G w d) (h : flatD d = true) : v = w ∧ flatB v = true := by
  cases r1 <;> cases r2 <;> first | exact ⟨rfl, rfl⟩ | simp [flatD] at h
def rEqDR : R2 := fun x y H Q => ∃ a b ks ls, x = .ref a ∧ y = .ref b ∧ Rd H a (.dK ks) ∧ Rd H b (.dK ls) ∧ ks.length = ls.length ∧ (∀ p ∈ ks, valV ls p.1 = some p.2 ∧ flatB p.2 = true) ∧ Q (.bl true) H
def rNeDR : R2 := fun x y H Q => ∃ a b ks ls, x = .ref a ∧ y = .ref b ∧ Rd H a (.dK ks) ∧ Rd H b (.dK ls) ∧ ks.length = ls.length ∧ (∀ p ∈ ks, valV ls p.1 = some p.2 ∧ flatB p.2 = true) ∧ Q (.bl false) H
theorem op_eqDR (hu : X.A.units < cLine) : OpR X (compareOp .Eq) rEqDR := by
  intro pins s σ H x y v u Q I rx ry h
  obtain ⟨a, b, ks, ls, rfl, rfl, ea, eb, hlen, hp, q⟩ := h
  obtain rfl : v = Value.ref a := rx
  obtain rfl : u = Value.ref b := ry
  obtain ⟨_, ya, va, ra, da⟩ := (show ObjOk X.prog X.w H s.heap a (.dK ks) from ea.ok I.hok)
  obtain ⟨_, yb, vb, rb, db⟩ := (show ObjOk X.prog X.w H s.heap b (.dK ls) from eb.ok I.hok)
  have hl : va.length = vb.length := by rw [← ra.length, ← rb.length]; exact hlen
  exact PySem.W.keq_eq (knd := mixKind X.prog X.w) (r := true) ya yb da db hu (fun _ => hits_all rb ra hp) (fin_bl I q (by simp [hl]))
theorem op_neDR (hu : X.A.units < cLine) : OpR X (compareOp .NotEq) rNeDR := by
  intro pins s σ H x y v u Q I rx ry h
  obtain ⟨a, b, ks, ls, rfl, rfl, ea, eb, hlen, hp, q⟩ := h
  obtain rfl : v = Value.ref a := rx
  obtain rfl : u = Value.ref b := ry
  obtain ⟨_, ya, va, ra, da⟩ := (show ObjOk X.prog X.w H s.heap a (.dK ks) from ea.ok I.hok)
  obtain ⟨_, yb, vb, rb, db⟩ := (show ObjOk X.prog X.w H s.heap b (.dK ls) from eb.ok I.hok)
  have hl : va.length = vb.length := by rw [← ra.length, ← rb.length]; exact hlen
  exact PySem.W.keq_ne (knd := mixKind X.prog X.w) (r := true) ya yb da db hu (fun _ => hits_all rb ra hp) (fin_bl I q (by simp [hl]))
theorem dSame_rp {H : Hp} {x y : D} {v w : V} (rx : Rp (view H) v x) (ry : Rp (view H) w y) (h : dSame x y = true) : ∃ a b ks ls, v = .ref a ∧ w = .ref b ∧ Rd H a (.dK ks) ∧ Rd H b (.dK ls) ∧ ks.length = ls.length ∧ (∀ p ∈ ks, valV ls p.1 = some p.2 ∧ flatB p.2 = true) := by
  unfold dSame at h
  split at h
  · rename_i ks ds ls es
    simp only [Bool.and_eq_true, decide_eq_true_eq, List.all_eq_true, id] at h
    obtain ⟨⟨⟨h1, h2⟩, h3⟩, h4⟩ := h
    cases rx with
    | @dk a kvs _ _ hv ek ra =>
      cases ry with
      | @dk b lvs _ _ hw el rb =>
        subst ek el
        refine ⟨a, b, kvs, lvs, rfl, rfl, view_rd hv, view_rd hw, by simpa using h1, fun p hp => ?_⟩
        obtain ⟨i, hi⟩ := List.mem_iff_getElem?.mp hp
        have g1 : (kvs.map (·.1))[i]? = some p.1 := by rw [List.getElem?_map, hi]; rfl
        have g2 : (kvs.map (·.2))[i]? = some p.2 := by rw [List.getElem?_map, hi]; rfl
        obtain ⟨d, hd, rd⟩ := ra.get' g2
        have h5 := h4 _ (List.mem_of_getElem? (i := i) (by rw [List.getElem?_zipWith, g1, hd]))
        obtain ⟨f1, f2⟩ := find_rp (x := p.1) rb
        cases hf : dFind (lvs.map (·.1)) es p.1 with
        | none => simp [hf] at h5
        | some e =>
          simp only [hf] at h5
          obtain ⟨rfl, fd⟩ := scEq_eq h5
          obtain ⟨w, hw2, rw2⟩ := f2 _ hf
          obtain ⟨rfl, fb⟩ := flat_rp rd rw2 fd
          exact ⟨hw2, fb⟩
  · cases h
def gEqD (x y : D) : Res D := if dSame x y then .ok (.bl true) else .bad
def gNeD (x y : D) : Res D := if dSame x y then .ok (.bl false) else .bad
theorem o_eqD (hu : X.A.units + 64 < cLine) : OpC X (compareOp .Eq) gEqD := by
  refine ⟨_, op_eqDR (by omega), fun x y dx dy d H Q rx ry e q => ?_⟩
  unfold gEqD at e
  split at e
  · rename_i hs
    cases e
    obtain ⟨a, b, ks, ls, h1, h2, h3, h4, h5, h6⟩ := dSame_rp rx ry hs
    exact ⟨a, b, ks, ls, h1, h2, h3, h4, h5, h6, q _ (.bl _) rfl⟩
  · cases e
theorem o_neD (hu : X.A.units + 64 < cLine) : OpC X (compareOp .NotEq) gNeD := by
  refine ⟨_, op_neDR (by omega), fun x y dx dy d H Q rx ry e q => ?_⟩
  unfold gNeD at e
  split at e
  · rename_i hs
    cases e
    obtain ⟨a, b, ks, ls, h1, h2, h3, h4, h5, h6⟩ := dSame_rp rx ry hs
    exact ⟨a, b, ks, ls, h1, h2, h3, h4, h5, h6, q _ (.bl _) rfl⟩
  · cases e
end
/-- the law's promise -/
def spLaw (K : PySem.W.Frag) : Sp := fun vs H Q _ => ∃ (a : Addr) (ns : List Int), vs = [.ref a] ∧ SqL K H a (ns.map V.int) ∧ ns.length ≤ 63 ∧ ∀ H', Q (.bl true) H'
end Mir

namespace Mir
open PySem PySem.Spec L2

/-- a def as it stands; as it is called -/
structure At (K : PySem.W.Frag) (mg : Str → Option Value) (x : Str) (st : Stmt) : Prop where
  ex : ∃ f fd, Fun K x x st f fd ∧ mg x = some (.ref f)
structure Cal (P : Program) (w : World) (K : PySem.W.Frag) (mg : Str → Option Value) (base : Heap) (x : Str) (j n kr : Nat) (F : List D → Res D) : Prop where
  ex : ∃ f fd ps, mg x = some (.ref f) ∧ PySem.W.keepIn K (.ref f) = true ∧ Binds K fd ps [] ∧ FnOk P w K mg base CX0 j f fd ps (spF kr n F)
theorem se_cal {X : Cx} {e : Expr} {es : List Expr} {ms : Env → Res (List D)} {j n kr : Nat} {F : List D → Res D} {x : Str} {p pos : Pos} (C : Cal X.prog X.w X.K X.mg X.base x j n kr F) (hr : Room j X.A) (hg : Gl X x)
    (ha : SAB X (e :: es) ms) (hl : ∀ env ds, ms env = .ok ds → ds.length = n) (hdb : (x == ("__debug__" : Str)) = false := by decide) (he : starEach (e :: es) X.env = (false, eval e X.env) :: starEach es X.env := by rfl) (hpl : (backTo pos (starEach es X.env)).any (·.1) = false := by rfl) :
    SE X kr [] (.Call (.Name x p) (e :: es) [] pos) (mCall kr F ms) := by
  obtain ⟨f, fd, ps, hm, hk, hb, Fo⟩ := C.ex
  exact se_call Fo hr hg hm hk hb ha hdb he hpl hl
theorem At.mk' {K : PySem.W.Frag} {mg : Str → Option Value} {h : Heap} {x : Str} {st : Stmt} {f : Addr} {oc : Value} {od an : Option Addr} {osl : Array (Option Value)} {kV doc pm cdv ct : Value} (X : K.In h) (G : h.Ns mainGlobals mg) (a : PySem.W.nsIn K mainGlobals x = some (some (.ref f)))
    (l : K.lookup f = some ⟨oc, od, .func (PySem.W.fnOf x x (defArgs st) (defBody st) (defScope st) .none kV doc pm an cdv ct), osl⟩) (c : PySem.W.codeIn K cdv x = true) (k : PySem.W.keepIn K (.ref f) = true) : At K mg x st :=
  ⟨f, _, fun_mk l c k, PySem.W.mg_of X G a⟩
/-- no list stands in the written part -/
def noLists (K : PySem.W.Frag) : Bool := K.all fun p => match p.2.cls with
  | .type n => n != "list"
  | _ => true
theorem noLists_lookup : ∀ {K : PySem.W.Frag} {a : Addr} {o : Obj}, noLists K = true → K.lookup a = some o → o.cls ≠ .type "list"
  | [], _, _, _, h => by simp at h
  | (b, ob) :: K, a, o, hn, h => by
    unfold noLists at hn
    rw [List.all_cons, Bool.and_eq_true] at hn
    rw [List.lookup_cons] at h
    split at h
    · cases h
      intro e
      have := hn.1
      rw [e] at this
      simp at this
    · exact noLists_lookup (K := K) hn.2 h
theorem ints_rp {G : Hp} : ∀ ns : List Int, RpAll G (ns.map V.int) (ns.map D.int)
  | [] => .nil
  | n :: ns => .cons (.int n) (ints_rp ns)
theorem law_sp {F : List D → Res D} {K : PySem.W.Frag} {H : Hp} {a : Addr} {ns : List Int} (hK : noLists K = true) (hO : Only H) (hS : SqL K H a (ns.map V.int)) (hF : F [.lst (ns.map D.int)] = .ok (.bl true)) : spF 0 1 F [.ref a] H (fun v _ => v = .bl true) fun _ _ _ => False := by
  have hv : view H a = some (.lst (ns.map V.int)) := by
    rcases hS with (h | ⟨o, h⟩) | ⟨o, its, n, h1, h2, _⟩
    · unfold view; rw [h]; rfl
    · unfold view; rw [h]; rfl
    · exact absurd h2 (noLists_lookup hK h1)
  refine ⟨rfl, view H, [.lst (ns.map D.int)], .bl true, ⟨fun _ _ e => e, fun _ _ => rfl, fun _ _ e => e, fun _ _ _ e => e, fun b xs im e => ?_⟩, .cons (.lst hv (ints_rp ns)) .nil, hF, fun v H' r => ?_⟩
  · rcases hO b with h | ⟨o, ys, h⟩
    · rw [view_none h] at e; cases e
    · unfold view at e; rw [h] at e
      rw [← Option.some.inj e] at im; cases im
  · obtain ⟨G', fp, g, od, _⟩ := r.ex
    obtain ⟨_, rp⟩ := od.zero
    cases rp
    rfl
/-- THE END of a law row: the law's def, at its mirror F -/
theorem walk_mir {l : PySem.W.OpenLaw} {k : Nat} {q : Program} {loose : List Str} {XP : (Str → Option Value) → Heap → Prop} {YP : World → Heap → Prop} {d : DefRec} {K : Params → PySem.W.Frag} {x : Str} {F : List D → Res D}
    (hn : l.most = some 63) (hdf : d.params.defaults = []) (hr : Room k callerA) (hY : ∀ (w : World) (h : Heap), YP w h → (K w.params).In h) (hK : ∀ w : World, noLists (K w.params) = true) (hF : ∀ ns : List Int, ns.length ≤ 63 → F [.lst (ns.map D.int)] = .ok (.bl true))
    (Fo : ∀ (w : World) (mg : Str → Option Value) (fa : Addr) (h : Heap), (K w.params).In h → h.Ns mainGlobals mg → mg d.name = some (.ref fa) →
      ∃ fd : FuncData, (∀ (s : Shared) (u : Value), BindsTo s fd ⟨[u], []⟩ [(x, u)]) ∧ ∀ base : Heap, (K w.params).In base → base.Ns mainGlobals mg → FnOk l.prog w (K w.params) mg base CX0 k fa fd [x] (spF 0 1 F)) :
    PySem.W.WalkO q loose XP YP l.row.toRowW d [] (fun f vs => PySem.call f vs) :=
  L2.walk_of (n := 63) (k := k) (x := x) (CX := fun _ => CX0) (sp := fun _ => spF 0 1 F) hn (by decide) hdf hr hY Fo (fun w H a ns hl hO hS => law_sp (hK w) hO hS (hF ns hl)) fun _ _ _ _ _ z => z
end Mir

namespace Mir
open PySem PySem.Spec L2

/-! ### the mirror, reckoned -/
@[simp] theorem exc_bind {α β : Type} (c : Str) (ns : List Str) (as : List D) (f : α → Res β) : (Res.exc c ns as >>= f) = .exc c ns as := rfl
@[simp] theorem bad_bind {α β : Type} (f : α → Res β) : ((Res.bad : Res α) >>= f) = .bad := rfl
@[simp] theorem res_assoc {α β γ : Type} (x : Res α) (f : α → Res β) (g : β → Res γ) : (x >>= f >>= g) = (x >>= fun a => f a >>= g) := by cases x <;> rfl
section
variable (env : Mir.Env) (m n : Mir.Env → Res D) (m1 m2 : Mir.Env → Res Ctl) (ma mb : Mir.Env → Res Bool) (g : D → D → Res D) (g1 : D → Res D) (ms ns : Mir.Env → Res (List D)) (i j k : Nat) (cs fg : List Nat) (d : D) (F : List D → Res D)
@[simp] theorem e_mSeq : mSeq m1 m2 env = (m1 env >>= fun c => match c with | .nx e => m2 e | c => .ok c) := rfl
@[simp] theorem e_mIf {α : Type} (x y : Mir.Env → Res α) : mIf ma x y env = (ma env >>= fun c => if c then x env else y env) := rfl
@[simp] theorem e_mTb : mTb m env = (m env >>= toB) := rfl
@[simp] theorem e_toB (b : Bool) : toB (.bl b) = .ok b := rfl
@[simp] theorem e_mOp : mOp g m n env = (m env >>= fun x => n env >>= fun y => g x y) := rfl
@[simp] theorem e_mUn : mUn g1 m env = (m env >>= g1) := rfl
@[simp] theorem e_mVar : mVar i env = (match env[i]? with | some (some (_, d)) => .ok d | _ => .bad) := rfl
@[simp] theorem e_mVarK : mVarK i k env = (match env[i]? with | some (some (j, d)) => if j = k then .ok d else .bad | _ => .bad) := rfl
@[simp] theorem e_mC : mC d env = .ok d := rfl
@[simp] theorem e_mRet : mRet m env = (m env >>= fun d => .ok (.rt d)) := rfl
@[simp] theorem e_mImm : mImm m env = (m env >>= fun d => if d.imm then .ok d else .bad) := rfl
@[simp] theorem e_mSkip : mSkip env = .ok (.nx env) := rfl
@[simp] theorem e_mSet : mSet i k cs m env = (m env >>= fun d => tName i k d (clear env cs) >>= fun e => .ok (.nx e)) := rfl
@[simp] theorem e_tName : tName i k d env = if i < env.length then .ok (env.set i (some (k, d))) else .bad := rfl
@[simp] theorem e_mCall : mCall k F ms env = (ms env >>= fun ds => F ds >>= fun d => if immAt k d then .ok d else .bad) := rfl
@[simp] theorem e_mNilA : mNilA env = .ok [] := rfl
@[simp] theorem e_mConsA : mConsA m ms env = (m env >>= fun x => ms env >>= fun xs => .ok (x :: xs)) := rfl
@[simp] theorem e_mConsE : mConsE m cs ms env = (m env >>= fun x => ms (clear env cs) >>= fun xs => .ok (x :: xs)) := rfl
@[simp] theorem e_mTup : mTup ms env = (ms env >>= fun xs => if xs.length ≤ sizeLine then .ok (.tup xs) else .bad) := rfl
@[simp] theorem e_mLst : mLst ms env = (ms env >>= fun xs => if xs.length ≤ sizeLine then .ok (.lst xs) else .bad) := rfl
@[simp] theorem e_mNotB : mNotB ma env = (ma env >>= fun b => .ok (!b)) := rfl
@[simp] theorem e_mAndB : mAndB ma mb env = (ma env >>= fun b => if b then mb env else .ok false) := rfl
@[simp] theorem e_mOrB : mOrB ma mb env = (ma env >>= fun b => if b then .ok true else mb env) := rfl
@[simp] theorem e_mAndV : mAndV m n env = (m env >>= fun x => toB x >>= fun b => if b then n env else .ok (.bl false)) := rfl
@[simp] theorem e_mOrV : mOrV m n env = (m env >>= fun x => toB x >>= fun b => if b then .ok (.bl true) else n env) := rfl
@[simp] theorem e_mNotV : mNotV m env = (m env >>= fun x => toB x >>= fun b => .ok (.bl (!b))) := rfl
@[simp] theorem e_mFz : mFz i m1 env = m1 (fz i env) := rfl
@[simp] theorem e_fz : fz i env = (match env[i]? with | some (some (_, d)) => env.set i (some (0, d)) | _ => env) := rfl
@[simp] theorem e_mForget : mForget cs m1 env = m1 (clear env cs) := rfl
@[simp] theorem e_clear0 : clear env [] = env := rfl
@[simp] theorem e_clear1 (i : Nat) (is : List Nat) : clear env (i :: is) = clear (env.set i none) is := rfl
@[simp] theorem e_mGet2 (o : Mir.Env → Res D) : mGet2 m n o env = (m env >>= fun d => n env >>= fun y => o env >>= fun z => match dGet d y with | some o => .ok (o.getD z) | none => .bad) := rfl
@[simp] theorem e_mIsi (T : Ty6) : mIsi T m env = (m env >>= fun d => if isOb d = true then .bad else .ok (.bl (isi T d))) := rfl
@[simp] theorem isOb_n : isOb .non = false := rfl
@[simp] theorem isOb_b (b : Bool) : isOb (.bl b) = false := rfl
@[simp] theorem isOb_i (i : Int) : isOb (.int i) = false := rfl
@[simp] theorem isOb_s (z : Str) : isOb (.str z) = false := rfl
@[simp] theorem isOb_l (xs : List D) : isOb (.lst xs) = false := rfl
@[simp] theorem isOb_t (xs : List D) : isOb (.tup xs) = false := rfl
@[simp] theorem isOb_dk (ks : List Key) (ds : List D) : isOb (.dk ks ds) = false := rfl
@[simp] theorem isOb_dt (ks : List (List Key)) (ds : List D) : isOb (.dt ks ds) = false := rfl
@[simp] theorem isOb_ob (c : Str) (C : Addr) (ns : List Str) (ds : List D) : isOb (.ob c C ns ds) = true := rfl
@[simp] theorem isOb_exn (c : Str) (C : Addr) (ns : List Str) (ds : List D) : isOb (.exn c C ns ds) = true := rfl
@[simp] theorem e_mSlice (l u : Mir.Env → Res (Option Int)) : mSlice ms l u env = (ms env >>= fun ds => l env >>= fun lo => u env >>= fun hi => .ok (.lst (cutD ds lo hi))) := rfl
@[simp] theorem e_mFor (t : Nat → D → Mir.Env → Res Mir.Env) : mFor ms t m1 fg env = (ms env >>= fun ds => loop t m1 fg ds env) := rfl
@[simp] theorem e_mDput : mDput j cs m n env = (m env >>= fun d => n (clear env cs) >>= fun y => atK (clear env cs) j >>= fun dd => dSet dd y d >>= fun d' => .ok (.nx ((clear env cs).set j (some (1, d'))))) := rfl
@[simp] theorem e_atK : atK env j = (match env[j]? with | some (some (1, d)) => .ok d | _ => .bad) := rfl
@[simp] theorem e_mAppend : mAppend j k cs m env = (m env >>= fun d => atL (clear env cs) j (k + 1) >>= fun ds => if ds.length < sizeLine then .ok (.nx ((clear env cs).set j (some (k + 1, .lst (ds ++ [d]))))) else .bad) := rfl
@[simp] theorem e_atL : atL env j k = (match env[j]? with | some (some (k', d)) => if k' = k then itemsL d else .bad | _ => .bad) := by
  unfold atL
  cases env[j]? with
  | none => rfl
  | some x =>
    cases x with
    | none => rfl
    | some y =>
      obtain ⟨k', d⟩ := y
      cases d <;> simp [itemsL]
end
@[simp] theorem e_itemsL (xs : List D) : itemsL (.lst xs) = .ok xs := rfl
@[simp] theorem e_itemsT (xs : List D) : itemsT (.tup xs) = .ok xs := rfl
@[simp] theorem e_toI (i : Int) : toI (.int i) = .ok i := rfl
@[simp] theorem e_gAdd (i j : Int) : gAdd (.int i) (.int j) = .ok (.int (i + j)) := rfl
@[simp] theorem e_gSub (i j : Int) : gSub (.int i) (.int j) = .ok (.int (i - j)) := rfl
@[simp] theorem e_gNeg (i : Int) : gNeg (.int i) = .ok (.int (-i)) := rfl
@[simp] theorem e_gLt (i j : Int) : gLt (.int i) (.int j) = .ok (.bl (decide (i < j))) := rfl
@[simp] theorem e_gLe (i j : Int) : gLe (.int i) (.int j) = .ok (.bl (decide (i ≤ j))) := rfl
@[simp] theorem e_gGt (i j : Int) : gGt (.int i) (.int j) = .ok (.bl (decide (j < i))) := rfl
@[simp] theorem e_gGe (i j : Int) : gGe (.int i) (.int j) = .ok (.bl (decide (j ≤ i))) := rfl
@[simp] theorem e_gLenL (xs : List D) : gLen (.lst xs) = .ok (.int xs.length) := rfl
@[simp] theorem e_gLenT (xs : List D) : gLen (.tup xs) = .ok (.int xs.length) := rfl
theorem e_gMod (i j : Int) (h : 0 < j) : gMod (.int i) (.int j) = .ok (.int (i % j)) := if_pos h
theorem e_gFdv (i j : Int) (h : 0 < j) (h2 : j < 2 ^ 30) : gFdv (.int i) (.int j) = .ok (.int (i / j)) := if_pos ⟨h, by
  have : j.natAbs < 2 ^ 30 := by omega
  exact Nat.lt_of_lt_of_le (PySem.Flt.log2_lt_of (by decide) this) (by decide)⟩
theorem e_gMul (i j : Int) (h : (-(2 ^ 64) < i ∧ i < 2 ^ 64) ∨ (-(2 ^ 64) < j ∧ j < 2 ^ 64)) : gMul (.int i) (.int j) = .ok (.int (i * j)) := if_pos (by
  unfold mulOk
  rw [Bool.or_eq_true, Bool.or_eq_true, Bool.and_eq_true, Bool.and_eq_true]
  simp only [decide_eq_true_eq]
  exact .inl h)
@[simp] theorem e_int_imm (i : Int) : (D.int i).imm = true := rfl
@[simp] theorem e_bl_imm (i : Bool) : (D.bl i).imm = true := rfl
@[simp] theorem e_str_imm (i : Str) : (D.str i).imm = true := rfl
@[simp] theorem e_non_imm : D.non.imm = true := rfl
@[simp] theorem e_tup_imm (xs : List D) : (D.tup xs).imm = immAll xs := rfl
@[simp] theorem e_immAll_nil : immAll [] = true := rfl
@[simp] theorem e_immAll_cons (d : D) (ds : List D) : immAll (d :: ds) = (d.imm && immAll ds) := rfl
@[simp] theorem e_immAll_map {α : Type} (f : α → D) (xs : List α) : immAll (xs.map f) = xs.all fun x => (f x).imm := by
  induction xs with
  | nil => rfl
  | cons x xs ih => simp [ih]
@[simp] theorem e_immAt0 (d : D) : immAt 0 d = d.imm := by unfold immAt; rfl
@[simp] theorem e_shp_int (i : Int) : shp (.int i) = true := rfl
@[simp] theorem e_shp_bl (i : Bool) : shp (.bl i) = true := rfl
@[simp] theorem e_py_int (i : Int) : (D.int i).py = .int i := rfl
@[simp] theorem e_eqv_int (i j : Int) : PyData.eqv (.int i) (.int j) = (i == j) := by simp [PyData.eqv]
@[simp] theorem e_gEq_int (i j : Int) : gEq (.int i) (.int j) = .ok (.bl (i == j)) := by unfold gEq; simp
@[simp] theorem e_gNe_int (i j : Int) : gNe (.int i) (.int j) = .ok (.bl (!(i == j))) := by unfold gNe; simp
theorem sizeLine_big {n : Nat} (h : n ≤ 16000000) : n ≤ sizeLine := by rw [sizeLine_eq]; omega
theorem sizeLine_lt {n : Nat} (h : n ≤ 16000000) : n < sizeLine := by rw [sizeLine_eq]; omega
/-- a loop that is run to its end: the state s, its env mk s -/
theorem loop_fold {σ α : Type} {t : Nat → D → Mir.Env → Res Mir.Env} {body : Mir.Env → Res Ctl} {fg : List Nat} (mk : σ → Mir.Env) (enc : α → D) (f : σ → α → σ) (P : σ → Prop) : ∀ (xs : List α) (s : σ), P s →
    (∀ s a, a ∈ xs → P s → P (f s a) ∧ ∃ e1 e2, t 0 (enc a) (mk s) = .ok e1 ∧ body e1 = .ok (.nx e2) ∧ clear e2 fg = mk (f s a)) → loop t body fg (xs.map enc) (mk s) = .ok (.nx (mk (xs.foldl f s))) ∧ P (xs.foldl f s)
  | [], s, p, _ => ⟨rfl, p⟩
  | x :: xs, s, p, h => by
    obtain ⟨p2, e1, e2, h1, h2, h3⟩ := h s x List.mem_cons_self p
    have ih := loop_fold mk enc f P xs (f s x) p2 fun s' a ha => h s' a (List.mem_cons_of_mem _ ha)
    refine ⟨?_, ih.2⟩
    show (t 0 (enc x) (mk s) >>= fun e1 => body e1 >>= fun c => match c with | .nx e => loop t body fg (xs.map enc) (clear e fg) | .ct e => loop t body fg (xs.map enc) (clear e fg) | .bk e => .ok (.nx (clear e fg)) | .rt d => .ok (.rt d)) = _
    rw [h1, ok_bind, h2, ok_bind]
    show loop t body fg (xs.map enc) (clear e2 fg) = _
    rw [h3]
    exact ih.1
/-- .. with the places counted -/
theorem loop_foldI {σ α : Type} {t : Nat → D → Mir.Env → Res Mir.Env} {body : Mir.Env → Res Ctl} {fg : List Nat} (mk : σ → Mir.Env) (enc : α → D) (f : σ → α → σ) (P : Nat → σ → Prop) : ∀ (xs : List α) (n : Nat) (s : σ), P n s →
    (∀ i s a, xs[i]? = some a → P (n + i) s → P (n + i + 1) (f s a) ∧ ∃ e1 e2, t 0 (enc a) (mk s) = .ok e1 ∧ body e1 = .ok (.nx e2) ∧ clear e2 fg = mk (f s a)) → loop t body fg (xs.map enc) (mk s) = .ok (.nx (mk (xs.foldl f s))) ∧ P (n + xs.length) (xs.foldl f s)
  | [], n, s, p, _ => ⟨rfl, p⟩
  | x :: xs, n, s, p, h => by
    obtain ⟨p2, e1, e2, h1, h2, h3⟩ := h 0 s x rfl p
    have ih := loop_foldI mk enc f P xs (n + 1) (f s x) p2 fun i s' a ha hp => by
      have := h (i + 1) s' a (by simpa using ha) (by rw [show n + (i + 1) = n + 1 + i by omega]; exact hp)
      rw [show n + (i + 1) + 1 = n + 1 + i + 1 by omega] at this
      exact this
    refine ⟨?_, by rw [List.length_cons, List.foldl_cons, show n + (xs.length + 1) = n + 1 + xs.length by omega]; exact ih.2⟩
    show (t 0 (enc x) (mk s) >>= fun e1 => body e1 >>= fun c => match c with | .nx e => loop t body fg (xs.map enc) (clear e fg) | .ct e => loop t body fg (xs.map enc) (clear e fg) | .bk e => .ok (.nx (clear e fg)) | .rt d => .ok (.rt d)) = _
    rw [h1, ok_bind, h2, ok_bind]
    show loop t body fg (xs.map enc) (clear e2 fg) = _
    rw [h3]
    exact ih.1

/-! ### dicts of whole numbers -/
abbrev Pol := List (Int × Int)
def look (p : Pol) (k : Int) : Option Int := (p.find? fun x => decide (x.1 = k)).map (·.2)
def put (p : Pol) (k v : Int) : Pol := if k ∈ p.map (·.1) then p.map (fun x => if x.1 = k then (x.1, v) else x) else p ++ [(k, v)]
def encP (p : Pol) : D := .dk (p.map fun x => .inl x.1) (p.map fun x => .int x.2)
theorem dFind_enc : ∀ (p : Pol) (k : Int), dFind (p.map fun x => (Sum.inl x.1 : Key)) (p.map fun x => D.int x.2) (Sum.inl k) = (look p k).map D.int
  | [], k => rfl
  | x :: p, k => by
    show (if (Sum.inl x.1 : Key) = Sum.inl k then some (D.int x.2) else dFind (p.map fun x => (Sum.inl x.1 : Key)) (p.map fun x => D.int x.2) (Sum.inl k)) = _
    rw [dFind_enc p k]
    unfold look
    by_cases e : x.1 = k
    · simp [e]
    · have : ¬ (Sum.inl x.1 : Key) = Sum.inl k := fun z => e (Sum.inl.inj z)
      rw [if_neg this]
      simp [e]
@[simp] theorem dGet_enc (p : Pol) (k : Int) : dGet (encP p) (.int k) = some ((look p k).map D.int) := by
  show some (dFind _ _ _) = _
  rw [dFind_enc]
theorem inl_mem (p : Pol) (k : Int) : (Sum.inl k : Key) ∈ (p.map fun x => (Sum.inl x.1 : Key)) ↔ k ∈ p.map (·.1) := by simp
theorem dPutD_enc : ∀ (p : Pol) (k v : Int), dPutD (p.map fun x => (Sum.inl x.1 : Key)) (p.map fun x => D.int x.2) (Sum.inl k) (D.int v) = (p.map fun x => if x.1 = k then (x.1, v) else x).map fun x => D.int x.2
  | [], k, v => rfl
  | x :: p, k, v => by
    show (if (Sum.inl x.1 : Key) = Sum.inl k then D.int v else D.int x.2) :: dPutD _ _ _ _ = _
    rw [dPutD_enc p k v]
    by_cases e : x.1 = k
    · simp [e]
    · have : ¬ (Sum.inl x.1 : Key) = Sum.inl k := fun z => e (Sum.inl.inj z)
      rw [if_neg this]
      simp [e]
theorem put_enc (p : Pol) (k v : Int) : D.dk (dPutK (p.map fun x => (Sum.inl x.1 : Key)) (Sum.inl k)) (dPutV (p.map fun x => (Sum.inl x.1 : Key)) (p.map fun x => D.int x.2) (Sum.inl k) (D.int v)) = encP (put p k v) := by
  unfold dPutK dPutV put encP
  by_cases h : k ∈ p.map (·.1)
  · rw [if_pos ((inl_mem p k).mpr h), if_pos ((inl_mem p k).mpr h), if_pos h, dPutD_enc]
    congr 1
    rw [List.map_map]
    refine List.map_congr_left fun x _ => ?_
    by_cases e : x.1 = k <;> simp [e]
  · rw [if_neg fun z => h ((inl_mem p k).mp z), if_neg fun z => h ((inl_mem p k).mp z), if_neg h]
    simp
theorem dSet_enc (p : Pol) (k v : Int) (h : p.length ≤ 16000000) : dSet (encP p) (.int k) (.int v) = .ok (encP (put p k v)) := by
  show (if (p.map fun x => D.int x.2).length < sizeLine ∧ _ then _ else _) = _
  rw [if_pos ⟨by rw [List.length_map]; exact sizeLine_lt h, by simp⟩]
  exact congrArg Res.ok (put_enc p k v)
@[simp] theorem immAtL0 : ∀ ds : List D, immAtL 0 ds = immAll ds
  | [] => by unfold immAtL; rfl
  | d :: ds => by rw [immAtL, immAtL0 ds, e_immAt0]; rfl
@[simp] theorem immAt_enc (p : Pol) : immAt 1 (encP p) = true := by
  show immAt 1 (.dk _ _) = true
  unfold immAt
  simp
theorem put_len (p : Pol) (k v : Int) : (put p k v).length ≤ p.length + 1 := by
  unfold put
  split <;> simp
theorem put_keys (p : Pol) (k v : Int) : (put p k v).map (·.1) = if k ∈ p.map (·.1) then p.map (·.1) else p.map (·.1) ++ [k] := by
  unfold put
  split
  · rw [List.map_map]
    refine List.map_congr_left fun x _ => ?_
    by_cases e : x.1 = k <;> simp [e]
  · simp
theorem put_nodup {p : Pol} (h : (p.map (·.1)).Nodup) (k v : Int) : ((put p k v).map (·.1)).Nodup := by
  rw [put_keys]
  split
  · exact h
  · rename_i hk
    refine List.nodup_append.mpr ⟨h, by simp, fun a ha b hb e => ?_⟩
    rw [List.mem_singleton.mp hb] at e
    exact hk (e ▸ ha)
theorem look_mem : ∀ {p : Pol}, (p.map (·.1)).Nodup → ∀ {x : Int × Int}, x ∈ p → look p x.1 = some x.2
  | [], _, x, h => by cases h
  | y :: p, hn, x, h => by
    rw [List.map_cons, List.nodup_cons] at hn
    unfold look
    rcases List.mem_cons.mp h with e | h
    · subst e; simp
    · have ne : y.1 ≠ x.1 := fun e => hn.1 (e ▸ List.mem_map_of_mem h)
      have := look_mem hn.2 h
      unfold look at this
      rw [List.find?_cons]
      simp [ne]
      simpa using this
@[simp] theorem dKeys_enc (p : Pol) : dKeys (encP p) = .ok (p.map fun x => D.int x.1) := by
  show Res.ok ((p.map fun x => (Sum.inl x.1 : Key)).map kD) = _
  rw [List.map_map]; rfl
@[simp] theorem dItems_enc (p : Pol) : dItems (encP p) = .ok (p.map fun x => D.tup [.int x.1, .int x.2]) := by
  show (if (p.map fun x => (Sum.inl x.1 : Key)).length = (p.map fun x => D.int x.2).length then Res.ok _ else .bad) = _
  rw [if_pos (by simp)]
  congr 1
  induction p with
  | nil => rfl
  | cons x p ih => exact congrArg (List.cons _) ih
@[simp] theorem gDictC_enc (p : Pol) : gDictC (encP p) = .ok (encP p) := by
  show (if immAll _ then _ else _) = _
  rw [if_pos (by simp)]; rfl
@[simp] theorem isi_dict_enc (p : Pol) : isi .dict (encP p) = true := rfl
@[simp] theorem isOb_encP (p : Pol) : isOb (encP p) = false := rfl
theorem dSame_enc (p : Pol) (h : (p.map (·.1)).Nodup) : dSame (encP p) (encP p) = true := by
  unfold encP dSame
  simp only [List.length_map, decide_true, Bool.true_and, List.all_eq_true, id]
  intro b hb
  rw [List.zipWith_map] at hb
  have key : ∀ x ∈ p, (match dFind (p.map fun x => (Sum.inl x.1 : Key)) (p.map fun x => D.int x.2) (Sum.inl x.1) with | some e => scEq (D.int x.2) e | none => false) = true := fun x hx => by
    rw [dFind_enc, look_mem h hx]
    simp [scEq]
  obtain ⟨i, hi⟩ := List.mem_iff_getElem?.mp hb
  rw [List.getElem?_zipWith] at hi
  cases hx : p[i]? with
  | none => simp [hx] at hi
  | some x =>
    simp only [hx] at hi
    rw [← Option.some.inj hi]
    exact key x (List.mem_of_getElem? hx)
end Mir

namespace Mir
open PySem PySem.Spec L2
/-- a loop that keeps P -/
theorem loop_inv {σ α : Type} {t : Nat → D → Mir.Env → Res Mir.Env} {body : Mir.Env → Res Ctl} {fg : List Nat} (mk : σ → Mir.Env) (enc : α → D) (P : Nat → σ → Prop) : ∀ (xs : List α) (n : Nat) (s : σ), P n s →
    (∀ i s a, a ∈ xs → i < n + xs.length → P i s → ∃ s', P (i + 1) s' ∧ ∃ e1 e2, t 0 (enc a) (mk s) = .ok e1 ∧ body e1 = .ok (.nx e2) ∧ clear e2 fg = mk s') → ∃ s', loop t body fg (xs.map enc) (mk s) = .ok (.nx (mk s')) ∧ P (n + xs.length) s'
  | [], n, s, p, _ => ⟨s, rfl, p⟩
  | x :: xs, n, s, p, h => by
    obtain ⟨s', p2, e1, e2, h1, h2, h3⟩ := h n s x List.mem_cons_self (by rw [List.length_cons]; omega) p
    obtain ⟨s2, q1, q2⟩ := loop_inv mk enc P xs (n + 1) s' p2 fun i s a ha hi hp => h i s a (List.mem_cons_of_mem _ ha) (by rw [List.length_cons]; omega) hp
    refine ⟨s2, ?_, by rw [List.length_cons, show n + (xs.length + 1) = n + 1 + xs.length by omega]; exact q2⟩
    show (t 0 (enc x) (mk s) >>= fun e1 => body e1 >>= fun c => match c with | .nx e => loop t body fg (xs.map enc) (clear e fg) | .ct e => loop t body fg (xs.map enc) (clear e fg) | .bk e => .ok (.nx (clear e fg)) | .rt d => .ok (.rt d)) = _
    rw [h1, ok_bind, h2, ok_bind]
    show loop t body fg (xs.map enc) (clear e2 fg) = _
    rw [h3]
    exact q1
theorem gDGet_enc {p : Pol} {k v : Int} (h : look p k = some v) : gDGet (encP p) (.int k) = .ok (.int v) := by
  unfold gDGet
  rw [dGet_enc, h]; rfl
end Mir

namespace Mir
open PySem PySem.Spec L2
/-! ### polynomials: what a sum over the terms says -/
abbrev ND (p : Pol) : Prop := (p.map (·.1)).Nodup
def NZ (p : Pol) : Prop := ∀ x ∈ p, x.2 ≠ 0
def ev : Pol → (Int → Int) → Int
  | [], _ => 0
  | x :: p, w => x.2 * w x.1 + ev p w
theorem look_cons (x : Int × Int) (p : Pol) (k : Int) : look (x :: p) k = if x.1 = k then some x.2 else look p k := by
  unfold look
  by_cases e : x.1 = k <;> simp [e]
theorem look_none {p : Pol} {k : Int} (h : k ∉ p.map (·.1)) : look p k = none := by
  induction p with
  | nil => rfl
  | cons x p ih =>
    rw [List.map_cons, List.mem_cons, not_or] at h
    rw [look_cons, if_neg (fun e => h.1 e.symm), ih h.2]
theorem look_some {p : Pol} {k : Int} (h : k ∈ p.map (·.1)) : ∃ v, look p k = some v := by
  induction p with
  | nil => cases h
  | cons x p ih =>
    rw [look_cons]
    split
    · exact ⟨_, rfl⟩
    · rw [List.map_cons, List.mem_cons] at h
      exact ih (h.resolve_left fun e => ‹¬ _› e.symm)
theorem look_in {p : Pol} {k v : Int} (h : look p k = some v) : (k, v) ∈ p := by
  induction p with
  | nil => cases h
  | cons x p ih =>
    rw [look_cons] at h
    split at h
    · rename_i e
      have := Option.some.inj h
      rw [← e, ← this]; exact List.mem_cons_self
    · exact List.mem_cons_of_mem _ (ih h)
theorem put_new {p : Pol} {k : Int} (h : k ∉ p.map (·.1)) (v : Int) : put p k v = p ++ [(k, v)] := if_neg h
theorem put_ne {x : Int × Int} {p : Pol} {k : Int} (h : x.1 ≠ k) (v : Int) : put (x :: p) k v = x :: put p k v := by
  unfold put
  by_cases e : k ∈ p.map (·.1)
  · rw [if_pos (by rw [List.map_cons]; exact List.mem_cons_of_mem _ e), if_pos e, List.map_cons, if_neg h]
  · rw [if_neg (by rw [List.map_cons, List.mem_cons, not_or]; exact ⟨fun z => h z.symm, e⟩), if_neg e]; rfl
theorem map_id_of {p : Pol} {k : Int} (h : k ∉ p.map (·.1)) (v : Int) : (p.map fun x => if x.1 = k then (x.1, v) else x) = p := by
  induction p with
  | nil => rfl
  | cons x p ih =>
    rw [List.map_cons, List.mem_cons, not_or] at h
    rw [List.map_cons, if_neg (fun e => h.1 e.symm), ih h.2]
theorem put_hd {u : Int} {p : Pol} {k : Int} (h : k ∉ p.map (·.1)) (v : Int) : put ((k, u) :: p) k v = (k, v) :: p := by
  unfold put
  rw [if_pos (by simp), List.map_cons, map_id_of h, if_pos rfl]
theorem ev_app (p q : Pol) (w : Int → Int) : ev (p ++ q) w = ev p w + ev q w := by
  induction p with
  | nil => simp [ev]
  | cons x p ih => simp only [List.cons_append, ev, ih]; omega
theorem ev_put {p : Pol} (h : ND p) (k v : Int) (w : Int → Int) : ev (put p k ((look p k).getD 0 + v)) w = ev p w + v * w k := by
  induction p with
  | nil => simp [put, look, ev]
  | cons x p ih =>
    have h2 : x.1 ∉ p.map (·.1) ∧ ND p := List.nodup_cons.mp h
    by_cases e : x.1 = k
    · have ek : x = (k, x.2) := by rw [← e]
      rw [look_cons, if_pos e, ek, put_hd (by rw [← e]; exact h2.1)]
      simp only [ev, Option.getD_some, Int.add_mul]; omega
    · rw [look_cons, if_neg e, put_ne e]
      simp only [ev, ih h2.2]; omega
theorem ev_filter (p : Pol) (w : Int → Int) : ev (p.filter fun x => decide (x.2 ≠ 0)) w = ev p w := by
  induction p with
  | nil => rfl
  | cons x p ih =>
    by_cases e : x.2 = 0
    · rw [List.filter_cons_of_neg (by simp [e]), ih]; simp [ev, e]
    · rw [List.filter_cons_of_pos (by simp [e])]; simp only [ev, ih]
theorem ev_add (p : Pol) (w z : Int → Int) : ev p (fun k => w k + z k) = ev p w + ev p z := by
  induction p with
  | nil => rfl
  | cons x p ih => simp only [ev, ih, Int.mul_add]; omega
theorem ev_smul (p : Pol) (c : Int) (w : Int → Int) : ev p (fun k => c * w k) = c * ev p w := by
  induction p with
  | nil => simp [ev]
  | cons x p ih => simp only [ev, ih, Int.mul_add]; rw [Int.mul_left_comm]
theorem ev_zero (p : Pol) : ev p (fun _ => 0) = 0 := by
  induction p with
  | nil => rfl
  | cons x p ih => simp only [ev, ih]; omega
theorem ev_swap (p q : Pol) (w : Int → Int → Int) : ev p (fun s => ev q fun t => w s t) = ev q fun t => ev p fun s => w s t := by
  induction p with
  | nil => exact (ev_zero q).symm
  | cons x p ih =>
    simp only [ev, ih]
    rw [ev_add q, ev_smul]
theorem ev_map (p : Pol) (g h : Int → Int) (c : Int) (w : Int → Int) : ev (p.map fun x => (g x.1, x.2 * c)) w = c * ev p (fun k => w (g k)) := by
  induction p with
  | nil => simp [ev]
  | cons x p ih => simp only [List.map_cons, ev, ih, Int.mul_add]; rw [Int.mul_comm x.2 c, Int.mul_assoc]
theorem ev_ind {p : Pol} (h : ND p) (k : Int) : ev p (fun s => if s = k then 1 else 0) = (look p k).getD 0 := by
  induction p with
  | nil => rfl
  | cons x p ih =>
    have h2 : x.1 ∉ p.map (·.1) ∧ ND p := List.nodup_cons.mp h
    rw [look_cons]
    simp only [ev]
    rw [ih h2.2]
    by_cases e : x.1 = k
    · rw [if_pos e, if_pos e, look_none (by rw [← e]; exact h2.1)]; simp
    · rw [if_neg e, if_neg e]; simp
theorem nodup_le : ∀ {xs ys : List Int}, xs.Nodup → (∀ x ∈ xs, x ∈ ys) → xs.length ≤ ys.length
  | [], _, _, _ => Nat.zero_le _
  | x :: xs, ys, h, s => by
    have h2 := List.nodup_cons.mp h
    have hx := s x List.mem_cons_self
    have := nodup_le (ys := ys.erase x) h2.2 fun y hy => (List.mem_erase_of_ne (fun e : y = x => h2.1 (e ▸ hy))).mpr (s y (List.mem_cons_of_mem _ hy))
    rw [List.length_erase_of_mem hx] at this
    have pos : 0 < ys.length := List.length_pos_of_mem hx
    rw [List.length_cons]; omega
theorem nodup_range {xs : List Int} (h : xs.Nodup) {m : Nat} (b : ∀ x ∈ xs, -(m : Int) ≤ x ∧ x ≤ m) : xs.length ≤ 2 * m + 1 := by
  have := nodup_le (ys := (List.range (2 * m + 1)).map fun i : Nat => (i : Int) - m) h fun x hx => by
    obtain ⟨h1, h2⟩ := b x hx
    refine List.mem_map.mpr ⟨(x + m).toNat, List.mem_range.mpr (by omega), by omega⟩
  simpa using this
theorem dSame_look {p q : Pol} (hl : p.length = q.length) (h : ∀ x ∈ p, look q x.1 = some x.2) : dSame (encP p) (encP q) = true := by
  unfold encP dSame
  simp only [List.length_map, hl, decide_true, Bool.true_and, List.all_eq_true, id]
  intro b hb
  rw [List.zipWith_map] at hb
  obtain ⟨i, hi⟩ := List.mem_iff_getElem?.mp hb
  rw [List.getElem?_zipWith] at hi
  cases hx : p[i]? with
  | none => simp [hx] at hi
  | some x =>
    simp only [hx] at hi
    rw [← Option.some.inj hi]
    show (match dFind (q.map fun x => (Sum.inl x.1 : Key)) (q.map fun x => D.int x.2) (Sum.inl x.1) with | some e => scEq (D.int x.2) e | none => false) = true
    rw [dFind_enc, h x (List.mem_of_getElem? hx)]
    simp [scEq]
theorem look_of_ev {p q : Pol} (hp : ND p) (hq : ND q) (zp : NZ p) (zq : NZ q) (h : ∀ w, ev p w = ev q w) (k : Int) : look p k = look q k := by
  have e := h (fun s => if s = k then 1 else 0)
  rw [ev_ind hp, ev_ind hq] at e
  cases a : look p k with
  | none => cases b : look q k with
    | none => rfl
    | some v => rw [a, b] at e; exact absurd e.symm (zq _ (look_in b))
  | some u => cases b : look q k with
    | none => rw [a, b] at e; exact absurd e (zp _ (look_in a))
    | some v => rw [a, b] at e; exact congrArg some e
theorem pol_same {p q : Pol} (hp : ND p) (hq : ND q) (hl : ∀ k, look p k = look q k) : dSame (encP p) (encP q) = true := by
  have sub : ∀ {p q : Pol}, (∀ k, look p k = look q k) → ∀ x ∈ p.map (·.1), x ∈ q.map (·.1) := fun {p q} h x hx => by
    obtain ⟨v, hv⟩ := look_some hx
    rw [h] at hv
    exact List.mem_map.mpr ⟨_, look_in hv, rfl⟩
  have l1 := nodup_le hp (sub hl)
  have l2 := nodup_le hq (sub fun k => (hl k).symm)
  rw [List.length_map, List.length_map] at l1 l2
  exact dSame_look (by omega) fun x hx => by rw [← hl]; exact look_mem hp hx
theorem ring_same {p q : Pol} (hp : ND p) (hq : ND q) (zp : NZ p) (zq : NZ q) (h : ∀ w, ev p w = ev q w) : dSame (encP p) (encP q) = true := pol_same hp hq (look_of_ev hp hq zp zq h)
theorem gEqD_enc {p : Pol} (h : ND p) : gEqD (encP p) (encP p) = .ok (.bl true) := if_pos (dSame_enc p h)
theorem gNeD_enc {p : Pol} (h : ND p) : gNeD (encP p) (encP p) = .ok (.bl false) := if_pos (dSame_enc p h)
theorem gEqD_of {p q : Pol} (h : dSame (encP p) (encP q) = true) : gEqD (encP p) (encP q) = .ok (.bl true) := if_pos h
theorem gNeD_of {p q : Pol} (h : dSame (encP p) (encP q) = true) : gNeD (encP p) (encP q) = .ok (.bl false) := if_pos h
/-- laying a row of pairs with unlike keys into a dict -/
theorem fold_put {α : Type} (key val : α → Int) : ∀ (xs : List α) (q : Pol), (q.map (·.1) ++ xs.map key).Nodup → xs.foldl (fun q x => put q (key x) (val x)) q = q ++ xs.map fun x => (key x, val x)
  | [], q, _ => by simp
  | x :: xs, q, h => by
    have h1 : key x ∉ q.map (·.1) := fun hm => by
      have := (List.nodup_append.mp h).2.2 _ hm (key x) (by simp)
      exact this rfl
    rw [List.foldl_cons, put_new h1, fold_put key val xs _ (by simpa using h)]
    simp
def keep (q : Pol) (x : Int × Int) : Pol := if x.2 = 0 then q else put q x.1 x.2
theorem fold_keep : ∀ (p q : Pol), (q.map (·.1) ++ p.map (·.1)).Nodup → p.foldl keep q = q ++ p.filter fun x => decide (x.2 ≠ 0)
  | [], q, _ => by simp
  | x :: p, q, h => by
    have h1 : x.1 ∉ q.map (·.1) := fun hm => by
      have := (List.nodup_append.mp h).2.2 _ hm x.1 (by simp)
      exact this rfl
    rw [List.foldl_cons]
    by_cases e : x.2 = 0
    · rw [show keep q x = q from if_pos e, List.filter_cons_of_neg (by simp [e])]
      exact fold_keep p q (by
        rw [List.map_cons] at h
        have := List.nodup_append.mp h
        exact List.nodup_append.mpr ⟨this.1, (List.nodup_cons.mp this.2.1).2, fun a ha b hb => this.2.2 a ha b (List.mem_cons_of_mem _ hb)⟩)
    · rw [show keep q x = put q x.1 x.2 from if_neg e, put_new h1, List.filter_cons_of_pos (by simp [e])]
      have := fold_keep p (q ++ [(x.1, x.2)]) (by simpa using h)
      rw [this]; simp
end Mir

namespace Mir
open PySem PySem.Spec L2
/-- unlike powers, none beyond R, numbers of at most B -/
structure PB (R B : Nat) (p : Pol) : Prop where
  nd : ND p
  rg : ∀ x ∈ p, x.1.natAbs ≤ R
  vb : ∀ x ∈ p, x.2.natAbs ≤ B
theorem PB.nil {R B : Nat} : PB R B [] := ⟨List.nodup_nil, fun x h => absurd h List.not_mem_nil, fun x h => absurd h List.not_mem_nil⟩
theorem PB.len {R B : Nat} {p : Pol} (h : PB R B p) : p.length ≤ 2 * R + 1 := by
  have := nodup_range h.nd (m := R) fun x hx => by
    obtain ⟨y, hy, rfl⟩ := List.mem_map.mp hx
    have := h.rg y hy
    omega
  simpa using this
theorem PB.up {R B R' B' : Nat} {p : Pol} (h : PB R B p) (hr : R ≤ R') (hb : B ≤ B') : PB R' B' p := ⟨h.nd, fun x hx => Nat.le_trans (h.rg x hx) hr, fun x hx => Nat.le_trans (h.vb x hx) hb⟩
theorem mem_put {p : Pol} {k v : Int} {x : Int × Int} (h : x ∈ put p k v) : x = (k, v) ∨ x ∈ p := by
  unfold put at h
  split at h
  · obtain ⟨y, hy, e⟩ := List.mem_map.mp h
    split at e
    · rename_i ek; exact .inl (by rw [← e, ek])
    · exact .inr (e ▸ hy)
  · rcases List.mem_append.mp h with h | h
    · exact .inr h
    · exact .inl (List.mem_singleton.mp h)
theorem PB.put {R B : Nat} {p : Pol} (h : PB R B p) {k v : Int} (hk : k.natAbs ≤ R) (hv : v.natAbs ≤ B) : PB R B (put p k v) :=
  ⟨put_nodup h.nd k v, fun x hx => by rcases mem_put hx with rfl | hx; exact hk; exact h.rg x hx, fun x hx => by rcases mem_put hx with rfl | hx; exact hv; exact h.vb x hx⟩
theorem PB.look {R B : Nat} {p : Pol} (h : PB R B p) (k : Int) : ((look p k).getD 0).natAbs ≤ B := by
  cases e : Mir.look p k with
  | none => exact Nat.zero_le _
  | some v => exact h.vb _ (look_in e)
theorem PB.plus {R B : Nat} {p : Pol} {n : Nat} (h : PB R (n * B) p) {k v : Int} (hk : k.natAbs ≤ R) (hv : v.natAbs ≤ B) : PB R ((n + 1) * B) (Mir.put p k ((Mir.look p k).getD 0 + v)) := by
  have h1 := h.look k
  rw [Nat.add_mul, Nat.one_mul]
  exact (h.up (Nat.le_refl _) (Nat.le_add_right _ _)).put hk (by omega)
/-- pared -/
abbrev par (p : Pol) : Pol := p.filter fun x => decide (x.2 ≠ 0)
theorem par_nz (p : Pol) : NZ (par p) := fun x hx => by simpa using (List.mem_filter.mp hx).2
theorem PB.par {R B : Nat} {p : Pol} (h : PB R B p) : PB R B (par p) :=
  ⟨h.nd.sublist (List.filter_sublist.map _), fun x hx => h.rg x (List.mem_filter.mp hx).1, fun x hx => h.vb x (List.mem_filter.mp hx).1⟩
theorem fold_keep0 {p : Pol} (h : ND p) : p.foldl keep [] = par p := by
  rw [fold_keep p [] (by simpa using h)]; rfl
/-- the sum -/
def plus (t : Pol) (y : Int × Int) : Pol := Mir.put t y.1 ((Mir.look t y.1).getD 0 + y.2)
def addP (a b : Pol) : Pol := b.foldl plus a
theorem addP_nd : ∀ (b a : Pol), ND a → ND (addP a b)
  | [], a, h => h
  | y :: b, a, h => addP_nd b _ (put_nodup h _ _)
theorem ev_addP : ∀ (b a : Pol), ND a → ∀ w, ev (addP a b) w = ev a w + ev b w
  | [], a, h, w => by simp [addP, ev]
  | y :: b, a, h, w => by
    show ev (addP (plus a y) b) w = _
    rw [ev_addP b (plus a y) (put_nodup h _ _)]
    simp only [plus, ev_put h, ev]; omega
theorem addP_pb {R : Nat} {B : Nat} : ∀ (b a : Pol) (n : Nat), PB R (n * B) a → PB R B b → PB R ((n + b.length) * B) (addP a b)
  | [], a, n, h, _ => h
  | y :: b, a, n, h, hb => by
    have := addP_pb b (plus a y) (n + 1) (h.plus (hb.rg y List.mem_cons_self) (hb.vb y List.mem_cons_self)) ⟨(List.nodup_cons.mp hb.nd).2, fun x hx => hb.rg x (List.mem_cons_of_mem _ hx), fun x hx => hb.vb x (List.mem_cons_of_mem _ hx)⟩
    rw [List.length_cons, show n + (b.length + 1) = n + 1 + b.length by omega]
    exact this
/-- the product -/
def ter (x : Int × Int) (t : Pol) (y : Int × Int) : Pol := Mir.put t (x.1 + y.1) ((Mir.look t (x.1 + y.1)).getD 0 + x.2 * y.2)
def row (b : Pol) (t : Pol) (x : Int × Int) : Pol := b.foldl (ter x) t
def mulP (a b : Pol) : Pol := a.foldl (row b) []
theorem row_nd (x : Int × Int) : ∀ (b t : Pol), ND t → ND (row b t x)
  | [], t, h => h
  | y :: b, t, h => row_nd x b _ (put_nodup h _ _)
theorem ev_row (x : Int × Int) (w : Int → Int) : ∀ (b t : Pol), ND t → ev (row b t x) w = ev t w + x.2 * ev b (fun k => w (x.1 + k))
  | [], t, h => by simp [row, ev]
  | y :: b, t, h => by
    show ev (row b (ter x t y) x) w = _
    rw [ev_row x w b (ter x t y) (put_nodup h _ _)]
    simp only [ter, ev_put h, ev, Int.mul_add, Int.mul_assoc]; omega
theorem ev_rows (b : Pol) (w : Int → Int) : ∀ (a t : Pol), ND t → ND (a.foldl (row b) t) ∧ ev (a.foldl (row b) t) w = ev t w + ev a fun s => ev b fun k => w (s + k)
  | [], t, h => ⟨h, by simp [ev]⟩
  | x :: a, t, h => by
    have := ev_rows b w a (row b t x) (row_nd x b t h)
    refine ⟨this.1, ?_⟩
    rw [List.foldl_cons, this.2, ev_row x w b t h]
    simp only [ev]; omega
theorem ev_mulP (a b : Pol) (w : Int → Int) : ev (mulP a b) w = ev a fun s => ev b fun k => w (s + k) := by
  rw [mulP, (ev_rows b w a [] List.nodup_nil).2]; simp [ev]
theorem natAbs_mul_le {i j : Int} {A B : Nat} (hi : i.natAbs ≤ A) (hj : j.natAbs ≤ B) : (i * j).natAbs ≤ A * B := by
  rw [Int.natAbs_mul]; exact Nat.mul_le_mul hi hj
theorem natAbs_add_le {i j : Int} {A B : Nat} (hi : i.natAbs ≤ A) (hj : j.natAbs ≤ B) : (i + j).natAbs ≤ A + B := by omega
/-- of few bits -/
def Sm (A : Nat) : Prop := ∃ k, k < 400000 ∧ A ≤ 2 ^ k
theorem Sm.lt {A : Nat} {i : Int} (h : Sm A) (hi : i.natAbs ≤ A) : i.natAbs.log2 < 400001 := by
  obtain ⟨k, hk, hA⟩ := h
  have h1 : i.natAbs < 2 ^ (k + 1) := Nat.lt_of_le_of_lt (Nat.le_trans hi hA) (Nat.pow_lt_pow_right (by decide) (by omega))
  exact Nat.lt_of_lt_of_le (PySem.Flt.log2_lt_of (by omega) h1) (by omega)
theorem e_gMul2 {i j : Int} {A B K : Nat} (hi : i.natAbs ≤ A) (hj : j.natAbs ≤ B) (hA : Sm A) (hB : Sm B) : gMul (.int i) (.int j) = .ok (.int (i * j)) := if_pos (by
  have l1 := hA.lt hi
  have l2 := hB.lt hj
  unfold mulOk
  rw [Bool.or_eq_true]
  exact .inr (decide_eq_true (by omega)))
theorem getD_int (o : Option Int) : (o.map D.int).getD (.int 0) = .int (o.getD 0) := by cases o <;> rfl
theorem dSet_pb {R B : Nat} {p : Pol} (h : PB R B p) (hR : R ≤ 7000000) (k v : Int) : dSet (encP p) (.int k) (.int v) = .ok (encP (put p k v)) := dSet_enc p k v (by have := h.len; omega)
end Mir

namespace Mir
open PySem PySem.Spec L2
/-! ### dict displays, unlike keys, values without lists and dicts -/
def mDispP : List ((Env → Res D) × (Env → Res D)) → Env → Res (List (Key × D))
  | [], _ => .ok []
  | (mk, mv) :: r, env => mk env >>= fun x => mv env >>= fun d => mDispP r env >>= fun t => match keyOf x with
    | some k => if d.imm then .ok ((k, d) :: t) else .bad
    | none => .bad
def mDisp (l : List ((Env → Res D) × (Env → Res D))) : Env → Res D := fun env => mDispP l env >>= fun kds => if (kds.map (·.1)).Nodup ∧ kds.length ≤ 15 then .ok (.dk (kds.map (·.1)) (kds.map (·.2))) else .bad
def SDP (X : Cx) (pos : Pos) (keys : List (Option Expr)) (values : List Expr) (ml : List ((Env → Res D) × (Env → Res D))) : Prop := ∃ trs, PPs X pos keys values trs ∧
  ∀ (B : Bs) (H : Hp) (env : Env) (σ : St) (tm : List Hold) (kds : List (Key × D)) (Q : List (V × V) → Hp → Prop), EnvOk B H env σ tm → mDispP ml env = .ok kds →
  (∀ (kvs : List (Key × V)) H', Ext H H' → EnvOk B H' env σ tm → kvs.map (·.1) = kds.map (·.1) → RpAll (view H') (kvs.map (·.2)) (kds.map (·.2)) → immAll (kds.map (·.2)) = true → Q (kvs.map fun kv => (kV kv.1, kv.2)) H') → tPairs trs σ H Q
section
variable {X : Cx} {pos : Pos}
theorem sdp_nil : SDP X pos [] [] [] := ⟨[], pps_nil, fun B H env σ tm kds Q ok hm q => by
  cases hm
  exact q [] H (Ext.refl H) ok rfl .nil rfl⟩
theorem sdp_cons {a b : Expr} {ks : List (Option Expr)} {vs : List Expr} {ma mb : Env → Res D} {ml : List ((Env → Res D) × (Env → Res D))} (ha' : SC X a ma) (hb' : SC X b mb) (hr : SDP X pos ks vs ml) : SDP X pos (some a :: ks) (b :: vs) ((ma, mb) :: ml) := by
  have ha := sb_c ha'
  have hb := sb_c hb'
  obtain ⟨trs, hp, hq⟩ := hr
  refine ⟨(wE X a, wE X b) :: trs, pps_cons pe_sem pe_sem hp, fun B H env σ tm kds Q ok hm q => ?_⟩
  obtain ⟨x, hx, hm⟩ := bind_ok hm
  obtain ⟨d, hd, hm⟩ := bind_ok hm
  obtain ⟨t, ht, hm⟩ := bind_ok hm
  split at hm
  · rename_i k hk
    split at hm
    · rename_i hi
      cases hm
      refine ha B H env σ tm x _ ok hx fun v H1 x1 ok1 r1 => hb B H1 env σ tm d _ ok1 hd fun u H2 x2 ok2 r2 => hq B H2 env σ tm t _ ok2 ht fun kvs H3 x3 ok3 e3 ra i3 => ?_
      rw [keyOf_rp r1 hk]
      refine q ((k, u) :: kvs) H3 (x1.trans (x2.trans x3)) ok3 (by rw [List.map_cons, e3]; rfl) (.cons (x3.rp r2) ra) ?_
      show (d.imm && immAll (t.map (·.2))) = true
      rw [hi, i3]; rfl
    · cases hm
  · cases hm
theorem putK_new {kvs : List (Key × V)} {x : Key} {v : V} (h : x ∉ kvs.map (·.1)) : putK kvs x v = kvs ++ [(x, v)] := by
  unfold putK
  rw [if_neg]
  intro z
  obtain ⟨p, hp, e⟩ := List.any_eq_true.mp z
  exact h (List.mem_map.mpr ⟨p, hp, of_decide_eq_true e⟩)
theorem mergeK_new : ∀ (more kvs : List (Key × V)), ((kvs ++ more).map (·.1)).Nodup → mergeK kvs more = kvs ++ more
  | [], kvs, _ => by simp [mergeK]
  | p :: more, kvs, h => by
    have h1 : p.1 ∉ kvs.map (·.1) := fun z => by
      rw [List.map_append] at h
      exact (List.nodup_append.mp h).2.2 _ z p.1 (by simp) rfl
    show mergeK (putK kvs p.1 p.2) more = _
    rw [putK_new h1, mergeK_new more _ (by simpa using h)]
    simp
theorem se_disp {k : Nat} {keys : List (Option Expr)} {values : List Expr} {ml : List ((Env → Res D) × (Env → Res D))} (h : SDP X pos keys values ml) (hall : keys.all (·.isSome) = true) (hl : keys.length = values.length) (h0 : keys ≠ []) (h15 : keys.length ≤ 15) :
    SE X (k + 1) [] (.Dict keys values pos) (mDisp ml) := fun B H env σ tm d Q ok hm q => by
  obtain ⟨trs, hp, hq⟩ := h
  obtain ⟨kds, hk, hm⟩ := bind_ok hm
  split at hm
  · rename_i hn
    cases hm
    refine wE_of (pe_disp hp hall hl h0 h15) fun p hpn => ?_
    have ok1 : EnvOk B (upd H p (.dK [])) env σ ((.ref p, k + 1, .dk [] []) :: tm) := EnvOk.newDk (k := k) (kvs := []) (ds := []) ok rfl rfl hpn
    refine hq B _ env σ _ kds _ ok1 hk fun kvs H2 x2 ok2 e2 ra im => ?_
    obtain ⟨kvs0, hq0, ek, hlen, ok3⟩ := ok2.takeDk
    have e0 : kvs0 = [] := List.map_eq_nil_iff.mp ek
    subst e0
    have hlen2 : kvs.length = kds.length := by simpa using congrArg List.length e2
    refine ⟨hq0, kvs, rfl, by omega, ?_⟩
    rw [mergeK_new kvs [] (by rw [List.nil_append, e2]; exact hn.1), List.nil_append]
    have ok4 := ok2.levs (k := k) ra im
    obtain ⟨kvs1, hq1, ek1, hlen1, ok5⟩ := EnvOk.takeDk (ok4.perm List.perm_middle)
    have e1 : kvs1 = [] := List.map_eq_nil_iff.mp ek1
    subst e1
    have ok6 := EnvOk.newDk (p := p) (kvs := kvs) (ks := kds.map (·.1)) (ds := kds.map (·.2)) (k := k) ok5 (by simpa using hlen2) e2 del_self
    rw [upd_del] at ok6
    refine q _ _ (fun a o ha => ?_) ok6
    have hap : a ≠ p := fun e => by rw [e, hpn] at ha; cases ha
    rw [upd_ne hap]
    exact x2 a o (by rw [upd_ne hap]; exact ha)
  · cases hm
end
variable (env : Mir.Env)
@[simp] theorem e_mDisp (l : List ((Mir.Env → Res D) × (Mir.Env → Res D))) : mDisp l env = (mDispP l env >>= fun kds => if (kds.map (·.1)).Nodup ∧ kds.length ≤ 15 then .ok (.dk (kds.map (·.1)) (kds.map (·.2))) else .bad) := rfl
@[simp] theorem e_mDispP0 : mDispP [] env = .ok [] := rfl
@[simp] theorem e_mDispP1 (mk mv : Mir.Env → Res D) (r : List ((Mir.Env → Res D) × (Mir.Env → Res D))) : mDispP ((mk, mv) :: r) env = (mk env >>= fun x => mv env >>= fun d => mDispP r env >>= fun t => match keyOf x with
    | some k => if d.imm then .ok ((k, d) :: t) else .bad
    | none => .bad) := rfl
@[simp] theorem e_keyOf_int (i : Int) : keyOf (.int i) = some (.inl i) := rfl
@[simp] theorem e_keyOf_str (i : Str) : keyOf (.str i) = some (.inr i) := rfl
theorem rangeOk_nat (n : Nat) (h : n ≤ 1000) : rangeOk (n : Int) = true := by
  have h1 : -(2 ^ 62) ≤ (n : Int) := Int.le_trans (by decide) (Int.natCast_nonneg n)
  have h2 : (n : Int) < 2 ^ 62 := Int.lt_of_le_of_lt (Int.ofNat_le.mpr h) (by decide)
  unfold rangeOk
  rw [decide_eq_true h1, decide_eq_true h2, Bool.true_and]
theorem gRng1_nat (n : Nat) (h : n ≤ 1000) : gRng1 (.int n) = .ok ((List.range n).map fun i : Nat => D.int i) := by
  show (if rangeOk (n : Int) = true then Res.ok (intsD 0 (n : Int).toNat) else .bad) = _
  rw [if_pos (rangeOk_nat n h)]
  simp [intsD]
theorem enc1 (k v : Int) : D.dk [Sum.inl k] [D.int v] = encP [(k, v)] := rfl
end Mir

namespace Mir
open PySem PySem.Spec L2
/-! ### a number laid into each dict of a list -/
def putAll (c e : Int) : List D → Res (List D)
  | [] => .ok []
  | d :: ds => dSet d (.int c) (.int e) >>= fun d' => putAll c e ds >>= fun ds' => .ok (d' :: ds')
theorem putAll_get {c e : Int} : ∀ {ds es : List D}, putAll c e ds = .ok es → es.length = ds.length ∧ ∀ (i : Nat) (d : D), ds[i]? = some d → ∃ d', es[i]? = some d' ∧ dSet d (.int c) (.int e) = .ok d'
  | [], es, h => by cases h; exact ⟨rfl, fun i d h => by simp at h⟩
  | x :: ds, es, h => by
    obtain ⟨x', h1, h⟩ := bind_ok h
    obtain ⟨es', h2, h⟩ := bind_ok h
    cases h
    obtain ⟨h3, h4⟩ := putAll_get h2
    refine ⟨by simp [h3], fun i d hd => ?_⟩
    cases i with
    | zero => cases hd; exact ⟨x', rfl, h1⟩
    | succ i => exact h4 i d hd
def mForPut (j i : Nat) (c e : Int) : Env → Res Ctl := fun env => match env[j]? with
  | some (some (2, .lst ds)) => if i < env.length then putAll c e ds >>= fun es => .ok (.nx ((env.set i none).set j (some (2, .lst es)))) else .bad
  | _ => .bad
section
variable {X : Cx} {kr : Nat} {pos p2 p3 p4 p5 p6 p7 : Pos} {o it : Expr} {v : Str}
theorem lev_mid {k i : Nat} {vs : List V} {ds : List D} {v : V} {d : D} (hv : vs[i]? = some v) (hd : ds[i]? = some d) (hl : vs.length = ds.length) : ∃ l, (lev k vs ds).Perm ((v, k, d) :: l) ∧ ∀ d', (lev k vs (ds.set i d')).Perm ((v, k, d') :: l) := by
  induction vs generalizing ds i with
  | nil => simp at hv
  | cons w vs ih =>
    cases ds with
    | nil => simp at hd
    | cons x ds =>
      cases i with
      | zero =>
        cases hv; cases hd
        exact ⟨lev k vs ds, .refl _, fun d' => .refl _⟩
      | succ i =>
        obtain ⟨l, h1, h2⟩ := ih (ds := ds) (i := i) hv hd (by simpa using hl)
        exact ⟨(w, k, x) :: l, (h1.cons _).trans (.swap _ _ _), fun d' => ((h2 d').cons _).trans (.swap _ _ _)⟩
theorem s_forPut {i j : Nat} {c e : Int} {jc je : Nat} (hu : X.A.units + 1 < cLine) (hp : PassesOwn (model X.prog X.w) X.A X.env X.xe) (hc : X.calm = true) (hij : i ≠ j) (hx : PE X it (tVar j)) (hg : PG X (.Name v p2) (gName i)) (ho : PE X (.Name v p3) (tVar i))
    (hs : swapsWith (.Constant (.int e) je p5) (some (.Subscript (.Name v p3) (.Constant (.int c) jc p4) p6)) p7.line X.env = pure false := by rfl)
    (hs2 : ∀ x, foldedSetIterable it X.env x = pure x := by intro _; rfl) :
    S1 X kr (.For (.Name v p2) it [.Assign [.Subscript (.Name v p3) (.Constant (.int c) jc p4) p6] (.Constant (.int e) je p5) p7] [] pos) (mForPut j i c e) := fun B H env σ tm D r ok hm p => by
  unfold mForPut at hm
  split at hm
  · rename_i ds hj
    split at hm
    · rename_i hi
      obtain ⟨es, hes, hm⟩ := bind_ok hm
      cases hm
      obtain ⟨hel, hget⟩ := putAll_get hes
      have ok0 := ok.forget i
      have hj0 : (env.set i none)[j]? = some (some (2, .lst ds)) := by rw [List.getElem?_set_ne hij]; exact hj
      obtain ⟨q, hq, ok1⟩ := ok0.slotMu hj0 rfl
      obtain ⟨vs, hv, hl, ok2⟩ := ok1.takeLst
      have hi0 : i < ((env.set i none).set j none).length := by simpa using hi
      have hset : ((env.set i none).set j none).set i none = (env.set i none).set j none := by
        rw [List.set_comm _ _ hij.symm, List.set_set]
      refine wS_of (ps_for hp hc (pi_list hx) hg (pss_one (ps_dput hu ho pe_int pe_int hs)) hs2) ?_
      refine ⟨.ref q, hq, q, rfl, ⟨vs, .inl (.inl hv)⟩, ?_⟩
      refine ⟨fun n m σ H => m = ds.length - n ∧ n ≤ ds.length ∧ σ[j]? = some (some (.ref q)) ∧ H q = some (.lst vs) ∧ EnvOk B (del H q) ((env.set i none).set j none) σ (lev 1 vs (es.take n ++ ds.drop n) ++ tm), ⟨ds.length, by simp, Nat.zero_le _, hq, hv, by simpa using ok2⟩, ?_⟩
      rintro n m σ2 H2 ⟨rfl, hn, hq2, hv2, ok3⟩
      by_cases hlt : n < ds.length
      · have hvl : n < vs.length := by omega
        have hsq : SqL X.K H2 q vs := .inl (.inl hv2)
        refine .inr ⟨⟨vs, vs[n], hsq, List.getElem?_eq_getElem hvl⟩, fun σ' H' => n + 1 ≤ ds.length ∧ σ'[j]? = some (some (.ref q)) ∧ H' q = some (.lst vs) ∧ EnvOk B (del H' q) ((env.set i none).set j none) σ' (lev 1 vs (es.take (n + 1) ++ ds.drop (n + 1)) ++ tm), fun σ' H' h => ⟨ds.length - (n + 1), by omega, rfl, h⟩, fun x H3 hy => ?_⟩
        obtain ⟨rfl, hy⟩ := hy
        have hxn := hy vs hsq
        obtain ⟨d', hd', hset'⟩ := hget n ds[n] (List.getElem?_eq_getElem hlt)
        have hmid : (es.take n ++ ds.drop n)[n]? = some ds[n] := by
          rw [List.getElem?_append_right (by simp; omega)]
          simp [Nat.min_eq_left (show n ≤ es.length by omega)]
        have hset2 : (es.take n ++ ds.drop n).set n d' = es.take (n + 1) ++ ds.drop (n + 1) := by
          have hln : (es.take n).length = n := by simp; omega
          rw [List.set_append_right _ _ (by omega), hln, Nat.sub_self, List.drop_eq_getElem_cons hlt, List.set_cons_zero, List.take_add_one, hd']
          simp
        obtain ⟨l, hl1, hl2⟩ := lev_mid (k := 1) hxn hmid (by simp; omega)
        have ok4 : EnvOk B (del H3 q) ((env.set i none).set j none) σ2 ((x, 1, ds[n]) :: (l ++ tm)) := ok3.perm (hl1.append_right _)
        have ok5 := ok4.store hi0
        have hst : (σ2.set i (some x))[i]? = some (some x) := by
          have := (ok4.store hi0).has i _ (List.getElem?_set_self hi0)
          obtain ⟨w, hw⟩ := this
          have hlen : i < σ2.length := by
            have := (List.getElem?_eq_some_iff.mp hw).1
            simpa using this
          exact List.getElem?_set_self hlen
        have ok6 := ok5.move (List.getElem?_set_self hi0) hst
        rw [List.set_set, hset] at ok6
        unfold dSet at hset'
        split at hset'
        · rename_i ks des hdn
          split at hset'
          · rename_i hz
            split at hset'
            · rename_i kk hk
              cases hk
              cases hset'
              rw [hdn] at ok6
              obtain ⟨a, rfl⟩ := ok6.isRef rfl
              obtain ⟨kvs, ha, ek, hkl, ok7⟩ := ok6.takeDk
              have haq : a ≠ q := fun z => by rw [z, del_self] at ha; cases ha
              have ha2 : H3 a = some (.dK kvs) := by rw [← ha, del_ne haq]
              refine ⟨.ref a, hst, a, _, rfl, .inl ⟨kvs, .inl c, ha2, rfl, by omega, rfl⟩, ?_⟩
              refine ⟨by omega, by rw [List.getElem?_set_ne hij]; exact hq2, by rw [upd_ne (Ne.symm haq)]; exact hv2, ?_⟩
              have ok8 : EnvOk B (del (del H3 q) a) ((env.set i none).set j none) (σ2.set i (some (.ref a))) (lev 0 (kvs.map (·.2) ++ [.int e]) (des ++ [.int e]) ++ (l ++ tm)) := by
                rw [lev_append [.int e] [.int e] (by simpa using hkl), List.append_assoc]
                exact (ok7.imm (k := 0) (.int e) rfl).perm List.perm_middle.symm
              subst ek
              have ok9 := sel_lev0 ok8 (putK_sel (x := .inl c) (v := .int e) (y := .int e) hkl)
              have ok10 := ok9.newDk (p := a) (kvs := putK kvs (.inl c) (.int e)) (by have := (putK_sel (x := (Sum.inl c : Key)) (v := V.int e) (y := Mir.D.int e) hkl).1; simpa using this) (putK_keys kvs (.inl c) (.int e)) del_self
              rw [upd_del] at ok10
              have ok11 := EnvOk.less (l := lev 0 (kvs.map (·.2) ++ [.int e]) (des ++ [.int e])) (ok10.perm List.perm_middle.symm)
              have hH : upd (del H3 q) a (.dK (putK kvs (.inl c) (.int e))) = del (upd H3 a (.dK (putK kvs (.inl c) (.int e)))) q := by
                funext b
                by_cases h1 : b = q
                · rw [h1, del_self, upd_ne (Ne.symm haq), del_self]
                · rw [del_ne h1]
                  by_cases h2 : b = a
                  · rw [h2, upd_same, upd_same]
                  · rw [upd_ne h2, upd_ne h2, del_ne h1]
              rw [hH] at ok11
              rw [← hset2]
              exact ok11.perm ((hl2 _).symm.append_right _)
            · cases hset'
          · cases hset'
        · rename_i ks des hdn
          split at hset'
          · split at hset'
            · rename_i kk hk
              cases hk
            · cases hset'
          · cases hset'
        · cases hset'
      · have en : n = ds.length := by omega
        refine .inl ⟨⟨vs, .inl (.inl hv2), by omega⟩, ?_⟩
        rw [en, List.drop_length, List.append_nil, List.take_of_length_le (by omega)] at ok3
        have ok8 := ok3.newLst (p := q) (by omega) del_self
        rw [upd_del] at ok8
        have hH : upd H2 q (.lst vs) = H2 := by
          funext a
          by_cases h : a = q
          · rw [h, upd_same, hv2]
          · rw [upd_ne h]
        rw [hH] at ok8
        exact p σ2 _ (ok8.putBack hj0 hq2)
    · cases hm
  · cases hm
end
end Mir

namespace Mir
open PySem PySem.Spec L2
/-! ### texts of numbers, joined texts, sorted dicts, the truth of a dict -/
def gStr : D → Res D
  | .int i => if i.natAbs.log2 < 1920 then .ok (.str (toString i)) else .bad
  | _ => .bad
def strsOf : List D → Option (List Str)
  | [] => some []
  | .str z :: ds => (strsOf ds).map fun zs => z :: zs
  | _ :: _ => none
def gJoin : D → D → Res D
  | .str a, .lst ds => match strsOf ds with
    | some ys => if (ys.map (·.length)).sum + ys.length * a.length ≤ 16777216 then .ok (.str (Txt.join a ys)) else .bad
    | none => .bad
  | _, _ => .bad
theorem strsOf_rp {G : Hp} : ∀ {vs : List V} {ds : List D} {ys : List Str}, RpAll G vs ds → strsOf ds = some ys → vs = ys.map V.str
  | [], [], ys, .nil, h => by cases h; rfl
  | v :: vs, d :: ds, ys, .cons hr r, h => by
    cases hr with
    | str z =>
      unfold strsOf at h
      cases e : strsOf ds with
      | none => rw [e] at h; cases h
      | some zs =>
        rw [e] at h
        cases h
        rw [strsOf_rp r e]; rfl
    | _ => cases h
def intsOf : List Key → Option (List Int)
  | [] => some []
  | .inl i :: ks => (intsOf ks).map fun is => i :: is
  | .inr _ :: _ => none
theorem intsOf_eq : ∀ {ks : List Key} {is : List Int}, intsOf ks = some is → ks = is.map Sum.inl
  | [], is, h => by cases h; rfl
  | .inl i :: ks, is, h => by
    unfold intsOf at h
    cases e : intsOf ks with
    | none => rw [e] at h; cases h
    | some js =>
      rw [e] at h
      cases h
      rw [intsOf_eq e]; rfl
  | .inr _ :: _, _, h => by cases h
def insI (x : Int) : List Int → List Int
  | [] => [x]
  | y :: ys => if x ≤ y then x :: y :: ys else y :: insI x ys
def sortI : List Int → List Int
  | [] => []
  | x :: xs => insI x (sortI xs)
theorem insI_perm (x : Int) : ∀ ys : List Int, (insI x ys).Perm (x :: ys)
  | [] => .refl _
  | y :: ys => by
    unfold insI
    split
    · exact .refl _
    · exact ((insI_perm x ys).cons y).trans (.swap x y ys)
theorem sortI_perm : ∀ xs : List Int, (sortI xs).Perm xs
  | [] => .refl _
  | x :: xs => (insI_perm x _).trans ((sortI_perm xs).cons x)
theorem insI_sorted (x : Int) : ∀ ys : List Int, ys.Pairwise (· ≤ ·) → (insI x ys).Pairwise (· ≤ ·)
  | [], _ => List.pairwise_singleton _ _
  | y :: ys, h => by
    have h2 := List.pairwise_cons.mp h
    unfold insI
    split
    · rename_i hx
      exact List.pairwise_cons.mpr ⟨fun z hz => by
        rcases List.mem_cons.mp hz with rfl | hz
        · exact hx
        · exact Int.le_trans hx (h2.1 z hz), h⟩
    · rename_i hx
      refine List.pairwise_cons.mpr ⟨fun z hz => ?_, insI_sorted x ys h2.2⟩
      rcases List.mem_cons.mp ((insI_perm x ys).mem_iff.mp hz) with rfl | hz
      · omega
      · exact h2.1 z hz
theorem sortI_sorted : ∀ xs : List Int, (sortI xs).Pairwise (· ≤ ·)
  | [] => .nil
  | x :: xs => insI_sorted x _ (sortI_sorted xs)
theorem sorted_unique : ∀ {xs ys : List Int}, xs.Perm ys → xs.Pairwise (· ≤ ·) → ys.Pairwise (· ≤ ·) → xs = ys
  | [], ys, h, _, _ => (List.Perm.nil_eq h)
  | x :: xs, [], h, _, _ => (List.Perm.nil_eq h.symm).symm
  | x :: xs, y :: ys, h, hx, hy => by
    have hx2 := List.pairwise_cons.mp hx
    have hy2 := List.pairwise_cons.mp hy
    have e : x = y := by
      have m1 := h.mem_iff.mp (List.mem_cons_self (a := x) (l := xs))
      have m2 := h.mem_iff.mpr (List.mem_cons_self (a := y) (l := ys))
      rcases List.mem_cons.mp m1 with e | m1
      · exact e
      · rcases List.mem_cons.mp m2 with e | m2
        · exact e.symm
        · have := hx2.1 y m2; have := hy2.1 x m1; omega
    subst e
    rw [sorted_unique (h.cons_inv) hx2.2 hy2.2]
def gSortD : D → Res D
  | .dk ks _ => match intsOf ks with
    | some is => if is.length < 64 then .ok (.lst ((sortI is).map D.int)) else .bad
    | none => .bad
  | _ => .bad
def gTruD : D → Res Bool
  | .dk ks _ => .ok (!ks.isEmpty)
  | _ => .bad
theorem tru_dkR {X : Cx} : TruR X (fun x H Q => ∃ a kvs, x = .ref a ∧ Rd H a (.dK kvs) ∧ Q (!kvs.isEmpty) H) := by
  intro pins s σ H x v Q I rx h
  obtain ⟨a, kvs, rfl, hd, q⟩ := h
  cases rx
  have hl := line63
  obtain ⟨hz, hS, vs, r, m⟩ := dk_rd I.hok hd
  have hlen : kvs.length = vs.length := Paired.length r
  exact wpAny_truthy_dict hS m (by omega) ⟨H, I.tok _, by rw [isEmpty_kv r]; exact q⟩
section
variable {X : Cx} {e o : Expr} {m mo : Env → Res D} {k : Nat} {pos p apos : Pos}
theorem st_truD (ha : SB X e m) (he : ∀ whole, isTrue e X.env whole = (do let v ← whole; standAt e.pos; holding [v] (truthy v)) := by intro _; rfl) : ST X e (fun env => m env >>= gTruD) := fun B H env σ tm d Q ok hm q => by
  obtain ⟨x, hx, hg⟩ := bind_ok hm
  refine wT_of (pt_truthR pe_sem tru_dkR he) (ha B H env σ tm x _ ok hx fun v H1 x1 ok1 r1 => ?_)
  cases r1 with
  | @dk a kvs _ _ hv ek ra =>
    cases hg
    refine ⟨a, kvs, rfl, view_rd hv, ?_⟩
    subst ek
    rw [List.isEmpty_map] at q
    exact q H1 x1 ok1
  | _ => cases hg
theorem sc_strI (hg : Gl X "str") (hm0 : X.mg "str" = none) (h : SB X e m) (he : starEach [e] X.env = (false, eval e X.env) :: starEach [] X.env := by rfl) (hpl : (backTo pos (starEach [] X.env)).any (·.1) = false := by rfl) : SC X (.Call (.Name "str" p) [e] [] pos) (mUn gStr m) := fun B H env σ tm d Q ok hm q => by
  obtain ⟨x, hx, h2⟩ := bind_ok hm
  refine wE_of (pe_callTy call_str_int hg hm0 (by decide +kernel) (pa_cons pe_sem pa_nil he) (by decide) (by decide) he hpl) (h B H env σ tm _ _ ok hx fun v H1 x1 ok1 r => ?_)
  cases r with
  | int i =>
    have h3 : (if i.natAbs.log2 < 1920 then Res.ok (D.str (toString i)) else .bad) = .ok d := h2
    split at h3
    · rename_i hl
      cases h3
      exact ⟨i, rfl, hl, q _ H1 x1 ok1 (.str _) rfl⟩
    · cases h3
  | _ => cases h2
theorem se_sortDI (hc : X.calm = true) (hg : Gl X "sorted") (hm0 : X.mg "sorted" = none) (h : SB X e m) (he : starEach [e] X.env = (false, eval e X.env) :: starEach [] X.env := by rfl) (hpl : (backTo pos (starEach [] X.env)).any (·.1) = false := by rfl) : SE X (k + 1) [] (.Call (.Name "sorted" p) [e] [] pos) (fun env => m env >>= gSortD) := fun B H env σ tm d Q ok hm q => by
  obtain ⟨x, hx, h2⟩ := bind_ok hm
  refine wE_of (pe_callB (call_sortedDI hc) hg hm0 (by decide +kernel) (pa_cons pe_sem pa_nil he) (by decide) (by decide) he hpl) (h B H env σ tm _ _ ok hx fun v H1 x1 ok1 r => ?_)
  cases r with
  | @dk a kvs ks ds hv ek ra =>
    unfold gSortD at h2
    dsimp only at h2
    split at h2
    · rename_i is his
      split at h2
      · rename_i hlt
        cases h2
        refine ⟨a, kvs, is, rfl, view_rd hv, by rw [ek]; exact intsOf_eq his, hlt, fun ys q' hp hs hn => ?_⟩
        have e : ys = sortI is := sorted_unique (hp.trans (sortI_perm is).symm) hs (sortI_sorted is)
        subst e
        refine q _ _ (x1.trans (Ext.upd hn)) ?_
        have hall : RpAll (view H1) ((sortI is).map V.int) ((sortI is).map D.int) := by
          generalize sortI is = zs
          induction zs with
          | nil => exact .nil
          | cons z zs ih => exact .cons (.int z) ih
        have him : immAll ((sortI is).map D.int) = true := by simp
        exact (ok1.levs (k := k) hall him).newLst (by simp) hn
      · cases h2
    · cases h2
  | _ => cases h2
def mJoin (mo m : Env → Res D) : Env → Res D := fun env => mo env >>= fun a => m env >>= fun l => gJoin a l
theorem sc_join (ho : SB X o mo) (h : SB X e m) (hs : starEach [e] X.env = [(false, eval e X.env)] := by rfl) (hbase : attributeBase o "join" X.env (eval o X.env) = eval o X.env := by rfl) (hline : (apos.endLine == pos.line) = true := by rfl) :
    SC X (.Call (.Attribute o "join" apos) [e] [] pos) (mJoin mo m) := fun B H env σ tm d Q ok hm q => by
  obtain ⟨a, ha, h2⟩ := bind_ok hm
  obtain ⟨l, hl, h3⟩ := bind_ok h2
  unfold gJoin at h3
  split at h3
  · rename_i z ds
    split at h3
    · rename_i ys hy
      split at h3
      · rename_i hz
        cases h3
        refine wE_of (pe_m1 F.slot_str_join F.type_str_join mt_join pe_sem pe_sem hs hbase hline) (ho B H env σ tm _ _ ok ha fun v H1 x1 ok1 r1 => ?_)
        cases r1
        refine ⟨⟨_, rfl⟩, h B H1 env σ tm _ _ ok1 hl fun u H2 x2 ok2 r2 => ?_⟩
        cases r2 with
        | @lst b vs _ hv ra =>
          have e := strsOf_rp ra hy
          subst e
          exact ⟨_, b, ys, rfl, rfl, .inl (.inl (view_rd hv)), hz, q _ H2 (x1.trans x2) ok2 (.str _) rfl⟩
      · cases h3
    · cases h3
  · cases h3
end
end Mir

namespace Mir
open PySem PySem.Spec PyProof.Rows RT
section
variable {prog : Program} {w : World} {A : Around} {E : Value → Shared → Prop} {s : Shared}
/-- what list(..) does with the backward iterator of a list -/
theorem mir_list_rev {it l : Addr} {items : Array Value} {Q : Value → Shared → Prop} (hh : A.handled = none) (hit : s.heap.IsRevIter it l ((items.size : Int) - 1)) (hl : s.heap.IsList l items) (hne : l ≠ it) (hn : items.size ≤ sizeLine)
    (hQ : ∀ (h' : Heap) (tk : Nat) (acc : Array Value) (c' : Nat), (∀ b o, b ≠ it → s.heap.get? b = some o → h'.get? b = some o) → h'.get? s.heap.objs.size = some { cls := .type "list", dict := none, data := .seq acc c', slots := #[] } →
      ItemsOf (fun i v => items[items.size - 1 - i]? = some v) acc items.size → Q (.ref s.heap.objs.size) { s with heap := h', toks := tk }) :
    wpAny (model prog w) A (call (.type "list") [.ref it]) Q E s := by
  have hh2 : A.in1.in1.handled = none := hh
  have W := (Walks.listRev (prog := prog) (w := w) (A := A.in1.in1) hh2 it l hne items).toS
  have hSi : s.heap.objs.size ≠ it := let ⟨o, ho, _⟩ := hit; Nat.ne_of_gt (Heap.lt_size ho)
  have hSl : s.heap.objs.size ≠ l := let ⟨o, ho, _⟩ := hl; Nat.ne_of_gt (Heap.lt_size ho)
  have hSf : s.heap.objs.size ∉ [it, l] := fun m => (List.mem_cons.mp m).elim hSi fun m => hSl (List.mem_singleton.mp m)
  refine callType_codes (Q₁ := fun obj s₁ => obj = .ref s.heap.objs.size ∧ s₁ = { s with heap := s.heap.push { cls := .type "list", data := .seq #[] } }) F.called_list (F.typeCall_list_1 _) F.entry_list_init (code_list_new _ ⟨rfl, rfl⟩) fun obj s₁ h₁ => ?_
  obtain ⟨rfl, rfl⟩ := h₁
  generalize eS : s.heap.objs.size = S at *
  have hS : (s.heap.push { cls := .type "list", data := .seq #[] }).get? S = some { cls := .type "list", data := .seq #[] } := eS ▸ Heap.get?_push_size _ rfl
  refine ⟨⟨_, hS, rfl⟩, F.args_list_init_2 _ _, ?_⟩
  have hS₂ := Heap.get?_update_self (Obj.mapSeq (fun _ => (#[] : Array Value))) hS rfl
  have keep : ∀ b o, b ≠ S → s.heap.get? b = some o → ((s.heap.push { cls := .type "list", data := .seq #[] }).update S (Obj.mapSeq (fun _ => (#[] : Array Value)))).get? b = some o := fun b o hb e =>
    (Heap.get?_update_other _ _ (Ne.symm hb)).trans (Heap.get?_push_of_some _ e)
  have hit1 := hit.at (h' := (s.heap.push { cls := .type "list", data := .seq #[] }).update S (Obj.mapSeq (fun _ => (#[] : Array Value)))) fun o e => keep _ o (Ne.symm hSi) e
  have hl1 : ((s.heap.push { cls := .type "list", data := .seq #[] }).update S (Obj.mapSeq (fun _ => (#[] : Array Value)))).IsList l items := let ⟨o, ho, r⟩ := hl; ⟨o, keep _ o (Ne.symm hSl) ho, r⟩
  show wpAny _ A.in1.in1 (do let old ← Builtin.List.listItems (.ref S); Builtin.List.listUpdate (.ref S) (fun _ => #[]); letGo old.toList.reverse; Builtin.List.listExtendWith (.ref S) (.ref it) .none) _ _ _
  refine wpAny_bind ?_
  unfold Builtin.List.listItems
  refine wpAny_bind (wpAny_seqItems hS rfl (wpAny_pure ?_))
  refine wpAny_bind (wpAny_updateSeq hS rfl ?_)
  refine wpAny_bind (wpAny_letGo ?_)
  unfold Builtin.List.listExtendWith
  have hT : ({ s with heap := (s.heap.push { cls := .type "list", data := .seq #[] }).update S (Obj.mapSeq (fun _ => (#[] : Array Value))) } : Shared).TypeIs (.ref it) "list_reverseiterator" := Heap.IsRevIter.typeIs (s := { s with heap := (s.heap.push { cls := .type "list", data := .seq #[] }).update S (Obj.mapSeq (fun _ => (#[] : Array Value))) }) hit1
  have h1 : Builtin.List.listSameRef (.ref S) (.ref it) = false := by unfold Builtin.List.listSameRef; simp [hSi]
  refine wpAny_bind (wpAny_typeOf hT ?_)
  rw [if_neg (by rw [h1]; decide)]
  refine wpAny_bind (wpAny_pyIter_revIter (s := { s with heap := (s.heap.push { cls := .type "list", data := .seq #[] }).update S (Obj.mapSeq (fun _ => (#[] : Array Value))) }) hit1 ?_)
  refine wpAny_bind (wpAny_holding ?_)
  unfold Builtin.List.listLengthHint
  refine wpAny_bind (wpAny_specialOf hT nolen_lri ?_)
  show wpAny _ A.in1.in1 (specialOf (Value.ref it) (Str.ofString "__length_hint__") >>= _) _ _ _
  refine wpAny_bind (wpAny_specialOf hT hint_lri ?_)
  generalize hid : ("list_reverseiterator.__length_hint__" : String) = id0
  wp_delta
  rw [show splitId id0 = some ("list_reverseiterator", "__length_hint__") from by subst hid; decide +kernel]
  subst hid
  refine wpAny_bind (wpAny_isInstance (b := true) hT (by rw [isSubtype_type]; kernel_rfl) ?_)
  refine wpAny_pure ?_
  rw [if_neg (by decide)]
  have e0 : ((items.size : Nat) : Int) - 1 - ((0 : Nat) : Int) = (items.size : Int) - 1 := by omega
  refine wpAny_pure ⟨plainId_quiet F.plain_extend_loop _, codeAny_extend_loopS W hn _ hSf _ items.size 0 _ _ _ rfl (Nat.zero_le _) ⟨Nat.zero_le _, by rw [e0]; exact hit1, hl1⟩ hS₂ (ItemsOf.nil _) fun s' acc' c' hm hS' hacc => ?_⟩
  rw [Moved.eq_with hm]
  refine ⟨rfl, hQ s'.heap s'.toks acc' c' (fun b o hb e => ?_) hS' hacc⟩
  have hbS : b ≠ S := fun z => by rw [z, ← eS] at e; exact absurd (Heap.lt_size e) (Nat.lt_irrefl _)
  refine hm.heap b o (fun hmem => ?_) (keep b o hbS e)
  rcases List.mem_cons.mp hmem with e' | hmem
  · exact hbS e'
  · exact hb (List.mem_singleton.mp hmem)
end
end Mir
namespace Mir
open PySem PySem.Spec PyProof.Rows L2 RT
section
variable {X : Cx} {e : Expr} {te : TE} {k : Nat} {p p2 pos pos2 : Pos} {mm : Env → Res (List D)}
def tLstRev (K : PySem.W.Frag) (te : TE) : TE := fun σ H Q => te σ H fun v H1 => ∃ (a : Addr) (xs : List V), v = .ref a ∧ SqL K H1 a xs ∧ ∀ q, H1 q = none → Q (.ref q) (upd H1 q (.lst xs.reverse))
theorem pe_lstRev (hc : X.calm = true) (hg : Gl X "list") (hm : X.mg "list" = none) (hg2 : Gl X "reversed") (hm2 : X.mg "reversed" = none) (he : PE X e te)
    (hs : starEach [e] X.env = (false, eval e X.env) :: starEach [] X.env) (hs2 : starEach [.Call (.Name "reversed" p2) [e] [] pos2] X.env = (false, eval (.Call (.Name "reversed" p2) [e] [] pos2) X.env) :: starEach [] X.env) :
    PE X (.Call (.Name "list" p) [.Call (.Name "reversed" p2) [e] [] pos2] [] pos) (tLstRev X.K te) := by
  refine ⟨fun pins s σ H Q I h => Call_ (ld_blt I hg hm (show bootBuiltins (Str.ofString "list") = some (.type "list") by decide +kernel) (callWith_type1 (args_cons (Call_ (ld_blt I hg2 hm2 boot_reversed (callWith_type1 (args_cons (thn (he.run pins s σ H _ I h) fun u s1 ⟨v, H1, I1, r1, q1⟩ => args_nil ?_) hs) hs rfl))) hs2) hs2 rfl))⟩
  obtain ⟨a, xs, rfl, hq, q⟩ := q1
  obtain rfl : u = Value.ref a := r1
  obtain ⟨its, rv, pl, hz⟩ := I1.list hq
  refine call_reversed_list pl.isList (args_nil ?_)
  have hl := pl.isList
  have hne : a ≠ s1.heap.objs.size := let ⟨_, ho, _⟩ := hl; Nat.ne_of_lt (Heap.lt_size ho)
  have hn : its.toArray.size ≤ sizeLine := by rw [List.size_toArray, ← rv.length]; exact hz
  have hsz : (s1.heap.push (revObj a ((its.toArray.size : Int) - 1))).objs.size = s1.heap.objs.size + 1 := by rw [Heap.objs_push, Array.size_push]
  refine mir_list_rev (s := { s1 with heap := s1.heap.push (revObj a ((its.toArray.size : Int) - 1)) }) (I1.ok.hd hc) ⟨_, Heap.get?_push_size _ rfl, rfl, rfl⟩ (hl.push _) hne hn fun h' tk acc c' hk hS hi => ?_
  have kp : ∀ b u, s1.heap.get? b = some u → h'.get? b = some u := fun b u e => hk b u (Nat.ne_of_lt (Heap.lt_size e)) (Heap.get?_push_of_some _ e)
  have hp : s1.heap.objs.size ≤ (s1.heap.push (revObj a ((its.toArray.size : Int) - 1))).objs.size := by rw [hsz]; exact Nat.le_succ _
  refine ⟨.ref (s1.heap.push (revObj a ((its.toArray.size : Int) - 1))).objs.size, _, I1.laid (t' := tk) kp hp (show ObjOk X.prog X.w _ h' _ (.lst xs.reverse) from ⟨by rw [List.length_reverse]; exact hz, acc.toList, c', vals_rev rv hi, by rw [Array.toArray_toList]; exact hS⟩), rfl, q _ (I1.hok.fresh hp)⟩
def mListRev (mm : Env → Res (List D)) : Env → Res D := fun env => mm env >>= fun ds => .ok (.lst ds.reverse)
theorem sel_rev {vs : List V} {ds : List D} (hl : vs.length = ds.length) : Sel vs ds vs.reverse ds.reverse := ⟨by simp [hl], fun i w e h1 h2 => by
  have hi : i < vs.length := by simpa using (List.getElem?_eq_some_iff.mp h1).1
  rw [List.getElem?_reverse hi] at h1
  rw [List.getElem?_reverse (by omega)] at h2
  exact ⟨vs.length - 1 - i, h1, by rw [hl]; exact h2⟩⟩
theorem se_listRev (hc : X.calm = true) (hg : Gl X "list") (hm : X.mg "list" = none) (hg2 : Gl X "reversed") (hm2 : X.mg "reversed" = none) (h : SL X k .lst e mm)
    (hs : starEach [e] X.env = (false, eval e X.env) :: starEach [] X.env := by rfl) (hs2 : starEach [.Call (.Name "reversed" p2) [e] [] pos2] X.env = (false, eval (.Call (.Name "reversed" p2) [e] [] pos2) X.env) :: starEach [] X.env := by rfl) :
    SE X (k + 1) [] (.Call (.Name "list" p) [.Call (.Name "reversed" p2) [e] [] pos2] [] pos) (mListRev mm) := fun B H env σ tm d Q ok hm' q => by
  obtain ⟨ds, hds, h2⟩ := bind_ok hm'
  cases h2
  refine wE_of (pe_lstRev hc hg hm hg2 hm2 pe_sem hs hs2) (h B H env σ tm ds _ ok hds fun p vs H1 ex x1 hp hl1 ra ok1 pk => ?_)
  refine ⟨p, vs, rfl, .inl (view_rd hp), fun l hnl => ?_⟩
  have ok2 := (pk H1 env σ tm (Ext.refl _) ok1 _ _ (sel_rev hl1)).newLst (by simp [hl1]) hnl
  exact q _ _ (x1.trans (Ext.upd hnl)) (EnvOk.less (l := ex) (ok2.perm List.perm_middle.symm))
end
end Mir

namespace Mir
open PySem PySem.Spec L2
/-! ### a list that is made to be read alone: its items stay where they are -/
theorem EnvOk.extra {B : Bs} {H : Hp} {env : Env} {σ : St} {tm : List Hold} {p : Addr} {o : HO} (h : EnvOk B H env σ tm) (hp : H p = none) (hu : unf o = o) (ho : isIm o = false) : EnvOk B (upd H p o) env σ tm := by
  obtain ⟨⟨G, fp, g, hs, nd, hq⟩, h2, h3⟩ := h
  exact ⟨⟨G, fp, g.newMu hp hu ho, hs.frame (fun a u e => e) (fun a u e _ => up_keep hp a u e), nd, hq⟩, h2, h3⟩
section
variable {X : Cx} {pos : Pos} {es : List Expr} {ms : Env → Res (List D)}
/-- [..] that is read alone -/
theorem sb_lst (hs : SAB X es ms) : SB X (.List es pos) (mLst ms) := fun B H env σ tm d Q ok hm q => by
  obtain ⟨xs, hx, hg⟩ := bind_ok hm
  by_cases hl : xs.length ≤ sizeLine
  · rw [if_pos hl] at hg
    cases hg
    refine wE_of (pe_lst pa_sem) (hs B H env σ tm xs _ ok hx fun vs H1 x1 ok1 ra => ⟨by rw [ra.length]; exact hl, fun p hp => ?_⟩)
    have x2 : Ext H1 (upd H1 p (.lst vs)) := Ext.upd hp
    refine q _ _ (x1.trans x2) (ok1.extra hp rfl rfl) (.lst ?_ (x2.rpAll ra))
    unfold view
    rw [upd_same]; rfl
  · rw [if_neg hl] at hg; cases hg
end
end Mir

namespace Mir
open PySem PySem.Spec L2
/-! ### in a list, the place in a list, all -/
def pys (ds : List D) : List PyData := pyAll ds
def gIn (x y : D) : Res D := match y with
  | .lst ds => if shp x && shp y then .ok (.bl ((pyAll ds).any fun z => PyData.eqv z x.py)) else .bad
  | _ => .bad
def gNotIn (x y : D) : Res D := match y with
  | .lst ds => if shp x && shp y then .ok (.bl (!(pyAll ds).any fun z => PyData.eqv z x.py)) else .bad
  | _ => .bad
section
variable {X : Cx}
theorem o_in (hu : X.A.units + 65 < cLine) : OpC X (compareOp .In) gIn := by
  refine ⟨_, op_inD hu, fun x y dx dy d H Q rx ry e q => ?_⟩
  unfold gIn at e
  split at e
  · rename_i ds
    split at e
    · rename_i hs
      rw [Bool.and_eq_true] at hs
      cases e
      exact ⟨dx.py, pyAll ds, rx.dp (shaped_lay hs.1), ry.dp (shaped_lay hs.2), hs.1, hs.2, q _ (.bl _) rfl⟩
    · cases e
  · cases e
theorem o_notIn (hu : X.A.units + 65 < cLine) : OpC X (compareOp .NotIn) gNotIn := by
  refine ⟨_, op_notInD hu, fun x y dx dy d H Q rx ry e q => ?_⟩
  unfold gNotIn at e
  split at e
  · rename_i ds
    split at e
    · rename_i hs
      rw [Bool.and_eq_true] at hs
      cases e
      exact ⟨dx.py, pyAll ds, rx.dp (shaped_lay hs.1), ry.dp (shaped_lay hs.2), hs.1, hs.2, q _ (.bl _) rfl⟩
    · cases e
  · cases e
variable {e o : Expr} {m mo : Env → Res D} {pos p apos cpos : Pos}
def idxOf (d : PyData) : List PyData → Nat → Option Nat
  | [], _ => none
  | z :: zs, n => if PyData.eqv z d then some n else idxOf d zs (n + 1)
theorem idxOf_some {d : PyData} : ∀ {zs : List PyData} {n j : Nat}, idxOf d zs n = some j → n ≤ j ∧ (∃ z, zs[j - n]? = some z ∧ PyData.eqv z d = true) ∧ ∀ (m : Nat) (z' : PyData), m < j - n → zs[m]? = some z' → PyData.eqv z' d = false
  | [], n, j, h => by cases h
  | z :: zs, n, j, h => by
    unfold idxOf at h
    split at h
    · rename_i hz
      cases h
      exact ⟨Nat.le_refl _, ⟨z, by simp, hz⟩, fun m z' hm => by omega⟩
    · rename_i hz
      obtain ⟨h1, ⟨w, h2, h3⟩, h4⟩ := idxOf_some h
      refine ⟨by omega, ⟨w, ?_, h3⟩, fun m z' hm hm2 => ?_⟩
      · rw [show j - n = (j - (n + 1)) + 1 by omega]; simpa using h2
      · cases m with
        | zero => cases hm2; simpa using hz
        | succ m => exact h4 m z' (by omega) (by simpa using hm2)
def gIndex (x y : D) : Res D := match x with
  | .lst ds => if shp x && shp y then (match idxOf y.py (pyAll ds) 0 with | some j => .ok (.int j) | none => .bad) else .bad
  | _ => .bad
theorem sc_index (hu : X.A.units + 65 < cLine) (ho : SB X o mo) (h : SB X e m) (hbase : attributeBase o "index" X.env (eval o X.env) = eval o X.env := by rfl)
    (hfew : ((backTo cpos (starEach [e] X.env)).all (fun x => !x.1) && (backToKw cpos (keywordEach [] X.env)).all (fun x => x.1.isSome) && decide ([e].length + ([] : List Keyword).length + (if ([] : List Keyword).isEmpty then 0 else 1) < 30)) = true := by rfl)
    (hline : (apos.endLine == cpos.line) = true := by rfl) (hs : starEach [e] X.env = (false, eval e X.env) :: starEach [] X.env := by rfl) (hplain : (backTo cpos (starEach [] X.env)).any (·.1) = false := by rfl) :
    SC X (.Call (.Attribute o "index" apos) [e] [] cpos) (mOp gIndex mo m) := fun B H env σ tm d Q ok hm q => by
  obtain ⟨x, y, hx, hy, hg⟩ := two hm
  unfold gIndex at hg
  split at hg
  · rename_i ds
    split at hg
    · rename_i hsh
      rw [Bool.and_eq_true] at hsh
      split at hg
      · rename_i j hj
        cases hg
        obtain ⟨_, ⟨z, hz1, hz2⟩, hz3⟩ := idxOf_some hj
        refine wE_of (pe_bm F.plainAttrs_list F.slot_list_index F.type_list_index (mt_indexD hu) pe_sem (pa_cons pe_sem pa_nil hs) hbase hfew hline hs hplain) (ho B H env σ tm _ _ ok hx fun v H1 x1 ok1 r1 => ?_)
        cases r1 with
        | @lst a vs _ hv ra =>
          refine ⟨.inl ⟨rfl, _, .inl (view_rd hv)⟩, h B H1 env σ tm _ _ ok1 hy fun u H2 x2 ok2 r2 => ?_⟩
          exact ⟨a, u, y.py, pyAll ds, j, z, rfl, rfl, (x2.rp (.lst hv ra)).dp (shaped_lay hsh.1), r2.dp (shaped_lay hsh.2), hsh.1, hsh.2, by simpa using hz1, hz2, fun m z' hm => hz3 m z' (by omega), q _ H2 (x1.trans x2) ok2 (.int _) rfl⟩
      · cases hg
    · cases hg
  · cases hg
def blsOf : List D → Option (List Bool)
  | [] => some []
  | .bl b :: ds => (blsOf ds).map fun bs => b :: bs
  | _ :: _ => none
theorem blsOf_rp {G : Hp} : ∀ {vs : List V} {ds : List D} {bs : List Bool}, RpAll G vs ds → blsOf ds = some bs → vs = bs.map V.bl
  | [], [], bs, .nil, h => by cases h; rfl
  | v :: vs, d :: ds, bs, .cons hr r, h => by
    cases hr with
    | bl b =>
      unfold blsOf at h
      cases e : blsOf ds with
      | none => rw [e] at h; cases h
      | some cs =>
        rw [e] at h
        cases h
        rw [blsOf_rp r e]; rfl
    | _ => cases h
def gAll : D → Res D
  | .lst ds => match blsOf ds with
    | some bs => .ok (.bl (bs.all id))
    | none => .bad
  | _ => .bad
theorem sc_all (hc : X.calm = true) (hg : Gl X "all") (hm0 : X.mg "all" = none) (h : SB X e m) (he : starEach [e] X.env = (false, eval e X.env) :: starEach [] X.env := by rfl) (hpl : (backTo pos (starEach [] X.env)).any (·.1) = false := by rfl) : SC X (.Call (.Name "all" p) [e] [] pos) (mUn gAll m) := fun B H env σ tm d Q ok hm q => by
  obtain ⟨x, hx, h2⟩ := bind_ok hm
  refine wE_of (pe_callB (cr_all hc) hg hm0 (by decide +kernel) (pa_cons pe_sem pa_nil he) (by decide) (by decide) he hpl) (h B H env σ tm _ _ ok hx fun v H1 x1 ok1 r => ?_)
  cases r with
  | @lst a vs ds hv ra =>
    unfold gAll at h2
    dsimp only at h2
    split at h2
    · rename_i bs hb
      cases h2
      have e := blsOf_rp ra hb
      subst e
      exact ⟨a, bs, rfl, .inl (view_rd hv), q _ H1 x1 ok1 (.bl _) rfl⟩
    · cases h2
  | _ => cases h2
end
end Mir

namespace Mir
open PySem PySem.Spec L2
/-! ### x = d.setdefault(k, v) -/
def mSetd (i j : Nat) (mk mz : Env → Res D) : Env → Res Ctl := fun env => mk env >>= fun y => mz env >>= fun z => atK env j >>= fun dd => match dd, keyOf y with
  | .dk ks ds, some kk => if i < env.length ∧ z.imm = true ∧ ds.length < sizeLine then (match dFind ks ds kk with
    | some w => if w.imm then .ok (.nx (env.set i (some (0, w)))) else .bad
    | none => .ok (.nx ((env.set j (some (1, .dk (dPutK ks kk) (dPutV ks ds kk z)))).set i (some (0, z))))) else .bad
  | _, _ => .bad
section
variable {X : Cx} {kr : Nat} {o e f : Expr} {pos apos cpos : Pos} {mk mz : Env → Res D}
theorem s_setd {i j : Nat} {x : Str} {pos' : Pos} (hN : X.N.Nodup) (hi : X.N[i]? = some x) (hxx : Loc X.env.scope x) (hx : PE X o (tVar j)) (hk : SB X e mk) (hz : SC X f mz) (mm : M2 X o "setdefault" apos e f cpos)
    (hs : swapsWith (.Call (.Attribute o "setdefault" apos) [e, f] [] cpos) (some (.Name x pos')) pos.line X.env = pure false := by rfl) (hf : X.fn x = true ∨ X.env.scope.names.lookup x = some .local := by first | exact .inl rfl | exact .inr rfl | assumption) :
    S1 X kr (.Assign [.Name x pos'] (.Call (.Attribute o "setdefault" apos) [e, f] [] cpos) pos) (mSetd i j mk mz) := fun B H env σ tm D r ok hm p => by
  obtain ⟨y, hy, h2⟩ := bind_ok hm
  obtain ⟨z, hzz, h3⟩ := bind_ok h2
  obtain ⟨dd, hdd, h4⟩ := bind_ok h3
  have he1 := atK_ok hdd
  split at h4
  · rename_i ks ds kk hkk
    split at h4
    · rename_i hc
      obtain ⟨hil, hzi, hdl⟩ := hc
      obtain ⟨v, hv', rv⟩ := ok.slot he1
      cases rv with
      | @dk a kvs0 _ _ hv0 ek0 ra0 =>
        refine wS_of (ps_set hN hi hxx (pe_dsetd hx pe_sem pe_sem mm) hs hf) ⟨_, hv', a, rfl, .inl ⟨kvs0, view_rd hv0⟩, hk B H env σ tm y _ ok hy fun u H1 x1 ok1 r1 => hz B H1 env σ tm z _ ok1 hzz fun w H2 x2 ok2 r2 _ => ?_⟩
        have ok3 := ok2.imm (k := 0) r2 hzi
        obtain ⟨q, hq, ok4⟩ := ok3.slotMu he1 rfl
        rw [hv'] at hq
        cases hq
        obtain ⟨kvs, hqq, ek, hlen, ok5⟩ := ok4.takeDk
        obtain ⟨v2, hv2, rv2⟩ := ok2.slot he1
        rw [hv'] at hv2
        cases hv2
        cases rv2 with
        | @dk _ kvs1 _ _ hv1 ek1 ra1 =>
          have ekv : kvs1 = kvs := by
            have : view H2 a = some (.dK kvs) := by unfold view; rw [hqq]; rfl
            rw [this] at hv1
            cases hv1; rfl
          subst ekv
          subst ek
          have fr := find_rp (x := kk) ra1
          refine ⟨kvs1, kk, hqq, keyOf_rp (x2.rp r1) hkk, by omega, fun v0 hv0 => ?_, fun hn => ?_⟩
          · split at h4
            · rename_i w0 hw0
              split at h4
              · rename_i hwi
                cases h4
                obtain ⟨v3, h5, r3⟩ := fr.2 w0 hw0
                rw [hv0] at h5
                cases h5
                exact p _ _ ((ok2.imm (k := 0) r3 hwi).store hil)
              · cases h4
            · rename_i hw0
              have := fr.1 hw0
              rw [hv0] at this
              cases this
          · split at h4
            · rename_i w0 hw0
              obtain ⟨v3, h5, r3⟩ := fr.2 w0 hw0
              rw [hn] at h5
              cases h5
            · cases h4
              have ok6 : EnvOk B (del H2 a) (env.set j none) σ (lev 0 (kvs1.map (·.2) ++ [w]) (ds ++ [z]) ++ ((w, 0, z) :: tm)) := by
                rw [lev_append [w] [z] (by simpa using hlen), List.append_assoc]
                exact (EnvOk.dup (ok5.perm List.perm_middle)).perm (List.Perm.trans (List.Perm.swap _ _ _) ((List.Perm.cons _ List.perm_middle.symm).trans List.perm_middle.symm))
              have ok7 := sel_lev0 ok6 (putK_sel (x := kk) (v := w) (y := z) hlen)
              have ok8 := ok7.newDk (p := a) (kvs := putK kvs1 kk w) (by have := (putK_sel (x := kk) (v := w) (y := z) hlen).1; simpa using this) (putK_keys kvs1 kk w) del_self
              rw [upd_del] at ok8
              have ok9 := (EnvOk.less (l := lev 0 (kvs1.map (·.2) ++ [w]) (ds ++ [z])) (ok8.perm List.perm_middle.symm)).putBack he1 hv'
              exact p _ _ (ok9.store (by simpa using hil))
    · cases h4
  · cases h4
end
end Mir

namespace Mir
open PySem PySem.Spec L2
/-! ### min of a list of alike data -/
def rMinD (K : PySem.W.Frag) : List V → Hp → VK → Prop := fun xs H Q => ∃ (a : Addr) (vs : List V) (d : PyData) (ds : List PyData), xs = [.ref a] ∧ SqL K H a vs ∧ DpAll K H vs (d :: ds) ∧ PyData.canLayAll0 (d :: ds) = true ∧ PySem.W.AlikeAll (d :: ds) ∧ PyData.depthAll (d :: ds) ≤ 60 ∧
  ∀ (i : Nat) (v : V), vs[i]? = some v → (d :: ds)[i]? = some (PySem.W.minD d ds) → Q v H
theorem layAll_get : ∀ {ds : List PyData} {i : Nat} {d : PyData}, PyData.canLayAll0 ds = true → ds[i]? = some d → PyData.canLay0 d = true
  | [], i, d, _, h => by simp at h
  | x :: ds, i, d, hl, h => by
    have h2 : PyData.canLay0 x = true ∧ PyData.canLayAll0 ds = true := by simpa [PyData.canLayAll0] using hl
    cases i with
    | zero => cases h; exact h2.1
    | succ i => exact layAll_get h2.2 (by simpa using h)
theorem cr_minD {X : Cx} (hc : X.calm = true) (hu : X.A.units + 65 < cLine) : CallR X (.builtin "min") (rMinD X.K) := by
  intro pins s σ H xs us Q I r h
  obtain ⟨a, vs, d, ds, rfl, hs, hd, hlay, hal, hdep, q⟩ := h
  obtain ⟨its, rv, hl, _⟩ := I.list hs
  rw [Vals.ref1 r]
  obtain ⟨as, hr⟩ := Dp.readsAll I (d :: ds) vs its hd rv
  refine PySem.W.min_list_data (I.ok.hd hc) hl.isList (by simpa using hr) hal (by omega) fun i v h' tk bs hi hrd hk => ?_
  have hi2 : its[i]? = some v := by simpa using hi
  have hil : i < its.length := (List.getElem?_eq_some_iff.mp hi2).1
  obtain ⟨w, hw⟩ : ∃ w, vs[i]? = some w := ⟨_, List.getElem?_eq_getElem (by rw [rv.length]; exact hil)⟩
  obtain ⟨v2, hv2, rw2⟩ := rv.get hw
  rw [hi2] at hv2
  cases hv2
  obtain ⟨cs, hr2, hlt, _, _⟩ := PySem.W.readsAll_atA (vs := its.toArray) (by simpa using hr) i v hi
  have hgi : (d :: ds)[i]? = some ((d :: ds).getD i .none) := by
    rw [List.getD_eq_getElem?_getD, List.getElem?_eq_getElem hlt]; rfl
  have e := (Reads.unique (PySem.W.reads_keeps hk hr2) _ _ hrd).1
  exact ⟨w, H, I.kept hk, rw2, q i w hw (by rw [hgi, e])⟩
/-- the first item with the least data; imm items -/
def pickP (p : PyData) : List D → Option D
  | [] => none
  | d :: ds => if PyData.eqv d.py p && shp d then some d else pickP p ds
end Mir

namespace Mir
open PySem PySem.Spec L2
mutual
def unpy : PyData → D
  | .none => .non | .bool b => .bl b | .int i => .int i | .str x => .str x
  | .list xs => .lst (unpyAll xs) | .tuple xs => .tup (unpyAll xs)
  | _ => .non
def unpyAll : List PyData → List D
  | [] => []
  | x :: xs => unpy x :: unpyAll xs
end
mutual
theorem unpy_py : ∀ d : D, d.imm = true → PyData.canLay0 d.py = true → unpy d.py = d
  | .non, _, _ => by simp [D.py, unpy]
  | .bl _, _, _ => by simp [D.py, unpy]
  | .int _, _, _ => by simp [D.py, unpy]
  | .str _, _, _ => by simp [D.py, unpy]
  | .lst _, h, _ => by simp [D.imm] at h
  | .tup xs, h, e => by
    have := unpyAll_py xs (by simpa [D.imm] using h) (by simpa [D.py, PyData.canLay0] using e)
    simp [D.py, unpy, this]
  | .dk _ _, h, _ => by simp [D.imm] at h
  | .dt _ _, h, _ => by simp [D.imm] at h
  | .ob _ _ _ _, _, e => by simp [D.py, PyData.canLay0] at e
  | .exn _ _ _ _, h, _ => by simp [D.imm] at h
theorem unpyAll_py : ∀ ds : List D, immAll ds = true → PyData.canLayAll0 (pyAll ds) = true → unpyAll (pyAll ds) = ds
  | [], _, _ => by simp [pyAll, unpyAll]
  | d :: ds, h, e => by
    have h2 : d.imm = true ∧ immAll ds = true := by simpa [immAll] using h
    rw [pyAll, PyData.canLayAll0, Bool.and_eq_true] at e
    simp [pyAll, unpyAll, unpy_py d h2.1 e.1, unpyAll_py ds h2.2 e.2]
end
theorem lay_get {ds : List D} (e : PyData.canLayAll0 (pyAll ds) = true) : ∀ {d : D}, d ∈ ds → PyData.canLay0 d.py = true := by
  induction ds with
  | nil => intro d h; cases h
  | cons x xs ih =>
    rw [pyAll, PyData.canLayAll0, Bool.and_eq_true] at e
    intro d h
    rcases List.mem_cons.mp h with rfl | h
    · exact e.1
    · exact ih e.2 h
def notNon : PyData → Bool
  | .none => false
  | _ => true
def alikeB (xs : List PyData) : Bool := xs.all (fun x => xs.all fun y => PySem.W.alike x y) && xs.all notNon
theorem alikeB_iff {xs : List PyData} (h : alikeB xs = true) : PySem.W.AlikeAll xs := by
  unfold alikeB at h
  simp only [Bool.and_eq_true, List.all_eq_true] at h
  exact ⟨h.1, fun x hx e => by have := h.2 x hx; rw [e] at this; cases this⟩
def gMin : D → Res D
  | .lst (d :: ds) => if immAll (d :: ds) = true ∧ PyData.canLayAll0 (pyAll (d :: ds)) = true ∧ alikeB (pyAll (d :: ds)) = true ∧ PyData.depthAll (pyAll (d :: ds)) ≤ 60 then .ok (unpy (PySem.W.minD d.py (pyAll ds))) else .bad
  | _ => .bad
section
variable {X : Cx} {e : Expr} {m : Env → Res D} {pos p : Pos}
theorem sc_min (hc : X.calm = true) (hu : X.A.units + 65 < cLine) (hg : Gl X "min") (hm0 : X.mg "min" = none) (h : SB X e m) (he : starEach [e] X.env = (false, eval e X.env) :: starEach [] X.env := by rfl) (hpl : (backTo pos (starEach [] X.env)).any (·.1) = false := by rfl) : SC X (.Call (.Name "min" p) [e] [] pos) (mUn gMin m) := fun B H env σ tm d Q ok hm q => by
  obtain ⟨x, hx, h2⟩ := bind_ok hm
  refine wE_of (pe_callB (cr_minD hc hu) hg hm0 (by decide +kernel) (pa_cons pe_sem pa_nil he) (by decide) (by decide) he hpl) (h B H env σ tm _ _ ok hx fun v H1 x1 ok1 r => ?_)
  cases r with
  | @lst a vs ds0 hv ra =>
    cases ds0 with
    | nil => cases h2
    | cons d0 ds =>
      unfold gMin at h2
      dsimp only at h2
      split at h2
      · rename_i hh
        obtain ⟨h3, h4, h5, h6⟩ := hh
        cases h2
        refine ⟨a, vs, d0.py, pyAll ds, rfl, .inl (view_rd hv), ra.dp h4, h4, alikeB_iff h5, h6, fun i w hw hmin => ?_⟩
        have hi : i < (d0 :: ds).length := by rw [← ra.length]; exact (List.getElem?_eq_some_iff.mp hw).1
        obtain ⟨w2, hw2, rw2⟩ := ra.get (List.getElem?_eq_getElem hi)
        rw [hw] at hw2
        cases hw2
        have e1 : (d0.py :: pyAll ds)[i]? = some ((d0 :: ds)[i].py) := by
          rw [show d0.py :: pyAll ds = pyAll (d0 :: ds) from rfl, pyAll_map, List.getElem?_map, List.getElem?_eq_getElem hi]; rfl
        rw [e1] at hmin
        have e2 := Option.some.inj hmin
        have im : ((d0 :: ds)[i]).imm = true := immAll_iff.mp h3 _ (List.getElem_mem hi)
        have e3 : unpy (PySem.W.minD d0.py (pyAll ds)) = (d0 :: ds)[i] := by rw [← e2]; exact unpy_py _ im (lay_get h4 (List.getElem_mem hi))
        rw [e3] at q
        exact q w H1 x1 ok1 rw2 im
      · cases h2
  | _ => cases h2
end
end Mir

namespace Mir
open PySem PySem.Spec L2
/-! ### data with a Lean type: ==, <, in, index, min told of the Lean values -/
class Dat (α : Type) [DecidableEq α] where
  enc : α → D
  lt : α → α → Bool
  dep : Nat
  eqv : ∀ a b, PyData.eqv (enc a).py (enc b).py = decide (a = b)
  alike : ∀ a b, PySem.W.alike (enc a).py (enc b).py = true
  lay : ∀ a, PyData.canLay0 (enc a).py = true
  depth : ∀ a, (enc a).py.depth ≤ dep
  dlt : ∀ a b, PySem.W.dataLt (enc a).py (enc b).py = lt a b
  nn : ∀ a, enc a ≠ .non
  tot : ∀ a b, lt a b = false → lt b a = false → a = b
  tr : ∀ a b c, lt a b = true → lt b c = true → lt a c = true
  asy : ∀ a b, lt a b = true → lt b a = false
open Dat
theorem Dat.irr {α : Type} [DecidableEq α] [Dat α] (a : α) : Dat.lt a a = false := by
  cases h : Dat.lt a a with
  | false => rfl
  | true => exact absurd h (by rw [Dat.asy a a h]; decide)
instance : Dat Int where
  enc := D.int
  lt a b := decide (a < b)
  dep := 1
  eqv a b := by
    show PyData.eqv (PyData.int a) (PyData.int b) = _
    simp only [e_eqv_int]; by_cases h : a = b <;> simp [h]
  alike a b := by simp [D.py, PySem.W.alike]
  lay a := by simp [D.py, PyData.canLay0]
  depth a := by simp [D.py, PyData.depth]
  dlt a b := by simp only [D.py, PySem.W.dataLt_int]
  nn a := by simp
  tot a b := by simp; omega
  tr a b c := by simp; omega
  asy a b := by simp; omega
section
variable {α β γ : Type} [DecidableEq α] [Dat α] [DecidableEq β] [Dat β] [DecidableEq γ] [Dat γ]
theorem depthAll_le {ds : List PyData} {n : Nat} (h : ∀ d ∈ ds, d.depth ≤ n) : PyData.depthAll ds ≤ n := by
  induction ds with
  | nil => simp [PyData.depthAll]
  | cons d ds ih =>
    simp only [PyData.depthAll]
    exact Nat.max_le.mpr ⟨h d List.mem_cons_self, ih fun x hx => h x (List.mem_cons_of_mem _ hx)⟩
theorem eqvAll_enc : ∀ xs ys : List α, PyData.eqvAll (pyAll (xs.map enc)) (pyAll (ys.map enc)) = decide (xs = ys)
  | [], [] => by simp [pyAll, PyData.eqvAll]
  | [], y :: ys => by simp [pyAll, PyData.eqvAll]
  | x :: xs, [] => by simp [pyAll, PyData.eqvAll]
  | x :: xs, y :: ys => by
    simp only [List.map_cons, pyAll, PyData.eqvAll, eqv, eqvAll_enc xs ys]
    by_cases h : x = y <;> by_cases h2 : xs = ys <;> simp [h, h2]
theorem alikeAll_enc : ∀ xs ys : List α, PySem.W.alikeAll (pyAll (xs.map enc)) (pyAll (ys.map enc)) = true
  | [], _ => by rw [List.map_nil, pyAll, PySem.W.alikeAll]
  | x :: xs, [] => by rw [List.map_nil, List.map_cons, pyAll, pyAll, PySem.W.alikeAll]
  | x :: xs, y :: ys => by
    simp only [List.map_cons, pyAll, PySem.W.alikeAll, alike x y, alikeAll_enc xs ys, Bool.and_self]
theorem layAll_enc : ∀ xs : List α, PyData.canLayAll0 (pyAll (xs.map enc)) = true
  | [] => by simp [pyAll, PyData.canLayAll0]
  | x :: xs => by simp only [List.map_cons, pyAll, PyData.canLayAll0, lay x, layAll_enc xs, Bool.and_self]
theorem depthAll_enc (xs : List α) : PyData.depthAll (pyAll (xs.map (enc (α := α)))) ≤ dep α := depthAll_le fun d hd => by
  rw [pyAll_map, List.map_map] at hd
  obtain ⟨a, _, rfl⟩ := List.mem_map.mp hd
  exact depth a
/-- the first difference decides, else the shorter one is the less -/
def listLt (lt : α → α → Bool) : List α → List α → Bool
  | [], [] => false
  | [], _ :: _ => true
  | _ :: _, [] => false
  | x :: xs, y :: ys => if x = y then listLt lt xs ys else lt x y
theorem lexAll_enc : ∀ xs ys : List α, PyProof.Rows.lexLt PyProof.Rows.itemOrd (PySem.W.keyToksAll (pyAll (xs.map enc))) (PySem.W.keyToksAll (pyAll (ys.map enc))) = listLt lt xs ys
  | [], [] => PyProof.Rows.lex_irrefl _
  | [], y :: ys => by
    rw [List.map_nil, List.map_cons, pyAll, pyAll, PySem.W.toks_all_cons]
    simp only [PySem.W.keyToksAll]
    rw [PyProof.Rows.lex_diff (O := PyProof.Rows.itemOrd) (by simp)]
    rfl
  | x :: xs, [] => by
    rw [List.map_nil, List.map_cons, pyAll, pyAll, PySem.W.toks_all_cons]
    simp only [PySem.W.keyToksAll]
    rw [PyProof.Rows.lex_diff (O := PyProof.Rows.itemOrd) (by simp)]
    rfl
  | x :: xs, y :: ys => by
    rw [List.map_cons, List.map_cons, pyAll, pyAll, listLt]
    by_cases h : x = y
    · rw [if_pos h, PySem.W.dataLt_all_yes (alike x y) (by rw [eqv, decide_eq_true_eq]; exact h), lexAll_enc xs ys]
    · rw [if_neg h, PySem.W.dataLt_all_no (alike x y) (by rw [eqv, decide_eq_false_iff_not]; exact h), dlt]
theorem listLt_tot {lt : α → α → Bool} (h : ∀ a b, lt a b = false → lt b a = false → a = b) : ∀ xs ys : List α, listLt lt xs ys = false → listLt lt ys xs = false → xs = ys
  | [], [], _, _ => rfl
  | [], _ :: _, h1, _ => by simp [listLt] at h1
  | _ :: _, [], _, h1 => by simp [listLt] at h1
  | x :: xs, y :: ys, h1, h2 => by
    unfold listLt at h1 h2
    by_cases e : x = y
    · subst e
      rw [if_pos rfl] at h1 h2
      rw [listLt_tot h xs ys h1 h2]
    · rw [if_neg e] at h1
      rw [if_neg (Ne.symm e)] at h2
      exact absurd (h x y h1 h2) e
theorem listLt_tr {lt : α → α → Bool} (h : ∀ a b c, lt a b = true → lt b c = true → lt a c = true) (ha : ∀ a b, lt a b = true → lt b a = false) : ∀ xs ys zs : List α, listLt lt xs ys = true → listLt lt ys zs = true → listLt lt xs zs = true
  | [], [], _, h1, _ => by simp [listLt] at h1
  | _, _ :: _, [], _, h1 => by simp [listLt] at h1
  | _ :: _, [], _, h1, _ => by simp [listLt] at h1
  | [], y :: ys, z :: zs, _, _ => rfl
  | x :: xs, y :: ys, z :: zs, h1, h2 => by
    unfold listLt at h1 h2 ⊢
    by_cases e : x = y
    · subst e
      rw [if_pos rfl] at h1
      by_cases e2 : x = z
      · rw [if_pos e2] at h2 ⊢
        exact listLt_tr h ha xs ys zs h1 h2
      · rw [if_neg e2] at h2 ⊢
        exact h2
    · rw [if_neg e] at h1
      by_cases e2 : y = z
      · subst e2
        rw [if_neg e]; exact h1
      · rw [if_neg e2] at h2
        have h3 := h _ _ _ h1 h2
        have e3 : x ≠ z := fun e => by
          subst e
          rw [ha _ _ h1] at h2
          cases h2
        rw [if_neg e3]; exact h3
theorem listLt_asy {lt : α → α → Bool} (ha : ∀ a b, lt a b = true → lt b a = false) : ∀ xs ys : List α, listLt lt xs ys = true → listLt lt ys xs = false
  | [], [], h1 => by simp [listLt] at h1
  | _ :: _, [], h1 => by simp [listLt] at h1
  | [], y :: ys, _ => rfl
  | x :: xs, y :: ys, h1 => by
    unfold listLt at h1 ⊢
    by_cases e : x = y
    · subst e
      rw [if_pos rfl] at h1 ⊢
      exact listLt_asy ha xs ys h1
    · rw [if_neg e] at h1
      rw [if_neg (Ne.symm e)]
      exact ha _ _ h1
instance : Dat (List α) where
  enc xs := .lst (xs.map enc)
  lt := listLt lt
  dep := dep α + 1
  eqv a b := by simp only [D.py, PyData.eqv]; exact eqvAll_enc a b
  alike a b := by simp only [D.py, PySem.W.alike]; exact alikeAll_enc a b
  lay a := by simp only [D.py, PyData.canLay0]; exact layAll_enc a
  depth a := by
    simp only [D.py, PyData.depth]
    have := depthAll_enc a
    omega
  dlt a b := by simp only [D.py, PySem.W.dataLt_list]; exact lexAll_enc a b
  nn a := by simp
  tot := listLt_tot tot
  tr := listLt_tr tr asy
  asy := listLt_asy asy
theorem nilTok : PyProof.Rows.lexLt PyProof.Rows.itemOrd (PySem.W.keyToksAll []) (PySem.W.keyToksAll []) = false := PyProof.Rows.lex_irrefl _
theorem consTok (x y : α) (xs ys : List PyData) : PyProof.Rows.lexLt PyProof.Rows.itemOrd (PySem.W.keyToksAll ((enc x).py :: xs)) (PySem.W.keyToksAll ((enc y).py :: ys)) = if x = y then PyProof.Rows.lexLt PyProof.Rows.itemOrd (PySem.W.keyToksAll xs) (PySem.W.keyToksAll ys) else lt x y := by
  by_cases h : x = y
  · rw [if_pos h, PySem.W.dataLt_all_yes (alike x y) (by rw [eqv, decide_eq_true_eq]; exact h)]
  · rw [if_neg h, PySem.W.dataLt_all_no (alike x y) (by rw [eqv, decide_eq_false_iff_not]; exact h), dlt]
instance : Dat (α × β) where
  enc p := .tup [enc p.1, enc p.2]
  lt p q := if p.1 = q.1 then lt p.2 q.2 else lt p.1 q.1
  dep := max (dep α) (dep β) + 1
  eqv a b := by
    obtain ⟨a1, a2⟩ := a
    obtain ⟨b1, b2⟩ := b
    simp only [D.py, pyAll, PyData.eqv, PyData.eqvAll, eqv]
    by_cases h : a1 = b1 <;> by_cases h2 : a2 = b2 <;> simp [h, h2]
  alike a b := by simp only [D.py, pyAll, PySem.W.alike, PySem.W.alikeAll, alike, Bool.and_self]
  lay a := by simp only [D.py, pyAll, PyData.canLay0, PyData.canLayAll0, lay, Bool.and_self]
  depth a := by
    simp only [D.py, pyAll, PyData.depth, PyData.depthAll]
    have h1 := depth a.1
    have h2 := depth a.2
    omega
  dlt a b := by
    simp only [D.py, pyAll, PySem.W.dataLt_tuple, consTok, nilTok]
    by_cases h : a.1 = b.1
    · rw [if_pos h, if_pos h]
      by_cases h2 : a.2 = b.2
      · rw [if_pos h2, h2, irr]
      · rw [if_neg h2]
    · rw [if_neg h, if_neg h]
  nn a := by simp
  tot a b h1 h2 := by
    obtain ⟨a1, a2⟩ := a
    obtain ⟨b1, b2⟩ := b
    dsimp only at h1 h2
    by_cases e : a1 = b1
    · subst e
      rw [if_pos rfl] at h1 h2
      rw [tot _ _ h1 h2]
    · rw [if_neg e] at h1
      rw [if_neg (Ne.symm e)] at h2
      exact absurd (tot _ _ h1 h2) e
  tr a b c h1 h2 := by
    obtain ⟨a1, a2⟩ := a
    obtain ⟨b1, b2⟩ := b
    obtain ⟨c1, c2⟩ := c
    dsimp only at h1 h2 ⊢
    by_cases e : a1 = b1
    · subst e
      rw [if_pos rfl] at h1
      by_cases e2 : a1 = c1
      · rw [if_pos e2] at h2 ⊢
        exact tr _ _ _ h1 h2
      · rw [if_neg e2] at h2 ⊢
        exact h2
    · rw [if_neg e] at h1
      by_cases e2 : b1 = c1
      · subst e2
        rw [if_neg e]; exact h1
      · rw [if_neg e2] at h2
        have h3 := tr _ _ _ h1 h2
        have e3 : a1 ≠ c1 := fun e => by
          subst e
          rw [asy _ _ h1] at h2
          cases h2
        rw [if_neg e3]; exact h3
  asy a b h1 := by
    obtain ⟨a1, a2⟩ := a
    obtain ⟨b1, b2⟩ := b
    dsimp only at h1 ⊢
    by_cases e : a1 = b1
    · subst e
      rw [if_pos rfl] at h1 ⊢
      exact asy _ _ h1
    · rw [if_neg e] at h1
      rw [if_neg (Ne.symm e)]
      exact asy _ _ h1
end
/-- three whole numbers, a tuple: a passing, a side -/
structure T3 where
  a : Int
  b : Int
  c : Int
  deriving DecidableEq
def T3.lt (x y : T3) : Bool := decide (x.a < y.a ∨ (x.a = y.a ∧ (x.b < y.b ∨ (x.b = y.b ∧ x.c < y.c))))
def t3 (x : T3) : D := .tup [.int x.a, .int x.b, .int x.c]
theorem T3.eq_iff (x y : T3) : x = y ↔ x.a = y.a ∧ x.b = y.b ∧ x.c = y.c := by
  cases x; cases y; simp
instance : Dat T3 where
  enc := t3
  lt := T3.lt
  dep := 2
  eqv x y := by
    simp only [t3, D.py, pyAll, PyData.eqv, PyData.eqvAll]
    by_cases h1 : x.a = y.a <;> by_cases h2 : x.b = y.b <;> by_cases h3 : x.c = y.c <;> simp [h1, h2, h3, T3.eq_iff]
  alike x y := by simp [t3, D.py, pyAll, PySem.W.alike, PySem.W.alikeAll]
  lay a := by simp [t3, D.py, pyAll, PyData.canLay0, PyData.canLayAll0]
  depth a := by simp [t3, D.py, pyAll, PyData.depth, PyData.depthAll]
  dlt x y := by
    have h := fun (i j : Int) (xs ys : List PyData) => consTok i j xs ys
    simp only [enc, e_py_int] at h
    show PySem.W.dataLt (D.tup _).py (D.tup _).py = _
    simp only [D.py, pyAll, PySem.W.dataLt_tuple, h, nilTok, lt, T3.lt]
    by_cases h1 : x.a = y.a <;> by_cases h2 : x.b = y.b <;> by_cases h3 : x.c = y.c <;> simp [h1, h2, h3]
  nn a := by simp [t3]
  tot x y := by simp only [T3.lt, decide_eq_false_iff_not, T3.eq_iff]; omega
  tr x y z := by simp only [T3.lt, decide_eq_true_eq]; omega
  asy x y := by simp only [T3.lt, decide_eq_true_eq, decide_eq_false_iff_not]; omega
section
variable {α : Type} [DecidableEq α] [Dat α]
theorem shp_enc (a : α) (h : dep α ≤ 64) : shp (enc a) = true := by
  unfold shp SeqAt.shaped
  rw [lay a, Bool.true_and, decide_eq_true_eq]
  exact Nat.le_trans (depth a) h
theorem gEq_enc (a b : α) (h : dep α ≤ 64) : gEq (enc a) (enc b) = .ok (.bl (decide (a = b))) := by
  unfold gEq
  rw [shp_enc a h, shp_enc b h, eqv]; rfl
theorem gNe_enc (a b : α) (h : dep α ≤ 64) : gNe (enc a) (enc b) = .ok (.bl (!decide (a = b))) := by
  unfold gNe
  rw [shp_enc a h, shp_enc b h, eqv]; rfl
theorem ordOk_enc (a b : α) (h : dep α ≤ 60) : ordOk (enc a) (enc b) = true := by
  unfold ordOk
  rw [shp_enc a (by omega), shp_enc b (by omega), alike]
  have : min (enc a).py.depth (enc b).py.depth ≤ 60 := Nat.le_trans (Nat.min_le_left _ _) (Nat.le_trans (depth a) h)
  have nz := nn a
  revert nz
  cases hh : enc a <;> simp_all
theorem gLt_enc (a b : α) (h : dep α ≤ 60) : gLt (enc a) (enc b) = .ok (.bl (lt a b)) := by
  have h1 := ordOk_enc a b h
  have h2 := dlt a b
  revert h1 h2
  generalize enc a = x
  generalize enc b = y
  intro h1 h2
  unfold gLt
  split
  · rw [← h2]; simp only [D.py, PySem.W.dataLt_int]
  · rw [if_pos h1, h2]
theorem any_enc (a : α) (xs : List α) : ((pyAll (xs.map enc)).any fun z => PyData.eqv z (enc a).py) = decide (a ∈ xs) := by
  induction xs with
  | nil => simp [pyAll]
  | cons x xs ih =>
    simp only [List.map_cons, pyAll, List.any_cons, ih, eqv]
    by_cases h : x = a
    · simp [h]
    · have : ¬ a = x := fun e => h e.symm
      simp [h, this]
theorem gIn_enc (a : α) (xs : List α) (h : dep α ≤ 60) : gIn (enc a) (.lst (xs.map enc)) = .ok (.bl (decide (a ∈ xs))) := by
  have h2 : shp (D.lst (xs.map (enc (α := α)))) = true := shp_enc (α := List α) xs (by show dep α + 1 ≤ 64; omega)
  unfold gIn
  simp only [shp_enc a (by omega : dep α ≤ 64), h2, any_enc, Bool.and_self, if_true]
theorem gNotIn_enc (a : α) (xs : List α) (h : dep α ≤ 60) : gNotIn (enc a) (.lst (xs.map enc)) = .ok (.bl (!decide (a ∈ xs))) := by
  have h2 : shp (D.lst (xs.map (enc (α := α)))) = true := shp_enc (α := List α) xs (by show dep α + 1 ≤ 64; omega)
  unfold gNotIn
  simp only [shp_enc a (by omega : dep α ≤ 64), h2, any_enc, Bool.and_self, if_true]
theorem idxOf_enc (a : α) : ∀ (xs : List α) (n : Nat), a ∈ xs → idxOf (enc a).py (pyAll (xs.map enc)) n = some (n + xs.idxOf a)
  | [], _, h => by cases h
  | x :: xs, n, h => by
    simp only [List.map_cons, pyAll, idxOf, eqv, decide_eq_true_eq]
    by_cases e : x = a
    · subst e; simp
    · rw [if_neg e, idxOf_enc a xs (n + 1) (by rcases List.mem_cons.mp h with h | h; exact absurd h.symm e; exact h), List.idxOf_cons]
      have : (x == a) = false := by simpa using e
      rw [this]
      show some (n + 1 + xs.idxOf a) = some (n + (xs.idxOf a + 1))
      congr 1; omega
theorem gIndex_enc (a : α) (xs : List α) (h : dep α ≤ 60) (ha : a ∈ xs) : gIndex (.lst (xs.map enc)) (enc a) = .ok (.int (xs.idxOf a : Nat)) := by
  have h2 : shp (D.lst (xs.map (enc (α := α)))) = true := shp_enc (α := List α) xs (by show dep α + 1 ≤ 64; omega)
  unfold gIndex
  simp only [shp_enc a (by omega : dep α ≤ 64), h2, idxOf_enc a xs 0 ha, Bool.and_self, if_true, Nat.zero_add]
/-- the first of the least -/
def minOf (x : α) (xs : List α) : α := xs.foldl (fun a y => if lt y a = true then y else a) x
theorem minD_enc (x : α) (xs : List α) : PySem.W.minD (enc x).py (pyAll (xs.map enc)) = (enc (minOf x xs)).py := by
  unfold PySem.W.minD minOf
  induction xs generalizing x with
  | nil => rfl
  | cons y ys ih =>
    rw [List.map_cons, pyAll, List.foldl_cons, List.foldl_cons, ← ih]
    (try dsimp only)
    rw [dlt y x]
    cases lt y x <;> rfl
theorem notNon_enc (a : α) : notNon (enc a).py = true := by
  have h := alike a a
  have h2 := nn a
  revert h h2
  generalize enc a = x
  intro h h2
  cases x <;> simp_all [D.py, notNon, PySem.W.alike]
theorem alikeB_enc (xs : List α) : alikeB (pyAll (xs.map enc)) = true := by
  unfold alikeB
  simp only [Bool.and_eq_true, List.all_eq_true]
  rw [pyAll_map, List.map_map]
  refine ⟨fun x hx y hy => ?_, fun x hx => ?_⟩
  · obtain ⟨a, _, rfl⟩ := List.mem_map.mp hx
    obtain ⟨b, _, rfl⟩ := List.mem_map.mp hy
    exact alike a b
  · obtain ⟨a, _, rfl⟩ := List.mem_map.mp hx
    exact notNon_enc a
theorem gMin_enc (x : α) (xs : List α) (h : dep α ≤ 60) (hi : ∀ a : α, (enc a).imm = true) : gMin (.lst ((x :: xs).map enc)) = .ok (enc (minOf x xs)) := by
  rw [List.map_cons]
  unfold gMin
  dsimp only
  rw [if_pos ⟨immAll_iff.mpr fun d hd => by
    rw [← List.map_cons] at hd
    obtain ⟨a, _, rfl⟩ := List.mem_map.mp hd
    exact hi a, layAll_enc (x :: xs), alikeB_enc (x :: xs), Nat.le_trans (depthAll_enc (x :: xs)) h⟩, minD_enc, unpy_py _ (hi _) (Dat.lay _)]
theorem minOf_mem (x : α) : ∀ xs : List α, minOf x xs ∈ x :: xs := by
  intro xs
  unfold minOf
  induction xs generalizing x with
  | nil => exact List.mem_cons_self
  | cons y ys ih =>
    rw [List.foldl_cons]
    rcases List.mem_cons.mp (ih (if lt y x = true then y else x)) with h | h
    · rw [h]
      split
      · exact List.mem_cons_of_mem _ List.mem_cons_self
      · exact List.mem_cons_self
    · exact List.mem_cons_of_mem _ (List.mem_cons_of_mem _ h)
theorem minOf_le (x : α) : ∀ xs : List α, ∀ y ∈ x :: xs, lt y (minOf x xs) = false := by
  intro xs
  unfold minOf
  induction xs generalizing x with
  | nil =>
    intro y hy
    rw [List.mem_singleton.mp hy]; exact irr x
  | cons z zs ih =>
    intro y hy
    rw [List.foldl_cons]
    have h0 := ih (if lt z x = true then z else x)
    have hb := h0 _ List.mem_cons_self
    rcases List.mem_cons.mp hy with h | h
    · subst h
      by_cases e : lt z y = true
      · rw [if_pos e] at hb ⊢
        cases hc : lt y (zs.foldl (fun a y => if lt y a = true then y else a) z) with
        | false => rfl
        | true => rw [tr _ _ _ e hc] at hb; cases hb
      · rw [if_neg e] at hb ⊢; exact hb
    · rcases List.mem_cons.mp h with h | h
      · subst h
        by_cases e : lt y x = true
        · rw [if_pos e] at hb ⊢; exact hb
        · rw [if_neg e] at hb ⊢
          cases hc : lt y (zs.foldl (fun a y => if lt y a = true then y else a) x) with
          | false => rfl
          | true =>
            by_cases e2 : lt x y = true
            · rw [tr _ _ _ e2 hc] at hb; cases hb
            · have := tot x y (by simpa using e2) (by simpa using e)
              subst this
              rw [hc] at hb; cases hb
      · exact h0 y (List.mem_cons_of_mem _ h)
end
end Mir

namespace Mir
open PySem PySem.Spec L2
/-! ### branches brought together -/
section
variable {c : Prop} [Decidable c]
theorem i_nx (a b : Mir.Env) : (if c then (Res.ok (Ctl.nx a) : Res Ctl) else Res.ok (Ctl.nx b)) = Res.ok (Ctl.nx (if c then a else b)) := by split <;> rfl
theorem i_rt (a b : D) : (if c then (Res.ok (Ctl.rt a) : Res Ctl) else Res.ok (Ctl.rt b)) = Res.ok (Ctl.rt (if c then a else b)) := by split <;> rfl
theorem i_rn {α : Type} (d : D) (e : Mir.Env) (f : Ctl → Res α) : ((if c then (Res.ok (Ctl.rt d) : Res Ctl) else Res.ok (Ctl.nx e)) >>= f) = if c then f (Ctl.rt d) else f (Ctl.nx e) := by split <;> rfl
theorem i_nr {α : Type} (d : D) (e : Mir.Env) (f : Ctl → Res α) : ((if c then (Res.ok (Ctl.nx e) : Res Ctl) else Res.ok (Ctl.rt d)) >>= f) = if c then f (Ctl.nx e) else f (Ctl.rt d) := by split <;> rfl
theorem i_cons {α : Type} (x y : α) (xs ys : List α) : (if c then x :: xs else y :: ys) = (if c then x else y) :: (if c then xs else ys) := by split <;> rfl
theorem i_some (x y : Nat × D) : (if c then some x else some y) = some (if c then x else y) := by split <;> rfl
theorem i_pair (k : Nat) (x y : D) : (if c then (k, x) else (k, y)) = (k, if c then x else y) := by split <;> rfl
theorem i_int (x y : Int) : (if c then D.int x else D.int y) = D.int (if c then x else y) := by split <;> rfl
theorem i_bl (x y : Bool) : (if c then D.bl x else D.bl y) = D.bl (if c then x else y) := by split <;> rfl
theorem i_lst (x y : List D) : (if c then D.lst x else D.lst y) = D.lst (if c then x else y) := by split <;> rfl
theorem i_ok {α : Type} (x y : α) : (if c then Res.ok x else Res.ok y) = Res.ok (if c then x else y) := by split <;> rfl
end
theorem look_put (p : Pol) (k v k2 : Int) : look (put p k v) k2 = if k2 = k then some v else look p k2 := by
  unfold look put
  split
  · rename_i hk
    induction p with
    | nil => simp at hk
    | cons x p ih =>
      rw [List.map_cons, List.find?_cons, List.find?_cons]
      by_cases e : x.1 = k
      · by_cases e2 : k2 = k
        · simp [e, e2]
        · have e3 : ¬ k = k2 := fun z => e2 z.symm
          simp only [e, if_true, e3, decide_false, e2, if_false]
          by_cases h4 : k ∈ p.map (·.1)
          · have := ih h4
            rw [if_neg e2] at this
            exact this
          · have h5 : (p.map fun x => if x.1 = k then (x.1, v) else x) = p := by
              conv => rhs; rw [← List.map_id p]
              refine List.map_congr_left fun y hy => ?_
              rw [if_neg fun z : y.1 = k => h4 (z ▸ List.mem_map_of_mem hy)]; rfl
            rw [h5]
      · have hk2 : k ∈ p.map (·.1) := by
          rcases List.mem_cons.mp hk with h | h
          · exact absurd h.symm e
          · exact h
        simp only [e, if_false]
        by_cases e2 : x.1 = k2
        · have e3 : ¬ k2 = k := fun z => e (e2.trans z)
          simp [e2, e3]
        · simp only [e2, decide_false]
          exact ih hk2
  · rename_i hk
    rw [List.find?_append]
    by_cases e2 : k2 = k
    · subst e2
      have : p.find? (fun x => decide (x.1 = k2)) = none := List.find?_eq_none.mpr fun x hx => by
        simp only [decide_eq_true_eq]
        exact fun e => hk (e ▸ List.mem_map_of_mem hx)
      simp [this]
    · have e3 : ¬ k = k2 := fun z => e2 z.symm
      simp [e3, e2]
def setdM (i j : Nat) (y z dd : D) (env : Mir.Env) : Res Ctl := match dd, keyOf y with
  | .dk ks ds, some kk => if i < env.length ∧ z.imm = true ∧ ds.length < sizeLine then (match dFind ks ds kk with
    | some w => if w.imm then .ok (.nx (env.set i (some (0, w)))) else .bad
    | none => .ok (.nx ((env.set j (some (1, .dk (dPutK ks kk) (dPutV ks ds kk z)))).set i (some (0, z))))) else .bad
  | _, _ => .bad
@[simp] theorem e_mSetd (i j : Nat) (mk mz : Mir.Env → Res D) (env : Mir.Env) : mSetd i j mk mz env = (mk env >>= fun y => mz env >>= fun z => atK env j >>= fun dd => setdM i j y z dd env) := rfl
theorem setdM_enc {i j : Nat} {env : Mir.Env} {H : Pol} {k z : Int} (hl : H.length < sizeLine) : setdM i j (.int k) (.int z) (encP H) env = if i < env.length then .ok (.nx ((if look H k = none then env.set j (some (1, encP (put H k z))) else env).set i (some (0, .int ((look H k).getD z))))) else .bad := by
  by_cases hi : i < env.length
  · rw [if_pos hi]
    show (if i < env.length ∧ (D.int z).imm = true ∧ (H.map fun x => D.int x.2).length < sizeLine then _ else _) = _
    rw [if_pos ⟨hi, rfl, by rw [List.length_map]; exact hl⟩, dFind_enc]
    cases h : look H k with
    | none => rw [if_pos rfl, ← put_enc]; rfl
    | some w => rfl
  · rw [if_neg hi]
    show (if i < env.length ∧ _ then _ else _) = _
    rw [if_neg fun z => hi z.1]
theorem gIx_map {α : Type} {f : α → D} {xs : List α} {i : Nat} {a : α} (h : xs[i]? = some a) : gIx (.lst (xs.map f)) (.int i) = .ok (f a) := by
  have hl := (List.getElem?_eq_some_iff.mp h).1
  have h2 : xs[i] = a := (List.getElem?_eq_some_iff.mp h).2
  simp [gIx, atI, ixN, hl, h2]
theorem gRng1_d {n : Nat} (h : n ≤ 1000) : gRng1 (.int n) = .ok ((List.range n).map fun i : Nat => D.int i) := gRng1_nat n h
theorem ofT (a b c : Int) : D.tup [.int a, .int b, .int c] = t3 ⟨a, b, c⟩ := rfl
@[simp] theorem t3_imm (x : T3) : (t3 x).imm = true := rfl
@[simp] theorem t3_isi (x : T3) : isi .tuple (t3 x) = true := rfl
@[simp] theorem t3_isOb (x : T3) : isOb (t3 x) = false := rfl
@[simp] theorem t3_len (x : T3) : gLen (t3 x) = .ok (.int 3) := rfl
@[simp] theorem t3_items (x : T3) : itemsT (t3 x) = .ok [.int x.a, .int x.b, .int x.c] := rfl
@[simp] theorem t3_0 (x : T3) : gIx (t3 x) (.int 0) = .ok (.int x.a) := rfl
@[simp] theorem t3_1 (x : T3) : gIx (t3 x) (.int 1) = .ok (.int x.b) := rfl
@[simp] theorem t3_2 (x : T3) : gIx (t3 x) (.int 2) = .ok (.int x.c) := rfl
theorem immAll_drop {ds : List D} (h : immAll ds = true) (k : Nat) : immAll (ds.drop k) = true := immAll_iff.mpr fun d hd => immAll_iff.mp h d (List.mem_of_mem_drop hd)
theorem immAll_take {ds : List D} (h : immAll ds = true) (k : Nat) : immAll (ds.take k) = true := immAll_iff.mpr fun d hd => immAll_iff.mp h d (List.mem_of_mem_take hd)
theorem immAll_t3 (xs : List T3) : immAll (xs.map t3) = true := by simp
@[simp] theorem immAll_dt3 (xs : List T3) (k : Nat) : immAll ((xs.map t3).drop k) = true := immAll_drop (immAll_t3 xs) k
@[simp] theorem immAll_tt3 (xs : List T3) (k : Nat) : immAll ((xs.map t3).take k) = true := immAll_take (immAll_t3 xs) k
@[simp] theorem isi_ll (xs : List D) : isi .list (.lst xs) = true := rfl
@[simp] theorem isi_tt (xs : List D) : isi .tuple (.tup xs) = true := rfl
@[simp] theorem isi_ii (i : Int) : isi .int (.int i) = true := rfl
@[simp] theorem isi_bi (i : Int) : isi .bool (.int i) = false := rfl
@[simp] theorem immAt_l (k : Nat) (ds : List D) : immAt (k + 1) (.lst ds) = immAtL k ds := by unfold immAt; rfl
@[simp] theorem immAt_1l (ds : List D) : immAt 1 (.lst ds) = immAll ds := by rw [show (1 : Nat) = 0 + 1 from rfl, immAt_l, immAtL0]
@[simp] theorem e_immL (ds : List D) : immL ds = if immAll ds = true then .ok ds else .bad := rfl
@[simp] theorem gTru_l (ds : List D) : gTru (.lst ds) = .ok (!ds.isEmpty) := rfl
@[simp] theorem gTru_i (i : Int) : gTru (.int i) = .ok (i != 0) := rfl
@[simp] theorem gTru_b (b : Bool) : gTru (.bl b) = .ok b := rfl
@[simp] theorem gTru_n : gTru .non = .ok false := rfl
@[simp] theorem gTru_t (ds : List D) : gTru (.tup ds) = .ok (!ds.isEmpty) := rfl
@[simp] theorem sz1 : 1 ≤ sizeLine := sizeLine_big (by decide)
@[simp] theorem sz2 : 2 ≤ sizeLine := sizeLine_big (by decide)
@[simp] theorem sz3 : 3 ≤ sizeLine := sizeLine_big (by decide)
@[simp] theorem sz4 : 4 ≤ sizeLine := sizeLine_big (by decide)
@[simp] theorem sz5 : 5 ≤ sizeLine := sizeLine_big (by decide)
@[simp] theorem sz6 : 6 ≤ sizeLine := sizeLine_big (by decide)
@[simp] theorem sz7 : 7 ≤ sizeLine := sizeLine_big (by decide)
@[simp] theorem sz8 : 8 ≤ sizeLine := sizeLine_big (by decide)
@[simp] theorem sz9 : 9 ≤ sizeLine := sizeLine_big (by decide)
@[simp] theorem sz10 : 10 ≤ sizeLine := sizeLine_big (by decide)
@[simp] theorem sz11 : 11 ≤ sizeLine := sizeLine_big (by decide)
@[simp] theorem sz12 : 12 ≤ sizeLine := sizeLine_big (by decide)
@[simp] theorem sz13 : 13 ≤ sizeLine := sizeLine_big (by decide)
@[simp] theorem sz14 : 14 ≤ sizeLine := sizeLine_big (by decide)
@[simp] theorem sz15 : 15 ≤ sizeLine := sizeLine_big (by decide)
@[simp] theorem sz16 : 16 ≤ sizeLine := sizeLine_big (by decide)
def t2 (x : Int × Int) : D := .tup [.int x.1, .int x.2]
theorem ofP (a b : Int) : D.tup [.int a, .int b] = t2 (a, b) := rfl
@[simp] theorem t2_imm (x : Int × Int) : (t2 x).imm = true := rfl
@[simp] theorem t2_isi (x : Int × Int) : isi .tuple (t2 x) = true := rfl
@[simp] theorem t2_isOb (x : Int × Int) : isOb (t2 x) = false := rfl
@[simp] theorem t2_len (x : Int × Int) : gLen (t2 x) = .ok (.int 2) := rfl
@[simp] theorem t2_items (x : Int × Int) : itemsT (t2 x) = .ok [.int x.1, .int x.2] := rfl
@[simp] theorem t2_0 (x : Int × Int) : gIx (t2 x) (.int 0) = .ok (.int x.1) := rfl
@[simp] theorem t2_1 (x : Int × Int) : gIx (t2 x) (.int 1) = .ok (.int x.2) := rfl
theorem gEq_t2 (x y : Int × Int) : gEq (t2 x) (t2 y) = .ok (.bl (decide (x = y))) := gEq_enc x y (by decide)
theorem gNe_t2 (x y : Int × Int) : gNe (t2 x) (t2 y) = .ok (.bl (!decide (x = y))) := gNe_enc x y (by decide)
def lt2 (x y : Int × Int) : Bool := decide (x.1 < y.1 ∨ (x.1 = y.1 ∧ x.2 < y.2))
theorem gLt_t2 (x y : Int × Int) : gLt (t2 x) (t2 y) = .ok (.bl (lt2 x y)) := by
  have := gLt_enc x y (by decide)
  refine this.trans ?_
  congr 2
  show (if x.1 = y.1 then decide (x.2 < y.2) else decide (x.1 < y.1)) = _
  unfold lt2
  by_cases h : x.1 = y.1 <;> simp [h]
theorem gCutT_2 (a b c : Int) : gCutT [.int a, .int b, .int c] none (some 2) = .ok (t2 (a, b)) := by
  rfl
theorem gEq_t3 (x y : T3) : gEq (t3 x) (t3 y) = .ok (.bl (decide (x = y))) := gEq_enc x y (by decide)
theorem gNe_t3 (x y : T3) : gNe (t3 x) (t3 y) = .ok (.bl (!decide (x = y))) := gNe_enc x y (by decide)
theorem gNotIn_t3 (x : T3) (xs : List T3) : gNotIn (t3 x) (.lst (xs.map t3)) = .ok (.bl (!decide (x ∈ xs))) := gNotIn_enc x xs (by decide)
theorem gIn_t3 (x : T3) (xs : List T3) : gIn (t3 x) (.lst (xs.map t3)) = .ok (.bl (decide (x ∈ xs))) := gIn_enc x xs (by decide)
theorem gEq_lt3 (x y : List T3) : gEq (.lst (x.map t3)) (.lst (y.map t3)) = .ok (.bl (decide (x = y))) := gEq_enc x y (by decide)
theorem gNe_lt3 (x y : List T3) : gNe (.lst (x.map t3)) (.lst (y.map t3)) = .ok (.bl (!decide (x = y))) := gNe_enc x y (by decide)
theorem cutD_map {α : Type} (f : α → D) (xs : List α) (lo hi : Option Int) : cutD (xs.map f) lo hi = ((xs.drop (HT.sIx xs.length 0 lo)).take (HT.sIx xs.length xs.length hi - HT.sIx xs.length 0 lo)).map f := by simp [cutD]
theorem cutD_from {α : Type} (f : α → D) (xs : List α) (k : Nat) (h : k ≤ xs.length) : cutD (xs.map f) (some (k : Int)) none = (xs.drop k).map f := by
  rw [cutD_map, HT.sIx_nat, HT.sIx_none, Nat.min_eq_left h, List.take_of_length_le (by simp)]
theorem cutD_to {α : Type} (f : α → D) (xs : List α) (k : Nat) (h : k ≤ xs.length) : cutD (xs.map f) none (some (k : Int)) = (xs.take k).map f := by
  rw [cutD_map, HT.sIx_nat, HT.sIx_none, Nat.min_eq_left h]; simp
theorem lc_run {α : Type} {t : Nat → D → Mir.Env → Res Mir.Env} {me : Mir.Env → Res D} {mt : Mir.Env → Res Bool} {env : Mir.Env} (enc : α → D) (p : α → Bool) (f : α → D) : ∀ xs : List α, (∀ a ∈ xs, ∃ e1, t 0 (enc a) env = .ok e1 ∧ mt e1 = .ok (p a) ∧ (p a = true → me e1 = .ok (f a))) → lcLoop t mt me env (xs.map enc) = .ok ((xs.filter p).map f)
  | [], _ => rfl
  | x :: xs, h => by
    obtain ⟨e1, h1, h2, h3⟩ := h x List.mem_cons_self
    have ih := lc_run enc p f xs fun a ha => h a (List.mem_cons_of_mem _ ha)
    rw [List.filter_cons]
    simp only [List.map_cons, lcLoop, h1, ok_bind, h2]
    cases hp : p x with
    | true => simp [h3 hp, ih]
    | false => simp [ih]
theorem lc_all {α : Type} {t : Nat → D → Mir.Env → Res Mir.Env} {me : Mir.Env → Res D} {env : Mir.Env} (enc : α → D) (f : α → D) (xs : List α) (h : ∀ a ∈ xs, (t 0 (enc a) env >>= me) = .ok (f a)) : lcLoop t (fun _ => .ok true) me env (xs.map enc) = .ok (xs.map f) := by
  have := lc_run (mt := fun _ => .ok true) (me := me) (t := t) (env := env) enc (fun _ => true) f xs fun a ha => by
    obtain ⟨e1, h1, h2⟩ := bind_ok (h a ha)
    exact ⟨e1, h1, rfl, fun _ => h2⟩
  rw [this, List.filter_eq_self.mpr fun _ _ => rfl]
/-! ### loops, with what comes behind them -/
def stepc (fg : List Nat) : Ctl → Res Mir.Env
  | .nx e => .ok (clear e fg)
  | .ct e => .ok (clear e fg)
  | _ => .bad
@[simp] theorem stepc_nx (fg : List Nat) (e : Mir.Env) : stepc fg (.nx e) = .ok (clear e fg) := rfl
@[simp] theorem stepc_ct (fg : List Nat) (e : Mir.Env) : stepc fg (.ct e) = .ok (clear e fg) := rfl
theorem loop_step {t : Nat → D → Mir.Env → Res Mir.Env} {body : Mir.Env → Res Ctl} {fg : List Nat} {x : D} {xs : List D} {env env' : Mir.Env} (h : (t 0 x env >>= fun e => body e >>= stepc fg) = .ok env') : loop t body fg (x :: xs) env = loop t body fg xs env' := by
  obtain ⟨e1, h1, h2⟩ := bind_ok h
  obtain ⟨c, h3, h4⟩ := bind_ok h2
  show (t 0 x env >>= fun e1 => body e1 >>= fun c => match c with | .nx e => loop t body fg xs (clear e fg) | .ct e => loop t body fg xs (clear e fg) | .bk e => .ok (.nx (clear e fg)) | .rt d => .ok (.rt d)) = _
  rw [h1, ok_bind, h3, ok_bind]
  cases c with
  | nx e => cases h4; rfl
  | ct e => cases h4; rfl
  | bk e => cases h4
  | rt e => cases h4
theorem loop_run {σ α : Type} {t : Nat → D → Mir.Env → Res Mir.Env} {body : Mir.Env → Res Ctl} {fg : List Nat} (mk : σ → Mir.Env) (enc : α → D) (P : Nat → σ → Prop) : ∀ (xs : List α) (n : Nat) (s : σ), P n s →
    (∀ i s a, xs[i]? = some a → P (n + i) s → ∃ s', P (n + i + 1) s' ∧ (t 0 (enc a) (mk s) >>= fun e => body e >>= stepc fg) = .ok (mk s')) → ∃ s', loop t body fg (xs.map enc) (mk s) = .ok (.nx (mk s')) ∧ P (n + xs.length) s'
  | [], n, s, p, _ => ⟨s, rfl, p⟩
  | x :: xs, n, s, p, h => by
    obtain ⟨s', p2, h1⟩ := h 0 s x rfl p
    obtain ⟨s2, q1, q2⟩ := loop_run mk enc P xs (n + 1) s' p2 fun i s a ha hp => by
      have := h (i + 1) s a (by simpa using ha) (by rw [show n + (i + 1) = n + 1 + i by omega]; exact hp)
      rw [show n + (i + 1) + 1 = n + 1 + i + 1 by omega] at this
      exact this
    exact ⟨s2, by rw [List.map_cons, loop_step h1]; exact q1, by rw [List.length_cons, show n + (xs.length + 1) = n + 1 + xs.length by omega]; exact q2⟩
/-- it is told, and Q holds of it -/
def Tells {β : Type} (r : Res β) (Q : β → Prop) : Prop := ∃ b, r = .ok b ∧ Q b
theorem Tells.eq {β : Type} {r : Res β} {b : β} (h : Tells r (· = b)) : r = .ok b := by
  obtain ⟨_, h1, rfl⟩ := h
  exact h1
theorem Tells.of {β : Type} {r : Res β} {b : β} {Q : β → Prop} (h : r = .ok b) (q : Q b) : Tells r Q := ⟨b, h, q⟩
theorem Tells.ok {β : Type} {b : β} {Q : β → Prop} (q : Q b) : Tells (.ok b) Q := ⟨b, rfl, q⟩
theorem Tells.eqI {β : Type} {r : Res β} {b : β} (h : r = .ok b) : Tells r (· = b) := ⟨b, h, rfl⟩
/-- a loop that keeps P; then what comes behind it -/
theorem loop_then {σ α β : Type} {t : Nat → D → Mir.Env → Res Mir.Env} {body : Mir.Env → Res Ctl} {fg : List Nat} {k : Ctl → Res β} {Q : β → Prop} (mk : σ → Mir.Env) (enc : α → D) (P : Nat → σ → Prop) (xs : List α) {ds : List D} {env : Mir.Env} (s : σ) (hds : ds = xs.map enc) (henv : env = mk s) (h0 : P 0 s)
    (step : ∀ i s a, xs[i]? = some a → P i s → ∃ s', P (i + 1) s' ∧ (t 0 (enc a) (mk s) >>= fun e => body e >>= stepc fg) = .ok (mk s')) (hk : ∀ s', P xs.length s' → Tells (k (.nx (mk s'))) Q) : Tells (loop t body fg ds env >>= k) Q := by
  subst hds
  subst henv
  obtain ⟨s', h1, h2⟩ := loop_run mk enc P xs 0 s h0 fun i s a ha hp => by
    rw [Nat.zero_add] at hp ⊢
    exact step i s a ha hp
  rw [Nat.zero_add] at h2
  rw [h1, ok_bind]
  exact hk s' h2
/-- .. the state reckoned by f -/
theorem loop_thenF {σ α β : Type} {t : Nat → D → Mir.Env → Res Mir.Env} {body : Mir.Env → Res Ctl} {fg : List Nat} {k : Ctl → Res β} {Q : β → Prop} (mk : σ → Mir.Env) (enc : α → D) (f : σ → α → σ) (P : Nat → σ → Prop) (xs : List α) {ds : List D} {env : Mir.Env} (s : σ) (hds : ds = xs.map enc) (henv : env = mk s) (h0 : P 0 s)
    (step : ∀ i s a, xs[i]? = some a → P i s → P (i + 1) (f s a) ∧ (t 0 (enc a) (mk s) >>= fun e => body e >>= stepc fg) = .ok (mk (f s a))) (hk : P xs.length (xs.foldl f s) → Tells (k (.nx (mk (xs.foldl f s)))) Q) : Tells (loop t body fg ds env >>= k) Q := by
  refine loop_then mk enc (fun i s' => P i s' ∧ s' = (xs.take i).foldl f s) xs s hds henv ⟨h0, rfl⟩ (fun i s1 a ha hp => ?_) fun s' hs => ?_
  · obtain ⟨hp, e⟩ := hp
    obtain ⟨h1, h2⟩ := step i s1 a ha hp
    refine ⟨f s1 a, ⟨h1, ?_⟩, h2⟩
    rw [List.take_succ, ha, e]
    simp
  · obtain ⟨h1, e⟩ := hs
    rw [List.take_length] at e
    subst e
    exact hk h1
/-- .. nothing but looked at -/
theorem loop_look {α β : Type} {t : Nat → D → Mir.Env → Res Mir.Env} {body : Mir.Env → Res Ctl} {fg : List Nat} {k : Ctl → Res β} {Q : β → Prop} (enc : α → D) (xs : List α) {ds : List D} {env : Mir.Env} (hds : ds = xs.map enc)
    (step : ∀ (i : Nat) (a : α), xs[i]? = some a → (t 0 (enc a) env >>= fun e => body e >>= stepc fg) = .ok env) (hk : Tells (k (.nx env)) Q) : Tells (loop t body fg ds env >>= k) Q :=
  loop_then (fun _ : Unit => env) enc (fun _ _ => True) xs () hds rfl trivial (fun i _ a ha _ => ⟨(), trivial, step i a ha⟩) fun _ _ => hk
end Mir

namespace Mir
open PySem PySem.Spec L2
section
variable {X : Cx} {e a b tg it : Expr} {m ma mb : Env → Res D} {k kr : Nat} {cs : List Nat} {pos p : Pos} {m1 : Env → Res Ctl}
/-! ### names of the module -/
theorem sc_globI {x : Str} {i : Int} (hg : Gl X x) (hm : ∃ t, X.mg x = some (.int i t)) (hd : (x == ("__debug__" : Str)) = false := by decide) : SC X (.Name x pos) (mC (.int i)) := by
  obtain ⟨t, ht⟩ := hm
  exact sc_of (pe_glob (v := .int i) hg ht ⟨t, rfl⟩ hd) (fun _ => .int i) rfl
theorem sc_globS {x y : Str} (hg : Gl X x) (hm : ∃ t, X.mg x = some (.str y t)) (hd : (x == ("__debug__" : Str)) = false := by decide) : SC X (.Name x pos) (mC (.str y)) := by
  obtain ⟨t, ht⟩ := hm
  exact sc_of (pe_glob (v := .str y) hg ht ⟨t, rfl⟩ hd) (fun _ => .str y) rfl

/-! ### while -/
def wloop (t : Env → Res Bool) (body : Env → Res Ctl) (fg : List Nat) : Nat → Env → Res Ctl
  | 0, _ => .bad
  | n + 1, env => t env >>= fun b => if b then body env >>= fun c => match c with
      | .nx e => wloop t body fg n (clear e fg)
      | .ct e => wloop t body fg n (clear e fg)
      | .bk e => .ok (.nx (clear e fg))
      | .rt d => .ok (.rt d)
    else .ok (.nx env)
theorem s_while {c : Expr} {body : List Stmt} {t : Env → Res Bool} {fg : List Nat} {n : Nat} (hp : PassesOwn (model X.prog X.w) X.A X.env X.xe) (hc : ST X c t) (hb : SS X kr body m1) : S1 X kr (.While c body [] pos) (fun env => wloop t m1 fg n env) := fun B H env σ tm D r ok hm p => by
  refine wS_of (ps_while hp pt_sem pss_sem) ?_
  refine ⟨fun m σ H => ∃ env, EnvOk B H env σ tm ∧ wloop t m1 fg m env = .ok r, ⟨n, env, ok, hm⟩, ?_⟩
  rintro m σ2 H2 ⟨env2, ok2, hr⟩
  cases m with
  | zero => cases hr
  | succ m =>
    obtain ⟨b, hb', h2⟩ := bind_ok hr
    refine hc B H2 env2 σ2 tm b _ ok2 hb' fun H3 x3 ok3 => ?_
    cases b with
    | false =>
      cases h2
      exact p σ2 H3 ok3
    | true =>
      rw [if_pos rfl] at h2 ⊢
      obtain ⟨c', h5, h6⟩ := bind_ok h2
      refine ⟨fun σ' H' => ∃ env, EnvOk B H' env σ' tm ∧ wloop t m1 fg m env = .ok r, fun σ' H' h => ⟨m, by omega, h⟩, ?_⟩
      refine hb B H3 env2 σ2 tm _ c' ok3 h5 ?_
      cases c' with
      | nx e => exact fun σ5 H5 ok5 => ⟨_, ok5.clear fg, h6⟩
      | ct e => exact fun σ5 H5 ok5 => ⟨_, ok5.clear fg, h6⟩
      | bk e =>
        cases h6
        exact fun σ5 H5 ok5 => p σ5 H5 (ok5.clear fg)
      | rt d' =>
        cases h6
        exact p

/-! ### sum of whole numbers -/
def intsD? : List D → Option (List Int)
  | [] => some []
  | .int i :: ds => (intsD? ds).map fun is => i :: is
  | _ :: _ => none
theorem intsD_rp {G : Hp} : ∀ {vs : List V} {ds : List D} {is : List Int}, RpAll G vs ds → intsD? ds = some is → vs = is.map V.int
  | [], [], is, .nil, h => by cases h; rfl
  | v :: vs, d :: ds, is, .cons hr r, h => by
    cases hr with
    | int i =>
      unfold intsD? at h
      cases e : intsD? ds with
      | none => rw [e] at h; cases h
      | some cs =>
        rw [e] at h
        cases h
        rw [intsD_rp r e]; rfl
    | _ => cases h
def gSum : D → Res D
  | .lst ds => match intsD? ds with
    | some is => .ok (.int is.sum)
    | none => .bad
  | _ => .bad
theorem sc_sum (hc : X.calm = true) (hg : Gl X "sum") (hm0 : X.mg "sum" = none) (h : SB X e m) (he : starEach [e] X.env = (false, eval e X.env) :: starEach [] X.env := by rfl) (hpl : (backTo pos (starEach [] X.env)).any (·.1) = false := by rfl) : SC X (.Call (.Name "sum" p) [e] [] pos) (mUn gSum m) := fun B H env σ tm d Q ok hm q => by
  obtain ⟨x, hx, h2⟩ := bind_ok hm
  refine wE_of (pe_callB (cr_sum hc) hg hm0 (by decide +kernel) (pa_cons pe_sem pa_nil he) (by decide) (by decide) he hpl) (h B H env σ tm _ _ ok hx fun v H1 x1 ok1 r => ?_)
  cases r with
  | @lst a vs ds hv ra =>
    unfold gSum at h2
    dsimp only at h2
    split at h2
    · rename_i bs hb
      cases h2
      have e := intsD_rp ra hb
      subst e
      exact ⟨a, bs, rfl, .inl (view_rd hv), q _ H1 x1 ok1 (.int _) rfl⟩
    · cases h2
  | _ => cases h2

/-! ### enumerate, zip -/
def enumD : Nat → List D → List D
  | _, [] => []
  | n, d :: ds => .tup [.int n, d] :: enumD (n + 1) ds
theorem enumD_len : ∀ (n : Nat) (ds : List D), (enumD n ds).length = ds.length
  | _, [] => rfl
  | n, _ :: ds => by simp [enumD, enumD_len (n + 1) ds]
theorem enumD_get : ∀ (n : Nat) (ds : List D) (i : Nat) (d : D), ds[i]? = some d → (enumD n ds)[i]? = some (.tup [.int ((n + i : Nat) : Int), d])
  | n, d :: ds, 0, _, h => by cases h; rfl
  | n, d :: ds, i + 1, x, h => by
    have := enumD_get (n + 1) ds i x (by simpa using h)
    rw [show n + 1 + i = n + (i + 1) by omega] at this
    simpa [enumD] using this
theorem si_enum {elts : List Expr} {kk : Nat} {tpos : Pos} (hg : Gl X "enumerate") (hm0 : X.mg "enumerate" = none) (he : SE X 0 [] it m) (hs : starEach [it] X.env = [(false, eval it X.env)] := by rfl) (hs2 : starEach [it] X.env = (false, eval it X.env) :: starEach [] X.env := by rfl) :
    SI X (.Tuple elts kk tpos) (.Call (.Name "enumerate" p) [it] [] pos) (fun env => m env >>= itemsL >>= fun ds => .ok (enumD 0 ds)) := fun B H env σ tm ds R ok hm q => by
  obtain ⟨ds0, hd0, h3⟩ := bind_ok hm
  obtain ⟨d, hd, h2⟩ := bind_ok hd0
  cases h3
  unfold itemsL at h2
  split at h2
  · rename_i xs
    cases h2
    refine wI_of (pi_enum hg hm0 (pa_cons pe_sem pa_nil hs2) hs) (he B H env σ tm _ _ ok hd fun v H1 x1 ok1 => ?_)
    have r := ok1.rp
    cases r with
    | @lst a vs _ hv ra =>
      refine ⟨a, vs, rfl, .inl (view_rd hv), q _ H1 [(.ref a, 0, .lst ds0)] x1 ok1 fun i H2 env2 σ2 tm2 ok2 => ?_⟩
      have r2 := EnvOk.rp ok2
      cases r2 with
      | @lst _ ws _ hw rb =>
        have hs : SqL X.K H2 a ws := .inl (view_rd hw)
        rw [enumD_len]
        refine ⟨fun ei => ⟨ws, hs, by have := rb.length; omega⟩, fun hi => ?_⟩
        obtain ⟨x, hx, rx⟩ := rb.get (List.getElem?_eq_getElem hi)
        refine ⟨⟨ws, x, hs, hx⟩, fun y H3 hy => ?_⟩
        obtain ⟨T, y', rfl, hT, rfl, hy⟩ := hy
        have ey : y' = x := Option.some.inj ((hy ws hs).symm.trans hx)
        subst ey
        have ok3 := EnvOk.item ok2 (.inl rfl) rfl (.inl hw) hx (List.getElem?_eq_getElem hi)
        have ok4 := ok3.imm (k := 0) (.int ((i : Nat) : Int)) rfl
        have ok5 := EnvOk.newTup (k := 0) (vs := [.int ((i : Nat) : Int), y']) (ds := [.int ((i : Nat) : Int), ds0[i]]) ok4 rfl hT
        have hget := enumD_get 0 ds0 i _ (List.getElem?_eq_getElem hi)
        rw [Nat.zero_add] at hget
        exact ⟨_, hget, Ext.upd hT, ok5.freeze⟩
  · cases h2
def zipD : List D → List D → List D
  | d :: ds, e :: es => .tup [d, e] :: zipD ds es
  | _, _ => []
theorem zipD_len : ∀ (ds es : List D), (zipD ds es).length = min ds.length es.length
  | [], _ => by simp [zipD]
  | _ :: _, [] => by simp [zipD]
  | _ :: ds, _ :: es => by simp [zipD, zipD_len ds es]
theorem zipD_get : ∀ (ds es : List D) (i : Nat) (d e : D), ds[i]? = some d → es[i]? = some e → (zipD ds es)[i]? = some (.tup [d, e])
  | d :: ds, e :: es, 0, _, _, h, h' => by cases h; cases h'; rfl
  | d :: ds, e :: es, i + 1, x, y, h, h' => by
    have := zipD_get ds es i x y (by simpa using h) (by simpa using h')
    simpa [zipD] using this
theorem si_zip {elts : List Expr} {kk : Nat} {tpos : Pos} {it2 : Expr} {m2 : Env → Res D} (hg : Gl X "zip") (hm0 : X.mg "zip" = none) (he : SE X 0 [] it m) (he2 : SE X 0 [] it2 m2) (hs : starEach [it, it2] X.env = (false, eval it X.env) :: starEach [it2] X.env := by rfl) (hs2 : starEach [it2] X.env = (false, eval it2 X.env) :: starEach [] X.env := by rfl) (hpl : (backTo pos (starEach [it2] X.env)).any (·.1) = false := by rfl) :
    SI X (.Tuple elts kk tpos) (.Call (.Name "zip" p) [it, it2] [] pos) (fun env => m env >>= itemsL >>= fun ds => m2 env >>= itemsL >>= fun es => .ok (zipD ds es)) := fun B H env σ tm ds R ok hm q => by
  obtain ⟨ds0, hd0, h3⟩ := bind_ok hm
  obtain ⟨d, hd, h2⟩ := bind_ok hd0
  obtain ⟨es0, he0, h5⟩ := bind_ok h3
  obtain ⟨d2, hd2, h4⟩ := bind_ok he0
  cases h5
  unfold itemsL at h2 h4
  split at h2
  · split at h4
    · rename_i xs _ ys
      cases h2
      cases h4
      refine wI_of (pi_zip hg hm0 (pa_cons pe_sem (pa_cons pe_sem pa_nil hs2) hs) hs hpl) (he B H env σ tm _ _ ok hd fun v H1 x1 ok1 => he2 B H1 env σ ((v, 0, .lst ds0) :: tm) _ _ ok1 hd2 fun u H2 x2 ok2 => ?_)
      have r1 := (ok2.perm (List.Perm.swap _ _ _)).rp
      have r2 := ok2.rp
      cases r1 with
      | @lst a vs _ hv ra =>
        cases r2 with
        | @lst b ws _ hw rb =>
          refine ⟨a, b, vs, ws, rfl, .inl (view_rd hv), .inl (view_rd hw), q _ H2 [(.ref b, 0, .lst es0), (.ref a, 0, .lst ds0)] (x1.trans x2) ok2 fun i H3 env3 σ3 tm3 ok3 => ?_⟩
          have ok3s := ok3.perm (List.Perm.swap _ _ _)
          have s1 := EnvOk.rp ok3s
          have s2 := EnvOk.rp ok3
          cases s1 with
          | @lst _ vs2 _ hv2 ra2 =>
            cases s2 with
            | @lst _ ws2 _ hw2 rb2 =>
              have sv : SqL X.K H3 a vs2 := .inl (view_rd hv2)
              have sw : SqL X.K H3 b ws2 := .inl (view_rd hw2)
              have l1 := ra2.length
              have l2 := rb2.length
              rw [zipD_len]
              refine ⟨fun ei => ⟨vs2, ws2, sv, sw, by omega⟩, fun hi => ?_⟩
              have hi1 : i < ds0.length := by omega
              have hi2 : i < es0.length := by omega
              obtain ⟨x, hx, rx⟩ := ra2.get (List.getElem?_eq_getElem hi1)
              obtain ⟨y, hy, ry⟩ := rb2.get (List.getElem?_eq_getElem hi2)
              refine ⟨⟨vs2, ws2, x, y, sv, sw, hx, hy⟩, fun z H4 hz => ?_⟩
              obtain ⟨T, x', y', rfl, hT, rfl, hx', hy'⟩ := hz
              have ex : x' = x := Option.some.inj ((hx' vs2 sv).symm.trans hx)
              have ey : y' = y := Option.some.inj ((hy' ws2 sw).symm.trans hy)
              subst ex
              subst ey
              have ok4 : EnvOk B H3 env3 σ3 ((y', 0, es0[i]) :: (.ref b, 0, .lst es0) :: (.ref a, 0, .lst ds0) :: tm3) := EnvOk.item ok3 (.inl rfl) rfl (.inl hw2) hy (List.getElem?_eq_getElem hi2)
              have ok5 : EnvOk B H3 env3 σ3 ((.ref a, 0, .lst ds0) :: (y', 0, es0[i]) :: (.ref b, 0, .lst es0) :: tm3) := ok4.perm ((List.Perm.cons _ (List.Perm.swap _ _ _)).trans (List.Perm.swap _ _ _))
              have ok6 := EnvOk.item ok5 (.inl rfl) rfl (.inl hv2) hx (List.getElem?_eq_getElem hi1)
              have ok7 : EnvOk B H3 env3 σ3 (lev 0 [x', y'] [ds0[i], es0[i]] ++ ((.ref b, 0, .lst es0) :: (.ref a, 0, .lst ds0) :: tm3)) := by
                refine ok6.perm ?_
                show ((x', 0, ds0[i]) :: (V.ref a, 0, D.lst ds0) :: (y', 0, es0[i]) :: (V.ref b, 0, D.lst es0) :: tm3).Perm ((x', 0, ds0[i]) :: (y', 0, es0[i]) :: (V.ref b, 0, D.lst es0) :: (V.ref a, 0, D.lst ds0) :: tm3)
                exact List.Perm.cons _ ((List.Perm.swap _ _ _).trans (List.Perm.cons _ (List.Perm.swap _ _ _)))
              have ok8 := ok7.newTup rfl hT
              exact ⟨_, zipD_get _ _ i _ _ (List.getElem?_eq_getElem hi1) (List.getElem?_eq_getElem hi2), Ext.upd hT, ok8.freeze⟩
    · cases h4
  · cases h2
end
end Mir

namespace Mir
open PySem PySem.Spec L2
section
variable {X : Cx} {e a b o i : Expr} {m ma mb mi mv : Env → Res D} {k kr : Nat} {cs : List Nat} {pos p : Pos} {m1 : Env → Res Ctl}
theorem EnvOk.levs0 {B : Bs} {H : Hp} {env : Env} {σ : St} {tm : List Hold} {vs : List V} {ds : List D} (h : EnvOk B H env σ (lev 0 vs ds ++ tm)) (r : RpAll (view H) vs ds) (hi : immAll ds = true) : EnvOk B H env σ tm := h.less
/-! ### [..] * n -/
theorem rep_rp {G : Hp} {vs : List V} {ds : List D} (r : RpAll G vs ds) : ∀ n : Nat, RpAll G (List.replicate n vs).flatten (List.replicate n ds).flatten
  | 0 => .nil
  | n + 1 => by
    rw [List.replicate_succ, List.replicate_succ, List.flatten_cons, List.flatten_cons]
    exact r.append (rep_rp r n)
theorem immAll_app {ds es : List D} (h : immAll ds = true) (h' : immAll es = true) : immAll (ds ++ es) = true := immAll_iff.mpr fun d hd => (List.mem_append.mp hd).elim (immAll_iff.mp h d) (immAll_iff.mp h' d)
theorem rep_imm {ds : List D} (h : immAll ds = true) : ∀ n : Nat, immAll (List.replicate n ds).flatten = true
  | 0 => rfl
  | n + 1 => by
    rw [List.replicate_succ, List.flatten_cons]
    exact immAll_app h (rep_imm h n)
def gRep (x y : D) : Res D := match x, y with
  | .lst ds, .int n => if immAll ds = true ∧ -(2 ^ 62) ≤ n ∧ n < 2 ^ 62 ∧ ds.length * n.toNat ≤ sizeLine then .ok (.lst (List.replicate n.toNat ds).flatten) else .bad
  | _, _ => .bad
theorem se_rep (ha : SE X 1 [] a ma) (hb : SB X b mb) : SE X (k + 1) [] (.BinOp a .Mult b pos) (mOp gRep ma mb) := fun B H env σ tm d Q ok hm q => by
  obtain ⟨x, y, hx, hy, hg⟩ := two hm
  refine wE_of (pe_op op_rep pe_sem pe_sem) (ha B H env σ tm x _ ok hx fun v H1 x1 ok1 => hb B H1 env σ ((v, 1, x) :: tm) y _ ok1 hy fun u H2 x2 ok2 r2 => ?_)
  unfold gRep at hg
  split at hg
  · rename_i ds n
    split at hg
    · rename_i hh
      obtain ⟨h1, h2, h3, h4⟩ := hh
      cases hg
      cases r2
      obtain ⟨l, rfl⟩ := ok2.isRef rfl
      have ra := ok2.rp
      obtain ⟨vs, hL, hvl, _⟩ := ok2.takeLst
      cases ra with
      | @lst _ ws _ hv ra =>
        have ew : ws = vs := by
          have : view H2 l = some (.lst vs) := by unfold view; rw [hL]; rfl
          rw [this] at hv; cases hv; rfl
        subst ew
        refine ⟨l, n, ws, rfl, rfl, hL, by omega, by omega, by rw [hvl]; exact h4, fun p hp => ?_⟩
        have ok3 := ok2.tail
        have ok4 := ok3.levs (k := k) (rep_rp ra n.toNat) (rep_imm h1 _)
        exact q _ _ ((x1.trans x2).trans (Ext.upd hp)) (ok4.newLst (rep_rp ra n.toNat).length hp)
    · cases hg
  · cases hg
/-! ### x[i] = e -/
def mPutI (j k : Nat) (cs : List Nat) (mv mi : Env → Res D) : Env → Res Ctl := fun env => mv env >>= fun d => mi (clear env cs) >>= fun y => atL (clear env cs) j (k + 1) >>= fun ds => match y with
  | .int n => (match ixN ds.length n with | some jj => .ok (.nx ((clear env cs).set j (some (k + 1, .lst (ds.set jj d))))) | none => .bad)
  | _ => .bad
theorem s_putI {j : Nat} {pos' : Pos} (hx : PE X o (tVar j)) (hi : SB X i mi) (hv : SE X k cs e mv) (hs : swapsWithSole [.Subscript o i pos'] e pos.line X.env = pure false := by rfl) (hw : swappedStores [.Subscript o i pos'] e X.env = pure none := by rfl)
    (h1 : (assignEach [.Subscript o i pos'] X.env).map (·.2) = [assign (.Subscript o i pos') X.env] := by rfl)
    (hasg : ∀ v, assign (.Subscript o i pos') X.env v = (do
      let ov ← holding [v] (eval o X.env)
      let iv ← holding [v, ov] (eval i X.env)
      standAt pos'
      holding [v, ov, iv] (setItem ov iv v)
      release [v, ov, iv] []) := by intro _; rfl) :
    S1 X kr (.Assign [.Subscript o i pos'] e pos) (mPutI j k cs mv mi) := fun B H env σ tm D r ok hm p => by
  obtain ⟨d, hd, h2⟩ := bind_ok hm
  obtain ⟨y, hy, h3⟩ := bind_ok h2
  obtain ⟨ds, hds, h4⟩ := bind_ok h3
  have he1 := atL_ok hds
  split at h4
  · rename_i n
    split at h4
    · rename_i jj hjj
      cases h4
      refine wS_of (ps_asg pe_sem (pg_sub hx pe_sem set_list hasg) hs hw h1) (hv B H env σ tm d _ ok hd fun w H1 x1 ok1 => ?_)
      obtain ⟨v, hv', rv⟩ := ok1.slot he1
      refine ⟨v, hv', hi B H1 (clear env cs) σ _ _ _ ok1 hy fun u H2 x2 ok2 r2 => ?_⟩
      cases r2
      obtain ⟨q, hq, ok3⟩ := ok2.slotMu he1 rfl
      rw [hv'] at hq
      cases hq
      obtain ⟨vs, hL, hvl, ok4⟩ := ok3.takeLst
      refine ⟨q, vs, n, jj, rfl, rfl, hL, by rw [hvl]; exact hjj, ?_⟩
      have hjl : jj < ds.length := by
        unfold ixN at hjj
        split at hjj
        · split at hjj
          · cases hjj; omega
          · cases hjj
        · split at hjj
          · cases hjj; omega
          · cases hjj
      have hjv : jj < vs.length := by omega
      obtain ⟨l, hl1, hl2⟩ := lev_mid (k := k) (List.getElem?_eq_getElem hjv) (List.getElem?_eq_getElem hjl) hvl
      have hset : (lev k (vs.set jj w) (ds.set jj d)).Perm ((w, k, d) :: l) := by
        obtain ⟨l', g1, g2⟩ := lev_mid (k := k) (vs := vs.set jj w) (ds := ds) (List.getElem?_set_self hjv) (List.getElem?_eq_getElem hjl) (by simpa using hvl)
        have := g2 d
        refine this.trans (List.Perm.cons _ ?_)
        have key : ∀ (vs : List V) (ds : List Mir.D) (jj : Nat) (w : V) (hv : jj < vs.length) (hd : jj < ds.length), ∃ l, (lev k vs ds).Perm ((vs[jj], k, ds[jj]) :: l) ∧ (lev k (vs.set jj w) ds).Perm ((w, k, ds[jj]) :: l) := by
          intro vs
          induction vs with
          | nil => intro ds jj w hv; simp at hv
          | cons v vs ih =>
            intro ds jj w hv hd
            cases ds with
            | nil => simp at hd
            | cons d ds =>
              cases jj with
              | zero => exact ⟨lev k vs ds, .refl _, .refl _⟩
              | succ jj =>
                obtain ⟨l, h1, h2⟩ := ih ds jj w (by simpa using hv) (by simpa using hd)
                exact ⟨(v, k, d) :: l, (h1.cons _).trans (.swap _ _ _), (h2.cons _).trans (.swap _ _ _)⟩
        obtain ⟨l2, k1, k2⟩ := key vs ds jj w hjv hjl
        have e1 : ((vs[jj], k, ds[jj]) :: l).Perm ((vs[jj], k, ds[jj]) :: l2) := hl1.symm.trans k1
        have e2 : ((w, k, ds[jj]) :: l').Perm ((w, k, ds[jj]) :: l2) := g1.symm.trans k2
        exact ((List.perm_cons _).mp e2).trans ((List.perm_cons _).mp e1).symm
      have ok5 : EnvOk B (del H2 q) ((clear env cs).set j none) σ (lev k (vs.set jj w) (ds.set jj d) ++ tm) := by
        have h6 : EnvOk B (del H2 q) ((clear env cs).set j none) σ ((vs[jj], k, ds[jj]) :: ((w, k, d) :: (l ++ tm))) := by
          refine ok4.perm ?_
          refine (hl1.append_right _).trans (List.Perm.cons _ ?_)
          exact List.perm_middle
        have h7 := EnvOk.tail h6
        exact h7.perm (hset.symm.append_right tm)
      have ok6 := ok5.newLst (p := q) (by simp [hvl]) del_self
      rw [upd_del] at ok6
      exact p σ _ (ok6.putBack he1 hv')
    · cases h4
  · cases h4
theorem ixN_lt {n : Nat} {i : Int} {j : Nat} (h : ixN n i = some j) : j < n := by
  unfold ixN at h
  split at h
  · split at h
    · cases h; omega
    · cases h
  · split at h
    · cases h; omega
    · cases h
/-- one of a list's things, and the others -/
theorem lev_one {k : Nat} : ∀ {vs : List V} {ds : List Mir.D} {jj : Nat} {v : V} {d : Mir.D}, vs.length = ds.length → vs[jj]? = some v → ds[jj]? = some d → ∃ l, (lev k vs ds).Perm ((v, k, d) :: l) ∧ ∀ w e, (lev k (vs.set jj w) (ds.set jj e)).Perm ((w, k, e) :: l)
  | [], ds, jj, v, d, _, h, _ => by simp at h
  | x :: vs, [], jj, v, d, hl, _, _ => by simp at hl
  | x :: vs, y :: ds, 0, v, d, hl, h, h' => by
    cases h; cases h'
    exact ⟨lev k vs ds, .refl _, fun _ _ => .refl _⟩
  | x :: vs, y :: ds, jj + 1, v, d, hl, h, h' => by
    obtain ⟨l, h1, h2⟩ := lev_one (k := k) (vs := vs) (ds := ds) (jj := jj) (by simpa using hl) (by simpa using h) (by simpa using h')
    exact ⟨(x, k, y) :: l, (h1.cons _).trans (.swap _ _ _), fun w e => ((h2 w e).cons _).trans (.swap _ _ _)⟩
theorem upd_self {H : Hp} {q : Addr} {o : HO} (h : H q = some o) : upd H q o = H := by
  funext a
  by_cases e : a = q
  · rw [e, upd_same, h]
  · rw [upd_ne e]
theorem del_comm {H : Hp} {a b : Addr} : del (del H a) b = del (del H b) a := by
  funext c
  unfold del
  by_cases h1 : c = a <;> by_cases h2 : c = b <;> simp [h1, h2]
theorem del_upd {H : Hp} {a b : Addr} {o : HO} (h : a ≠ b) : upd (del H b) a o = del (upd H a o) b := by
  funext c
  by_cases h1 : c = b
  · rw [h1, del_self, upd_ne (Ne.symm h), del_self]
  · rw [del_ne h1]
    by_cases h2 : c = a
    · rw [h2, upd_same, upd_same]
    · rw [upd_ne h2, upd_ne h2, del_ne h1]
/-- x[i][j] = e, e without lists, dicts -/
def mPutII (j k : Nat) (mv mi mj : Env → Res D) : Env → Res Ctl := fun env => mv env >>= fun d => mi env >>= fun y => mj env >>= fun z => atL env j (k + 2) >>= fun ds => match y, z with
  | .int n, .int n2 => (match ixN ds.length n with
    | some jj => (match ds[jj]? with
      | some (.lst es) => (match ixN es.length n2 with
        | some j2 => if d.imm = true then .ok (.nx (env.set j (some (k + 2, .lst (ds.set jj (.lst (es.set j2 d))))))) else .bad
        | none => .bad)
      | _ => .bad)
    | none => .bad)
  | _, _ => .bad
theorem s_putII {j : Nat} {i2 : Expr} {mj : Env → Res D} {pos' pos2 : Pos} (hx : PE X o (tVar j)) (hi : SB X i mi) (hj : SB X i2 mj) (hv : SB X e mv) (hix : PlainIx i) (hs : swapsWithSole [.Subscript (.Subscript o i pos2) i2 pos'] e pos.line X.env = pure false := by rfl) (hw : swappedStores [.Subscript (.Subscript o i pos2) i2 pos'] e X.env = pure none := by rfl)
    (h1 : (assignEach [.Subscript (.Subscript o i pos2) i2 pos'] X.env).map (·.2) = [assign (.Subscript (.Subscript o i pos2) i2 pos') X.env] := by rfl)
    (hasg : ∀ v, assign (.Subscript (.Subscript o i pos2) i2 pos') X.env v = (do
      let ov ← holding [v] (eval (.Subscript o i pos2) X.env)
      let iv ← holding [v, ov] (eval i2 X.env)
      standAt pos'
      holding [v, ov, iv] (setItem ov iv v)
      release [v, ov, iv] []) := by intro _; rfl) :
    S1 X kr (.Assign [.Subscript (.Subscript o i pos2) i2 pos'] e pos) (mPutII j k mv mi mj) := fun B H env σ tm D r ok hm p => by
  obtain ⟨d, hd, h2⟩ := bind_ok hm
  obtain ⟨y, hy, h3⟩ := bind_ok h2
  obtain ⟨z, hz, h4⟩ := bind_ok h3
  obtain ⟨ds, hds, h5⟩ := bind_ok h4
  have he1 := atL_ok hds
  split at h5
  · rename_i n n2
    split at h5
    · rename_i jj hjj
      split at h5
      · rename_i es hes
        split at h5
        · rename_i j2 hj2
          split at h5
          · rename_i hdi
            cases h5
            refine wS_of (ps_asg pe_sem (pg_sub (pe_ix ix_seq hx pe_sem hix) pe_sem set_list hasg) hs hw h1) (hv B H env σ tm d _ ok hd fun w H1 x1 ok1 rw1 => ?_)
            obtain ⟨v, hv', rv⟩ := ok1.slot he1
            refine ⟨v, hv', hi B H1 env σ _ _ _ ok1 hy fun u H2 x2 ok2 r2 => ?_⟩
            cases r2
            obtain ⟨q, hq, ok3⟩ := ok2.slotMu he1 rfl
            rw [hv'] at hq
            cases hq
            obtain ⟨vs, hL, hvl, _⟩ := ok3.takeLst
            have hjl := ixN_lt hjj
            have hjv : jj < vs.length := by omega
            refine .inl ⟨q, vs, n, vs[jj], rfl, rfl, .inl (.inl hL), ?_, ?_⟩
            · unfold atI
              rw [hvl, hjj]
              exact List.getElem?_eq_getElem hjv
            refine hj B H2 env σ tm _ _ ok2 hz fun u2 H3 x3 ok4 r4 => ?_
            cases r4
            obtain ⟨q2, hq2, ok5⟩ := ok4.slotMu he1 rfl
            rw [hv'] at hq2
            cases hq2
            obtain ⟨vs2, hL2, hvl2, ok6⟩ := ok5.takeLst
            have ev : vs2 = vs := by
              have := x3 _ _ hL
              rw [this] at hL2; cases hL2; rfl
            subst ev
            obtain ⟨l, l1, l2⟩ := lev_one (k := k + 1) hvl2 (List.getElem?_eq_getElem hjv) hes
            have ok7 : EnvOk B (del H3 q) (env.set j none) σ ((vs2[jj], k + 1, .lst es) :: (l ++ tm)) := ok6.perm (l1.append_right _)
            obtain ⟨a, ha⟩ := ok7.isRef rfl
            rw [ha] at ok7 ⊢
            obtain ⟨ws, hA, hwl, ok8⟩ := ok7.takeLst
            have haq : a ≠ q := fun z => by rw [z, del_self] at hA; cases hA
            have hA2 : H3 a = some (.lst ws) := by rw [← hA, del_ne haq]
            have hj2l := ixN_lt hj2
            refine ⟨a, ws, n2, j2, rfl, rfl, hA2, by rw [hwl]; exact hj2, ?_⟩
            obtain ⟨l', g1, g2⟩ := lev_one (k := k) hwl (List.getElem?_eq_getElem (show j2 < ws.length by omega)) (List.getElem?_eq_getElem hj2l)
            have ok9 : EnvOk B (del (del H3 q) a) (env.set j none) σ (l' ++ (l ++ tm)) := EnvOk.tail (ok8.perm (g1.append_right _))
            have rw2 : Rp (view (del (del H3 q) a)) w d := by
              have r3 : Rp (view H3) w d := (x2.trans x3).rp rw1
              have nm : ∀ {b : Addr} {u : HO}, isIm u = true → view H3 b = some u → view (del (del H3 q) a) b = some u := fun {b u} im hb => by
                unfold view at hb ⊢
                have b1 : b ≠ a := fun z => by rw [z, hA2] at hb; cases hb; cases im
                have b2 : b ≠ q := fun z => by rw [z, hL2] at hb; cases hb; cases im
                rw [del_ne b1, del_ne b2]; exact hb
              exact r3.immTo (fun b xs im hb => nm im hb) hdi
            have ok10 := (ok9.imm (k := k) rw2 hdi)
            have ok11 : EnvOk B (del (del H3 q) a) (env.set j none) σ (lev k (ws.set j2 w) (es.set j2 d) ++ (l ++ tm)) := ok10.perm ((g2 w d).symm.append_right _)
            have ok12 := ok11.newLst (p := a) (by simp [hwl]) del_self
            rw [upd_del] at ok12
            have ok13 : EnvOk B (upd (del H3 q) a (.lst (ws.set j2 w))) (env.set j none) σ (lev (k + 1) (vs2.set jj (.ref a)) (ds.set jj (.lst (es.set j2 d))) ++ tm) := ok12.perm ((l2 _ _).symm.append_right tm)
            rw [del_upd haq] at ok13
            have ok14 := ok13.newLst (p := q) (by simp [hvl2]) del_self
            rw [upd_del] at ok14
            have evs : vs2.set jj (.ref a) = vs2 := by
              rw [← ha]; exact List.set_getElem_self hjv
            rw [evs, upd_self (by rw [upd_ne (Ne.symm haq)]; exact hL2)] at ok14
            exact p σ _ (ok14.putBack he1 hv')
          · cases h5
        · cases h5
      · cases h5
    · cases h5
  · cases h5
end
end Mir

namespace Mir
open PySem PySem.Spec L2
/-! ### a list's item is taken by a name and changed: x = xs[i]; x.insert(p, v) -/
def Bs.lent (B : Bs) (q : Addr) (o : HO) : Bs := ⟨upd B.h q o, fun a => if a = q then none else B.g a⟩
section
variable {B : Bs} {H : Hp} {env : Env} {σ : St} {tm : List Hold} {k : Nat} {vs : List V} {ds : List D} {q : Addr}
theorem EnvOk.lend (h : EnvOk B H env σ ((.ref q, k + 1, .lst ds) :: tm)) : ∃ vs, H q = some (.lst vs) ∧ vs.length = ds.length ∧ B q = none ∧ EnvOk (B.lent q (.lst vs)) H env σ (lev k vs ds ++ tm) := by
  have h2 := h.len
  have h3 := h.has
  obtain ⟨G, f, g, hg, hf, hr, nd, hq⟩ := EnvOk.apart (l := [(.ref q, k + 1, D.lst ds)]) h
  cases hf with
  | @cons _ _ _ _ f1 g1 h1 hn =>
    cases hn
    have len : ∀ {k : Nat} {f : List Addr} {vs : List V} {ds : List D}, OdAll G H k f vs ds → vs.length = ds.length := fun {k f vs ds} r => by
      induction vs generalizing ds f with
      | nil => cases r; rfl
      | cons v vs ih => cases r with | cons _ r => simp [ih r]
    rw [List.append_nil] at nd hq
    cases h1 with
    | sh hz r => rcases hz with hz | hz
                 · cases hz
                 · simp [D.imm] at hz
    | @lst _ _ vs _ f2 e r =>
      have hq0 := hq q (List.mem_append_left _ List.mem_cons_self)
      refine ⟨vs, e, len r, hq0.1, ?_⟩
      rw [List.cons_append] at nd hq
      obtain ⟨nd1, nd2⟩ := List.nodup_cons.mp nd
      have hv : HoldAll G H (lev k vs ds ++ []) (f2 ++ []) := HoldAll.ofAll r .nil
      rw [List.append_nil, List.append_nil] at hv
      refine EnvOk.join h2 h3 ⟨fun a o ha => ?_, fun a ha => ?_, hg.gs, hg.gt, hg.nf⟩ hv hr nd2 fun p hm => ⟨?_, (hq p (List.mem_cons_of_mem _ hm)).2⟩
      · have ha' : upd B.h q (.lst vs) a = some o := ha
        by_cases z : a = q
        · subst z; rw [upd_same] at ha'; rw [← ha']; exact e
        · rw [upd_ne z] at ha'; exact hg.bs a o ha'
      · show G a = if a = q then none else B.g a
        by_cases z : a = q
        · subst z; rw [if_pos rfl]; exact hq0.2
        · rw [if_neg z]
          refine hg.g0 a fun z2 => ha ?_
          show upd B.h q (.lst vs) a = none
          rw [upd_ne z]; exact z2
      · have hp : p ≠ q := fun z => nd1 (z ▸ hm)
        show upd B.h q (.lst vs) p = none
        rw [upd_ne hp]; exact (hq p (List.mem_cons_of_mem _ hm)).1
theorem EnvOk.unlend (h : EnvOk (B.lent q (.lst vs)) H env σ (lev k vs ds ++ tm)) (hb : B q = none) (hl : vs.length = ds.length) : H q = some (.lst vs) ∧ EnvOk B H env σ ((.ref q, k + 1, .lst ds) :: tm) := by
  have h2 := h.len
  have h3 := h.has
  obtain ⟨G, f, g, hg, hf, hr, nd, hq⟩ := h.apart
  have hBq : (B.lent q (.lst vs)) q = some (.lst vs) := upd_same
  have hHq := hg.bs q _ hBq
  refine ⟨hHq, ?_⟩
  have hGq : G q = none := by
    have := hg.g0 q (by rw [hBq]; simp)
    rw [this]
    exact if_pos rfl
  have hf' : HoldAll G H (lev k vs ds ++ []) f := by rw [List.append_nil]; exact hf
  obtain ⟨f1, f2, e, ha, hn⟩ := HoldAll.toAll hl hf'
  cases hn
  rw [List.append_nil] at e
  subst e
  refine EnvOk.join (l := [(.ref q, k + 1, .lst ds)]) (f := (q :: f) ++ []) (g := g) h2 h3 ⟨fun a o ha => ?_, fun a ha => ?_, hg.gs, hg.gt, hg.nf⟩ (.cons (.lst hHq ha) .nil) hr ?_ ?_
  · have z : a ≠ q := fun z => by rw [z, hb] at ha; cases ha
    exact hg.bs a o (show upd B.h q (.lst vs) a = some o by rw [upd_ne z]; exact ha)
  · have z : a ≠ q := fun z => by rw [z] at ha; exact ha hb
    have := hg.g0 a (fun z2 => ha (by have z3 : upd B.h q (.lst vs) a = none := z2; rw [upd_ne z] at z3; exact z3))
    rw [this]
    exact if_neg z
  · rw [List.append_nil, List.cons_append]
    refine List.nodup_cons.mpr ⟨fun m => ?_, nd⟩
    have := (hq q m).1
    rw [hBq] at this; cases this
  · rw [List.append_nil, List.cons_append]
    intro p m
    rcases List.mem_cons.mp m with z | m
    · subst z; exact ⟨hb, hGq⟩
    · have z : p ≠ q := fun z => by rw [z] at m; have := (hq q m).1; rw [hBq] at this; cases this
      have h6 := hq p m
      refine ⟨?_, h6.2⟩
      have h7 : upd B.h q (.lst vs) p = none := h6.1
      rw [upd_ne z] at h7; exact h7
end
/-- the mirror of both statements and of what stands behind them -/
def mBins (j i k : Nat) (mi mp mv : Env → Res D) (mr : Env → Res Ctl) : Env → Res Ctl := fun env => mi env >>= fun y => atL env j (k + 2) >>= fun ds => match y with
  | .int n => (match ixN ds.length n with
    | some jj => (match ds[jj]? with
      | some (.lst es) => if i < env.length ∧ i ≠ j then
          mp ((env.set j none).set i (some (k + 1, .lst es))) >>= fun z => mv ((env.set j none).set i (some (k + 1, .lst es))) >>= fun d => (match z with
          | .int pz => if 0 ≤ pz ∧ pz < 2 ^ 62 ∧ es.length < sizeLine ∧ d.imm = true then mr ((env.set i none).set j (some (k + 2, .lst (ds.set jj (.lst (es.take pz.toNat ++ [d] ++ es.drop pz.toNat)))))) else .bad
          | _ => .bad) else .bad
      | _ => .bad)
    | none => .bad)
  | _ => .bad
section
variable {X : Cx} {e ep o ix o2 : Expr} {mi mp mv : Env → Res D} {k kr : Nat} {pos p pos' pos2 spos apos cpos spos2 : Pos} {mr : Env → Res Ctl} {rest : List Stmt} {x : Str}
theorem ss_bins {j i : Nat} (hN : X.N.Nodup) (hi0 : X.N[i]? = some x) (hxl : Loc X.env.scope x) (hx : PE X o (tVar j)) (hx2 : PE X o2 (tVar i)) (hi : SB X ix mi) (hix : PlainIx ix) (hp : SB X ep mp) (hv : SB X e mv) (hr : SS X kr rest mr)
    (hs : swapsWith (.Subscript o ix pos2) (some (.Name x pos')) spos.line X.env = pure false := by rfl) (hf : X.fn x = true ∨ X.env.scope.names.lookup x = some .local := by first | exact .inl rfl | exact .inr rfl | assumption)
    (hbase : attributeBase o2 "insert" X.env (eval o2 X.env) = eval o2 X.env := by rfl)
    (hfew : ((backTo cpos (starEach [ep, e] X.env)).all (fun x => !x.1) && (backToKw cpos (keywordEach [] X.env)).all (fun x => x.1.isSome)
      && decide ([ep, e].length + ([] : List Keyword).length + (if ([] : List Keyword).isEmpty then 0 else 1) < 30)) = true := by rfl)
    (hline : (apos.endLine == cpos.line) = true := by rfl) (hst : starEach [ep, e] X.env = (false, eval ep X.env) :: starEach [e] X.env := by rfl) (hst2 : starEach [e] X.env = (false, eval e X.env) :: starEach [] X.env := by rfl) (hplain : (backTo cpos (starEach [e] X.env)).any (·.1) = false := by rfl)
    (hsw : swapsWith (.Call (.Attribute o2 "insert" apos) [ep, e] [] cpos) none spos2.line X.env = pure false := by rfl) :
    SS X kr (.Assign [.Name x pos'] (.Subscript o ix pos2) spos :: .Expr (.Call (.Attribute o2 "insert" apos) [ep, e] [] cpos) spos2 :: rest) (mBins j i k mi mp mv mr) := fun B H env σ tm D r ok hm pp => by
  obtain ⟨y, hy, h2⟩ := bind_ok hm
  obtain ⟨ds, hds, h3⟩ := bind_ok h2
  have he1 := atL_ok hds
  split at h3
  · rename_i n
    split at h3
    · rename_i jj hjj
      split at h3
      · rename_i es hes
        split at h3
        · rename_i hil
          obtain ⟨hil, hij⟩ := hil
          obtain ⟨z, hz, h4⟩ := bind_ok h3
          obtain ⟨d, hd, h5⟩ := bind_ok h4
          split at h5
          · rename_i pz
            split at h5
            · rename_i hh
              obtain ⟨hp0, hp1, hel, hdi⟩ := hh
              refine wB_of (pss_cons (ps_set hN hi0 hxl (pe_ix ix_seq hx pe_sem hix) hs hf) (pss_cons (ps_expr (pe_bm F.plainAttrs_list F.slot_list_insert F.type_list_insert mt_insert hx2 (pa_cons pe_sem (pa_cons pe_sem pa_nil hst2) hst) hbase hfew hline hst hplain) hsw) pss_sem)) ?_
              obtain ⟨v, hv', rv⟩ := ok.slot he1
              refine ⟨v, hv', hi B H env σ _ _ _ ok hy fun u H2 x2 ok2 r2 => ?_⟩
              cases r2
              obtain ⟨q, hq, ok3⟩ := ok2.slotMu he1 rfl
              rw [hv'] at hq
              cases hq
              obtain ⟨vs, hL, hvl, hBq, ok4⟩ := ok3.lend
              have hjl := ixN_lt hjj
              have hjv : jj < vs.length := by omega
              refine .inl ⟨q, vs, n, vs[jj], rfl, rfl, .inl (.inl hL), ?_, ?_⟩
              · unfold atI
                rw [hvl, hjj]
                exact List.getElem?_eq_getElem hjv
              obtain ⟨l, l1, l2⟩ := lev_one (k := k + 1) hvl (List.getElem?_eq_getElem hjv) hes
              have ok5 : EnvOk (B.lent q (.lst vs)) H2 (env.set j none) σ ((vs[jj], k + 1, .lst es) :: (l ++ tm)) := ok4.perm (l1.append_right _)
              obtain ⟨a, ha⟩ := ok5.isRef rfl
              rw [ha] at ok5 ⊢
              have ok6 := ok5.store (i := i) (by simpa using hil)
              have hsi : (σ.set i (some (.ref a)))[i]? = some (some (.ref a)) := by
                have := ok2.len
                exact List.getElem?_set_self (by omega)
              have hsj : (σ.set i (some (.ref a)))[j]? = some (some (.ref q)) := by
                rw [List.getElem?_set_ne hij]; exact hv'
              have hei : ((env.set j none).set i (some (k + 1, Mir.D.lst es)))[i]? = some (some (k + 1, Mir.D.lst es)) := List.getElem?_set_self (by simpa using hil)
              obtain ⟨w0, hw0, rw0⟩ := ok6.slot hei
              rw [hsi] at hw0
              cases hw0
              refine ⟨.ref a, hsi, ?_⟩
              cases rw0 with
              | @lst _ ws0 _ hq0 ra0 =>
                refine ⟨.inl ⟨rfl, _, .inl (view_rd hq0)⟩, hp _ H2 _ _ (l ++ tm) _ _ ok6 hz fun u3 H3 x3 ok7 r7 => hv _ H3 _ _ (l ++ tm) _ _ ok7 hd fun w H4 x4 ok8 r8 => ?_⟩
                cases r7
                obtain ⟨a2, ha2, ok9⟩ := ok8.slotMu hei rfl
                rw [hsi] at ha2
                cases ha2
                obtain ⟨ws, hA, hwl, ok10⟩ := ok9.takeLst
                refine ⟨a, ws, pz, w, rfl, rfl, hA, by omega, hp0, by omega, ?_⟩
                have rw2 : Rp (view (del H4 a)) w d := r8.immTo (fun b xs im hb => by
                  unfold view at hb ⊢
                  have b1 : b ≠ a := fun z => by rw [z, hA] at hb; cases hb; cases im
                  rw [del_ne b1]; exact hb) hdi
                have ok11 := ok10.imm (k := k) rw2 hdi
                have pm : (lev k (ws.take pz.toNat ++ [w] ++ ws.drop pz.toNat) (es.take pz.toNat ++ [d] ++ es.drop pz.toNat)).Perm ((w, k, d) :: lev k ws es) := by
                  have ht : (ws.take pz.toNat).length = (es.take pz.toNat).length := by simp [hwl]
                  rw [lev_append _ _ (by simp [hwl]), lev_append _ _ ht]
                  show (lev k (ws.take pz.toNat) (es.take pz.toNat) ++ [(w, k, d)] ++ lev k (ws.drop pz.toNat) (es.drop pz.toNat)).Perm _
                  have e0 : lev k ws es = lev k (ws.take pz.toNat) (es.take pz.toNat) ++ lev k (ws.drop pz.toNat) (es.drop pz.toNat) := by
                    rw [← lev_append _ _ ht, List.take_append_drop, List.take_append_drop]
                  rw [e0, List.append_assoc]
                  exact List.perm_middle
                have ok12 := (ok11.perm (pm.symm.append_right _)).newLst (p := a) (by simp [hwl]) del_self
                rw [upd_del] at ok12
                have ok13 := ok12.perm ((l2 (.ref a) (.lst (es.take pz.toNat ++ [d] ++ es.drop pz.toNat))).symm.append_right tm)
                have evs : vs.set jj (.ref a) = vs := by rw [← ha]; exact List.set_getElem_self hjv
                rw [evs] at ok13
                obtain ⟨_, ok14⟩ := ok13.unlend hBq (by simp [hvl])
                have e3 : ((env.set j none).set i (some (k + 1, Mir.D.lst es))).set i none = (env.set i none).set j none := by
                  rw [List.set_set, List.set_comm _ _ hij]
                rw [e3] at ok14
                have hj3 : (env.set i none)[j]? = some (some (k + 2, .lst ds)) := by rw [List.getElem?_set_ne hij]; exact he1
                exact hr B _ _ _ tm D r (ok14.putBack hj3 hsj) h5 pp
            · cases h5
          · cases h5
        · cases h3
      · cases h3
    · cases h3
  · cases h3
end
end Mir

namespace Mir
open PySem PySem.Spec L2
/-! ### sorted, of data that are alike -/
def dLe (a b : PyData) : Bool := !PySem.W.dataLt b a
def isTup1 : PyData → Bool
  | .tuple (_ :: _) => true
  | _ => false
def isOther : PyData → Bool
  | .none => false
  | .tuple _ => false
  | _ => true
def sortB (xs : List PyData) : Bool := xs.all isTup1 || xs.all isOther
theorem sortB_iff {xs : List PyData} (h : sortB xs = true) : PySem.W.Sortable xs := by
  unfold sortB at h
  rw [Bool.or_eq_true, List.all_eq_true, List.all_eq_true] at h
  rcases h with h | h
  · refine .inl fun d hd => ?_
    have := h d hd
    cases d with
    | tuple ys =>
      cases ys with
      | nil => cases this
      | cons y ys => exact ⟨y, ys, rfl⟩
    | _ => cases this
  · refine .inr fun d hd => ?_
    have := h d hd
    cases d with
    | none => cases this
    | tuple ys => cases this
    | _ => exact ⟨(fun z => nomatch z), (fun _ z => nomatch z)⟩
def sortable (ds : List D) : Bool := PyData.canLayAll0 (pyAll ds) && alikeB (pyAll ds) && sortB (pyAll ds) && decide (PyData.depthAll (pyAll ds) ≤ 60)
def srt (ds : List D) : List D := ds.mergeSort fun a b => dLe a.py b.py
abbrev VD := V × D
def srtP (l : List VD) : List VD := l.mergeSort fun a b => dLe a.2.py b.2.py
theorem srtP_snd (l : List VD) : (srtP l).map (·.2) = srt (l.map (·.2)) := List.map_mergeSort (f := fun p : VD => p.2) (r := fun a b : VD => dLe a.2.py b.2.py) (s := fun a b : D => dLe a.py b.py) (l := l) fun a _ b _ => rfl
theorem srtP_perm (l : List VD) : (srtP l).Perm l := List.mergeSort_perm _ _
theorem srt_perm (l : List D) : (srt l).Perm l := List.mergeSort_perm _ _
def rSortDat (K : PySem.W.Frag) : List V → Hp → VK → Prop := fun xs H Q => ∃ (a : Addr) (l : List VD), xs = [.ref a] ∧ SqL K H a (l.map (·.1)) ∧ DpAll K H (l.map (·.1)) (pyAll (l.map (·.2))) ∧ alikeB (pyAll (l.map (·.2))) = true ∧ sortB (pyAll (l.map (·.2))) = true ∧ PyData.depthAll (pyAll (l.map (·.2))) ≤ 60 ∧
  ∀ p, H p = none → Q (.ref p) (upd H p (.lst ((srtP l).map (·.1))))
theorem each_of {l : List VD} : ∀ {us : List Value}, Vals (l.map (·.1)) us → PySem.W.EachIs (fun (v : Value) (p : VD) => RelV p.1 v) us l := by
  induction l with
  | nil => intro us r; cases r; exact .nil
  | cons p l ih => intro us r; cases r with | cons h r => exact .cons h (ih r)
theorem vals_of_each {l : List VD} : ∀ {us : List Value}, PySem.W.EachIs (fun (v : Value) (p : VD) => RelV p.1 v) us l → Vals (l.map (·.1)) us := by
  induction l with
  | nil => intro us r; cases r; exact .nil
  | cons p l ih => intro us r; cases r with | cons h r => exact .cons h (ih r)
theorem depthAll_mem {xs : List PyData} {d : PyData} (h : d ∈ xs) : d.depth ≤ PyData.depthAll xs := by
  induction xs with
  | nil => cases h
  | cons x xs ih =>
    simp only [PyData.depthAll]
    rcases List.mem_cons.mp h with rfl | h
    · exact Nat.le_max_left _ _
    · exact Nat.le_trans (ih h) (Nat.le_max_right _ _)
theorem cr_sortedDat {X : Cx} (hu : X.A.units + 65 < cLine) : CallR X (.builtin "sorted") (rSortDat X.K) := by
  intro pins s σ H xs us Q I r h
  obtain ⟨a, l, rfl, hs, hd, hal, hso, hdep, q⟩ := h
  obtain ⟨its, rv, hl, hz⟩ := I.list hs
  rw [Vals.ref1 r]
  obtain ⟨as, hr⟩ := Dp.readsAll I _ _ its hd rv
  have ep : pyAll (l.map (·.2)) = l.map fun p => p.2.py := by rw [pyAll_map, List.map_map]; rfl
  rw [ep] at hr hal hso hdep
  refine PySem.W.sorted_data (R := fun (v : Value) (p : VD) => RelV p.1 v) (bs := l) (enc := fun p => p.2.py) hl.isList (each_of rv) (PySem.W.readsAll_each (fun p : VD => p.2.py) hr) (fun d h1 d' h2 => (alikeB_iff hal).1 d h1 d' h2) (sortB_iff hso) (by rw [← List.length_map (f := fun p : VD => p.1)]; exact hz) (fun b hb => ?_) fun out ho eo => ?_
  · have := depthAll_mem (List.mem_map_of_mem (f := fun p : VD => p.2.py) hb)
    omega
  · rw [show PySem.W.dataLe false (fun p : VD => p.2.py) = (fun a b => dLe a.2.py b.2.py) from PySem.W.dataLe_eq false _] at eo
    obtain ⟨e, he'⟩ := PyProof.Rows.sortedAll_at s.heap its (List.toArray out)
    have hlen : ((srtP l).map (·.1)).length ≤ sizeLine := by
      rw [List.length_map, (srtP_perm l).length_eq]
      rw [List.length_map] at hz
      exact hz
    exact ⟨.ref _, upd H (s.heap.objs.size + 1) (.lst ((srtP l).map (·.1))), I.laid (t' := s.toks) (fun _ _ => PyProof.Rows.sortedAll_old) (Nat.le_succ _) ⟨hlen, out, e, vals_of_each eo, he'⟩, rfl, q _ (I.hok.fresh (Nat.le_succ _))⟩
theorem zip_fst {vs : List V} {ds : List D} (h : vs.length = ds.length) : (vs.zip ds).map (·.1) = vs := List.map_fst_zip (by omega)
theorem zip_snd {vs : List V} {ds : List D} (h : vs.length = ds.length) : (vs.zip ds).map (·.2) = ds := List.map_snd_zip (by omega)
theorem lev_map {k : Nat} : ∀ l : List VD, lev k (l.map (·.1)) (l.map (·.2)) = l.map fun p => (p.1, k, p.2)
  | [] => rfl
  | p :: l => congrArg (List.cons _) (lev_map l)
def gSort (d : D) : Res D := match d with
  | .lst ds => if sortable ds = true then .ok (.lst (srt ds)) else .bad
  | _ => .bad
section
variable {X : Cx} {e : Expr} {m : Env → Res D} {k : Nat} {cs : List Nat} {pos p : Pos}
theorem EnvOk.open1 {B : Bs} {H : Hp} {env : Env} {σ : St} {tm : List Hold} {ds : List D} {q : Addr} (h : EnvOk B H env σ ((.ref q, k + 1, .lst ds) :: tm)) : ∃ vs, H q = some (.lst vs) ∧ vs.length = ds.length ∧ EnvOk B H env σ (lev k vs ds ++ tm) := by
  obtain ⟨vs, h1, h2, h3, h4⟩ := h.lend
  refine ⟨vs, h1, h2, ?_⟩
  have h5 := h4.len
  have h6 := h4.has
  obtain ⟨G, f, g, hg, hf, hr, nd, hq⟩ := h4.apart
  have hb : ∀ a o, B a = some o → H a = some o := fun a o ha => by
    have z : a ≠ q := fun z => by rw [z, h3] at ha; cases ha
    exact hg.bs a o (show upd B.h q (.lst vs) a = some o by rw [upd_ne z]; exact ha)
  refine EnvOk.join h5 h6 ⟨hb, fun a ha => ?_, hg.gs, hg.gt, hg.nf⟩ hf hr nd fun p hm => ⟨?_, (hq p hm).2⟩
  · have z : a ≠ q := fun z => by rw [z] at ha; exact ha h3
    have := hg.g0 a (fun z2 => ha (by have z3 : upd B.h q (.lst vs) a = none := z2; rw [upd_ne z] at z3; exact z3))
    rw [this]
    exact if_neg z
  · have z : p ≠ q := fun z => by
      have := (hq p hm).1
      rw [z] at this
      have e : (B.lent q (.lst vs)) q = some (.lst vs) := upd_same
      rw [e] at this; cases this
    have h7 : upd B.h q (.lst vs) p = none := (hq p hm).1
    rw [upd_ne z] at h7; exact h7
/-- sorted(xs), xs a list of things without lists, dicts -/
theorem se_sortB (hu : X.A.units + 65 < cLine) (hg : Gl X "sorted") (hm0 : X.mg "sorted" = none) (h : SB X e m) (he : starEach [e] X.env = (false, eval e X.env) :: starEach [] X.env := by rfl) (hpl : (backTo pos (starEach [] X.env)).any (·.1) = false := by rfl) : SE X (k + 1) [] (.Call (.Name "sorted" p) [e] [] pos) (fun env => m env >>= itemsL >>= immL >>= fun ds => gSort (.lst ds)) := fun B H env σ tm d Q ok hm q => by
  obtain ⟨ds, h1, h2⟩ := bind_ok hm
  obtain ⟨ds', h1, h3⟩ := bind_ok h1
  obtain ⟨x, hx, h4⟩ := bind_ok h1
  unfold immL at h3
  split at h3
  · rename_i him
    cases h3
    unfold itemsL at h4
    split at h4
    · cases h4
      unfold gSort at h2
      dsimp only at h2
      split at h2
      · rename_i hs
        cases h2
        unfold sortable at hs
        simp only [Bool.and_eq_true, decide_eq_true_eq] at hs
        obtain ⟨⟨⟨s1, s2⟩, s3⟩, s4⟩ := hs
        refine wE_of (pe_callB (cr_sortedDat hu) hg hm0 (by decide +kernel) (pa_cons pe_sem pa_nil he) (by decide) (by decide) he hpl) (h B H env σ tm _ _ ok hx fun v H1 x1 ok1 r => ?_)
        cases r with
        | @lst a vs _ hv ra =>
          have hl := ra.length
          have e2 := zip_snd hl
          refine ⟨a, vs.zip ds, rfl, by rw [zip_fst hl]; exact .inl (view_rd hv), by rw [zip_fst hl, e2]; exact ra.dp s1, by rw [e2]; exact s2, by rw [e2]; exact s3, by rw [e2]; exact s4, fun p hp => ?_⟩
          have ok2 := ok1.levs (k := k) ra him
          have ok3 : EnvOk B H1 env σ (lev k ((srtP (vs.zip ds)).map (·.1)) ((srtP (vs.zip ds)).map (·.2)) ++ tm) := by
            refine ok2.perm (List.Perm.append_right _ ?_)
            have := lev_map (k := k) (vs.zip ds)
            rw [zip_fst hl, e2] at this
            rw [this, lev_map]
            exact ((srtP_perm _).map _).symm
          have ok4 := ok3.newLst (by simp) hp
          rw [srtP_snd, e2] at ok4
          exact q _ _ (x1.trans (Ext.upd hp)) ok4
      · cases h2
    · cases h4
  · cases h3
/-- sorted(xs), xs new: its items go along -/
theorem se_sortE (hu : X.A.units + 65 < cLine) (hg : Gl X "sorted") (hm0 : X.mg "sorted" = none) (h : SE X (k + 1) cs e m) (he : starEach [e] X.env = (false, eval e X.env) :: starEach [] X.env := by rfl) (hpl : (backTo pos (starEach [] X.env)).any (·.1) = false := by rfl) : SE X (k + 1) cs (.Call (.Name "sorted" p) [e] [] pos) (fun env => m env >>= gSort) := fun B H env σ tm d Q ok hm q => by
  obtain ⟨x, hx, h2⟩ := bind_ok hm
  unfold gSort at h2
  split at h2
  · rename_i ds
    split at h2
    · rename_i hs
      cases h2
      unfold sortable at hs
      simp only [Bool.and_eq_true, decide_eq_true_eq] at hs
      obtain ⟨⟨⟨s1, s2⟩, s3⟩, s4⟩ := hs
      refine wE_of (pe_callB (cr_sortedDat hu) hg hm0 (by decide +kernel) (pa_cons pe_sem pa_nil he) (by decide) (by decide) he hpl) (h B H env σ tm _ _ ok hx fun v H1 x1 ok1 => ?_)
      obtain ⟨a, rfl⟩ := ok1.isRef rfl
      have r := ok1.rp
      obtain ⟨vs, hL, hl, ok2⟩ := ok1.open1
      cases r with
      | @lst _ ws _ hv ra =>
        have ew : ws = vs := by
          have : view H1 a = some (.lst vs) := by unfold view; rw [hL]; rfl
          rw [this] at hv; cases hv; rfl
        subst ew
        have e2 := zip_snd hl
        refine ⟨a, ws.zip ds, rfl, by rw [zip_fst hl]; exact .inl (.inl hL), by rw [zip_fst hl, e2]; exact ra.dp s1, by rw [e2]; exact s2, by rw [e2]; exact s3, by rw [e2]; exact s4, fun p hp => ?_⟩
        have ok3 : EnvOk B H1 (clear env cs) σ (lev k ((srtP (ws.zip ds)).map (·.1)) ((srtP (ws.zip ds)).map (·.2)) ++ tm) := by
          refine ok2.perm (List.Perm.append_right _ ?_)
          have := lev_map (k := k) (ws.zip ds)
          rw [zip_fst hl, e2] at this
          rw [this, lev_map]
          exact ((srtP_perm _).map _).symm
        have ok4 := ok3.newLst (by simp) hp
        rw [srtP_snd, e2] at ok4
        exact q _ _ (x1.trans (Ext.upd hp)) ok4
    · cases h2
  · cases h2
end
/-! what it is, for data with a Lean type -/
section
variable {α : Type} [DecidableEq α] [Dat α]
def sorted (xs : List α) : List α := xs.mergeSort fun a b => !Dat.lt b a
theorem srt_enc (xs : List α) : srt (xs.map Dat.enc) = (sorted xs).map Dat.enc := by
  unfold srt sorted
  refine (List.map_mergeSort (f := Dat.enc) (l := xs) fun a _ b _ => ?_).symm
  unfold dLe
  rw [Dat.dlt]
theorem sorted_perm (xs : List α) : (sorted xs).Perm xs := List.mergeSort_perm _ _
theorem sorted_pw (xs : List α) : (sorted xs).Pairwise fun a b => Dat.lt b a = false := by
  have := List.pairwise_mergeSort (le := fun a b : α => !Dat.lt b a) (fun a b c h1 h2 => ?_) (fun a b => ?_) xs
  · exact this.imp fun h => by simpa using h
  · simp only [Bool.not_eq_true'] at *
    cases h : Dat.lt c a with
    | false => rfl
    | true =>
      cases h3 : Dat.lt b c with
      | true => have := Dat.tr _ _ _ h3 h; rw [this] at h1; cases h1
      | false =>
        have := Dat.tot c b h2 h3
        subst this
        rw [h] at h1; cases h1
  · cases h : Dat.lt b a with
    | false => simp
    | true => simp [Dat.asy _ _ h]
theorem sorted_uniq {xs ys : List α} (h : xs.Perm ys) (h1 : xs.Pairwise fun a b => Dat.lt b a = false) (h2 : ys.Pairwise fun a b => Dat.lt b a = false) : xs = ys := by
  induction xs generalizing ys with
  | nil => exact h.nil_eq
  | cons x xs ih =>
    cases ys with
    | nil => exact h.symm.nil_eq.symm
    | cons y ys =>
      have p1 := List.pairwise_cons.mp h1
      have p2 := List.pairwise_cons.mp h2
      have e : x = y := by
        have m1 := h.mem_iff.mp (List.mem_cons_self (a := x) (l := xs))
        have m2 := h.mem_iff.mpr (List.mem_cons_self (a := y) (l := ys))
        rcases List.mem_cons.mp m1 with e | m1
        · exact e
        · rcases List.mem_cons.mp m2 with e | m2
          · exact e.symm
          · exact Dat.tot x y (p2.1 x m1) (p1.1 y m2)
      subst e
      rw [ih h.cons_inv p1.2 p2.2]
/-- a rising list is the sorted one -/
theorem sorted_eq {xs ys : List α} (h : xs.Perm ys) (h1 : ys.Pairwise fun a b => Dat.lt b a = false) : sorted xs = ys := sorted_uniq ((sorted_perm xs).trans h) (sorted_pw xs) h1
theorem sorted_congr {xs ys : List α} (h : xs.Perm ys) : sorted xs = sorted ys := sorted_eq (h.trans (sorted_perm ys).symm) (sorted_pw ys)
theorem gSort_enc (xs : List α) (h : Dat.dep α ≤ 60) (hs : sortB (pyAll (xs.map (Dat.enc (α := α)))) = true) : gSort (.lst (xs.map Dat.enc)) = .ok (.lst ((sorted xs).map Dat.enc)) := by
  unfold gSort sortable
  dsimp only
  rw [layAll_enc, alikeB_enc, hs, if_pos (by simpa using Nat.le_trans (depthAll_enc xs) h), srt_enc]
end
theorem sortB_int (xs : List Int) : sortB (pyAll (xs.map D.int)) = true := by
  unfold sortB
  rw [pyAll_map, List.map_map, Bool.or_eq_true]
  right
  rw [List.all_eq_true]
  intro d hd
  obtain ⟨x, _, rfl⟩ := List.mem_map.mp hd
  rfl
theorem sortB_t3 (xs : List T3) : sortB (pyAll (xs.map t3)) = true := by
  unfold sortB
  rw [pyAll_map, List.map_map, Bool.or_eq_true]
  left
  rw [List.all_eq_true]
  intro d hd
  obtain ⟨x, _, rfl⟩ := List.mem_map.mp hd
  rfl
theorem sortB_t2 (xs : List (Int × Int)) : sortB (pyAll (xs.map t2)) = true := by
  unfold sortB
  rw [pyAll_map, List.map_map, Bool.or_eq_true]
  left
  rw [List.all_eq_true]
  intro d hd
  obtain ⟨x, _, rfl⟩ := List.mem_map.mp hd
  rfl
theorem sortB_lst (xs : List (List D)) : sortB (pyAll (xs.map D.lst)) = true := by
  unfold sortB
  rw [pyAll_map, List.map_map, Bool.or_eq_true]
  right
  rw [List.all_eq_true]
  intro d hd
  obtain ⟨x, _, rfl⟩ := List.mem_map.mp hd
  rfl
theorem gSort_int (xs : List Int) : gSort (.lst (xs.map D.int)) = .ok (.lst ((sorted xs).map D.int)) := gSort_enc xs (by decide) (sortB_int xs)
theorem gSort_t3 (xs : List T3) : gSort (.lst (xs.map t3)) = .ok (.lst ((sorted xs).map t3)) := gSort_enc xs (by decide) (sortB_t3 xs)
theorem gSort_t2 (xs : List (Int × Int)) : gSort (.lst (xs.map t2)) = .ok (.lst ((sorted xs).map t2)) := gSort_enc xs (by decide) (sortB_t2 xs)
end Mir

namespace Mir
open PySem PySem.Spec L2
/-! ### sorted(d), list(d): a dict's keys, be they tuples or not -/
section
variable {prog : Program} {w : World} {A : Around} {E : Value → Shared → Prop} {s : Shared}
theorem kdl_raw {d : Addr} {es : Array DictEntry} {ep : Nat} (lo : (d == sysModules) = false) : PySem.W.KdlSrc prog w "dict" d d es.size (fun i v => ∃ hi : i < es.size, v = es[i].key) (fun h => h.DictRaw d es ep) where
  type := fun s hm => Heap.DictRaw.typeIs (s := s) hm
  there := fun _ hm => let ⟨_, ho, _⟩ := hm; ⟨Heap.lt_size ho, Heap.lt_size ho⟩
  keep := fun _ _ hm hk => hm.at fun o e => hk d (.inl rfl) o e
  notList := by decide
  notTuple := by decide
  hint := fun _ _ s _ hm hq => PySem.W.kdl_hint_dict (Heap.DictRaw.typeIs (s := s) hm) hq
  iter := fun _ s hh hm => ⟨_, _, (fun _ _ hq => wpAny_pyIter_dict_raw lo hm hq), Walks.rawKeys hh _ d (let ⟨_, ho, _⟩ := hm; Nat.ne_of_lt (Heap.lt_size ho)) es ep, ⟨⟨_, Heap.get?_push_size _ rfl, rfl, rfl⟩, hm.at fun o e => Heap.get?_push_of_some _ e⟩⟩
end
/-- what a dict holds as keys -/
def keyDs : D → Option (List D)
  | .dk ks _ => some (ks.map kD)
  | .dt ks _ => some (ks.map fun k => .tup (k.map kD))
  | _ => none
theorem rp_kD {G : Hp} (k : Key) : Rp G (kV k) (kD k) := by
  cases k with
  | inl i => exact .int i
  | inr z => exact .str z
theorem rp_kDs {G : Hp} : ∀ ks : List Key, RpAll G (ks.map kV) (ks.map kD)
  | [] => .nil
  | k :: ks => .cons (rp_kD k) (rp_kDs ks)
/-- the keys as they stand in the heap -/
structure KeysAt (X : Cx) (H : Hp) (s : Shared) (a : Addr) (l : List VD) : Prop where
  ex : ∃ es ep, s.heap.DictRaw a es ep ∧ es.size = l.length ∧ Vals (l.map (·.1)) (es.toList.map (·.key))
  lo : (a == sysModules) = false
  few : l.length ≤ sizeLine
  rp : RpAll (view H) (l.map (·.1)) (l.map (·.2))
theorem keysAt_of {X : Cx} {pins : List (Addr × Obj)} {σ : St} {H : Hp} {s : Shared} (I : Inv X pins σ H s) {v : V} {d : D} {ks : List D} (r : Rp (view H) v d) (hk : keyDs d = some ks) : ∃ a l, v = .ref a ∧ l.map (·.2) = ks ∧ KeysAt X H s a l := by
  cases r with
  | @dk a kvs ks0 ds hv ek ra =>
    cases hk
    subst ek
    obtain ⟨z, lo, vs, rel, dd⟩ := dk_rd I.hok (view_rd hv)
    obtain ⟨es, ep, hm, hsz, hat⟩ := dd.raw
    refine ⟨a, kvs.map fun kv => (kV kv.1, kD kv.1), rfl, by simp, ⟨es, ep, hm, by rw [hsz, List.length_map]; exact (Paired.length rel).symm, ?_⟩, lo, by rw [List.length_map]; exact z, ?_⟩
    · have e1 : (kvs.map fun kv => (kV kv.1, kD kv.1)).map (·.1) = vs.map fun p => kV p.1 := by
        have e := congrArg (List.map kV) rel.keys
        rw [List.map_map, List.map_map] at e
        rw [List.map_map]
        exact e
      rw [e1]
      refine keys_at (by simp [hsz]) fun j u hu => ?_
      rw [List.getElem?_map] at hu
      cases e : es.toList[j]? with
      | none => rw [e] at hu; cases hu
      | some en =>
        rw [e] at hu
        cases hu
        have hj : j < es.size := by simpa using (List.getElem?_eq_some_iff.mp e).1
        have hjv : j < vs.length := by omega
        have h3 := hat j hj vs[j].1 vs[j].2 (List.getElem?_eq_getElem hjv)
        have e4 : es[j] = en := by
          have := (List.getElem?_eq_some_iff.mp e).2
          simpa using this
        rw [e4] at h3
        exact ⟨vs[j].1, vs[j].2, List.getElem?_eq_getElem hjv, h3.1⟩
    · have : ∀ l : List (Key × V), RpAll (view H) ((l.map fun kv => (kV kv.1, kD kv.1)).map (·.1)) ((l.map fun kv => (kV kv.1, kD kv.1)).map (·.2)) := fun l => by
        induction l with
        | nil => exact .nil
        | cons p l ih => exact .cons (rp_kD p.1) ih
      exact this kvs
  | @dt a kvs ks0 ds hv ek ra =>
    cases hk
    subst ek
    obtain ⟨z, lo, xs, rel, dd⟩ := dt_rd I.hok (view_rd hv)
    obtain ⟨es, ep, hm, hsz, hat⟩ := dd.raw
    have hl : kvs.length = xs.length := Paired.length rel
    have key : ∀ {l : List (List Key × V)} {m : List (List Key × Addr × Value)}, KT H l m → (m.map fun y => (V.ref y.2.1, D.tup (y.1.map kD))).map (·.2) = (l.map (·.1)).map (fun k => D.tup (k.map kD)) ∧ RpAll (view H) ((m.map fun y => (V.ref y.2.1, D.tup (y.1.map kD))).map (·.1)) ((m.map fun y => (V.ref y.2.1, D.tup (y.1.map kD))).map (·.2)) := by
      intro l m q
      induction q with
      | nil => exact ⟨rfl, .nil⟩
      | @cons p q ps qs hq t ih =>
        refine ⟨?_, .cons ?_ ih.2⟩
        · have e1 : p.1 = q.1 := hq.1
          simp only [List.map_cons, e1]
          rw [ih.1]
        · have e2 : H q.2.1 = some (.tup (p.1.map kV)) := hq.2.1
          refine .tup (vs := q.1.map kV) ?_ (rp_kDs _)
          have e1 : p.1 = q.1 := hq.1
          rw [← e1]
          unfold view
          rw [e2]; rfl
    obtain ⟨k1, k2⟩ := key rel
    refine ⟨a, xs.map fun y => (V.ref y.2.1, D.tup (y.1.map kD)), rfl, k1, ⟨es, ep, hm, by rw [hsz, List.length_map], ?_⟩, lo, by rw [List.length_map]; omega, k2⟩
    have e : es.toList.map (·.key) = xs.map fun y => Value.ref y.2.1 := by
      refine List.ext_getElem? fun j => ?_
      rw [List.getElem?_map, List.getElem?_map]
      by_cases hj : j < es.size
      · obtain ⟨y, h1, h2, _⟩ := hat j hj
        have e3 : es.toList[j]? = some es[j] := by simp [hj]
        rw [h1, e3]
        show some es[j].key = some (Value.ref y.2.1)
        rw [h2]
      · rw [List.getElem?_eq_none (by simpa using hj), List.getElem?_eq_none (by omega)]; rfl
    rw [e, List.map_map]
    have vv : ∀ m : List (List Key × Addr × Value), Vals (m.map ((·.1) ∘ fun y => (V.ref y.2.1, D.tup (y.1.map kD)))) (m.map fun y => Value.ref y.2.1) := fun m => by
      induction m with
      | nil => exact .nil
      | cons y m ih => exact .cons rfl ih
    exact vv xs
  | _ => cases hk
theorem itemsOf_keys {es : Array DictEntry} {acc : Array Value} (h : ItemsOf (fun i v => ∃ hi : i < es.size, v = es[i].key) acc es.size) : acc.toList = es.toList.map (·.key) := by
  refine List.ext_getElem? fun j => ?_
  rw [List.getElem?_map]
  by_cases hj : j < es.size
  · have h1 : j < acc.size := by rw [h.1]; exact hj
    obtain ⟨_, h2⟩ := h.2 j acc[j] (by simp [h1])
    have e1 : acc.toList[j]? = some acc[j] := by simp [h1]
    have e3 : es.toList[j]? = some es[j] := by simp [hj]
    rw [e1, e3, h2]; rfl
  · have h1 : ¬ j < acc.size := by rw [h.1]; exact hj
    rw [List.getElem?_eq_none (by simpa using h1), List.getElem?_eq_none (by simpa using hj)]; rfl
def rSortKeys (X : Cx) : List V → Hp → VK → Prop := fun xs H Q => ∃ (v : V) (d : D) (ks : List D), xs = [v] ∧ Rp (view H) v d ∧ keyDs d = some ks ∧ sortable ks = true ∧
  ∀ (l : List VD) p, l.map (·.2) = ks → RpAll (view H) (l.map (·.1)) ks → H p = none → Q (.ref p) (upd H p (.lst ((srtP l).map (·.1))))
theorem cr_sortedKeys {X : Cx} (hc : X.calm = true) (hu : X.A.units + 65 < cLine) : CallR X (.builtin "sorted") (rSortKeys X) := by
  intro pins s σ H xs us Q I r h
  obtain ⟨v, d, ks, rfl, rv, hk, hs, q⟩ := h
  obtain ⟨a, l, rfl, el, K⟩ := keysAt_of I rv hk
  obtain ⟨u, rfl, ru⟩ := vals1 r
  cases ru
  obtain ⟨es, ep, hm, hsz, hv⟩ := K.ex
  unfold sortable at hs
  simp only [Bool.and_eq_true, decide_eq_true_eq] at hs
  obtain ⟨⟨⟨s1, s2⟩, s3⟩, s4⟩ := hs
  refine Calls.call_function_entry PyProof.Rows.kind_sorted PyProof.Rows.plain_sorted PyProof.Rows.entry_sorted (PyProof.Rows.args_sorted1 _) ?_
  unfold Builtin.«sorted»
  refine wpAny_bind (m := checkCount "sorted" 1 1 _) (wpAny_pure ?_)
  refine wpAny_bind (PySem.W.kdu_collect (A := X.A.in1) (kdl_raw (ep := ep) K.lo) (I.ok.hd hc) hm (by rw [hsz]; exact K.few) fun h' tk acc hkp hacc => ?_)
  have I1 : Inv X pins σ H { s with heap := h', toks := tk } := I.kept hkp
  rw [itemsOf_keys hacc]
  have hal : (es.toList.map (·.key)).length = l.length := by simp [hsz]
  have hDp : DpAll X.K H (l.map (·.1)) (pyAll (l.map (·.2))) := K.rp.dp (by rw [el]; exact s1)
  obtain ⟨as, hr⟩ := Dp.readsAll I1 _ _ _ hDp hv
  have ep2 : pyAll (l.map (·.2)) = l.map fun p => p.2.py := by rw [pyAll_map, List.map_map]; rfl
  rw [ep2] at hr
  rw [← el, ep2] at s2 s3 s4
  generalize es.toList.map (·.key) = us at *
  refine wpAny_bind (wpAny_newList ?_ (by rw [hal]; exact K.few))
  have hoL : (h'.push (PyProof.Rows.seqObj "list" us.toArray 0)).get? h'.objs.size = some (PyProof.Rows.seqObj "list" us.toArray 0) := Heap.get?_push_size _ rfl
  show wpAny _ _ _ _ _ { s with heap := h'.push (PyProof.Rows.seqObj "list" us.toArray 0), toks := tk }
  have old : ∀ b o, h'.get? b = some o → (PySem.W.sortingHeap (h'.push (PyProof.Rows.seqObj "list" us.toArray 0)) h'.objs.size us).get? b = some o := fun b o e => PySem.W.sortingHeap_old (Nat.ne_of_lt (Heap.lt_size e)) (Heap.get?_push_of_some _ e)
  have er : PySem.W.EachIs (fun v (p : VD) => ∃ as, Reads (PySem.W.sortingHeap (h'.push (PyProof.Rows.seqObj "list" us.toArray 0)) h'.objs.size us) v p.2.py as) us l := (PySem.W.readsAll_each (fun p : VD => p.2.py) hr).mono fun _ _ ⟨as, r⟩ => ⟨as, PyProof.Rows.Reads.keeps (fun b o e => old b o e) r⟩
  have hall : PySem.W.AllAlike (l.map fun p => p.2.py) := fun d h1 d' h2 => (alikeB_iff s2).1 d h1 d' h2
  refine wpAny_bind (wpAny_holding (wpAny_call_entry PyProof.Rows.slot_list_sort ⟨_, hoL, rfl⟩ PyProof.Rows.entry_list_sort
    (PySem.W.list_sort_vals (s := { s with heap := h'.push (PyProof.Rows.seqObj "list" us.toArray 0), toks := tk }) (κ := PySem.W.dataKind (PySem.W.sortingHeap (h'.push (PyProof.Rows.seqObj "list" us.toArray 0)) h'.objs.size us) (l.map fun p => p.2.py)) hoL (PySem.W.SortsAt.data (s := { s with heap := PySem.W.sortingHeap (h'.push (PyProof.Rows.seqObj "list" us.toArray 0)) h'.objs.size us, toks := tk }) (PySem.W.each_map (R := fun v d => ∃ as, Reads (PySem.W.sortingHeap (h'.push (PyProof.Rows.seqObj "list" us.toArray 0)) h'.objs.size us) v d as) (fun p : VD => p.2.py) er) hall (sortB_iff s3) fun d hd => ?_) (by rw [hal]; exact K.few) ⟨_, rfl, ?_⟩)
    (PyProof.Rows.args_list_sort _)))
  · have := depthAll_mem hd
    have h1 : X.A.in1.in1.units = X.A.units + 2 := rfl
    omega
  have eo := PySem.W.sortVals_data false (each_of hv) er hall
  rw [show PySem.W.dataLe false (fun p : VD => p.2.py) = (fun a b => dLe a.2.py b.2.py) from PySem.W.dataLe_eq false _] at eo
  obtain ⟨e', he'⟩ := PyProof.Rows.sortedHeap_at (vs := us) (out := (PySem.W.sortVals (PySem.W.dataKind (PySem.W.sortingHeap (h'.push (PyProof.Rows.seqObj "list" us.toArray 0)) h'.objs.size us) (l.map fun p => p.2.py)) false us us).toArray) hoL
  have hlen : ((srtP l).map (·.1)).length ≤ sizeLine := by
    rw [List.length_map, (srtP_perm l).length_eq]; exact K.few
  refine wpAny_pure ⟨_, rfl, .ref h'.objs.size, upd H h'.objs.size (.lst ((srtP l).map (·.1))), I1.laid (t' := tk) (fun b u e => ?_) (Nat.le_refl _)
    (show ObjOk X.prog X.w _ _ _ (.lst ((srtP l).map (·.1))) from ⟨hlen, _, e', vals_of_each eo, he'⟩), rfl, q l _ el (by rw [← el]; exact K.rp) (I1.hok.fresh (Nat.le_refl _))⟩
  have hb : b < h'.objs.size := Heap.lt_size e
  rw [PyProof.Rows.sortedHeap_old (Nat.ne_of_lt hb) (by show b < (h'.push (PyProof.Rows.seqObj "list" us.toArray 0)).objs.size; rw [PyProof.Rows.size_push']; exact Nat.lt_succ_of_lt hb)]
  exact Heap.get?_push_of_some _ e
theorem keyDs_of {d : D} {ks : List D} (h : dKeys d = .ok ks) : keyDs d = some ks ∧ immAll ks = true := by
  cases d with
  | dk ks0 ds => cases h; exact ⟨rfl, kDs_imm _⟩
  | dt ks0 ds =>
    cases h
    refine ⟨rfl, immAll_iff.mpr fun d hd => ?_⟩
    obtain ⟨k, _, rfl⟩ := List.mem_map.mp hd
    exact kDs_imm k
  | _ => cases h
section
variable {X : Cx} {e : Expr} {m : Env → Res D} {k : Nat} {pos p : Pos}
theorem se_sortKeys (hc : X.calm = true) (hu : X.A.units + 65 < cLine) (hg : Gl X "sorted") (hm0 : X.mg "sorted" = none) (h : SB X e m) (he : starEach [e] X.env = (false, eval e X.env) :: starEach [] X.env := by rfl) (hpl : (backTo pos (starEach [] X.env)).any (·.1) = false := by rfl) : SE X (k + 1) [] (.Call (.Name "sorted" p) [e] [] pos) (fun env => m env >>= dKeys >>= fun ks => gSort (.lst ks)) := fun B H env σ tm d Q ok hm q => by
  obtain ⟨ks, h1, h2⟩ := bind_ok hm
  obtain ⟨x, hx, h3⟩ := bind_ok h1
  obtain ⟨h4, him⟩ := keyDs_of h3
  unfold gSort at h2
  dsimp only at h2
  split at h2
  · rename_i hs
    cases h2
    refine wE_of (pe_callB (cr_sortedKeys hc hu) hg hm0 (by decide +kernel) (pa_cons pe_sem pa_nil he) (by decide) (by decide) he hpl) (h B H env σ tm _ _ ok hx fun v H1 x1 ok1 r => ?_)
    refine ⟨v, x, ks, rfl, r, h4, hs, fun l p el rl hp => ?_⟩
    rw [← el] at rl him
    have ok2 := ok1.levs (k := k) rl him
    have ok3 : EnvOk B H1 env σ (lev k ((srtP l).map (·.1)) ((srtP l).map (·.2)) ++ tm) := by
      refine ok2.perm (List.Perm.append_right _ ?_)
      rw [lev_map, lev_map]
      exact ((srtP_perm _).map _).symm
    have ok4 := ok3.newLst (by simp) hp
    rw [srtP_snd, el] at ok4
    exact q _ _ (x1.trans (Ext.upd hp)) ok4
  · cases h2
end
end Mir

namespace Mir
open PySem PySem.Spec L2
@[simp] theorem e_tNil (k : Nat) (env : Mir.Env) : Mir.tNil k [] env = .ok env := rfl
@[simp] theorem e_tCons (t : Nat → D → Mir.Env → Res Mir.Env) (u : Nat → List D → Mir.Env → Res Mir.Env) (k : Nat) (d : D) (ds : List D) (env : Mir.Env) : Mir.tCons t u k (d :: ds) env = (t k d env >>= fun e => u k ds e) := rfl
@[simp] theorem e_tTupT (n : Nat) (u : Nat → List D → Mir.Env → Res Mir.Env) (k : Nat) (ds : List D) (env : Mir.Env) : tTupT n u k (.tup ds) env = if ds.length = n then u (k - 1) ds env else .bad := rfl
@[simp] theorem e_tTup2 (u : Nat → List D → Mir.Env → Res Mir.Env) (k : Nat) (x : Int × Int) (env : Mir.Env) : tTupT 2 u k (t2 x) env = u (k - 1) [.int x.1, .int x.2] env := rfl
@[simp] theorem e_tTup3 (u : Nat → List D → Mir.Env → Res Mir.Env) (k : Nat) (x : T3) (env : Mir.Env) : tTupT 3 u k (t3 x) env = u (k - 1) [.int x.a, .int x.b, .int x.c] env := rfl
/-! ### dicts with a Lean type: rows of keys and values -/
section
variable {κ β α : Type} [DecidableEq κ]
def lk (p : List (κ × β)) (k : κ) : Option β := (p.find? fun x => decide (x.1 = k)).map (·.2)
def pt (p : List (κ × β)) (k : κ) (v : β) : List (κ × β) := if k ∈ p.map (·.1) then p.map (fun x => if x.1 = k then (x.1, v) else x) else p ++ [(k, v)]
theorem lk_nil (k : κ) : lk ([] : List (κ × β)) k = none := rfl
theorem lk_cons (x : κ × β) (p : List (κ × β)) (k : κ) : lk (x :: p) k = if x.1 = k then some x.2 else lk p k := by
  unfold lk
  rw [List.find?_cons]
  by_cases e : x.1 = k <;> simp [e]
theorem lk_none {p : List (κ × β)} {k : κ} : lk p k = none ↔ k ∉ p.map (·.1) := by
  induction p with
  | nil => simp [lk]
  | cons x p ih =>
    rw [lk_cons, List.map_cons, List.mem_cons]
    by_cases e : x.1 = k
    · simp [e]
    · have e2 : ¬ k = x.1 := fun z => e z.symm
      simp [e, e2, ih]
theorem lk_some_mem {p : List (κ × β)} {k : κ} {v : β} (h : lk p k = some v) : (k, v) ∈ p := by
  induction p with
  | nil => cases h
  | cons x p ih =>
    rw [lk_cons] at h
    by_cases e : x.1 = k
    · rw [if_pos e] at h
      cases h
      rw [← e]; exact List.mem_cons_self
    · rw [if_neg e] at h
      exact List.mem_cons_of_mem _ (ih h)
theorem lk_mem {p : List (κ × β)} (hn : (p.map (·.1)).Nodup) {x : κ × β} (h : x ∈ p) : lk p x.1 = some x.2 := by
  induction p with
  | nil => cases h
  | cons y p ih =>
    rw [List.map_cons, List.nodup_cons] at hn
    rw [lk_cons]
    rcases List.mem_cons.mp h with e | h
    · rw [e, if_pos rfl]
    · rw [if_neg fun e : y.1 = x.1 => hn.1 (e ▸ List.mem_map_of_mem h)]
      exact ih hn.2 h
theorem lk_app (p q : List (κ × β)) (k : κ) : lk (p ++ q) k = (lk p k).or (lk q k) := by
  induction p with
  | nil => rfl
  | cons x p ih =>
    rw [List.cons_append, lk_cons, lk_cons, ih]
    split <;> rfl
theorem pt_in {p : List (κ × β)} {k : κ} (v : β) (h : k ∈ p.map (·.1)) : pt p k v = p.map fun x => if x.1 = k then (x.1, v) else x := if_pos h
theorem pt_out {p : List (κ × β)} {k : κ} (v : β) (h : k ∉ p.map (·.1)) : pt p k v = p ++ [(k, v)] := if_neg h
theorem lk_pt (p : List (κ × β)) (k : κ) (v : β) (k2 : κ) : lk (pt p k v) k2 = if k2 = k then some v else lk p k2 := by
  by_cases h : k ∈ p.map (·.1)
  · rw [pt_in v h]
    induction p with
    | nil => simp at h
    | cons x p ih =>
      rw [List.map_cons, lk_cons, lk_cons]
      by_cases e : x.1 = k
      · rw [if_pos e]
        by_cases e2 : k2 = k
        · rw [if_pos e2, if_pos (by rw [e2]; exact e)]
        · rw [if_neg e2, if_neg (by rw [e]; exact fun z => e2 z.symm), if_neg (by rw [e]; exact fun z => e2 z.symm)]
          by_cases h4 : k ∈ p.map (·.1)
          · have := ih h4
            rw [if_neg e2] at this
            exact this
          · have h5 : (p.map fun x => if x.1 = k then (x.1, v) else x) = p := by
              conv => rhs; rw [← List.map_id p]
              refine List.map_congr_left fun y hy => ?_
              rw [if_neg fun z : y.1 = k => h4 (z ▸ List.mem_map_of_mem hy)]; rfl
            rw [h5]
      · have hk2 : k ∈ p.map (·.1) := by
          rcases List.mem_cons.mp h with h | h
          · exact absurd h.symm e
          · exact h
        rw [if_neg e]
        by_cases e2 : x.1 = k2
        · rw [if_pos e2, if_pos e2, if_neg fun z => e (e2.trans z)]
        · rw [if_neg e2, if_neg e2]
          exact ih hk2
  · rw [pt_out v h, lk_app, lk_cons, lk_nil]
    by_cases e2 : k2 = k
    · subst e2
      rw [lk_none.mpr h]; simp
    · have e3 : ¬ k = k2 := fun z => e2 z.symm
      simp [e2, e3]
theorem pt_keys (p : List (κ × β)) (k : κ) (v : β) : (pt p k v).map (·.1) = if k ∈ p.map (·.1) then p.map (·.1) else p.map (·.1) ++ [k] := by
  by_cases h : k ∈ p.map (·.1)
  · rw [pt_in v h, if_pos h, List.map_map]
    refine List.map_congr_left fun x _ => ?_
    by_cases e : x.1 = k <;> simp [e]
  · rw [pt_out v h, if_neg h]; simp
theorem pt_len (p : List (κ × β)) (k : κ) (v : β) : (pt p k v).length ≤ p.length + 1 := by
  by_cases h : k ∈ p.map (·.1)
  · rw [pt_in v h]; simp
  · rw [pt_out v h]; simp
theorem pt_nodup {p : List (κ × β)} (h : (p.map (·.1)).Nodup) (k : κ) (v : β) : ((pt p k v).map (·.1)).Nodup := by
  rw [pt_keys]
  split
  · exact h
  · rename_i hk
    refine List.nodup_append.mpr ⟨h, by simp, fun a ha b hb e => ?_⟩
    rw [List.mem_singleton.mp hb] at e
    exact hk (e ▸ ha)
theorem pt_mem (p : List (κ × β)) (k : κ) (v : β) (j : κ) : j ∈ (pt p k v).map (·.1) ↔ j ∈ p.map (·.1) ∨ j = k := by
  rw [pt_keys]
  split
  · rename_i h
    exact ⟨.inl, fun z => z.elim id fun z => z ▸ h⟩
  · simp
/-- many puts -/
def pts (key : α → κ) (val : α → β) (xs : List α) (p : List (κ × β)) : List (κ × β) := xs.foldl (fun p x => pt p (key x) (val x)) p
variable {key : α → κ} {val : α → β}
theorem pts_len (xs : List α) (p : List (κ × β)) : (pts key val xs p).length ≤ p.length + xs.length := by
  unfold pts
  induction xs generalizing p with
  | nil => exact Nat.le_refl _
  | cons x xs ih =>
    have := ih (pt p (key x) (val x))
    have := pt_len p (key x) (val x)
    rw [List.foldl_cons, List.length_cons]; omega
theorem pts_nodup (xs : List α) {p : List (κ × β)} (h : (p.map (·.1)).Nodup) : ((pts key val xs p).map (·.1)).Nodup := by
  unfold pts
  induction xs generalizing p with
  | nil => exact h
  | cons x xs ih => exact ih (pt_nodup h _ _)
theorem pts_mem (xs : List α) (p : List (κ × β)) (j : κ) : j ∈ (pts key val xs p).map (·.1) ↔ j ∈ p.map (·.1) ∨ ∃ x ∈ xs, key x = j := by
  unfold pts
  induction xs generalizing p with
  | nil => simp
  | cons x xs ih =>
    rw [List.foldl_cons, ih, pt_mem]
    constructor
    · rintro ((h | h) | ⟨y, hy, h⟩)
      · exact .inl h
      · exact .inr ⟨x, List.mem_cons_self, h.symm⟩
      · exact .inr ⟨y, List.mem_cons_of_mem _ hy, h⟩
    · rintro (h | ⟨y, hy, h⟩)
      · exact .inl (.inl h)
      · rcases List.mem_cons.mp hy with e | hy
        · exact .inl (.inr (by rw [← h, e]))
        · exact .inr ⟨y, hy, h⟩
theorem pts_out (xs : List α) (p : List (κ × β)) (k : κ) (h : ∀ x ∈ xs, key x ≠ k) : lk (pts key val xs p) k = lk p k := by
  unfold pts
  induction xs generalizing p with
  | nil => rfl
  | cons x xs ih =>
    rw [List.foldl_cons, ih _ fun y hy => h y (List.mem_cons_of_mem _ hy), lk_pt, if_neg fun e => h x List.mem_cons_self e.symm]
theorem pts_in (xs : List α) (p : List (κ × β)) (k : κ) (v : β) (h : ∀ x ∈ xs, key x = k → val x = v) (hx : (∃ x ∈ xs, key x = k) ∨ lk p k = some v) : lk (pts key val xs p) k = some v := by
  unfold pts
  induction xs generalizing p with
  | nil =>
    rcases hx with ⟨x, hx, _⟩ | hx
    · cases hx
    · exact hx
  | cons x xs ih =>
    rw [List.foldl_cons]
    refine ih _ (fun y hy => h y (List.mem_cons_of_mem _ hy)) ?_
    by_cases e : key x = k
    · right
      rw [lk_pt, if_pos e.symm, h x List.mem_cons_self e]
    · rcases hx with ⟨y, hy, e2⟩ | hx
      · left
        rcases List.mem_cons.mp hy with e3 | hy
        · rw [e3] at e2; exact absurd e2 e
        · exact ⟨y, hy, e2⟩
      · right
        rw [lk_pt, if_neg fun z => e z.symm]; exact hx
theorem pts_app (xs ys : List α) (p : List (κ × β)) : pts key val (xs ++ ys) p = pts key val ys (pts key val xs p) := List.foldl_append
end
/-! ### as data -/
section
variable {κ κ' β : Type} [DecidableEq κ] [DecidableEq κ'] {g : κ → κ'} (hg : ∀ a b, g a = g b → a = b) (f : β → D)
include hg
theorem dFind_map (p : List (κ × β)) (k : κ) : dFind (p.map fun x => g x.1) (p.map fun x => f x.2) (g k) = (lk p k).map f := by
  induction p with
  | nil => rfl
  | cons x p ih =>
    rw [lk_cons]
    show (if g x.1 = g k then some (f x.2) else dFind _ _ _) = _
    by_cases e : x.1 = k
    · rw [if_pos (by rw [e]), if_pos e]; rfl
    · rw [if_neg fun z => e (hg _ _ z), if_neg e, ih]
theorem g_mem (p : List (κ × β)) (k : κ) : g k ∈ (p.map fun x => g x.1) ↔ k ∈ p.map (·.1) := by
  simp only [List.mem_map]
  constructor
  · rintro ⟨x, hx, e⟩
    exact ⟨x, hx, hg _ _ e⟩
  · rintro ⟨x, hx, e⟩
    exact ⟨x, hx, by rw [e]⟩
theorem dPutD_map (p : List (κ × β)) (k : κ) (v : β) : dPutD (p.map fun x => g x.1) (p.map fun x => f x.2) (g k) (f v) = (p.map fun x => if x.1 = k then (x.1, v) else x).map fun x => f x.2 := by
  induction p with
  | nil => rfl
  | cons x p ih =>
    show (if g x.1 = g k then f v else f x.2) :: dPutD _ _ _ _ = _
    rw [ih, List.map_cons, List.map_cons]
    by_cases e : x.1 = k
    · rw [if_pos (by rw [e]), if_pos e]
    · rw [if_neg fun z => e (hg _ _ z), if_neg e]
theorem dPut_map (p : List (κ × β)) (k : κ) (v : β) : dPutK (p.map fun x => g x.1) (g k) = (pt p k v).map (fun x => g x.1) ∧ dPutV (p.map fun x => g x.1) (p.map fun x => f x.2) (g k) (f v) = (pt p k v).map fun x => f x.2 := by
  unfold dPutK dPutV
  by_cases h : k ∈ p.map (·.1)
  · rw [if_pos ((g_mem hg p k).mpr h), if_pos ((g_mem hg p k).mpr h), pt_in v h, dPutD_map hg]
    refine ⟨?_, rfl⟩
    rw [List.map_map]
    refine List.map_congr_left fun x _ => ?_
    by_cases e : x.1 = k <;> simp [e]
  · rw [if_neg fun z => h ((g_mem hg p k).mp z), if_neg fun z => h ((g_mem hg p k).mp z), pt_out v h]
    simp
end
section
variable {β : Type} (f : β → D)
def encK (p : List (Int × β)) : D := .dk (p.map fun x => .inl x.1) (p.map fun x => f x.2)
def k2 (k : Int × Int) : List Key := [.inl k.1, .inl k.2]
theorem k2_inj (a b : Int × Int) (h : k2 a = k2 b) : a = b := by
  unfold k2 at h
  injection h with h1 h2
  injection h2 with h2 _
  exact Prod.ext (Sum.inl.inj h1) (Sum.inl.inj h2)
theorem inl_inj (a b : Int) (h : (Sum.inl a : Key) = Sum.inl b) : a = b := Sum.inl.inj h
def encK2 (p : List ((Int × Int) × β)) : D := .dt (p.map fun x => k2 x.1) (p.map fun x => f x.2)
theorem encK_nil : D.dk [] [] = encK f [] := rfl
theorem encK2_nil : D.dt [] [] = encK2 f [] := rfl
theorem i_K (c : Prop) [Decidable c] (p q : List (Int × β)) : (if c then encK f p else encK f q) = encK f (if c then p else q) := by split <;> rfl
theorem i_K2 (c : Prop) [Decidable c] (p q : List ((Int × Int) × β)) : (if c then encK2 f p else encK2 f q) = encK2 f (if c then p else q) := by split <;> rfl
theorem encP_K (p : Pol) : encP p = encK D.int p := rfl
theorem dGet_K (p : List (Int × β)) (k : Int) : dGet (encK f p) (.int k) = some ((lk p k).map f) := congrArg some (dFind_map (g := fun i : Int => (Sum.inl i : Key)) inl_inj f p k)
theorem dGet_K2 (p : List ((Int × Int) × β)) (k : Int × Int) : dGet (encK2 f p) (t2 k) = some ((lk p k).map f) := congrArg some (dFind_map (g := k2) k2_inj f p k)
theorem dSet_K (p : List (Int × β)) (k : Int) (v : β) (h : p.length < sizeLine) : dSet (encK f p) (.int k) (f v) = .ok (encK f (pt p k v)) := by
  show (if (p.map fun x => f x.2).length < sizeLine ∧ _ then _ else _) = _
  rw [if_pos ⟨by rw [List.length_map]; exact h, by simp⟩]
  obtain ⟨h1, h2⟩ := dPut_map (g := fun i : Int => (Sum.inl i : Key)) inl_inj f p k v
  show Res.ok (D.dk _ _) = _
  rw [h1, h2]; rfl
theorem dSet_K2 (p : List ((Int × Int) × β)) (k : Int × Int) (v : β) (h : p.length < sizeLine) : dSet (encK2 f p) (t2 k) (f v) = .ok (encK2 f (pt p k v)) := by
  show (if (p.map fun x => f x.2).length < sizeLine ∧ _ then _ else _) = _
  rw [if_pos ⟨by rw [List.length_map]; exact h, by simp⟩]
  obtain ⟨h1, h2⟩ := dPut_map (g := k2) k2_inj f p k v
  show Res.ok (D.dt (dPutK _ (k2 k)) (dPutV _ _ (k2 k) (f v))) = _
  rw [h1, h2]; rfl
theorem gDGet_K {p : List (Int × β)} {k : Int} {v : β} (h : lk p k = some v) : gDGet (encK f p) (.int k) = .ok (f v) := by
  unfold gDGet; rw [dGet_K, h]; rfl
theorem gDGet_K2 {p : List ((Int × Int) × β)} {k : Int × Int} {v : β} (h : lk p k = some v) : gDGet (encK2 f p) (t2 k) = .ok (f v) := by
  unfold gDGet; rw [dGet_K2, h]; rfl
theorem gDNotIn_K (p : List (Int × β)) (k : Int) : gDNotIn (.int k) (encK f p) = .ok (.bl (!(lk p k).isSome)) := by
  unfold gDNotIn; rw [dGet_K]; cases lk p k <;> rfl
theorem gDIn_K (p : List (Int × β)) (k : Int) : gDIn (.int k) (encK f p) = .ok (.bl (lk p k).isSome) := by
  unfold gDIn; rw [dGet_K]; cases lk p k <;> rfl
theorem gDNotIn_K2 (p : List ((Int × Int) × β)) (k : Int × Int) : gDNotIn (t2 k) (encK2 f p) = .ok (.bl (!(lk p k).isSome)) := by
  unfold gDNotIn; rw [dGet_K2]; cases lk p k <;> rfl
theorem gDIn_K2 (p : List ((Int × Int) × β)) (k : Int × Int) : gDIn (t2 k) (encK2 f p) = .ok (.bl (lk p k).isSome) := by
  unfold gDIn; rw [dGet_K2]; cases lk p k <;> rfl
theorem dKeys_K (p : List (Int × β)) : dKeys (encK f p) = .ok (p.map fun x => D.int x.1) := by
  show Res.ok ((p.map fun x => (Sum.inl x.1 : Key)).map kD) = _
  rw [List.map_map]; rfl
theorem dKeys_K2 (p : List ((Int × Int) × β)) : dKeys (encK2 f p) = .ok (p.map fun x => t2 x.1) := by
  show Res.ok ((p.map fun x => k2 x.1).map fun k => D.tup (k.map kD)) = _
  rw [List.map_map]; rfl
theorem immAt_K (h : ∀ b, (f b).imm = true) (p : List (Int × β)) : immAt 1 (encK f p) = true := by
  show immAt 1 (.dk _ _) = true
  unfold immAt
  simp [h]
theorem immAt_K2 (h : ∀ b, (f b).imm = true) (p : List ((Int × Int) × β)) : immAt 1 (encK2 f p) = true := by
  show immAt 1 (.dt _ _) = true
  unfold immAt
  simp [h]
end
theorem mem_intsOf (is : List Int) : intsOf (is.map Sum.inl) = some is := by
  induction is with
  | nil => rfl
  | cons i is ih => show (intsOf (is.map Sum.inl)).map _ = _; rw [ih]; rfl
theorem gSortD_K {β : Type} (f : β → D) (p : List (Int × β)) (h : p.length < 64) : gSortD (encK f p) = .ok (.lst ((sortI (p.map (·.1))).map D.int)) := by
  have e : (p.map fun x => (Sum.inl x.1 : Key)) = (p.map (·.1)).map Sum.inl := by rw [List.map_map]; rfl
  show (match intsOf (p.map fun x => (Sum.inl x.1 : Key)) with | some is => if is.length < 64 then Res.ok (D.lst ((sortI is).map D.int)) else .bad | none => Res.bad) = _
  rw [e, mem_intsOf]
  exact if_pos (by rw [List.length_map]; exact h)
/-- drawings -/
abbrev Drw := List (List T3)
def encR (r : List T3) : D := .lst (r.map t3)
def encD (ds : Drw) : D := .lst (ds.map encR)
theorem gEq_D (a b : Drw) : gEq (encD a) (encD b) = .ok (.bl (decide (a = b))) := gEq_enc a b (by decide)
theorem gNe_D (a b : Drw) : gNe (encD a) (encD b) = .ok (.bl (!decide (a = b))) := gNe_enc a b (by decide)
theorem gLt_D (a b : Drw) : gLt (encD a) (encD b) = .ok (.bl (Dat.lt a b)) := gLt_enc a b (by decide)
theorem gEq_ll (a b : List (List Int)) : gEq (.lst (a.map fun r => .lst (r.map D.int))) (.lst (b.map fun r => .lst (r.map D.int))) = .ok (.bl (decide (a = b))) := gEq_enc a b (by decide)
theorem gNe_ll (a b : List (List Int)) : gNe (.lst (a.map fun r => .lst (r.map D.int))) (.lst (b.map fun r => .lst (r.map D.int))) = .ok (.bl (!decide (a = b))) := gNe_enc a b (by decide)
theorem lift_perm {α β : Type} (f : α → β) : ∀ {ys : List β} {C : List α}, ys.Perm (C.map f) → ∃ L : List α, L.Perm C ∧ L.map f = ys := by
  intro ys C h
  generalize e : C.map f = zs at h
  induction h generalizing C with
  | nil => exact ⟨C, .refl _, e⟩
  | @cons x l1 l2 _ ih =>
    cases C with
    | nil => cases e
    | cons c C =>
      injection e with e1 e2
      obtain ⟨L, h1, h2⟩ := ih e2
      exact ⟨c :: L, h1.cons c, by rw [List.map_cons, e1, h2]⟩
  | swap x y l =>
    cases C with
    | nil => cases e
    | cons c C =>
      cases C with
      | nil => injection e with _ e; cases e
      | cons d C =>
        injection e with e1 e2
        injection e2 with e2 e3
        exact ⟨d :: c :: C, .swap c d C, by rw [List.map_cons, List.map_cons, e1, e2, e3]⟩
  | trans _ _ ih1 ih2 =>
    obtain ⟨L, h1, h2⟩ := ih2 e
    obtain ⟨L2, h3, h4⟩ := ih1 h2
    exact ⟨L2, h3.trans h1, h4⟩
end Mir

namespace Mir
open PySem PySem.Spec L2
/-! ### stores, reckoned -/
def putIm (j k : Nat) (cs : List Nat) (d y : D) (ds : List D) (env : Mir.Env) : Res Ctl := match y with
  | .int n => (match ixN ds.length n with | some jj => .ok (.nx ((clear env cs).set j (some (k + 1, .lst (ds.set jj d))))) | none => .bad)
  | _ => .bad
@[simp] theorem e_mPutI (j k : Nat) (cs : List Nat) (mv mi : Mir.Env → Res D) (env : Mir.Env) : mPutI j k cs mv mi env = (mv env >>= fun d => mi (clear env cs) >>= fun y => atL (clear env cs) j (k + 1) >>= fun ds => putIm j k cs d y ds env) := rfl
theorem ixN_nat {n i : Nat} (h : i < n) : ixN n (i : Int) = some i := by
  unfold ixN
  simp [h]
theorem putIm_nat {α : Type} (f : α → D) {j k : Nat} {cs : List Nat} {v : α} {i : Nat} {xs : List α} {env : Mir.Env} (h : i < xs.length) : putIm j k cs (f v) (.int i) (xs.map f) env = .ok (.nx ((clear env cs).set j (some (k + 1, .lst ((xs.set i v).map f))))) := by
  unfold putIm
  dsimp only
  rw [List.length_map, ixN_nat h, List.map_set]
def putIIm (j k : Nat) (d y z : D) (ds : List D) (env : Mir.Env) : Res Ctl := match y, z with
  | .int n, .int n2 => (match ixN ds.length n with
    | some jj => (match ds[jj]? with
      | some (.lst es) => (match ixN es.length n2 with
        | some j2 => if d.imm = true then .ok (.nx (env.set j (some (k + 2, .lst (ds.set jj (.lst (es.set j2 d))))))) else .bad
        | none => .bad)
      | _ => .bad)
    | none => .bad)
  | _, _ => .bad
@[simp] theorem e_mPutII (j k : Nat) (mv mi mj : Mir.Env → Res D) (env : Mir.Env) : mPutII j k mv mi mj env = (mv env >>= fun d => mi env >>= fun y => mj env >>= fun z => atL env j (k + 2) >>= fun ds => putIIm j k d y z ds env) := rfl
theorem putIIm_nat {α : Type} (f : α → D) (hf : ∀ a, (f a).imm = true) {j k : Nat} {v : α} {a b : Nat} {T : List (List α)} {r : List α} {env : Mir.Env} (ha : T[a]? = some r) (hb : b < r.length) : putIIm j k (f v) (.int a) (.int b) (T.map fun r => .lst (r.map f)) env = .ok (.nx (env.set j (some (k + 2, .lst ((T.set a (r.set b v)).map fun r => .lst (r.map f)))))) := by
  have hal := (List.getElem?_eq_some_iff.mp ha).1
  unfold putIIm
  dsimp only
  rw [List.length_map, ixN_nat hal]
  dsimp only
  rw [List.getElem?_map, ha]
  dsimp only [Option.map]
  rw [List.length_map, ixN_nat hb]
  dsimp only
  rw [if_pos (hf v), List.map_set, List.map_set]
theorem gRep_one {n : Nat} (d : D) (hd : d.imm = true) (h : n ≤ 1000) : gRep (.lst [d]) (.int n) = .ok (.lst (List.replicate n d)) := by
  unfold gRep
  dsimp only
  rw [if_pos ⟨by simp [hd], by omega, by omega, by simp; exact sizeLine_big (by omega)⟩]
  congr 2
  simp only [Int.toNat_natCast]
  induction n with
  | zero => rfl
  | succ n ih => rw [List.replicate_succ, List.flatten_cons, ih (by omega), List.replicate_succ]; rfl
abbrev Mat := List (List Int)
def encM (T : Mat) : D := .lst (T.map fun r => .lst (r.map D.int))
/-! ### a name that is free -/
def itr (k : Nat) (n : Int) : Int := (n - 1 + k) % 999 + 1
theorem itr_0 {n : Int} (h : 1 ≤ n ∧ n ≤ 999) : itr 0 n = n := by unfold itr; omega
theorem itr_succ (k : Nat) {n : Int} (h : 1 ≤ n ∧ n ≤ 999) : itr (k + 1) n = itr k (n % 999 + 1) := by unfold itr; omega
theorem itr_rng (k : Nat) (n : Int) : 1 ≤ itr k n ∧ itr k n ≤ 999 := by unfold itr; omega
theorem nodup_sub_len {α : Type} [DecidableEq α] : ∀ {l m : List α}, l.Nodup → (∀ x ∈ l, x ∈ m) → l.length ≤ m.length
  | [], _, _, _ => Nat.zero_le _
  | x :: l, m, h, hs => by
    have h2 := List.nodup_cons.mp h
    have hx := hs x List.mem_cons_self
    have := nodup_sub_len (l := l) (m := m.erase x) h2.2 fun y hy => (List.mem_erase_of_ne fun e : y = x => h2.1 (by rw [← e]; exact hy)).mpr (hs y (List.mem_cons_of_mem _ hy))
    rw [List.length_erase_of_mem hx] at this
    have hp := List.length_pos_of_mem hx
    rw [List.length_cons]; omega
theorem free_ex (ns : List Int) (h : ns.length < 999) (n : Int) : ∃ k, k ≤ ns.length ∧ itr k n ∉ ns := by
  apply Classical.byContradiction
  intro hc
  have hall : ∀ k, k ≤ ns.length → itr k n ∈ ns := fun k hk => Classical.byContradiction fun hn => hc ⟨k, hk, hn⟩
  have hnd : ((List.range (ns.length + 1)).map fun k => itr k n).Nodup := by
    refine List.pairwise_map.mpr (List.Pairwise.imp_of_mem (fun {a b} ha hb hab e => ?_) List.nodup_range)
    have h1 := List.mem_range.mp ha
    have h2 := List.mem_range.mp hb
    unfold itr at e
    omega
  have := nodup_sub_len hnd fun x hx => by
    obtain ⟨k, hk, rfl⟩ := List.mem_map.mp hx
    exact hall k (by have := List.mem_range.mp hk; omega)
  simp at this
  omega
theorem perm_sum {xs ys : List Int} (h : xs.Perm ys) : xs.sum = ys.sum := by
  induction h with
  | nil => rfl
  | cons x _ ih => simp [ih]
  | swap x y l => simp; omega
  | trans _ _ h1 h2 => exact h1.trans h2
theorem intsD_map (xs : List Int) : intsD? (xs.map D.int) = some xs := by
  induction xs with
  | nil => rfl
  | cons x xs ih => show (intsD? (xs.map D.int)).map _ = _; rw [ih]; rfl
theorem gSum_int (xs : List Int) : gSum (.lst (xs.map D.int)) = .ok (.int xs.sum) := by
  unfold gSum
  simp only [intsD_map]
theorem wloop_succ (t : Mir.Env → Res Bool) (body : Mir.Env → Res Ctl) (fg : List Nat) (n : Nat) (env : Mir.Env) : wloop t body fg (n + 1) env = (t env >>= fun b => if b then body env >>= fun c => match c with
      | .nx e => wloop t body fg n (clear e fg)
      | .ct e => wloop t body fg n (clear e fg)
      | .bk e => .ok (.nx (clear e fg))
      | .rt d => .ok (.rt d)
    else .ok (.nx env)) := rfl
theorem gIn_int (x : Int) (xs : List Int) : gIn (.int x) (.lst (xs.map D.int)) = .ok (.bl (decide (x ∈ xs))) := gIn_enc x xs (by decide)
theorem gNotIn_int (x : Int) (xs : List Int) : gNotIn (.int x) (.lst (xs.map D.int)) = .ok (.bl (!decide (x ∈ xs))) := gNotIn_enc x xs (by decide)
end Mir

namespace Mir
open PySem PySem.Spec L2
/-! ### drawings, rows, tables: the mirror's operations -/
@[simp] theorem D_items (ds : Drw) : itemsL (encD ds) = .ok (ds.map encR) := rfl
@[simp] theorem D_len (ds : Drw) : gLen (encD ds) = .ok (.int ds.length) := by unfold encD; simp
@[simp] theorem D_isi (ds : Drw) : isi .list (encD ds) = true := rfl
@[simp] theorem D_isOb (ds : Drw) : isOb (encD ds) = false := rfl
@[simp] theorem R_items (r : List T3) : itemsL (encR r) = .ok (r.map t3) := rfl
@[simp] theorem R_len (r : List T3) : gLen (encR r) = .ok (.int r.length) := by unfold encR; simp
@[simp] theorem R_isi (r : List T3) : isi .list (encR r) = true := rfl
@[simp] theorem R_isOb (r : List T3) : isOb (encR r) = false := rfl
@[simp] theorem R_tru (r : List T3) : gTru (encR r) = .ok (!r.isEmpty) := by unfold encR; simp
@[simp] theorem M_items (T : Mat) : itemsL (encM T) = .ok (T.map fun r => .lst (r.map D.int)) := rfl
@[simp] theorem M_len (T : Mat) : gLen (encM T) = .ok (.int T.length) := by unfold encM; simp
@[simp] theorem M_isi (T : Mat) : isi .list (encM T) = true := rfl
@[simp] theorem M_isOb (T : Mat) : isOb (encM T) = false := rfl
theorem ofR (r : List T3) : D.lst (r.map t3) = encR r := rfl
theorem ofD (ds : Drw) : D.lst (ds.map encR) = encD ds := rfl
theorem ofM (T : Mat) : D.lst (T.map fun r => .lst (r.map D.int)) = encM T := rfl
theorem gIx_D {ds : Drw} {i : Nat} {r : List T3} (h : ds[i]? = some r) : gIx (encD ds) (.int i) = .ok (encR r) := gIx_map h
theorem gIx_R {r : List T3} {i : Nat} {x : T3} (h : r[i]? = some x) : gIx (encR r) (.int i) = .ok (t3 x) := gIx_map h
theorem gIx_M {T : Mat} {i : Nat} {r : List Int} (h : T[i]? = some r) : gIx (encM T) (.int i) = .ok (.lst (r.map D.int)) := gIx_map (f := fun r : List Int => D.lst (r.map D.int)) h
theorem gIx_I {r : List Int} {i : Nat} {x : Int} (h : r[i]? = some x) : gIx (.lst (r.map D.int)) (.int i) = .ok (.int x) := gIx_map h
@[simp] theorem immAt_2D (ds : Drw) : immAt 2 (encD ds) = true := by
  unfold encD
  rw [show (2 : Nat) = 1 + 1 from rfl, immAt_l]
  induction ds with
  | nil => rfl
  | cons r ds ih =>
    rw [List.map_cons, immAtL, ih]
    show (immAt 1 (.lst (r.map t3)) && true) = true
    simp
@[simp] theorem immAt_2M (T : Mat) : immAt 2 (encM T) = true := by
  unfold encM
  rw [show (2 : Nat) = 1 + 1 from rfl, immAt_l]
  induction T with
  | nil => rfl
  | cons r T ih =>
    rw [List.map_cons, immAtL, ih]
    simp
@[simp] theorem immAt_1R (r : List T3) : immAt 1 (encR r) = true := by unfold encR; simp
@[simp] theorem imm_R (r : List T3) : (encR r).imm = false := by unfold encR; simp [D.imm]
theorem putIIm_M {j k : Nat} {v : Int} {a b : Nat} {T : Mat} {r : List Int} {env : Mir.Env} (ha : T[a]? = some r) (hb : b < r.length) : putIIm j k (.int v) (.int a) (.int b) (T.map fun r => .lst (r.map D.int)) env = .ok (.nx (env.set j (some (k + 2, encM (T.set a (r.set b v)))))) := putIIm_nat D.int (fun _ => rfl) ha hb
@[simp] theorem atL_M (T : Mat) (env : Mir.Env) (j k : Nat) (h : env[j]? = some (some (k, encM T))) : atL env j k = .ok (T.map fun r => .lst (r.map D.int)) := by
  unfold atL; rw [h]; simp [encM]
@[simp] theorem atL_D (ds : Drw) (env : Mir.Env) (j k : Nat) (h : env[j]? = some (some (k, encD ds))) : atL env j k = .ok (ds.map encR) := by
  unfold atL; rw [h]; simp [encD]
theorem e_mLc (mi : Mir.Env → Res (List D)) (t : Nat → D → Mir.Env → Res Mir.Env) (mt : Mir.Env → Res Bool) (me : Mir.Env → Res D) (own : List Nat) (env : Mir.Env) : mLc mi t mt me own env = (chk (noOwn own env) >>= fun _ => mi env >>= fun ds => lcLoop t mt me env ds >>= fun ys => if ys.length ≤ sizeLine then .ok (.lst ys) else .bad) := rfl
@[simp] theorem noOwn_nil (env : Mir.Env) : noOwn [] env = true := rfl
@[simp] theorem noOwn_cons (i : Nat) (is : List Nat) (env : Mir.Env) : noOwn (i :: is) env = ((match env[i]? with | some none => true | _ => false) && noOwn is env) := rfl
theorem i_D (c : Prop) [Decidable c] (p q : Drw) : (if c then encD p else encD q) = encD (if c then p else q) := by split <;> rfl
theorem i_M (c : Prop) [Decidable c] (p q : Mat) : (if c then encM p else encM q) = encM (if c then p else q) := by split <;> rfl
end Mir

namespace Mir
open PySem PySem.Spec L2
section
variable {X : Cx} {e a b tg it o elt : Expr} {m ma mb me mk mx : Env → Res D} {k kr : Nat} {cs : List Nat} {pos p p2 cpos apos cpos2 apos2 lp : Pos}
/-! ### list(range(n)) -/
theorem se_listRg (hc : X.calm = true) (hg : Gl X "list") (hm0 : X.mg "list" = none) (hg2 : Gl X "range") (hm2 : X.mg "range" = none) (h : SB X a m) (na : starEach [a] X.env = (false, eval a X.env) :: starEach [] X.env := by rfl) (na2 : starEach [.Call (.Name "range" p2) [a] [] cpos] X.env = (false, eval (.Call (.Name "range" p2) [a] [] cpos) X.env) :: starEach [] X.env := by rfl) :
    SE X (k + 1) [] (.Call (.Name "list" p) [.Call (.Name "range" p2) [a] [] cpos] [] pos) (fun env => m env >>= gRng1 >>= fun ds => if ds.length ≤ 1000000 then .ok (.lst ds) else .bad) := fun B H env σ tm d Q ok hm q => by
  obtain ⟨ds, h1, h2⟩ := bind_ok hm
  obtain ⟨x, hx, h3⟩ := bind_ok h1
  split at h2
  · rename_i hl
    cases h2
    unfold gRng1 at h3
    split at h3
    · rename_i i
      split at h3
      · rename_i hr
        cases h3
        rw [rangeOk_iff] at hr
        refine wE_of (pe_listRg hc hg hm0 (prg_1 hg2 hm2 pe_sem na) na2) (h B H env σ tm _ _ ok hx fun v H1 x1 ok1 r => ?_)
        cases r
        have hlen : (intsD 0 i.toNat).length = i.toNat := by unfold intsD; simp
        rw [hlen] at hl
        refine ⟨i, rfl, ⟨by omega, by omega, by omega, by omega, by omega⟩, fun q' hq => ?_⟩
        have hrp : RpAll (view H1) (rgV 0 i) (intsD 0 i.toNat) := by
          have : ∀ n : Nat, RpAll (view H1) ((List.range n).map fun j => V.int (0 + (j : Nat))) ((List.range n).map fun j => D.int (0 + (j : Nat))) := fun n => by
            generalize List.range n = l
            induction l with
            | nil => exact .nil
            | cons x l ih => exact .cons (.int _) ih
          have := this i.toNat
          unfold rgV intsD
          simpa using this
        have him : immAll (intsD 0 i.toNat) = true := by unfold intsD; simp
        exact q _ _ (x1.trans (Ext.upd hq)) ((ok1.levs (k := k) hrp him).newLst hrp.length hq)
      · cases h3
    · cases h3
  · cases h2
/-! ### [.. for x in d.values()] -/
theorem se_lcV {own is : List Nat} {scope : Scope} {ifs : List Expr} {t : Nat → D → Env → Res Env} {mt : Env → Res Bool} {j : Nat} (ow : List (Str × Nat)) (hc : X.calm = true) (hN : X.N.Nodup) (okb : BlkOk X.N X.env.scope scope ow) (eo : ow.map (·.2) = own)
    (hx : PE X o (tVar j)) (hg : Blk X scope fun Y => STg Y tg is t) (htg : TgOk is t) (his : ∀ i ∈ is, i ∈ own) (ht : Blk X scope fun Y => SPT Y ifs mt) (he : Blk X scope fun Y => SE Y k [] elt me)
    (hs : ∀ x, foldedSetIterable (.Call (.Attribute o "values" apos) [] [] cpos) X.env x = pure x := by intro _; rfl) (hbase : attributeBase o "values" X.env (eval o X.env) = eval o X.env := by rfl) (hline : (apos.endLine == cpos.line) = true := by rfl) :
    SE X (k + 1) [] (.ListComp elt [⟨tg, .Call (.Attribute o "values" apos) [] [] cpos, ifs, 0⟩] scope pos) (mLc (fun env => mVarK j 0 env >>= dVals) t mt me own) := fun B H env σ tm d Q ok hm q => by
  subst eo
  have hm' := hm
  obtain ⟨u0, _, h2⟩ := bind_ok hm'
  obtain ⟨ds, hds, _⟩ := bind_ok h2
  obtain ⟨dd, hdd, hdv⟩ := bind_ok hds
  have hej := sh_slot hdd
  obtain ⟨v, hv, ok0⟩ := ok.slot0 hej
  have r0 := ok0.rp
  unfold dVals at hdv
  split at hdv
  · rename_i ks vs
    split at hdv
    · rename_i hlen
      cases hdv
      cases r0 with
      | @dk dA kvs _ _ hvw ek ra =>
        subst ek
        have hB : ∀ z, B dA = some z → H dA = some z := fun z e => by
          obtain ⟨⟨G, fp, g, _⟩, _⟩ := ok
          exact g.bs dA z e
        have hBg : B dA ≠ none → B.g dA = some (.dK kvs) := fun e => by
          obtain ⟨G, fp, u', g, hG, _⟩ := ok0.shAt
          have : u' = .dK kvs := Option.some.inj ((g.gs dA u' hG).symm.trans hvw)
          rw [← g.g0 dA e, hG, this]
        have core : ∀ (od : Obj) (Q1 : VK), (∀ v H', Ext (upd H dA (.frz od (.dK kvs))) H' → EnvOk (pinB B dA (.frz od (.dK kvs)) (.dK kvs)) H' env σ ((v, k + 1, d) :: tm) → Q1 v H') →
            tLc (iVals (tVar j)) (fun v σ H Q => Blk X scope fun Y => wG Y tg v σ H Q) (fun σ H Q => Blk X scope fun Y => ∀ (pins : List (Addr × Obj)) (s : Shared), Inv Y pins σ H s → wpAny (model Y.prog Y.w) Y.A (forIn ifs true fun c r => if r = true then do let ok ← isTrue c Y.env (eval c Y.env); pure (ForInStep.yield ok) else pure (ForInStep.yield r)) (TP Y pins σ Q) Y.xe s)
              (fun σ H Q => Blk X scope fun Y => wE Y elt σ H Q) (ow.map (·.2)) σ (upd H dA (.frz od (.dK kvs))) Q1 := fun od Q1 q1 => by
          have ok1 : EnvOk (pinB B dA (.frz od (.dK kvs)) (.dK kvs)) (upd H dA (.frz od (.dK kvs))) env σ ((.ref dA, 0, .dk (kvs.map (·.1)) ds) :: tm) := (ok0.dup).pin hvw rfl rfl
          have hi : ∀ (ds' : List D) (R : It → Hp → Prop), (mVarK j 0 env >>= dVals) = .ok ds' → (∀ J H' ex, Ext (upd H dA (.frz od (.dK kvs))) H' → EnvOk (pinB B dA (.frz od (.dK kvs)) (.dK kvs)) H' env σ (ex ++ tm) → Yields (pinB B dA (.frz od (.dK kvs)) (.dK kvs)) J ex ds' → R J H') → iVals (tVar j) σ (upd H dA (.frz od (.dK kvs))) R := fun ds' R hds' qq => by
            have e1 : ds' = ds := by
              have h0 : (Res.ok ds' : Res (List Mir.D)) = Res.ok ds := hds'.symm.trans hds
              cases h0; rfl
            subst e1
            refine ⟨.ref dA, hv, dA, od, kvs, rfl, upd_same, qq _ _ [((V.ref dA, 0, Mir.D.dk (kvs.map fun x : Key × V => x.1) ds') : Hold)] (Ext.refl _) ok1 fun i H2 env2 σ2 tm2 ok2 => ?_⟩
            have hd2 : H2 dA = some (.frz od (.dK kvs)) := ok2.pinned
            have hkl : kvs.length = ds'.length := by simpa using hlen
            rw [← hkl]
            refine ⟨fun ei => ⟨hd2, by omega⟩, fun hi => ⟨⟨hd2, hi⟩, fun x H3 hy => ?_⟩⟩
            obtain ⟨rfl, kk, hkv⟩ := hy
            obtain ⟨g1, g2⟩ := dk_kvs hkv
            have hvi : ds'[i]? = some ds'[i] := List.getElem?_eq_getElem (by omega)
            have ok2' : EnvOk (pinB B dA (.frz od (.dK kvs)) (.dK kvs)) H3 env2 σ2 ((V.ref dA, 0, D.dk (kvs.map (·.1)) ds') :: tm2) := ok2
            obtain ⟨p', o', ws, ev, hvw2, hwl, _, _, f3, _, ra2, ok3⟩ := ok2'.items (ds := ds') (.inr (.inr (.inl ⟨_, rfl⟩)))
            cases ev
            obtain ⟨kvs', e1, e2, e3⟩ := f3 _ rfl
            have ek2 : kvs' = kvs := by
              subst e1
              unfold view at hvw2; rw [hd2] at hvw2
              have h9 : HO.dK kvs = HO.dK kvs' := Option.some.inj hvw2
              injection h9 with h10
              exact h10.symm
            subst ek2
            subst e3
            obtain ⟨l, hp'⟩ := lev_get (k := 0) g2 hvi
            have ok4 : EnvOk (pinB B dA (.frz od (.dK kvs')) (.dK kvs')) H3 env2 σ2 ((x, 0, ds'[i]) :: ((V.ref dA, 0, D.dk (kvs'.map (·.1)) ds') :: tm2)) := by
              refine EnvOk.less (l := l) (ok3.perm ((hp'.append_right _).trans ?_))
              exact (List.perm_middle (l₁ := l) (a := (x, 0, ds'[i])) (l₂ := (V.ref dA, 0, D.dk (kvs'.map (·.1)) ds') :: tm2)).symm
            exact ⟨_, hvi, Ext.refl _, ok4⟩
          exact lc_read hi hg htg his ht he ok1.tail hm q1
        cases hH : H dA with
        | none => rw [view_none hH] at hvw; cases hvw
        | some o1 =>
          have hu1 : unf o1 = .dK kvs := by
            unfold view at hvw
            rw [hH] at hvw
            exact Option.some.inj hvw
          have un : ∀ {od : Obj} {o' : HO} {H' : Hp} {tm' : List Hold}, unf o' = .dK kvs → (∀ z, B dA = some z → z = o') → EnvOk (pinB B dA (.frz od (.dK kvs)) (.dK kvs)) H' env σ tm' → EnvOk B (upd H' dA o') env σ tm' := fun ho hz ok' => ok'.unpin hz hBg (fun _ => .inr trivial) ho rfl rfl
          have pl : Unit → PE X (.ListComp elt [⟨tg, .Call (.Attribute o "values" apos) [] [] cpos, ifs, 0⟩] scope pos) (tLc (iVals (tVar j)) (fun v σ H Q => Blk X scope fun Y => wG Y tg v σ H Q) (fun σ H Q => Blk X scope fun Y => ∀ (pins : List (Addr × Obj)) (s : Shared), Inv Y pins σ H s → wpAny (model Y.prog Y.w) Y.A (forIn ifs true fun c r => if r = true then do let ok ← isTrue c Y.env (eval c Y.env); pure (ForInStep.yield ok) else pure (ForInStep.yield r)) (TP Y pins σ Q) Y.xe s)
              (fun σ H Q => Blk X scope fun Y => wE Y elt σ H Q) (ow.map (·.2))) := fun (_ : Unit) => pe_lc hc hN (pi_values hx hbase hline) okb (fun s H C cl fp => ⟨fun pins s' σ H' v u Q I r h => h s H C cl fp pins s' u I r⟩) (fun s H C cl fp => ⟨fun pins s' σ H' Q I h => h s H C cl fp pins s' I⟩) (fun s H C cl fp => ⟨fun pins s' σ H' Q I h => h s H C cl fp pins s' I⟩) hs
          by_cases hfz : ∃ od, o1 = .frz od (.dK kvs)
          · obtain ⟨od, rfl⟩ := hfz
            have e1 : upd H dA (.frz od (.dK kvs)) = H := upd_self' hH
            refine wE_of (pl ()) ?_
            have c := core od Q fun v H' x' ok' => ?_
            · rw [e1] at c; exact c
            · rw [e1] at x'
              have hd' := ok'.pinned
              have ok2 := un (o' := .frz od (.dK kvs)) rfl (fun z e => Option.some.inj ((hB z e).symm.trans hH)) ok'
              rw [upd_self' hd'] at ok2
              exact q v H' x' ok2
          · have eo : o1 = .dK kvs := by
              cases o1 with
              | frz od w => exact absurd ⟨od, congrArg _ hu1⟩ hfz
              | _ => exact hu1
            subst eo
            refine wE_of (pe_lock (pl ())) ⟨dA, _, hH, trivial, fun od => core od _ fun v H' x' ok' => ⟨ok'.pinned, ?_⟩⟩
            refine q v _ (fun a o ha => ?_) (un rfl (fun z e => Option.some.inj ((hB z e).symm.trans hH)) ok')
            by_cases z : a = dA
            · subst z
              rw [upd_same, ← ha, hH]
            · rw [upd_ne z]
              exact x' a o (by rw [upd_ne z]; exact ha)
    · cases hdv
  · cases hdv
end
end Mir

namespace Mir
open PySem PySem.Spec L2
/-! ### d.setdefault(k, []).append(x) -/
def idxK {κ : Type} [DecidableEq κ] : List κ → κ → Option Nat
  | [], _ => none
  | k :: ks, x => if k = x then some 0 else (idxK ks x).map (· + 1)
theorem idxK_val {κ : Type} [DecidableEq κ] : ∀ (kvs : List (κ × V)) (x : κ), (idxK (kvs.map (·.1)) x = none → valV kvs x = none) ∧ ∀ i, idxK (kvs.map (·.1)) x = some i → ∃ v, valV kvs x = some v ∧ (kvs.map (·.2))[i]? = some v
  | [], x => ⟨fun _ => rfl, fun i h => by cases h⟩
  | (k, v) :: kvs, x => by
    have ih := idxK_val kvs x
    by_cases e : k = x
    · subst e
      have h0 : idxK (((k, v) :: kvs).map (·.1)) k = some 0 := if_pos rfl
      refine ⟨fun h => ?_, fun i h => ⟨v, ?_, ?_⟩⟩
      · rw [h0] at h; cases h
      · unfold valV; simp
      · rw [h0] at h; cases h; rfl
    · have h0 : idxK (((k, v) :: kvs).map (·.1)) x = (idxK (kvs.map (·.1)) x).map (· + 1) := if_neg e
      have h1 : valV ((k, v) :: kvs) x = valV kvs x := by unfold valV; simp [List.find?_cons, e]
      rw [h0, h1]
      refine ⟨fun h => ih.1 (by simpa using h), fun i h => ?_⟩
      cases hi : idxK (kvs.map (·.1)) x with
      | none => rw [hi] at h; cases h
      | some j =>
        rw [hi] at h
        cases h
        obtain ⟨w, h2, h3⟩ := ih.2 j hi
        exact ⟨w, h2, by simpa using h3⟩
def mSetdApp (j : Nat) (mk mx : Env → Res D) : Env → Res Ctl := fun env => mk env >>= fun y => mx (env.set j none) >>= fun x => match env[j]?, keyOf y with
  | some (some (2, .dk ks ds)), some kk => if ds.length < sizeLine ∧ x.imm = true then (match idxK ks kk with
    | some i => (match ds[i]? with
      | some (.lst es) => if es.length < sizeLine then .ok (.nx (env.set j (some (2, .dk ks (ds.set i (.lst (es ++ [x]))))))) else .bad
      | _ => .bad)
    | none => .ok (.nx (env.set j (some (2, .dk (ks ++ [kk]) (ds ++ [.lst [x]])))))) else .bad
  | _, _ => .bad
section
variable {X : Cx} {kr : Nat} {o e x : Expr} {pos apos cpos apos2 cpos2 lp : Pos} {mk mx : Env → Res D}
/-- the list that the dict holds at i, longer by x -/
theorem app_core {B : Bs} {H : Hp} {env : Env} {σ : St} {tm : List Hold} {a : Addr} {ks : List Key} {ds : List D} {es : List D} {i : Nat} {v w : V} {xd : D} {Q : VK}
    (ok : EnvOk B H env σ ((.ref a, 2, .dk ks ds) :: tm)) (hv : ∀ kvs, H a = some (.dK kvs) → (kvs.map (·.2))[i]? = some v) (hd : ds[i]? = some (.lst es)) (hl : es.length < sizeLine) (hw : Rp (view H) w xd) (hi : xd.imm = true)
    (q : ∀ H', EnvOk B H' env σ ((.ref a, 2, .dk ks (ds.set i (.lst (es ++ [xd])))) :: tm) → Q .non H') :
    ∃ l ws, v = .ref l ∧ H l = some (.lst ws) ∧ ws.length < sizeLine ∧ Q .non (upd H l (.lst (ws ++ [w]))) := by
  obtain ⟨kvs, hq, ek, hlen, ok4⟩ := ok.takeDk
  have hvi := hv kvs hq
  obtain ⟨l0, l1, l2⟩ := lev_one (k := 1) (by simpa using hlen) hvi hd
  have ok5 : EnvOk B (del H a) env σ ((v, 1, .lst es) :: (l0 ++ tm)) := ok4.perm (l1.append_right _)
  obtain ⟨l, rfl⟩ := ok5.isRef rfl
  obtain ⟨ws, hL, hwl, ok6⟩ := ok5.takeLst
  have hla : l ≠ a := fun z => by rw [z, del_self] at hL; cases hL
  have hL2 : H l = some (.lst ws) := by rw [← hL, del_ne hla]
  refine ⟨l, ws, rfl, hL2, by omega, q _ ?_⟩
  have rw2 : Rp (view (del (del H a) l)) w xd := hw.immTo (fun b xs im hb => by
    unfold view at hb ⊢
    have b1 : b ≠ l := fun z => by rw [z, hL2] at hb; cases hb; cases im
    have b2 : b ≠ a := fun z => by rw [z, hq] at hb; cases hb; cases im
    rw [del_ne b1, del_ne b2]; exact hb) hi
  have ok7 : EnvOk B (del (del H a) l) env σ (lev 0 (ws ++ [w]) (es ++ [xd]) ++ (l0 ++ tm)) := by
    rw [lev_append [w] [xd] hwl, List.append_assoc]
    exact (ok6.imm (k := 0) rw2 hi).perm List.perm_middle.symm
  have ok8 := ok7.newLst (p := l) (by simp [hwl]) del_self
  rw [upd_del] at ok8
  have ok9 := ok8.perm ((l2 (.ref l) (.lst (es ++ [xd]))).symm.append_right tm)
  have evs : (kvs.map (·.2)).set i (.ref l) = kvs.map (·.2) := by
    obtain ⟨hi1, hi2⟩ := List.getElem?_eq_some_iff.mp hvi
    rw [← hi2]; exact List.set_getElem_self hi1
  rw [evs, del_upd hla] at ok9
  subst ek
  have ok10 := ok9.newDk (p := a) (by simp [hlen]) rfl del_self
  rw [upd_del, upd_self (by rw [upd_ne (Ne.symm hla)]; exact hq)] at ok10
  exact ok10
theorem s_setdApp {j : Nat} (hx : PE X o (tVar j)) (hk : SB X e mk) (hxx : SC X x mx) (mm : M2 X o "setdefault" apos e (.List [] lp) cpos)
    (hbase : attributeBase (.Call (.Attribute o "setdefault" apos) [e, .List [] lp] [] cpos) "append" X.env (eval (.Call (.Attribute o "setdefault" apos) [e, .List [] lp] [] cpos) X.env) = eval (.Call (.Attribute o "setdefault" apos) [e, .List [] lp] [] cpos) X.env := by rfl)
    (hfew : ((backTo cpos2 (starEach [x] X.env)).all (fun x => !x.1) && (backToKw cpos2 (keywordEach [] X.env)).all (fun x => x.1.isSome)
      && decide ([x].length + ([] : List Keyword).length + (if ([] : List Keyword).isEmpty then 0 else 1) < 30)) = true := by rfl)
    (hline : (apos2.endLine == cpos2.line) = true := by rfl) (hs : starEach [x] X.env = (false, eval x X.env) :: starEach [] X.env := by rfl) (hplain : (backTo cpos2 (starEach [] X.env)).any (·.1) = false := by rfl)
    (hsw : swapsWith (.Call (.Attribute (.Call (.Attribute o "setdefault" apos) [e, .List [] lp] [] cpos) "append" apos2) [x] [] cpos2) none pos.line X.env = pure false := by rfl) :
    S1 X kr (.Expr (.Call (.Attribute (.Call (.Attribute o "setdefault" apos) [e, .List [] lp] [] cpos) "append" apos2) [x] [] cpos2) pos) (mSetdApp j mk mx) := fun B H env σ tm D r ok hm p => by
  obtain ⟨y, hy, h2⟩ := bind_ok hm
  obtain ⟨xd, hxd, h4⟩ := bind_ok h2
  split at h4
  · rename_i ks ds kk hj hkk
    split at h4
    · rename_i hc
      obtain ⟨hdl, hxi⟩ := hc
      obtain ⟨v, hv', rv⟩ := ok.slot hj
      refine wS_of (ps_expr (pe_bm F.plainAttrs_list F.slot_list_append F.type_list_append mt_append (pe_dsetd hx pe_sem (pe_lst pa_nil) mm) (pa_cons pe_sem pa_nil hs) hbase hfew hline hs hplain) hsw) ?_
      refine ⟨v, hv', ?_⟩
      cases rv with
      | @dk a kvs0 _ _ hv0 ek0 ra0 =>
        refine ⟨a, rfl, .inl ⟨kvs0, view_rd hv0⟩, hk B H env σ tm y _ ok hy fun u H1 x1 ok1 r1 => ?_⟩
        refine ⟨Nat.zero_le _, fun p0 hp0 => ?_⟩
        have ok2 : EnvOk B (upd H1 p0 (.lst [])) env σ ((.ref p0, 1, .lst []) :: tm) := EnvOk.newLst (vs := []) (ds := []) ok1 rfl hp0
        obtain ⟨q, hq, ok3⟩ := ok2.slotMu hj rfl
        rw [hv'] at hq
        cases hq
        have ok3s := ok3.perm (List.Perm.refl _)
        obtain ⟨kvs, hqq, ek, hlen, ok4⟩ := ok3.takeDk
        have hap : a ≠ p0 := fun z => by rw [z, upd_same] at hqq; cases hqq
        refine ⟨kvs, kk, hqq, keyOf_rp r1 hkk, by omega, fun v0 hv0 => ?_, fun hn => ?_⟩
        · -- the key is there
          split at h4
          · rename_i i hi
            split at h4
            · rename_i es hes
              split at h4
              · rename_i hel
                cases h4
                subst ek
                obtain ⟨v1, w1, w2⟩ := (idxK_val kvs kk).2 i hi
                rw [hv0] at w1
                cases w1
                have ok5 : EnvOk B (upd H1 p0 (.lst [])) (env.set j none) σ ((.ref a, 2, .dk (kvs.map (·.1)) ds) :: tm) := (ok3s.perm (List.Perm.swap _ _ _)).tail
                have hview : ∃ l, v0 = .ref l ∧ ∃ u, SqL X.K (upd H1 p0 (.lst [])) l u := by
                  have r5 := ok5.rp
                  cases r5 with
                  | @dk _ kvs2 _ _ hv5 ek5 ra5 =>
                    have ekv : kvs2 = kvs := by
                      have : view (upd H1 p0 (.lst [])) a = some (.dK kvs) := by unfold view; rw [hqq]; rfl
                      rw [this] at hv5; cases hv5; rfl
                    subst ekv
                    obtain ⟨d5, hd5, rd5⟩ := ra5.get' w2
                    rw [hes] at hd5
                    cases hd5
                    cases rd5 with
                    | @lst l ws _ hvl _ => exact ⟨l, rfl, ws, .inl (view_rd hvl)⟩
                obtain ⟨l, rfl, wss, hsq⟩ := hview
                refine ⟨.inl ⟨rfl, wss, hsq⟩, hxx B _ _ σ _ xd _ ok5 hxd fun w H2 x2 ok6 rw6 _ => ?_⟩
                obtain ⟨l2, ws, e1, e2, e3, e4⟩ := app_core (Q := fun _ H' => D.nx σ H') ok6 (fun kvs' h' => by
                  have := x2 _ _ hqq
                  rw [this] at h'; cases h'; exact w2) hes hel rw6 hxi (fun H' ok' => p σ H' (ok'.putBack hj hv'))
                exact ⟨l2, ws, w, e1, rfl, e2, e3, e4⟩
              · cases h4
            · cases h4
          · rename_i hi
            subst ek
            have := (idxK_val kvs kk).1 hi
            rw [hv0] at this; cases this
        · -- a new one
          split at h4
          · rename_i i hi
            subst ek
            obtain ⟨v1, w1, _⟩ := (idxK_val kvs kk).2 i hi
            rw [hn] at w1; cases w1
          · rename_i hi
            cases h4
            subst ek
            have ep : putK kvs kk (.ref p0) = kvs ++ [(kk, .ref p0)] := by
              unfold putK
              have : (kvs.any fun kv => decide (kv.1 = kk)) = false := by
                rw [valV_any, hn]; rfl
              rw [this]; rfl
            rw [ep]
            have ok5 : EnvOk B (del (upd H1 p0 (.lst [])) a) (env.set j none) σ (lev 1 ((kvs ++ [(kk, V.ref p0)]).map fun x : Key × V => x.2) (ds ++ [Mir.D.lst []]) ++ tm) := by
              rw [List.map_append, show ([(kk, V.ref p0)].map fun x : Key × V => x.2) = [V.ref p0] from rfl, lev_append [V.ref p0] [Mir.D.lst []] (by simpa using hlen), List.append_assoc]
              exact ok4
            have ok6 := ok5.newDk (p := a) (kvs := kvs ++ [(kk, V.ref p0)]) (by simp [hlen]) rfl del_self
            rw [upd_del] at ok6
            have hl0 : (upd (upd H1 p0 (.lst [])) a (.dK (kvs ++ [(kk, .ref p0)]))) p0 = some (.lst []) := by rw [upd_ne (Ne.symm hap), upd_same]
            refine ⟨.inl ⟨rfl, [], .inl (.inl hl0)⟩, hxx B _ _ σ _ xd _ ok6 hxd fun w H2 x2 ok7 rw7 _ => ?_⟩
            obtain ⟨l2, ws, e1, e2, e3, e4⟩ := app_core (Q := fun _ H' => D.nx σ H') (i := kvs.length) (es := []) (v := .ref p0) ok7 (fun kvs' h' => by
              have := x2 _ _ (show _ = some (HO.dK (kvs ++ [(kk, .ref p0)])) from upd_same)
              rw [this] at h'; cases h'; simp) (by rw [hlen]; simp) (by rw [sizeLine_eq]; decide) rw7 hxi (fun H' ok' => by
              have ok8 := ok'.putBack hj hv'
              have e9 : (ds ++ [Mir.D.lst []]).set kvs.length (Mir.D.lst ([] ++ [xd])) = ds ++ [Mir.D.lst [xd]] := by
                rw [hlen, List.set_append_right _ _ (Nat.le_refl _)]; simp
              rw [e9] at ok8
              have e10 : (kvs ++ [(kk, V.ref p0)]).map (·.1) = kvs.map (·.1) ++ [kk] := by simp
              rw [e10] at ok8
              exact p σ H' ok8)
            exact ⟨l2, ws, w, e1, rfl, e2, e3, e4⟩
    · cases h4
  · cases h4
end
end Mir

namespace Mir
open PySem PySem.Spec PyProof.Rows L2
section
variable {P : Program} {w : World} {A : Around} {E : Value → Shared → Prop} {s : Shared}
/-- a set as it is made -/
abbrev set0 (w : World) : Obj := { cls := .type "set", dict := none, data := .set #[] 0 (.fresh 0 0 (!w.params.followText "set-order")) }
/-- set(xs), xs a list of whole numbers -/
theorem set_of_list {l : Addr} {vs : Array Value} (ns : List Int) {Q : Value → Shared → Prop} (hh : A.handled = none) (hl : s.heap.IsList l vs) (hit : IntsAre vs.toList ns) (hb : ns.length + 1 < scanBound)
    (hQ : ∀ (h' : Heap) (tk c : Nat), SetR w h' s.heap.objs.size (fun j => decide (j ∈ ns)) c → c ≤ ns.length → (∀ b o, s.heap.get? b = some o → h'.get? b = some o) → Q (.ref s.heap.objs.size) { s with heap := h', toks := tk }) :
    wpAny (model P w) A (call (.type "set") [.ref l]) Q E s := by
  have sz : vs.size = ns.length := by have q := IntsAre.length hit; rwa [Array.length_toList] at q
  obtain ⟨c, tl, hmro⟩ := F.called_set.mro
  have hmade := F.called_set.made
  have hsub := F.called_set.sub
  refine wpAny_call (codeAny_of_tree (show wpAny _ _ (callAny (.type "set") _) _ _ _ from ?_))
  refine wpAny_pure ⟨Code.quiet_builtin _ (by decide +kernel), codeAny_builtin F.entry_type_call ?_⟩
  rw [Around.under_plain (weight_type_call_type "set" [.ref l] []) rfl]
  have h1 := F.called_set.notType
  have h2 := F.called_set.canCreate
  have hct := F.typeCall_set_1 (.ref l)
  repeat (any_goals (first | assumption | wp_step))
  refine codeAny_mono (code_set_led1 (.ref l) (E := E) (Q₁ := fun obj s₁ => obj = .ref s.heap.objs.size ∧ s₁ = { s with heap := s.heap.push (set0 w) }) ⟨rfl, rfl⟩) fun r s₁ hr => ?_
  cases r with
  | error e => exact hr
  | ok fl =>
    cases fl with
    | ret obj =>
      obtain ⟨rfl, rfl⟩ := hr
      have hS : (s.heap.push (set0 w)).get? s.heap.objs.size = some (set0 w) := Heap.get?_push_size _ rfl
      have hT : Shared.TypeIs { s with heap := s.heap.push (set0 w) } (.ref s.heap.objs.size) "set" := ⟨_, hS, rfl⟩
      have hli := F.called_set.init.lookup
      have hbi := F.called_set.init.bind (.ref s.heap.objs.size)
      repeat (any_goals (first | assumption | wp_step))
      refine codeAny_mono (codeAny_call_builtin (R := wants (fun r s₂ => r = .none ∧ ∃ h' tk c, s₂ = { s with heap := h', toks := tk } ∧ SetR w h' s.heap.objs.size (fun j => decide (j ∈ ns)) c ∧ c ≤ ns.length ∧ ∀ b o, s.heap.get? b = some o → h'.get? b = some o) E) F.called_set.init.plain F.entry_set_init (check_set_init_1 hT ?_)) fun r₂ s₂ hr₂ => ?_
      · obtain ⟨ol, hol, hcl, nl, hdl⟩ := hl
        obtain ⟨ocls, odict, odata, oslots⟩ := ol
        simp only at hcl hdl
        subst hcl; subst hdl
        have hol' := Heap.get?_push_of_some (set0 w) hol
        have hsls := F.sub_list_set
        have hslf := F.sub_list_frozenset
        have hne : (Value.type "list" == Value.type "dict") = false := by decide
        have hl1 : (s.heap.push (set0 w)).IsList l vs := ⟨_, hol', rfl, nl, rfl⟩
        unfold Builtin.«set.__init__» noKeywords Builtin.Frozenset.updateFrom
        generalize hPI : pyIter = PI
        wp_walk
        subst hPI
        refine wpAny_pyIter_list hl1 (wpAny_bind (wpAny_runValue ?_))
        have hlS : l < s.heap.objs.size := Heap.lt_size hol
        have hh3 : A.in1.in1.in1.handled = none := by simp [hh]
        have hsz : (s.heap.push (set0 w)).objs.size = s.heap.objs.size + 1 := Heap.size_push ..
        have hneI : l ≠ (s.heap.push (set0 w)).objs.size := by rw [hsz]; exact Nat.ne_of_lt (Nat.lt_succ_of_lt hlS)
        have hSf : s.heap.objs.size ∉ [(s.heap.push (set0 w)).objs.size, l] := by
          rw [hsz]; simp only [List.mem_cons, List.not_mem_nil, or_false, not_or]; exact ⟨Nat.ne_of_lt (Nat.lt_succ_self _), Nat.ne_of_gt hlS⟩
        have hval : ∀ (i : Nat) (v : Value), vs[i]? = some v → ∃ k t, ns[i]? = some k ∧ v = .int k t := fun i v hv => by
          have hi : i < ns.length := by rw [← sz]; exact (Array.getElem?_eq_some_iff.mp hv).1
          obtain ⟨t, e⟩ := PyProof.Rows.IntsAre.int_at hit i v (by rw [Array.getElem?_toList]; exact hv)
          exact ⟨ns[i], t, List.getElem?_eq_getElem hi, by rw [e, List.getD_eq_getElem?_getD, List.getElem?_eq_getElem hi]; rfl⟩
        refine set_update_ints ((Walks.list hh3 _ l hneI vs).toS) s.heap.objs.size hSf ns sz hb hval (vs.size - 0) 0 _ (by omega) (Nat.zero_le _) ⟨⟨_, Heap.get?_push_size _ rfl, rfl, rfl⟩, (hl1.push _)⟩ ?hS0 ?hR
        case hS0 => exact ⟨0, Nat.le_refl 0, setR_new_at (Heap.get?_push_of_some _ hS)⟩
        case hR =>
          intro s' c' hm hc' hS'
          obtain ⟨h', g2, d', tk', os'⟩ := s'
          obtain rfl : g2 = s.gens := hm.gens
          obtain rfl : d' = s.drawn := hm.drawn
          obtain rfl : os' = s.os := hm.os
          refine (show wpAny _ _ _ _ _ _ from wpAny_pure (show wpAny _ _ (ret Value.none) _ _ _ from ?_))
          rw [sz] at hc'
          refine wpAny_pure ⟨rfl, h', tk', c', rfl, hS', hc', fun b o e => ?_⟩
          have hb0 : b < s.heap.objs.size := Heap.lt_size e
          exact hm.heap b o (by rw [hsz]; simp only [List.mem_cons, List.not_mem_nil, or_false, not_or]; exact ⟨Nat.ne_of_lt hb0, Nat.ne_of_lt (Nat.lt_succ_of_lt hb0)⟩) (Heap.get?_push_of_some _ (Heap.get?_push_of_some _ e))
      · cases r₂ with
        | error e => exact hr₂
        | ok fl₂ =>
          cases fl₂ with
          | ret r =>
            obtain ⟨rfl, h', tk, c, rfl, hS', hcn, hk'⟩ := hr₂
            repeat (any_goals (first | assumption | wp_step))
            exact hQ _ _ _ hS' hcn hk'
          | _ => exact hr₂.elim
    | _ => exact hr.elim
end
end Mir
namespace Mir
open PySem PySem.Spec L2
def rSetOfI (K : PySem.W.Frag) (w : World) : List V → Hp → VK → Prop := fun xs H Q => ∃ (a : Addr) (ns : List Int), xs = [.ref a] ∧ SqL K H a (ns.map V.int) ∧ ns.length < 60 ∧ ∀ p c, H p = none → c ≤ ns.length → Q (.ref p) (upd H p (SetO w p (fun j => decide (j ∈ ns)) c))
theorem cr_setOfI {X : Cx} (hc : X.calm = true) : CallR X (.type "set") (rSetOfI X.K X.w) := by
  intro pins s σ H xs us Q I r h
  obtain ⟨a, ns, rfl, hs, h60, q⟩ := h
  obtain ⟨its, rv, hl, _⟩ := I.list hs
  rw [Vals.ref1 r]
  refine set_of_list ns (I.ok.hd hc) hl.isList rv.ints (by unfold scanBound; omega) fun h' tk c R hcn k => ?_
  exact ⟨.ref s.heap.objs.size, upd H s.heap.objs.size (SetO X.w s.heap.objs.size (fun j => decide (j ∈ ns)) c), I.laid (t' := tk) k (Nat.le_refl _) (setO_new R), rfl, q _ c (I.hok.fresh (Nat.le_refl _)) hcn⟩
/-- one of each -/
def dedup {α : Type} [DecidableEq α] : List α → List α
  | [] => []
  | x :: xs => if x ∈ xs then dedup xs else x :: dedup xs
theorem dedup_mem {α : Type} [DecidableEq α] {x : α} : ∀ {xs : List α}, x ∈ dedup xs ↔ x ∈ xs
  | [] => Iff.rfl
  | y :: ys => by
    unfold dedup
    split
    · rename_i h
      rw [dedup_mem (xs := ys), List.mem_cons]
      exact ⟨.inr, fun z => z.elim (fun e => e ▸ h) id⟩
    · rw [List.mem_cons, List.mem_cons, dedup_mem (xs := ys)]
theorem dedup_nodup {α : Type} [DecidableEq α] : ∀ xs : List α, (dedup xs).Nodup
  | [] => List.nodup_nil
  | y :: ys => by
    unfold dedup
    split
    · exact dedup_nodup ys
    · rename_i h
      exact List.nodup_cons.mpr ⟨fun z => h (dedup_mem.mp z), dedup_nodup ys⟩
theorem strict_nodup {xs : List Int} (h : xs.Pairwise (· < ·)) : xs.Nodup := h.imp fun h e => by omega
theorem strict_unique {xs ys : List Int} (h1 : xs.Pairwise (· < ·)) (h2 : ys.Pairwise (· < ·)) (h : ∀ x, x ∈ xs ↔ x ∈ ys) : xs = ys :=
  sorted_unique ((List.perm_ext_iff_of_nodup (strict_nodup h1) (strict_nodup h2)).mpr h) (h1.imp fun h => by omega) (h2.imp fun h => by omega)
theorem sortI_strict {xs : List Int} (h : xs.Nodup) : (sortI xs).Pairwise (· < ·) := by
  have h1 := sortI_sorted xs
  have h2 : (sortI xs).Nodup := (sortI_perm xs).nodup_iff.mpr h
  exact (h1.and h2).imp fun ⟨a, b⟩ => by omega
def gSortSet : D → Res D
  | .lst ds => match intsD? ds with
    | some is => if is.length < 60 then .ok (.lst ((sortI (dedup is)).map D.int)) else .bad
    | none => .bad
  | _ => .bad
section
variable {X : Cx} {e : Expr} {m : Env → Res D} {k : Nat} {pos p p2 pos2 : Pos}
/-- sorted(set(xs)) of whole numbers -/
theorem se_sortSetI (hc : X.calm = true) (hg : Gl X "sorted") (hm0 : X.mg "sorted" = none) (hg2 : Gl X "set") (hm2 : X.mg "set" = none) (h : SB X e m)
    (he : starEach [.Call (.Name "set" p2) [e] [] pos2] X.env = (false, eval (.Call (.Name "set" p2) [e] [] pos2) X.env) :: starEach [] X.env := by rfl) (hpl : (backTo pos (starEach [] X.env)).any (·.1) = false := by rfl)
    (he2 : starEach [e] X.env = (false, eval e X.env) :: starEach [] X.env := by rfl) (hpl2 : (backTo pos2 (starEach [] X.env)).any (·.1) = false := by rfl) :
    SE X (k + 1) [] (.Call (.Name "sorted" p) [.Call (.Name "set" p2) [e] [] pos2] [] pos) (fun env => m env >>= gSortSet) := fun B H env σ tm d Q ok hm q => by
  obtain ⟨x, hx, h2⟩ := bind_ok hm
  refine wE_of (pe_callB (cr_sortedSet hc) hg hm0 (by decide +kernel) (pa_cons (pe_callTy (cr_setOfI hc) hg2 hm2 (by decide +kernel) (pa_cons pe_sem pa_nil he2) (by decide) (by decide) he2 hpl2) pa_nil he) (by decide) (by decide) he hpl) (h B H env σ tm _ _ ok hx fun v H1 x1 ok1 r => ?_)
  cases r with
  | @lst a vs ds hv ra =>
    unfold gSortSet at h2
    dsimp only at h2
    split at h2
    · rename_i is hb
      split at h2
      · rename_i hl
        cases h2
        have e1 := intsD_rp ra hb
        subst e1
        refine ⟨a, is, rfl, .inl (view_rd hv), hl, fun p c hp hcn => ?_⟩
        refine ⟨p, _, c, rfl, upd_same, by omega, fun ns p' hpw hmem hlen hp' => ?_⟩
        have hpp : p' ≠ p := fun z => by rw [z, upd_same] at hp'; cases hp'
        have en : ns = sortI (dedup is) := strict_unique hpw (sortI_strict (dedup_nodup is)) fun x => by
          rw [hmem, (sortI_perm _).mem_iff, dedup_mem]; simp
        subst en
        have ok2 : EnvOk B (upd H1 p (SetO X.w p (fun j => decide (j ∈ is)) c)) env σ tm := by
          have := EnvOk.grow (H' := upd H1 p (SetO X.w p (fun j => decide (j ∈ is)) c)) ok1 (up_keep hp) ok1.bnone [] fun G g => ⟨G, [], fun _ _ e => e, fun _ _ => rfl, g.newMu hp rfl rfl, .nil, List.nodup_nil, fun p hm => nomatch hm⟩
          exact this
        have hall : RpAll (view (upd H1 p (SetO X.w p (fun j => decide (j ∈ is)) c))) ((sortI (dedup is)).map V.int) ((sortI (dedup is)).map D.int) := by
          generalize sortI (dedup is) = zs
          induction zs with
          | nil => exact .nil
          | cons z zs ih => exact .cons (.int z) ih
        have him : immAll ((sortI (dedup is)).map D.int) = true := by simp
        exact q _ _ ((x1.trans (Ext.upd hp)).trans (Ext.upd hp')) ((ok2.levs (k := k) hall him).newLst (by simp) hp')
      · cases h2
    · cases h2
  | _ => cases h2
end
end Mir

namespace Mir
open PySem PySem.Spec L2
/-! ### insert into a drawing's row; groups -/
theorem mBins_D {j i : Nat} {mi mp mv : Mir.Env → Res D} {mr : Mir.Env → Res Ctl} {env : Mir.Env} {ds : Drw} {a p : Nat} {r : List T3} {x : T3} (hj : env[j]? = some (some (2, encD ds))) (hi : mi env = .ok (.int a)) (hr : ds[a]? = some r) (hil : i < env.length) (hij : i ≠ j)
    (hp : mp ((env.set j none).set i (some (1, encR r))) = .ok (.int p)) (hv : mv ((env.set j none).set i (some (1, encR r))) = .ok (t3 x)) (hpl : p ≤ 1000000) (hrl : r.length ≤ 1000000) :
    mBins j i 0 mi mp mv mr env = mr ((env.set i none).set j (some (2, encD (ds.set a (r.take p ++ [x] ++ r.drop p))))) := by
  have hal := (List.getElem?_eq_some_iff.mp hr).1
  have h1 : atL env j 2 = .ok (ds.map encR) := atL_D ds env j 2 hj
  have h2 : ixN (ds.map encR).length (a : Int) = some a := by rw [List.length_map]; exact ixN_nat hal
  have h3 : (ds.map encR)[a]? = some (.lst (r.map t3)) := by rw [List.getElem?_map, hr]; rfl
  unfold mBins
  rw [hi, ok_bind, show (0 : Nat) + 2 = 2 from rfl, h1, ok_bind]
  dsimp only
  rw [h2]
  dsimp only
  rw [h3]
  dsimp only
  rw [if_pos ⟨hil, hij⟩, show (0 : Nat) + 1 = 1 from rfl, show D.lst (r.map t3) = encR r from rfl, hp, ok_bind, hv, ok_bind]
  dsimp only
  rw [if_pos ⟨by omega, by omega, by rw [List.length_map]; exact sizeLine_lt (by omega), rfl⟩]
  congr 3
  unfold encD
  rw [List.map_set]
  congr 3
  simp [encR]
abbrev Grp := List (Int × List Int)
def encL (l : List Int) : D := .lst (l.map D.int)
def addG (G : Grp) (v t : Int) : Grp := if v ∈ G.map (·.1) then G.map fun x => if x.1 = v then (x.1, x.2 ++ [t]) else x else G ++ [(v, [t])]
theorem idxK_enc : ∀ (G : Grp) (v : Int), idxK (G.map fun x => (Sum.inl x.1 : Key)) (Sum.inl v) = if v ∈ G.map (·.1) then some ((G.map (·.1)).idxOf v) else none
  | [], v => rfl
  | x :: G, v => by
    show (if (Sum.inl x.1 : Key) = Sum.inl v then some 0 else (idxK (G.map fun x => (Sum.inl x.1 : Key)) (Sum.inl v)).map (· + 1)) = _
    rw [idxK_enc G v]
    by_cases e : x.1 = v
    · subst e; simp
    · have e2 : ¬ v = x.1 := fun z => e z.symm
      have e3 : ¬ (Sum.inl x.1 : Key) = Sum.inl v := fun z => e (Sum.inl.inj z)
      rw [if_neg e3]
      by_cases h : v ∈ G.map (·.1)
      · rw [if_pos h, if_pos (by rw [List.map_cons]; exact List.mem_cons_of_mem _ h), List.map_cons, List.idxOf_cons]
        have : (x.1 == v) = false := by simpa using e
        rw [this]; rfl
      · rw [if_neg h, if_neg (by rw [List.map_cons, List.mem_cons]; exact fun z => z.elim e2 h)]; rfl
theorem addG_set : ∀ (G : Grp) (v t : Int), (G.map (·.1)).Nodup → v ∈ G.map (·.1) → ∃ l, G[(G.map (·.1)).idxOf v]? = some (v, l) ∧ (G.map fun x => encL x.2).set ((G.map (·.1)).idxOf v) (encL (l ++ [t])) = (G.map fun x => if x.1 = v then (x.1, x.2 ++ [t]) else x).map fun x => encL x.2
  | [], v, t, _, h => by simp at h
  | x :: G, v, t, hn, h => by
    rw [List.map_cons, List.nodup_cons] at hn
    by_cases e : x.1 = v
    · subst e
      refine ⟨x.2, by simp, ?_⟩
      have h5 : (G.map fun y => if y.1 = x.1 then (y.1, y.2 ++ [t]) else y) = G := by
        conv => rhs; rw [← List.map_id G]
        refine List.map_congr_left fun y hy => ?_
        rw [if_neg fun z : y.1 = x.1 => hn.1 (z ▸ List.mem_map_of_mem hy)]; rfl
      simp [h5]
    · have hv : v ∈ G.map (·.1) := by
        rw [List.map_cons, List.mem_cons] at h
        exact h.elim (fun z => absurd z.symm e) id
      obtain ⟨l, h1, h2⟩ := addG_set G v t hn.2 hv
      have he : (x.1 == v) = false := by simpa using e
      refine ⟨l, ?_, ?_⟩
      · rw [List.map_cons, List.idxOf_cons, he]; simpa using h1
      · rw [List.map_cons, List.map_cons, List.idxOf_cons, he, List.map_cons, List.map_cons, if_neg e]
        simp only [cond_false, List.set_cons_succ]
        rw [h2]
theorem mSetdApp_G {j : Nat} {mk mx : Mir.Env → Res D} {env : Mir.Env} {G : Grp} {v t : Int} (hj : env[j]? = some (some (2, encK encL G))) (hk : mk env = .ok (.int v)) (hx : mx (env.set j none) = .ok (.int t)) (hn : (G.map (·.1)).Nodup) (hl : G.length ≤ 1000) (hll : ∀ x ∈ G, x.2.length ≤ 1000) :
    mSetdApp j mk mx env = .ok (.nx (env.set j (some (2, encK encL (addG G v t))))) := by
  unfold mSetdApp
  rw [hk, ok_bind, hx, ok_bind, hj]
  show (if (G.map fun x => encL x.2).length < sizeLine ∧ _ then (match idxK (G.map fun x => (Sum.inl x.1 : Key)) (Sum.inl v) with | some i => _ | none => _) else _) = _
  rw [if_pos ⟨by rw [List.length_map]; exact sizeLine_lt (by omega), rfl⟩, idxK_enc]
  by_cases h : v ∈ G.map (·.1)
  · obtain ⟨l, h1, h2⟩ := addG_set G v t hn h
    rw [if_pos h]
    dsimp only
    rw [List.getElem?_map, h1]
    show (if (l.map D.int).length < sizeLine then Res.ok (Ctl.nx (env.set j (some (2, D.dk _ ((G.map fun x => encL x.2).set _ (.lst (l.map D.int ++ [.int t]))))))) else _) = _
    rw [if_pos (by rw [List.length_map]; exact sizeLine_lt (by have := hll _ (List.mem_of_getElem? h1); dsimp only at this; omega))]
    have e1 : D.lst (l.map D.int ++ [.int t]) = encL (l ++ [t]) := by unfold encL; simp
    rw [e1, h2]
    unfold addG
    rw [if_pos h]
    have e2 : (G.map fun x => (Sum.inl x.1 : Key)) = (G.map fun x => if x.1 = v then (x.1, x.2 ++ [t]) else x).map fun x => (Sum.inl x.1 : Key) := by
      rw [List.map_map]
      refine List.map_congr_left fun x _ => ?_
      by_cases e : x.1 = v <;> simp [e]
    rw [e2]; rfl
  · rw [if_neg h]
    dsimp only
    unfold addG
    rw [if_neg h]
    unfold encK encL
    simp
theorem dVals_G (G : Grp) : dVals (encK encL G) = .ok (G.map fun x => encL x.2) := by
  show (if (G.map fun x => (Sum.inl x.1 : Key)).length = (G.map fun x => encL x.2).length then Res.ok _ else .bad) = _
  rw [if_pos (by simp)]
theorem gSort_L (xs : List (List Int)) : gSort (.lst (xs.map encL)) = .ok (.lst ((sorted xs).map encL)) := gSort_enc xs (by decide) (by
  have := sortB_lst (xs.map fun l => l.map D.int)
  rw [List.map_map] at this
  exact this)
theorem sorted_asc {xs : List Int} (h : xs.Pairwise (· < ·)) : sorted xs = xs := sorted_eq (.refl _) (h.imp fun {a b} h => by show decide (b < a) = false; simp; omega)
end Mir

namespace Mir
open PySem PySem.Spec L2
/-! ### for a, b in call().items(): dicts of tuple keys -/
def ItiT (d : Addr) (o : Obj) (kvs : List (List Key × V)) : It :=
  ⟨fun i H => H d = some (.frz o (.dT kvs)) ∧ i < kvs.length, fun i H x H' => ∃ (T : Addr) (k : List Key) (v : V) (q : Addr), kvs[i]? = some (k, v) ∧ H q = some (.tup (k.map kV)) ∧ x = .ref T ∧ H T = none ∧ H' = upd H T (.tup [.ref q, v]), fun i H => H d = some (.frz o (.dT kvs)) ∧ kvs.length ≤ i⟩
theorem frzT2 {X : Cx} {pins : List (Addr × Obj)} {σ : St} {H : Hp} {s : Shared} {d : Addr} {o : Obj} {kvs : List (List Key × V)} (I : Inv X pins σ H s) (h : H d = some (.frz o (.dT kvs))) :
    (d == sysModules) = false ∧ s.heap.get? d = some o ∧ o.ExactDict ∧ ∃ (es : Array DictEntry) (ep : Nat), o.data = .dict es ep ∧ es.size = kvs.length ∧
      ∀ (i : Nat) (k : List Key) (v : V), kvs[i]? = some (k, v) → ∃ (hi : i < es.size) (q : Addr), es[i].key = .ref q ∧ H q = some (.tup (k.map kV)) ∧ RelV v es[i].val := by
  obtain ⟨hd, z, hs, xs, pr, o', es, ep, ho, hx, hdt, he, _⟩ := I.hok d _ h
  rw [hd] at ho
  cases ho
  refine ⟨hs, hd, hx, es, ep, hdt, ?_, fun i k v e => ?_⟩
  · have l1 : es.size = xs.length := size_of_entries he
    have l2 : kvs.length = xs.length := Paired.length pr
    omega
  · obtain ⟨b, hb, e1, e2, e3⟩ := paired_get pr e
    have q := entry_at he i
    rw [hb] at q
    obtain ⟨hi, q2⟩ := Array.getElem?_eq_some_iff.mp q
    refine ⟨hi, b.2.1, ?_, e2, ?_⟩
    · rw [q2]; rfl
    · rw [q2]; exact e3
section
variable {P : Program} {w : World} {K : PySem.W.Frag} {tg : Expr} {d : Addr} {o : Obj} {es : Array DictEntry} {ep : Nat}
theorem turn_itemsT {kvs : List (List Key × V)} {elts : List Expr} {kk : Nat} {tpos : Pos} (it : Addr) (hod : o.data = .dict es ep) :
    Turn P w K (.Tuple elts kk tpos) (ItiT d o kvs) [it] it (fun i h => ∃ ok ov, IsItemIter h it d i kvs.length ep ok ov) where
  mem := by simp
  obj := fun i h st b hb => by
    have e : b = it := by simpa using hb
    subst e
    obtain ⟨ok, ov, e⟩ := st
    exact ⟨_, e, fun v z => nomatch z⟩
  keep := fun i h h' st k => let ⟨ok, ov, e⟩ := st; ⟨ok, ov, k it (by simp) _ e⟩
  item := by
    intro X hP hw hK hc i pins s σ H E I hf st hg
    subst hP hw hK
    obtain ⟨hd, hi⟩ := hg
    obtain ⟨hs, hgd, hx, es', ep', hdt, hsz, ent⟩ := frzT2 I hd
    obtain ⟨rfl, rfl⟩ := dict_ep hod hdt
    obtain ⟨⟨k, v⟩, hkv⟩ : ∃ p, kvs[i]? = some p := ⟨kvs[i], List.getElem?_eq_getElem hi⟩
    obtain ⟨hies, q, hq, hHq, rv⟩ := ent i k v hkv
    obtain ⟨ok, ov, he⟩ := st
    rw [← hsz] at he
    have hlt : it < s.heap.objs.size := Heap.lt_size he
    refine wpAny_pyNext_items_item_raw he ⟨o, hgd, hx, hod⟩ hies fun h' ho hT hz hk => ?_
    refine ⟨_, rfl, wpAny_letOwnedTupleGo_items (s := { s with heap := h' }) ho fun h'' he' sb => ?_⟩
    have hT2 : h''.get? s.heap.objs.size = some { cls := .type "tuple", data := .seq #[es'[i].key, es'[i].val] } := (sb.2 _ (Nat.ne_of_gt hlt)).trans hT
    have new : ObjOk X.prog X.w (upd H s.heap.objs.size (.tup [.ref q, v])) h'' s.heap.objs.size (.tup [.ref q, v]) :=
      ⟨by show 2 ≤ sizeLine; decide, [es'[i].key, es'[i].val], .cons (show es'[i].key = _ from hq) (.cons rv .nil), ⟨_, hT2, rfl, _, rfl⟩⟩
    have I1 : Inv X pins σ (upd H s.heap.objs.size (.tup [.ref q, v])) { s with heap := h'' } :=
      I.turnedNew (t' := s.toks) (ch := [it]) (fun b ob hb e => (sb.2 b (by simpa using hb)).trans (hk b ob (by simpa using hb) e)) hf (Nat.le_refl _) new
    refine ⟨.ref s.heap.objs.size, _, I1, rfl, ⟨_, k, v, q, hkv, hHq, rfl, I.hok.fresh (Nat.le_refl _), rfl⟩, ⟨es'[i].key, es'[i].val, ?_⟩, fun b hb => ?_⟩
    · rw [← hsz]; exact he'
    · have e : b = it := by simpa using hb
      rw [e, upd_ne (Nat.ne_of_lt hlt)]
      exact (hf it (by simp)).1
  done := by
    intro X hP hw hK hc i pins s σ H E I hf st hg
    subst hP hw hK
    obtain ⟨hd, hi⟩ := hg
    obtain ⟨f0, f1, f2, f3, f4, f5⟩ := hf it (by simp)
    obtain ⟨hs, hgd, hx, es', ep', hdt, hsz, ent⟩ := frzT2 I hd
    obtain ⟨rfl, rfl⟩ := dict_ep hod hdt
    obtain ⟨ok, ov, he⟩ := st
    rw [← hsz] at he
    exact wpAny_pyNext_items_end_raw (I.ok.hd hc) he ⟨o, hgd, hx, hod⟩ (by omega) fun h' eb => ⟨rfl, I.turned (t' := s.toks) (fun b ob hb e => eb b ob hb e) f0 f1 f3 f4 f5⟩
  self := fun A i s Q E st h => let ⟨_, _, e⟩ := st; PySem.W.kcp_self e h
end
def iItemsT (td : TE) : TI := fun σ H R => td σ H fun x H1 => ∃ d kvs, x = .ref d ∧ H1 d = some (.dT kvs) ∧ ∀ o, R (ItiT d o kvs) (upd H1 d (.frz o (.dT kvs)))
section
variable {X : Cx} {tg e : Expr} {td : TE} {apos cpos : Pos}
theorem pi_itemsT {elts : List Expr} {kk : Nat} {tpos : Pos} (he : PE X e td) (hbase : attributeBase e "items" X.env (eval e X.env) = eval e X.env := by rfl) (hline : (apos.endLine == cpos.line) = true := by rfl) :
    PI X (.Tuple elts kk tpos) (.Call (.Attribute e "items" apos) [] [] cpos) (iItemsT td) := by
  refine ⟨fun pins s σ H R I h => ?_⟩
  refine wpAny_Call_method (T := "dict") (id := "dict.items") hbase rfl hline F.plainAttrs_dict F.slot_dict_items F.type_dict_items (thn (he.run pins s σ H _ I h) fun u s1 ⟨x, H1, I1, rx, d, kvs, ex, hd0, q0⟩ => ?_)
  subst ex
  obtain rfl : u = Value.ref d := rx
  obtain ⟨o, I1⟩ := I1.lock hd0 trivial
  have hd : (upd H1 d (.frz o (.dT kvs))) d = some (.frz o (.dT kvs)) := upd_same
  have q := q0 o
  obtain ⟨hs, hgd, hx, es, ep, hdt, hsz, ent⟩ := frzT2 I1 hd
  have hraw : s1.heap.DictRaw d es ep := ⟨o, hgd, hx, hdt⟩
  refine ⟨hraw.typeIs, fun a ea => by cases ea; exact ⟨o, hgd, hx.2.1⟩, ?_⟩
  have I2 : Inv X pins σ (upd H1 d (.frz o (.dT kvs))) { s1 with heap := s1.heap.push { cls := .type "dict_items", data := .fields #[.ref d] } } := I1.kept (t' := s1.toks) fun b ob q => Heap.get?_push_of_some _ q
  have fin : wpAny (model X.prog X.w) X.A (pyIter (.ref s1.heap.objs.size)) (PIE X pins σ (.Tuple elts kk tpos) R) X.xe { s1 with heap := s1.heap.push { cls := .type "dict_items", data := .fields #[.ref d] } } := by
    refine wpAny_pyIter_items_raw (d := d) ⟨_, Heap.get?_push_size _ rfl, rfl, rfl⟩ (hraw.at fun _ e => Heap.get?_push_of_some _ e) (pi_one (tk := s1.toks) I2 _ (turn_itemsT _ hdt) ⟨.none, .none, ?_⟩ q)
    rw [hsz]
    exact Heap.get?_push_size _ rfl
  show wpAny _ _ (callWith cpos (.builtin "dict.items") [.ref d] [] []) _ X.xe s1
  exact method_meetsIn F.slot_dict_items F.entry_dict_items rfl (PySem.evalArgs_none ⟨rfl, hraw.typeIs, F.args_dict_items_1 _, _, meets_dict_items_raw d hs, ⟨es, ep, hraw⟩, fin⟩)
end
def dItemsT : D → Res (List D)
  | .dt ks ds => if ks.length = ds.length then .ok (List.zipWith (fun k d => .tup [.tup (k.map kD), d]) ks ds) else .bad
  | _ => .bad
theorem EnvOk.ownNone {B : Bs} {H : Hp} {env : Env} {σ : St} {tm : List Hold} {p : Addr} {k : Nat} {ks : List (List Key)} {ds : List D} (h : EnvOk B H env σ ((.ref p, k + 1, .dt ks ds) :: tm)) : B p = none := by
  obtain ⟨G, f, g, hg, hf, hr, nd, hq⟩ := EnvOk.apart (l := [(.ref p, k + 1, .dt ks ds)]) h
  cases hf with
  | @cons _ _ _ _ f1 g1 h1 hn =>
    cases hn
    cases h1 with
    | sh hz r => rcases hz with hz | hz <;> cases hz
    | dt e ek r => exact (hq p (by simp)).1
section
variable {X : Cx} {o : Expr} {m : Env → Res D} {kr : Nat} {pos cpos apos : Pos} {m1 : Env → Res Ctl}
theorem s_forItemsT {body : List Stmt} {t : Nat → D → Env → Res Env} {fg is : List Nat} {elts : List Expr} {kk : Nat} {tpos : Pos} (hp : PassesOwn (model X.prog X.w) X.A X.env X.xe) (hc : X.calm = true) (ho : SE X 1 [] o m) (hg : STg X (.Tuple elts kk tpos) is t) (hb : SS X kr body m1)
    (hs : ∀ x, foldedSetIterable (.Call (.Attribute o "items" apos) [] [] cpos) X.env x = pure x := by intro _; rfl) (hbase : attributeBase o "items" X.env (eval o X.env) = eval o X.env := by rfl) (hline : (apos.endLine == cpos.line) = true := by rfl) :
    S1 X kr (.For (.Tuple elts kk tpos) (.Call (.Attribute o "items" apos) [] [] cpos) body [] pos) (mFor (fun env => m env >>= dItemsT) t m1 fg) := fun B H env σ tm En r ok hm p => by
  obtain ⟨ds, hds, hl⟩ := bind_ok hm
  obtain ⟨dd, hdd, h2⟩ := bind_ok hds
  unfold dItemsT at h2
  split at h2
  · rename_i ks vs
    split at h2
    · rename_i hlen
      cases h2
      refine wS_of (ps_for hp hc (pi_itemsT pe_sem hbase hline) pg_sem pss_sem hs) ?_
      refine ho B H env σ tm _ _ ok hdd fun v H1 x1 ok1 => ?_
      obtain ⟨d, rfl⟩ := ok1.isRef rfl
      obtain ⟨kvs, hH, ek, hkl, _⟩ := ok1.takeDt
      have hbn := ok1.ownNone
      refine ⟨d, kvs, rfl, hH, fun od => ?_⟩
      have ok2 : EnvOk B H1 env σ ((.ref d, 0, .dt ks vs) :: tm) := ok1.freeze
      have hvw : view H1 d = some (.dT kvs) := by unfold view; rw [hH]; rfl
      have ok3 : EnvOk (pinB B d (.frz od (.dT kvs)) (.dT kvs)) (upd H1 d (.frz od (.dT kvs))) env σ ((.ref d, 0, .dt ks vs) :: tm) := (ok2.dup).pin hvw rfl rfl
      have un : ∀ {H' : Hp} {env' : Env} {σ' : St} {tm' : List Hold}, EnvOk (pinB B d (.frz od (.dT kvs)) (.dT kvs)) H' env' σ' tm' → EnvOk B H' env' σ' tm' := fun {H' env' σ' tm'} ok' => by
        have hp' := ok'.pinned
        have := ok'.unpin (o' := .frz od (.dT kvs)) (fun z e => by rw [hbn] at e; cases e) (fun e => absurd hbn e) (fun _ => .inr trivial) rfl rfl rfl
        rw [upd_self' hp'] at this
        exact this
      have p1 : Post kr (pinB B d (.frz od (.dT kvs)) (.dT kvs)) tm En r := by
        cases r with
        | nx e => exact fun σ' H' ok' => p σ' _ (un ok')
        | bk e => exact fun σ' H' ok' => p σ' _ (un ok')
        | ct e => exact fun σ' H' ok' => p σ' _ (un ok')
        | rt e => exact fun v H' ok' => p v _ (un ok')
      refine for_core hg hb (ex := [(.ref d, 0, .dt ks vs)]) ok3 (ds := List.zipWith (fun k d => D.tup [.tup (k.map kD), d]) ks vs) (fun i H2 env2 σ2 tm2 ok4 => ?_) hl p1
      have hd2 : H2 d = some (.frz od (.dT kvs)) := ok4.pinned
      subst ek
      have hkl2 : kvs.length = vs.length := by simpa using hlen
      have hll : (List.zipWith (fun k d => D.tup [.tup (k.map kD), d]) (kvs.map (·.1)) vs).length = kvs.length := by simp [hkl2]
      rw [hll]
      refine ⟨fun ei => ⟨hd2, by omega⟩, fun hi => ⟨⟨hd2, hi⟩, fun x H3 hy => ?_⟩⟩
      obtain ⟨T, k, v, q, hkv, hq, rfl, hT, rfl⟩ := hy
      have g1 : (kvs.map (·.1))[i]? = some k := by rw [List.getElem?_map, hkv]; rfl
      have g2 : (kvs.map (·.2))[i]? = some v := by rw [List.getElem?_map, hkv]; rfl
      have hvi : vs[i]? = some vs[i] := List.getElem?_eq_getElem (by omega)
      obtain ⟨p', o', ws, ev, hvw2, hwl, _, _, _, f3, ra2, ok5⟩ := EnvOk.items (v := .ref d) (tm := tm2) ok4 (ds := vs) (.inr (.inr (.inr ⟨_, rfl⟩)))
      cases ev
      obtain ⟨kvs', e1, e2, e3⟩ := f3 _ rfl
      have ek2 : kvs' = kvs := by
        subst e1
        unfold view at hvw2; rw [hd2] at hvw2
        have h9 : HO.dT kvs = HO.dT kvs' := Option.some.inj hvw2
        injection h9 with h10
        exact h10.symm
      subst ek2
      subst e3
      obtain ⟨l, hp'⟩ := lev_get (k := 0) g2 hvi
      have ok6 : EnvOk (pinB B d (.frz od (.dT kvs')) (.dT kvs')) H2 env2 σ2 ((v, 0, vs[i]) :: ((V.ref d, 0, D.dt (kvs'.map (·.1)) vs) :: tm2)) := by
        refine EnvOk.less (l := l) (ok5.perm ((hp'.append_right _).trans ?_))
        exact (List.perm_middle (l₁ := l) (a := (v, 0, vs[i])) (l₂ := (V.ref d, 0, D.dt (kvs'.map (·.1)) vs) :: tm2)).symm
      have rk : Rp (view H2) (.ref q) (.tup (k.map kD)) := .tup (vs := k.map kV) (by unfold view; rw [hq]; rfl) (kDs_rp k)
      have ok7 := ok6.imm (k := 0) rk (show immAll _ = true from kDs_imm k)
      have ok8 := (EnvOk.newTup (k := 0) (vs := [.ref q, v]) (ds := [.tup (k.map kD), vs[i]]) (tm := (V.ref d, 0, D.dt (kvs'.map (·.1)) vs) :: tm2) ok7 rfl hT).freeze
      exact ⟨_, by rw [List.getElem?_zipWith, g1, hvi], Ext.upd hT, ok8⟩
    · cases h2
  · cases h2
end
end Mir

namespace Mir
open PySem PySem.Spec L2
/-! ### d.setdefault(k, []).append(x): keys that are tuples -/
section
variable {X : Cx} {pins : List (Addr × Obj)} {σ : St} {H : Hp} {s : Shared} {a b : Addr} {r : Value} {d : V} {k : List Key} {A : Around} {E : Value → Shared → Prop}
theorem d_setdT {kvs : List (List Key × V)} {Q : Value → Shared → Prop} (hu : A.units + 1 < cLine) (I : Inv X pins σ H s) (e : H a = some (.dT kvs)) (eb : H b = some (.tup (k.map kV))) (rd : RelV d r) (hl : kvs.length < sizeLine)
    (h1 : ∀ v, valV kvs k = some v → ∀ (w' : Value) (s' : Shared), Inv X pins σ H s' → RelV v w' → Q w' s') (h2 : valV kvs k = none → ∀ (w' : Value) (s' : Shared), Inv X pins σ (upd H a (.dT (putK kvs k d))) s' → RelV d w' → Q w' s') :
    wpAny (model X.prog X.w) A (call (.builtin "dict.setdefault") [.ref a, .ref b, r]) Q E s := by
  obtain ⟨z, hd, xs, rel, dd⟩ := dt_of I.hok e
  have hz : xs.length ≤ sizeLine := by rw [← Paired.length rel]; exact z
  refine call_setdefault_heap (tupleKind_room_in1 hu) (key_of I.hok eb) hd dd (fun p hp => ?_) (fun hn h' dd' hs => ?_) hz
  · have q := rel.val k
    rw [hp] at q
    cases q0 : valV kvs k with
    | none => rw [q0] at q; exact (show False from q).elim
    | some v0 => rw [q0] at q; exact h1 v0 q0 _ _ (I.tok _) q
  · have q := rel.val k
    rw [hn] at q
    cases q0 : valV kvs k with
    | some v0 => rw [q0] at q; exact (show False from q).elim
    | none =>
      have hl2 : (putK kvs k d).length ≤ sizeLine := by have := length_putK kvs k d; omega
      refine h2 q0 _ _ ?_ rd
      obtain ⟨q, es, ep, hq, h2, h3, h4, _, h5⟩ := dd'
      refine d_write I (by rw [e]; exact True.intro) hs ⟨q, hq⟩ ⟨hl2, hd, _, (rel.put k eb rd).keeps fun c ys ec => ?_, q, es, ep, hq, h2, h3, h4, h5⟩
      rw [upd_ne (ne_of ec e (fun z => nomatch z))]
      exact ec
end
def tDSetdT (td ty tx : TE) : TE := fun σ H Q => td σ H fun x H1 => ∃ a, x = .ref a ∧ IsD H1 a ∧ ty σ H1 fun y H2 => tx σ H2 fun z H3 => ∃ (kvs : List (List Key × V)) (k : List Key) (b : Addr), H3 a = some (.dT kvs) ∧ y = .ref b ∧ H3 b = some (.tup (k.map kV)) ∧ kvs.length < sizeLine ∧
  (∀ v, valV kvs k = some v → Q v H3) ∧ (valV kvs k = none → Q z (upd H3 a (.dT (putK kvs k z))))
section
variable {X : Cx} {o e f : Expr} {td ty tx : TE} {apos cpos : Pos}
theorem pe_dsetdT (hu : X.A.units + 1 < cLine) (ho : PE X o td) (he : PE X e ty) (hf : PE X f tx) (m : M2 X o "setdefault" apos e f cpos) : PE X (.Call (.Attribute o "setdefault" apos) [e, f] [] cpos) (tDSetdT td ty tx) := by
  refine ⟨fun pins s σ H Q I h => ?_⟩
  refine wpAny_Call_method m.base m.few m.line PySem.F.plainAttrs_dict PySem.F.slot_dict_setdefault PySem.F.type_dict_setdefault (thn (ho.run pins s σ H _ I h) fun u s1 ⟨x, H1, I1, rx, a, ex, d, q1⟩ => ?_)
  subst ex
  obtain rfl : u = Value.ref a := rx
  obtain ⟨t1, t2, _⟩ := isD_at I1 d
  refine ⟨t1, t2, ?_⟩
  rw [m.trees]
  refine Calls.callWith_builtin rfl (Calls.evalArgs_plain (Calls.spliced_cons (thn (he.run pins s1 σ H1 _ I1 q1) fun iv s2 ⟨y, H2, I2, ry, q2⟩ =>
    Calls.spliced_cons (thn (hf.run pins s2 σ H2 _ I2 q2) fun fv s3 ⟨z, H3, I3, rz, kvs, k, b, ea, ey, eb, hl, q3, q4⟩ => Calls.spliced_nil ?_))))
  subst ey
  cases (show iv = Value.ref b from ry)
  exact d_setdT hu I3 ea eb rz hl (fun v hv w' s4 I4 rw' => ⟨v, _, I4, rw', q3 v hv⟩) fun hn w' s4 I4 rw' => ⟨z, _, I4, rw', q4 hn⟩
end
def mSetdAppT (j : Nat) (mk mx : Env → Res D) : Env → Res Ctl := fun env => mk env >>= fun y => mx (env.set j none) >>= fun x => match env[j]?, keyT y with
  | some (some (2, .dt ks ds)), some kk => if ds.length < sizeLine ∧ x.imm = true then (match idxK ks kk with
    | some i => (match ds[i]? with
      | some (.lst es) => if es.length < sizeLine then .ok (.nx (env.set j (some (2, .dt ks (ds.set i (.lst (es ++ [x]))))))) else .bad
      | _ => .bad)
    | none => .ok (.nx (env.set j (some (2, .dt (ks ++ [kk]) (ds ++ [.lst [x]])))))) else .bad
  | _, _ => .bad
section
variable {X : Cx} {kr : Nat} {o e x : Expr} {pos apos cpos apos2 cpos2 lp : Pos} {mk mx : Env → Res D}
theorem app_coreT {B : Bs} {H : Hp} {env : Env} {σ : St} {tm : List Hold} {a : Addr} {ks : List (List Key)} {ds : List D} {es : List D} {i : Nat} {v w : V} {xd : D} {Q : VK}
    (ok : EnvOk B H env σ ((.ref a, 2, .dt ks ds) :: tm)) (hv : ∀ kvs, H a = some (.dT kvs) → (kvs.map (·.2))[i]? = some v) (hd : ds[i]? = some (.lst es)) (hl : es.length < sizeLine) (hw : Rp (view H) w xd) (hi : xd.imm = true)
    (q : ∀ H', EnvOk B H' env σ ((.ref a, 2, .dt ks (ds.set i (.lst (es ++ [xd])))) :: tm) → Q .non H') :
    ∃ l ws, v = .ref l ∧ H l = some (.lst ws) ∧ ws.length < sizeLine ∧ Q .non (upd H l (.lst (ws ++ [w]))) := by
  obtain ⟨kvs, hq, ek, hlen, ok4⟩ := ok.takeDt
  have hvi := hv kvs hq
  obtain ⟨l0, l1, l2⟩ := lev_one (k := 1) (by simpa using hlen) hvi hd
  have ok5 : EnvOk B (del H a) env σ ((v, 1, .lst es) :: (l0 ++ tm)) := ok4.perm (l1.append_right _)
  obtain ⟨l, rfl⟩ := ok5.isRef rfl
  obtain ⟨ws, hL, hwl, ok6⟩ := ok5.takeLst
  have hla : l ≠ a := fun z => by rw [z, del_self] at hL; cases hL
  have hL2 : H l = some (.lst ws) := by rw [← hL, del_ne hla]
  refine ⟨l, ws, rfl, hL2, by omega, q _ ?_⟩
  have rw2 : Rp (view (del (del H a) l)) w xd := hw.immTo (fun b xs im hb => by
    unfold view at hb ⊢
    have b1 : b ≠ l := fun z => by rw [z, hL2] at hb; cases hb; cases im
    have b2 : b ≠ a := fun z => by rw [z, hq] at hb; cases hb; cases im
    rw [del_ne b1, del_ne b2]; exact hb) hi
  have ok7 : EnvOk B (del (del H a) l) env σ (lev 0 (ws ++ [w]) (es ++ [xd]) ++ (l0 ++ tm)) := by
    rw [lev_append [w] [xd] hwl, List.append_assoc]
    exact (ok6.imm (k := 0) rw2 hi).perm List.perm_middle.symm
  have ok8 := ok7.newLst (p := l) (by simp [hwl]) del_self
  rw [upd_del] at ok8
  have ok9 := ok8.perm ((l2 (.ref l) (.lst (es ++ [xd]))).symm.append_right tm)
  have evs : (kvs.map (·.2)).set i (.ref l) = kvs.map (·.2) := by
    obtain ⟨hi1, hi2⟩ := List.getElem?_eq_some_iff.mp hvi
    rw [← hi2]; exact List.set_getElem_self hi1
  rw [evs, del_upd hla] at ok9
  subst ek
  have ok10 := ok9.newDt (p := a) (by simp [hlen]) rfl del_self
  rw [upd_del, upd_self (by rw [upd_ne (Ne.symm hla)]; exact hq)] at ok10
  exact ok10
theorem s_setdAppT {j : Nat} (hu : X.A.units + 1 < cLine) (hx : PE X o (tVar j)) (hk : SB X e mk) (hxx : SC X x mx) (mm : M2 X o "setdefault" apos e (.List [] lp) cpos)
    (hbase : attributeBase (.Call (.Attribute o "setdefault" apos) [e, .List [] lp] [] cpos) "append" X.env (eval (.Call (.Attribute o "setdefault" apos) [e, .List [] lp] [] cpos) X.env) = eval (.Call (.Attribute o "setdefault" apos) [e, .List [] lp] [] cpos) X.env := by rfl)
    (hfew : ((backTo cpos2 (starEach [x] X.env)).all (fun x => !x.1) && (backToKw cpos2 (keywordEach [] X.env)).all (fun x => x.1.isSome)
      && decide ([x].length + ([] : List Keyword).length + (if ([] : List Keyword).isEmpty then 0 else 1) < 30)) = true := by rfl)
    (hline : (apos2.endLine == cpos2.line) = true := by rfl) (hs : starEach [x] X.env = (false, eval x X.env) :: starEach [] X.env := by rfl) (hplain : (backTo cpos2 (starEach [] X.env)).any (·.1) = false := by rfl)
    (hsw : swapsWith (.Call (.Attribute (.Call (.Attribute o "setdefault" apos) [e, .List [] lp] [] cpos) "append" apos2) [x] [] cpos2) none pos.line X.env = pure false := by rfl) :
    S1 X kr (.Expr (.Call (.Attribute (.Call (.Attribute o "setdefault" apos) [e, .List [] lp] [] cpos) "append" apos2) [x] [] cpos2) pos) (mSetdAppT j mk mx) := fun B H env σ tm D r ok hm p => by
  obtain ⟨y, hy, h2⟩ := bind_ok hm
  obtain ⟨xd, hxd, h4⟩ := bind_ok h2
  split at h4
  · rename_i ks ds kk hj hkk
    split at h4
    · rename_i hc
      obtain ⟨hdl, hxi⟩ := hc
      obtain ⟨v, hv', rv⟩ := ok.slot hj
      refine wS_of (ps_expr (pe_bm F.plainAttrs_list F.slot_list_append F.type_list_append mt_append (pe_dsetdT hu hx pe_sem (pe_lst pa_nil) mm) (pa_cons pe_sem pa_nil hs) hbase hfew hline hs hplain) hsw) ?_
      refine ⟨v, hv', ?_⟩
      cases rv with
      | @dt a kvs0 _ _ hv0 ek0 ra0 =>
        refine ⟨a, rfl, .inr ⟨kvs0, view_rd hv0⟩, hk B H env σ tm y _ ok hy fun u H1 x1 ok1 r1 => ?_⟩
        obtain ⟨b, rfl, hb1⟩ := keyT_rp ok1 r1 hkk
        refine ⟨Nat.zero_le _, fun p0 hp0 => ?_⟩
        have ok2 : EnvOk B (upd H1 p0 (.lst [])) env σ ((.ref p0, 1, .lst []) :: tm) := EnvOk.newLst (vs := []) (ds := []) ok1 rfl hp0
        obtain ⟨q, hq, ok3⟩ := ok2.slotMu hj rfl
        rw [hv'] at hq
        cases hq
        have ok3s := ok3.perm (List.Perm.refl _)
        obtain ⟨kvs, hqq, ek, hlen, ok4⟩ := ok3.takeDt
        have hap : a ≠ p0 := fun z => by rw [z, upd_same] at hqq; cases hqq
        have hb2 : (upd H1 p0 (.lst [])) b = some (.tup (kk.map kV)) := by
          rw [upd_ne fun z => by rw [z, hp0] at hb1; cases hb1]
          exact hb1
        refine ⟨kvs, kk, b, hqq, rfl, hb2, by omega, fun v0 hv0 => ?_, fun hn => ?_⟩
        · -- the key is there
          split at h4
          · rename_i i hi
            split at h4
            · rename_i es hes
              split at h4
              · rename_i hel
                cases h4
                subst ek
                obtain ⟨v1, w1, w2⟩ := (idxK_val kvs kk).2 i hi
                rw [hv0] at w1
                cases w1
                have ok5 : EnvOk B (upd H1 p0 (.lst [])) (env.set j none) σ ((.ref a, 2, .dt (kvs.map (·.1)) ds) :: tm) := (ok3s.perm (List.Perm.swap _ _ _)).tail
                have hview : ∃ l, v0 = .ref l ∧ ∃ u, SqL X.K (upd H1 p0 (.lst [])) l u := by
                  have r5 := ok5.rp
                  cases r5 with
                  | @dt _ kvs2 _ _ hv5 ek5 ra5 =>
                    have ekv : kvs2 = kvs := by
                      have : view (upd H1 p0 (.lst [])) a = some (.dT kvs) := by unfold view; rw [hqq]; rfl
                      rw [this] at hv5; cases hv5; rfl
                    subst ekv
                    obtain ⟨d5, hd5, rd5⟩ := ra5.get' w2
                    rw [hes] at hd5
                    cases hd5
                    cases rd5 with
                    | @lst l ws _ hvl _ => exact ⟨l, rfl, ws, .inl (view_rd hvl)⟩
                obtain ⟨l, rfl, wss, hsq⟩ := hview
                refine ⟨.inl ⟨rfl, wss, hsq⟩, hxx B _ _ σ _ xd _ ok5 hxd fun w H2 x2 ok6 rw6 _ => ?_⟩
                obtain ⟨l2, ws, e1, e2, e3, e4⟩ := app_coreT (Q := fun _ H' => D.nx σ H') ok6 (fun kvs' h' => by
                  have := x2 _ _ hqq
                  rw [this] at h'; cases h'; exact w2) hes hel rw6 hxi (fun H' ok' => p σ H' (ok'.putBack hj hv'))
                exact ⟨l2, ws, w, e1, rfl, e2, e3, e4⟩
              · cases h4
            · cases h4
          · rename_i hi
            subst ek
            have := (idxK_val kvs kk).1 hi
            rw [hv0] at this; cases this
        · -- a new one
          split at h4
          · rename_i i hi
            subst ek
            obtain ⟨v1, w1, _⟩ := (idxK_val kvs kk).2 i hi
            rw [hn] at w1; cases w1
          · rename_i hi
            cases h4
            subst ek
            have ep : putK kvs kk (.ref p0) = kvs ++ [(kk, .ref p0)] := by
              unfold putK
              have : (kvs.any fun kv => decide (kv.1 = kk)) = false := by
                rw [valV_any, hn]; rfl
              rw [this]; rfl
            rw [ep]
            have ok5 : EnvOk B (del (upd H1 p0 (.lst [])) a) (env.set j none) σ (lev 1 ((kvs ++ [(kk, V.ref p0)]).map fun x : List Key × V => x.2) (ds ++ [Mir.D.lst []]) ++ tm) := by
              rw [List.map_append, show ([(kk, V.ref p0)].map fun x : List Key × V => x.2) = [V.ref p0] from rfl, lev_append [V.ref p0] [Mir.D.lst []] (by simpa using hlen), List.append_assoc]
              exact ok4
            have ok6 := ok5.newDt (p := a) (kvs := kvs ++ [(kk, V.ref p0)]) (by simp [hlen]) rfl del_self
            rw [upd_del] at ok6
            have hl0 : (upd (upd H1 p0 (.lst [])) a (.dT (kvs ++ [(kk, .ref p0)]))) p0 = some (.lst []) := by rw [upd_ne (Ne.symm hap), upd_same]
            refine ⟨.inl ⟨rfl, [], .inl (.inl hl0)⟩, hxx B _ _ σ _ xd _ ok6 hxd fun w H2 x2 ok7 rw7 _ => ?_⟩
            obtain ⟨l2, ws, e1, e2, e3, e4⟩ := app_coreT (Q := fun _ H' => D.nx σ H') (i := kvs.length) (es := []) (v := .ref p0) ok7 (fun kvs' h' => by
              have := x2 _ _ (show _ = some (HO.dT (kvs ++ [(kk, .ref p0)])) from upd_same)
              rw [this] at h'; cases h'; simp) (by rw [hlen]; simp) (by rw [sizeLine_eq]; decide) rw7 hxi (fun H' ok' => by
              have ok8 := ok'.putBack hj hv'
              have e9 : (ds ++ [Mir.D.lst []]).set kvs.length (Mir.D.lst ([] ++ [xd])) = ds ++ [Mir.D.lst [xd]] := by
                rw [hlen, List.set_append_right _ _ (Nat.le_refl _)]; simp
              rw [e9] at ok8
              have e10 : (kvs ++ [(kk, V.ref p0)]).map (·.1) = kvs.map (·.1) ++ [kk] := by simp
              rw [e10] at ok8
              exact p σ H' ok8)
            exact ⟨l2, ws, w, e1, rfl, e2, e3, e4⟩
    · cases h4
  · cases h4
end
end Mir

namespace Mir
open PySem PySem.Spec L2
/-! ### [.. for x in d.values()]: dicts of tuple keys -/
def ItdT (d : Addr) (o : Obj) (kvs : List (List Key × V)) : It :=
  ⟨fun i H => H d = some (.frz o (.dT kvs)) ∧ i < kvs.length, fun i H x H' => H' = H ∧ ∃ k, kvs[i]? = some (k, x), fun i H => H d = some (.frz o (.dT kvs)) ∧ kvs.length ≤ i⟩
section
variable {P : Program} {w : World} {K : PySem.W.Frag} {tg : Expr} {d : Addr} {o : Obj} {es : Array DictEntry} {ep : Nat}
theorem turn_valsT {kvs : List (List Key × V)} (it : Addr) (hod : o.data = .dict es ep) : Turn P w K tg (ItdT d o kvs) [it] it (fun i h => h.IsValIter it d i kvs.length ep) where
  mem := by simp
  obj := fun i h st b hb => by
    have e : b = it := by simpa using hb
    subst e
    obtain ⟨oi, e, c, dd⟩ := st
    exact ⟨oi, e, fun v z => by rw [dd] at z; cases z⟩
  keep := fun i h h' st k => st.at fun oi e => k it (by simp) oi e
  item := by
    intro X hP hw hK hc i pins s σ H E I hf st hg
    subst hP hw hK
    obtain ⟨hd, hi⟩ := hg
    obtain ⟨f0, f1, f2, f3, f4, f5⟩ := hf it (by simp)
    obtain ⟨hs, hgd, hx, es', ep', hdt, hsz, ent⟩ := frzT2 I hd
    obtain ⟨rfl, rfl⟩ := dict_ep hod hdt
    obtain ⟨⟨k, v⟩, hkv⟩ : ∃ p, kvs[i]? = some p := ⟨kvs[i], List.getElem?_eq_getElem hi⟩
    obtain ⟨hies, q, hq, hHq, rv⟩ := ent i k v hkv
    rw [← hsz] at st
    refine wpAny_pyNext_values_item_raw st ⟨o, hgd, hx, hod⟩ hies fun h' st' sb => ?_
    have I1 : Inv X pins σ H { s with heap := h' } := I.turned (t' := s.toks) (fun b ob hb e => (sb.2 b hb).trans e) f0 f1 f3 f4 f5
    obtain ⟨oi, e, c, dd⟩ := id st'
    refine ⟨_, rfl, go_of (s := { s with heap := h' }) e c dd (by decide) ⟨v, H, I1, rv, ⟨rfl, k, hkv⟩, ?_, fun b hb => (hf b hb).1⟩⟩
    show h'.IsValIter it d (i + 1) kvs.length _
    rw [← hsz]
    exact st'
  done := by
    intro X hP hw hK hc i pins s σ H E I hf st hg
    subst hP hw hK
    obtain ⟨hd, hi⟩ := hg
    obtain ⟨f0, f1, f2, f3, f4, f5⟩ := hf it (by simp)
    obtain ⟨hs, hgd, hx, es', ep', hdt, hsz, ent⟩ := frzT2 I hd
    obtain ⟨rfl, rfl⟩ := dict_ep hod hdt
    rw [← hsz] at st
    exact wpAny_pyNext_values_end_raw (I.ok.hd hc) st ⟨o, hgd, hx, hod⟩ (by omega) fun h' eb => ⟨rfl, I.turned (t' := s.toks) (fun b ob hb e => eb b ob hb e) f0 f1 f3 f4 f5⟩
  self := fun A i s Q E st h => wpAny_pyIter_valiter st h
end
def iValsT (td : TE) : TI := fun σ H R => td σ H fun x H1 => ∃ d o kvs, x = .ref d ∧ H1 d = some (.frz o (.dT kvs)) ∧ R (ItdT d o kvs) H1
section
variable {X : Cx} {tg e : Expr} {td : TE} {apos cpos : Pos}
theorem pi_valuesT (he : PE X e td) (hbase : attributeBase e "values" X.env (eval e X.env) = eval e X.env := by rfl) (hline : (apos.endLine == cpos.line) = true := by rfl) : PI X tg (.Call (.Attribute e "values" apos) [] [] cpos) (iValsT td) := by
  refine ⟨fun pins s σ H R I h => ?_⟩
  refine wpAny_Call_method (T := "dict") (id := "dict.values") hbase rfl hline F.plainAttrs_dict F.slot_dict_values F.type_dict_values (thn (he.run pins s σ H _ I h) fun u s1 ⟨x, H1, I1, rx, d, o, kvs, ex, hd, q⟩ => ?_)
  subst ex
  obtain rfl : u = Value.ref d := rx
  obtain ⟨hs, hgd, hx, es, ep, hdt, hsz, ent⟩ := frzT2 I1 hd
  have hraw : s1.heap.DictRaw d es ep := ⟨o, hgd, hx, hdt⟩
  refine ⟨hraw.typeIs, fun a ea => by cases ea; exact ⟨o, hgd, hx.2.1⟩, ?_⟩
  have I2 : Inv X pins σ H1 { s1 with heap := s1.heap.push { cls := .type "dict_values", data := .fields #[.ref d] } } := I1.kept (t' := s1.toks) fun b ob q => Heap.get?_push_of_some _ q
  have fin : wpAny (model X.prog X.w) X.A (pyIter (.ref s1.heap.objs.size)) (PIE X pins σ tg R) X.xe { s1 with heap := s1.heap.push { cls := .type "dict_values", data := .fields #[.ref d] } } := by
    refine wpAny_pyIter_values_raw (d := d) ⟨_, Heap.get?_push_size _ rfl, rfl, rfl⟩ (hraw.at fun _ e => Heap.get?_push_of_some _ e) (pi_one (tk := s1.toks) I2 _ (turn_valsT _ hdt) ⟨_, Heap.get?_push_size _ rfl, rfl, ?_⟩ q)
    rw [hsz] <;> rfl
  show wpAny _ _ (callWith cpos (.builtin "dict.values") [.ref d] [] []) _ X.xe s1
  exact method_meetsIn F.slot_dict_values F.entry_dict_values rfl (PySem.evalArgs_none ⟨rfl, hraw.typeIs, F.args_dict_values_1 _, _, meets_dict_values_raw d hs, ⟨es, ep, hraw⟩, fin⟩)
end
def dValsT : D → Res (List D)
  | .dt ks ds => if ks.length = ds.length then .ok ds else .bad
  | _ => .bad
theorem dt_kvs {kvs : List (List Key × V)} {i : Nat} {k : List Key} {v : V} (h : kvs[i]? = some (k, v)) : (kvs.map (·.1))[i]? = some k ∧ (kvs.map (·.2))[i]? = some v := by
  rw [List.getElem?_map, List.getElem?_map, h]
  exact ⟨rfl, rfl⟩
section
variable {X : Cx} {e a b tg it o elt : Expr} {m ma mb me mk mx : Env → Res D} {k kr : Nat} {cs : List Nat} {pos p p2 cpos apos cpos2 apos2 lp : Pos}
/-! ### list(range(n)) -/
theorem se_lcVT {own is : List Nat} {scope : Scope} {ifs : List Expr} {t : Nat → D → Env → Res Env} {mt : Env → Res Bool} {j : Nat} (ow : List (Str × Nat)) (hc : X.calm = true) (hN : X.N.Nodup) (okb : BlkOk X.N X.env.scope scope ow) (eo : ow.map (·.2) = own)
    (hx : PE X o (tVar j)) (hg : Blk X scope fun Y => STg Y tg is t) (htg : TgOk is t) (his : ∀ i ∈ is, i ∈ own) (ht : Blk X scope fun Y => SPT Y ifs mt) (he : Blk X scope fun Y => SE Y k [] elt me)
    (hs : ∀ x, foldedSetIterable (.Call (.Attribute o "values" apos) [] [] cpos) X.env x = pure x := by intro _; rfl) (hbase : attributeBase o "values" X.env (eval o X.env) = eval o X.env := by rfl) (hline : (apos.endLine == cpos.line) = true := by rfl) :
    SE X (k + 1) [] (.ListComp elt [⟨tg, .Call (.Attribute o "values" apos) [] [] cpos, ifs, 0⟩] scope pos) (mLc (fun env => mVarK j 0 env >>= dValsT) t mt me own) := fun B H env σ tm d Q ok hm q => by
  subst eo
  have hm' := hm
  obtain ⟨u0, _, h2⟩ := bind_ok hm'
  obtain ⟨ds, hds, _⟩ := bind_ok h2
  obtain ⟨dd, hdd, hdv⟩ := bind_ok hds
  have hej := sh_slot hdd
  obtain ⟨v, hv, ok0⟩ := ok.slot0 hej
  have r0 := ok0.rp
  unfold dValsT at hdv
  split at hdv
  · rename_i ks vs
    split at hdv
    · rename_i hlen
      cases hdv
      cases r0 with
      | @dt dA kvs _ _ hvw ek ra =>
        subst ek
        have hB : ∀ z, B dA = some z → H dA = some z := fun z e => by
          obtain ⟨⟨G, fp, g, _⟩, _⟩ := ok
          exact g.bs dA z e
        have hBg : B dA ≠ none → B.g dA = some (.dT kvs) := fun e => by
          obtain ⟨G, fp, u', g, hG, _⟩ := ok0.shAt
          have : u' = .dT kvs := Option.some.inj ((g.gs dA u' hG).symm.trans hvw)
          rw [← g.g0 dA e, hG, this]
        have core : ∀ (od : Obj) (Q1 : VK), (∀ v H', Ext (upd H dA (.frz od (.dT kvs))) H' → EnvOk (pinB B dA (.frz od (.dT kvs)) (.dT kvs)) H' env σ ((v, k + 1, d) :: tm) → Q1 v H') →
            tLc (iValsT (tVar j)) (fun v σ H Q => Blk X scope fun Y => wG Y tg v σ H Q) (fun σ H Q => Blk X scope fun Y => ∀ (pins : List (Addr × Obj)) (s : Shared), Inv Y pins σ H s → wpAny (model Y.prog Y.w) Y.A (forIn ifs true fun c r => if r = true then do let ok ← isTrue c Y.env (eval c Y.env); pure (ForInStep.yield ok) else pure (ForInStep.yield r)) (TP Y pins σ Q) Y.xe s)
              (fun σ H Q => Blk X scope fun Y => wE Y elt σ H Q) (ow.map (·.2)) σ (upd H dA (.frz od (.dT kvs))) Q1 := fun od Q1 q1 => by
          have ok1 : EnvOk (pinB B dA (.frz od (.dT kvs)) (.dT kvs)) (upd H dA (.frz od (.dT kvs))) env σ ((.ref dA, 0, .dt (kvs.map (·.1)) ds) :: tm) := (ok0.dup).pin hvw rfl rfl
          have hi : ∀ (ds' : List D) (R : It → Hp → Prop), (mVarK j 0 env >>= dValsT) = .ok ds' → (∀ J H' ex, Ext (upd H dA (.frz od (.dT kvs))) H' → EnvOk (pinB B dA (.frz od (.dT kvs)) (.dT kvs)) H' env σ (ex ++ tm) → Yields (pinB B dA (.frz od (.dT kvs)) (.dT kvs)) J ex ds' → R J H') → iValsT (tVar j) σ (upd H dA (.frz od (.dT kvs))) R := fun ds' R hds' qq => by
            have e1 : ds' = ds := by
              have h0 : (Res.ok ds' : Res (List Mir.D)) = Res.ok ds := hds'.symm.trans hds
              cases h0; rfl
            subst e1
            refine ⟨.ref dA, hv, dA, od, kvs, rfl, upd_same, qq _ _ [((V.ref dA, 0, Mir.D.dt (kvs.map fun x : List Key × V => x.1) ds') : Hold)] (Ext.refl _) ok1 fun i H2 env2 σ2 tm2 ok2 => ?_⟩
            have hd2 : H2 dA = some (.frz od (.dT kvs)) := ok2.pinned
            have hkl : kvs.length = ds'.length := by simpa using hlen
            rw [← hkl]
            refine ⟨fun ei => ⟨hd2, by omega⟩, fun hi => ⟨⟨hd2, hi⟩, fun x H3 hy => ?_⟩⟩
            obtain ⟨rfl, kk, hkv⟩ := hy
            obtain ⟨g1, g2⟩ := dt_kvs hkv
            have hvi : ds'[i]? = some ds'[i] := List.getElem?_eq_getElem (by omega)
            have ok2' : EnvOk (pinB B dA (.frz od (.dT kvs)) (.dT kvs)) H3 env2 σ2 ((V.ref dA, 0, D.dt (kvs.map (·.1)) ds') :: tm2) := ok2
            obtain ⟨p', o', ws, ev, hvw2, hwl, _, _, _, f3, ra2, ok3⟩ := ok2'.items (ds := ds') (.inr (.inr (.inr ⟨_, rfl⟩)))
            cases ev
            obtain ⟨kvs', e1, e2, e3⟩ := f3 _ rfl
            have ek2 : kvs' = kvs := by
              subst e1
              unfold view at hvw2; rw [hd2] at hvw2
              have h9 : HO.dT kvs = HO.dT kvs' := Option.some.inj hvw2
              injection h9 with h10
              exact h10.symm
            subst ek2
            subst e3
            obtain ⟨l, hp'⟩ := lev_get (k := 0) g2 hvi
            have ok4 : EnvOk (pinB B dA (.frz od (.dT kvs')) (.dT kvs')) H3 env2 σ2 ((x, 0, ds'[i]) :: ((V.ref dA, 0, D.dt (kvs'.map (·.1)) ds') :: tm2)) := by
              refine EnvOk.less (l := l) (ok3.perm ((hp'.append_right _).trans ?_))
              exact (List.perm_middle (l₁ := l) (a := (x, 0, ds'[i])) (l₂ := (V.ref dA, 0, D.dt (kvs'.map (·.1)) ds') :: tm2)).symm
            exact ⟨_, hvi, Ext.refl _, ok4⟩
          exact lc_read hi hg htg his ht he ok1.tail hm q1
        cases hH : H dA with
        | none => rw [view_none hH] at hvw; cases hvw
        | some o1 =>
          have hu1 : unf o1 = .dT kvs := by
            unfold view at hvw
            rw [hH] at hvw
            exact Option.some.inj hvw
          have un : ∀ {od : Obj} {o' : HO} {H' : Hp} {tm' : List Hold}, unf o' = .dT kvs → (∀ z, B dA = some z → z = o') → EnvOk (pinB B dA (.frz od (.dT kvs)) (.dT kvs)) H' env σ tm' → EnvOk B (upd H' dA o') env σ tm' := fun ho hz ok' => ok'.unpin hz hBg (fun _ => .inr trivial) ho rfl rfl
          have pl : Unit → PE X (.ListComp elt [⟨tg, .Call (.Attribute o "values" apos) [] [] cpos, ifs, 0⟩] scope pos) (tLc (iValsT (tVar j)) (fun v σ H Q => Blk X scope fun Y => wG Y tg v σ H Q) (fun σ H Q => Blk X scope fun Y => ∀ (pins : List (Addr × Obj)) (s : Shared), Inv Y pins σ H s → wpAny (model Y.prog Y.w) Y.A (forIn ifs true fun c r => if r = true then do let ok ← isTrue c Y.env (eval c Y.env); pure (ForInStep.yield ok) else pure (ForInStep.yield r)) (TP Y pins σ Q) Y.xe s)
              (fun σ H Q => Blk X scope fun Y => wE Y elt σ H Q) (ow.map (·.2))) := fun (_ : Unit) => pe_lc hc hN (pi_valuesT hx hbase hline) okb (fun s H C cl fp => ⟨fun pins s' σ H' v u Q I r h => h s H C cl fp pins s' u I r⟩) (fun s H C cl fp => ⟨fun pins s' σ H' Q I h => h s H C cl fp pins s' I⟩) (fun s H C cl fp => ⟨fun pins s' σ H' Q I h => h s H C cl fp pins s' I⟩) hs
          by_cases hfz : ∃ od, o1 = .frz od (.dT kvs)
          · obtain ⟨od, rfl⟩ := hfz
            have e1 : upd H dA (.frz od (.dT kvs)) = H := upd_self' hH
            refine wE_of (pl ()) ?_
            have c := core od Q fun v H' x' ok' => ?_
            · rw [e1] at c; exact c
            · rw [e1] at x'
              have hd' := ok'.pinned
              have ok2 := un (o' := .frz od (.dT kvs)) rfl (fun z e => Option.some.inj ((hB z e).symm.trans hH)) ok'
              rw [upd_self' hd'] at ok2
              exact q v H' x' ok2
          · have eo : o1 = .dT kvs := by
              cases o1 with
              | frz od w => exact absurd ⟨od, congrArg _ hu1⟩ hfz
              | _ => exact hu1
            subst eo
            refine wE_of (pe_lock (pl ())) ⟨dA, _, hH, trivial, fun od => core od _ fun v H' x' ok' => ⟨ok'.pinned, ?_⟩⟩
            refine q v _ (fun a o ha => ?_) (un rfl (fun z e => Option.some.inj ((hB z e).symm.trans hH)) ok')
            by_cases z : a = dA
            · subst z
              rw [upd_same, ← ha, hH]
            · rw [upd_ne z]
              exact x' a o (by rw [upd_ne z]; exact ha)
    · cases hdv
  · cases hdv
end
end Mir

namespace Mir
open PySem PySem.Spec L2
@[simp] theorem e_mExtend (j k : Nat) (m : Mir.Env → Res (List D)) (env : Mir.Env) : mExtend j k m env = (m env >>= fun es => atL env j (k + 1) >>= fun ds => if ds.length + es.length ≤ sizeLine then .ok (.nx (env.set j (some (k + 1, .lst (ds ++ es))))) else .bad) := rfl
/-! ### dicts whose keys are tuples of three whole numbers; groups of any keys -/
def k3 (k : T3) : List Key := [.inl k.a, .inl k.b, .inl k.c]
theorem k3_inj (a b : T3) (h : k3 a = k3 b) : a = b := by
  unfold k3 at h
  injection h with h1 h2
  injection h2 with h2 h3
  injection h3 with h3 _
  cases a; cases b
  cases Sum.inl.inj h1; cases Sum.inl.inj h2; cases Sum.inl.inj h3
  rfl
section
variable {β : Type} (f : β → D)
def encK3 (p : List (T3 × β)) : D := .dt (p.map fun x => k3 x.1) (p.map fun x => f x.2)
theorem encK3_nil : D.dt [] [] = encK3 f [] := rfl
theorem dGet_K3 (p : List (T3 × β)) (k : T3) : dGet (encK3 f p) (t3 k) = some ((lk p k).map f) := congrArg some (dFind_map (g := k3) k3_inj f p k)
theorem dSet_K3 (p : List (T3 × β)) (k : T3) (v : β) (h : p.length < sizeLine) : dSet (encK3 f p) (t3 k) (f v) = .ok (encK3 f (pt p k v)) := by
  show (if (p.map fun x => f x.2).length < sizeLine ∧ _ then _ else _) = _
  rw [if_pos ⟨by rw [List.length_map]; exact h, by simp⟩]
  obtain ⟨h1, h2⟩ := dPut_map (g := k3) k3_inj f p k v
  show Res.ok (D.dt (dPutK _ (k3 k)) (dPutV _ _ (k3 k) (f v))) = _
  rw [h1, h2]; rfl
theorem gDGet_K3 {p : List (T3 × β)} {k : T3} {v : β} (h : lk p k = some v) : gDGet (encK3 f p) (t3 k) = .ok (f v) := by
  unfold gDGet; rw [dGet_K3, h]; rfl
theorem gDIn_K3 (p : List (T3 × β)) (k : T3) : gDIn (t3 k) (encK3 f p) = .ok (.bl (lk p k).isSome) := by
  unfold gDIn; rw [dGet_K3]; cases lk p k <;> rfl
theorem gDNotIn_K3 (p : List (T3 × β)) (k : T3) : gDNotIn (t3 k) (encK3 f p) = .ok (.bl (!(lk p k).isSome)) := by
  unfold gDNotIn; rw [dGet_K3]; cases lk p k <;> rfl
theorem dKeys_K3 (p : List (T3 × β)) : dKeys (encK3 f p) = .ok (p.map fun x => t3 x.1) := by
  show Res.ok ((p.map fun x => k3 x.1).map fun k => D.tup (k.map kD)) = _
  rw [List.map_map]; rfl
theorem immAt_K3 (h : ∀ b, (f b).imm = true) (p : List (T3 × β)) : immAt 1 (encK3 f p) = true := by
  show immAt 1 (.dt _ _) = true
  unfold immAt
  simp [h]
theorem dValsT_K3 (p : List (T3 × β)) : dValsT (encK3 f p) = .ok (p.map fun x => f x.2) := by
  show (if (p.map fun x => k3 x.1).length = (p.map fun x => f x.2).length then Res.ok _ else .bad) = _
  rw [if_pos (by simp)]
theorem dItemsT_K2 (p : List ((Int × Int) × β)) : dItemsT (encK2 f p) = .ok (p.map fun x => .tup [t2 x.1, f x.2]) := by
  show (if (p.map fun x => k2 x.1).length = (p.map fun x => f x.2).length then Res.ok (List.zipWith _ _ _) else .bad) = _
  rw [if_pos (by simp)]
  congr 1
  induction p with
  | nil => rfl
  | cons x p ih => simp only [List.map_cons, List.zipWith_cons_cons, ih]; rfl
end
/-! groups -/
section
variable {κ τ : Type} [DecidableEq κ]
def addK (G : List (κ × List τ)) (v : κ) (t : τ) : List (κ × List τ) := if v ∈ G.map (·.1) then G.map fun x => if x.1 = v then (x.1, x.2 ++ [t]) else x else G ++ [(v, [t])]
theorem idxK_map {κ' : Type} [DecidableEq κ'] {g : κ → κ'} (hg : ∀ a b, g a = g b → a = b) : ∀ (G : List (κ × List τ)) (v : κ), idxK (G.map fun x => g x.1) (g v) = if v ∈ G.map (·.1) then some ((G.map (·.1)).idxOf v) else none
  | [], v => rfl
  | x :: G, v => by
    show (if g x.1 = g v then some 0 else (idxK (G.map fun x => g x.1) (g v)).map (· + 1)) = _
    rw [idxK_map hg G v]
    by_cases e : x.1 = v
    · subst e; simp
    · have e2 : ¬ v = x.1 := fun z => e z.symm
      have e3 : ¬ g x.1 = g v := fun z => e (hg _ _ z)
      rw [if_neg e3]
      by_cases h : v ∈ G.map (·.1)
      · rw [if_pos h, if_pos (by rw [List.map_cons]; exact List.mem_cons_of_mem _ h), List.map_cons, List.idxOf_cons]
        have : (x.1 == v) = false := by simpa using e
        rw [this]; rfl
      · rw [if_neg h, if_neg (by rw [List.map_cons, List.mem_cons]; exact fun z => z.elim e2 h)]; rfl
theorem addK_set (f : List τ → D) : ∀ (G : List (κ × List τ)) (v : κ) (t : τ), (G.map (·.1)).Nodup → v ∈ G.map (·.1) → ∃ l, G[(G.map (·.1)).idxOf v]? = some (v, l) ∧ (G.map fun x => f x.2).set ((G.map (·.1)).idxOf v) (f (l ++ [t])) = (G.map fun x => if x.1 = v then (x.1, x.2 ++ [t]) else x).map fun x => f x.2
  | [], v, t, _, h => by simp at h
  | x :: G, v, t, hn, h => by
    rw [List.map_cons, List.nodup_cons] at hn
    by_cases e : x.1 = v
    · subst e
      refine ⟨x.2, by simp, ?_⟩
      have h5 : (G.map fun y => if y.1 = x.1 then (y.1, y.2 ++ [t]) else y) = G := by
        conv => rhs; rw [← List.map_id G]
        refine List.map_congr_left fun y hy => ?_
        rw [if_neg fun z : y.1 = x.1 => hn.1 (z ▸ List.mem_map_of_mem hy)]; rfl
      simp [h5]
    · have hv : v ∈ G.map (·.1) := by
        rw [List.map_cons, List.mem_cons] at h
        exact h.elim (fun z => absurd z.symm e) id
      obtain ⟨l, h1, h2⟩ := addK_set f G v t hn.2 hv
      have he : (x.1 == v) = false := by simpa using e
      refine ⟨l, ?_, ?_⟩
      · rw [List.map_cons, List.idxOf_cons, he]; simpa using h1
      · rw [List.map_cons, List.map_cons, List.idxOf_cons, he, List.map_cons, List.map_cons, if_neg e]
        simp only [cond_false, List.set_cons_succ]
        rw [h2]
end
abbrev Grp3 := List (T3 × List T3)
theorem mSetdAppT_G {j : Nat} {mk mx : Mir.Env → Res D} {env : Mir.Env} {G : Grp3} {v t : T3} (hj : env[j]? = some (some (2, encK3 encR G))) (hk : mk env = .ok (t3 v)) (hx : mx (env.set j none) = .ok (t3 t)) (hn : (G.map (·.1)).Nodup) (hl : G.length ≤ 1000) (hll : ∀ x ∈ G, x.2.length ≤ 1000) :
    mSetdAppT j mk mx env = .ok (.nx (env.set j (some (2, encK3 encR (addK G v t))))) := by
  unfold mSetdAppT
  rw [hk, ok_bind, hx, ok_bind, hj]
  show (if (G.map fun x => encR x.2).length < sizeLine ∧ _ then (match idxK (G.map fun x => k3 x.1) (k3 v) with | some i => _ | none => _) else _) = _
  rw [if_pos ⟨by rw [List.length_map]; exact sizeLine_lt (by omega), rfl⟩, idxK_map k3_inj]
  by_cases h : v ∈ G.map (·.1)
  · obtain ⟨l, h1, h2⟩ := addK_set encR G v t hn h
    rw [if_pos h]
    dsimp only
    rw [List.getElem?_map, h1]
    show (if (l.map t3).length < sizeLine then Res.ok (Ctl.nx (env.set j (some (2, D.dt _ ((G.map fun x => encR x.2).set _ (.lst (l.map t3 ++ [t3 t]))))))) else _) = _
    rw [if_pos (by rw [List.length_map]; exact sizeLine_lt (by have := hll _ (List.mem_of_getElem? h1); dsimp only at this; omega))]
    have e1 : D.lst (l.map t3 ++ [t3 t]) = encR (l ++ [t]) := by unfold encR; simp
    rw [e1, h2]
    unfold addK
    rw [if_pos h]
    have e2 : (G.map fun x => k3 x.1) = (G.map fun x => if x.1 = v then (x.1, x.2 ++ [t]) else x).map fun x => k3 x.1 := by
      rw [List.map_map]
      refine List.map_congr_left fun x _ => ?_
      by_cases e : x.1 = v <;> simp [e]
    rw [e2]; rfl
  · rw [if_neg h]
    dsimp only
    unfold addK
    rw [if_neg h]
    unfold encK3 encR
    simp [k3]
theorem gSort_D (xs : Drw) : gSort (encD xs) = .ok (encD (sorted xs)) := gSort_enc xs (by decide) (by
  have := sortB_lst (xs.map fun l => l.map t3)
  rw [List.map_map] at this
  exact this)
theorem sorted_up {α : Type} [DecidableEq α] [Dat α] {xs : List α} (h : xs.Pairwise fun a b => Dat.lt a b = true) : sorted xs = xs := sorted_eq (.refl _) (h.imp fun h => Dat.asy _ _ h)
theorem sorted_strict {α : Type} [DecidableEq α] [Dat α] {xs : List α} (h : xs.Nodup) : (sorted xs).Pairwise fun a b => Dat.lt a b = true := by
  have h1 := sorted_pw xs
  have h2 : (sorted xs).Nodup := (sorted_perm xs).nodup_iff.mpr h
  refine (h1.and h2).imp fun {a b} ⟨h3, h4⟩ => ?_
  cases h5 : Dat.lt a b with
  | true => rfl
  | false => exact absurd (Dat.tot _ _ h5 h3) h4
end Mir

namespace Mir
open PySem PySem.Spec L2
/-! ### t + u, tuples -/
def gCatT : D → D → Res D
  | .tup xs, .tup ys => if immAll xs = true ∧ immAll ys = true ∧ xs ≠ [] ∧ ys ≠ [] ∧ xs.length + ys.length ≤ sizeLine then .ok (.tup (xs ++ ys)) else .bad
  | _, _ => .bad
theorem imm_app {xs ys : List D} (h1 : immAll xs = true) (h2 : immAll ys = true) : immAll (xs ++ ys) = true := immAll_iff.mpr fun x hx => (List.mem_append.mp hx).elim (immAll_iff.mp h1 x) (immAll_iff.mp h2 x)
section
variable {X : Cx} {a b : Expr} {ma mb : Env → Res D} {pos : Pos}
theorem sc_catT (ha : SB X a ma) (hb : SB X b mb) : SC X (.BinOp a .Add b pos) (mOp gCatT ma mb) := fun B H env σ tm d Q ok hm q => by
  obtain ⟨x, y, hx, hy, hg⟩ := two hm
  refine wE_of (pe_op op_catT pe_sem pe_sem) (sb2 ha hb ok hx hy fun v u H' x' ok' r1 r2 => ?_)
  unfold gCatT at hg
  split at hg
  · rename_i xs ys
    split at hg
    · rename_i hc
      obtain ⟨i1, i2, n1, n2, hl⟩ := hc
      cases hg
      cases r1 with
      | @tup p vs _ hv ra =>
        cases r2 with
        | @tup p2 ws _ hw rb =>
          have l1 := ra.length
          have l2 := rb.length
          refine ⟨p, p2, vs, ws, rfl, rfl, .inl (view_rd hv), .inl (view_rd hw), fun z => n1 (by rw [z] at l1; exact List.length_eq_zero_iff.mp l1.symm), by omega, fun z => absurd (by rw [z] at l2; exact List.length_eq_zero_iff.mp l2.symm) n2, fun _ l hnl => ?_⟩
          have rc : RpAll (view H') (vs ++ ws) (xs ++ ys) := ra.append rb
          have hi : immAll (xs ++ ys) = true := imm_app i1 i2
          have ok4 := (ok'.levs (k := 0) rc hi).newTup (by simp [l1, l2]) hnl
          exact q _ _ (x'.trans (Ext.upd hnl)) (EnvOk.tail ok4) ok4.rp (by show immAll _ = true; exact hi)
    · cases hg
  · cases hg
end
theorem gCatT_23 (o : Int × Int) (s : Int) : gCatT (t2 o) (.tup [.int s]) = .ok (t3 ⟨o.1, o.2, s⟩) := by
  show gCatT (.tup [.int o.1, .int o.2]) (.tup [.int s]) = _
  unfold gCatT
  dsimp only
  rw [if_pos ⟨rfl, rfl, by simp, by simp, sizeLine_big (by simp)⟩]; rfl
end Mir

namespace Mir
open PySem PySem.Spec L2
/-! ### == of dicts whose keys are tuples -/
section
variable {prog : Program} {w : World} {K : Type} [DecidableEq K] {knd : HeapKind prog w K} {A : Around} {E : Value → Shared → Prop} {s : Shared}
theorem samePairsH {nm : String} {a b : Addr} {xa xb : List (K × Addr × Value)} {Q : Bool → Shared → Prop} (hu : knd.room A) (ha : (a == sysModules) = false) (hb : (b == sysModules) = false)
    (da : s.heap.DictOfH knd a xa) (db : s.heap.DictOfH knd b xb) (hlen : xa.length = xb.length) (hits : ∀ x ∈ xa, ∀ (j : Nat) (p : Addr × Value), xb[j]? = some (x.1, p) → SeqAt.EqP prog w A s x.2.2 p.2 true) (hin : ∀ x ∈ xa, ∃ (j : Nat) (p : Addr × Value), xb[j]? = some (x.1, p)) (h : Q true s) :
    wpAny (model prog w) A (Builtin.Dict.samePairs nm a b) Q E s := by
  obtain ⟨oa, es, ep, hoa, _, hda, hea, hia, hna⟩ := da
  obtain ⟨ob, es', ep', hob, _, hdb, heb, hib, hnb⟩ := db
  have hla : xa.length = es.size := (size_of_entries hea).symm
  have hlb : xb.length = es'.size := (size_of_entries heb).symm
  unfold Builtin.Dict.samePairs Builtin.Dict.showsAll
  rw [if_neg (show ¬ (a == sysModules) = true by rw [ha]; exact Bool.false_ne_true), if_neg (show ¬ (b == sysModules) = true by rw [hb]; exact Bool.false_ne_true)]
  refine wpAny_bind (wpAny_pure (wpAny_bind (wpAny_pure ?_)))
  refine wpAny_bind (wpAny_dictEntries hoa hda ?_)
  dsimp only
  refine wpAny_bind (wpAny_dictEntries hob hdb ?_)
  have hsz : es.size = es'.size := by omega
  rw [if_neg (by rw [hsz]; simp)]
  refine wpAny_bind (wpAny_dictEpoch hoa hda ?_)
  refine wpAny_bind ?_
  rw [Std.Legacy.Range.forIn_eq_forIn_range']
  simp only [Std.Legacy.Range.size, Nat.sub_zero, Nat.add_sub_cancel, Nat.div_one]
  refine wpAny_forIn_list _
    (fun rest q s' => s' = s ∧ q = (none, ()) ∧ ∃ i, rest = List.range' i (es.size - i) ∧ i ≤ es.size)
    _ ?_ ?_ _ _ ⟨rfl, rfl, 0, by simp, Nat.zero_le _⟩
  · rintro x rest q s' ⟨rfl, rfl, i, hr, hi⟩
    have hlt : i < es.size := by
      rcases Nat.lt_or_ge i es.size with h | h
      · exact h
      · rw [Nat.sub_eq_zero_of_le h] at hr; simp at hr
    obtain ⟨rfl, hrest⟩ : x = i ∧ rest = List.range' (i + 1) (es.size - (i + 1)) := by
      have e : es.size - i = (es.size - (i + 1)) + 1 := by omega
      rw [e, List.range'_succ] at hr
      injection hr with h1 h2
      exact ⟨h1, h2⟩
    refine wpAny_bind (wpAny_dictEntries hoa hda ?_)
    rw [Array.getElem?_eq_getElem hlt]
    obtain ⟨y, hy⟩ : ∃ y, xa[x]? = some y := ⟨xa[x], List.getElem?_eq_getElem (by omega)⟩
    have hym := List.mem_of_getElem? hy
    have hex : es[x] = entryOfKey knd y := by
      have q := entry_at hea x
      rw [hy, Array.getElem?_eq_getElem hlt] at q
      exact Option.some.inj q
    obtain ⟨j, p, hj⟩ := hin y hym
    show wpAny _ _ (holding [es[x].key, es[x].val] _ >>= _) _ _ _
    rw [hex]
    refine wpAny_bind (wpAny_holding (wpAny_bind (wpAny_dictFind_heap hu (hia y hym) hob hdb heb hib hnb (fun hno => absurd hj (hno j p)) fun j2 p2 hj2 => ?_)))
    refine wpAny_bind (wpAny_dictEntries hob hdb ?_)
    have hej : es'[j2]? = some (entryOfKey knd (y.1, p2)) := by rw [entry_at heb j2, hj2]; rfl
    rw [hej]
    refine wpAny_holding (hits y hym j2 p2 hj2 _ _ ?_)
    show wpAny _ _ (if (!true) = true then _ else _) _ _ _
    rw [if_neg (by decide)]
    refine wpAny_bind (wpAny_dictEpoch hoa hda ?_)
    rw [if_neg (by simp)]
    exact wpAny_pure ⟨rfl, rfl, x + 1, hrest, hlt⟩
  · rintro q s' ⟨rfl, rfl, i, hr, hi⟩
    exact wpAny_pure h
theorem eqDictH {a b : Addr} {xa xb : List (K × Addr × Value)} {op : CmpOp} {r : Bool} {Q : Value → Shared → Prop} (hop : (op = .Eq ∧ r = true) ∨ (op = .NotEq ∧ r = false)) (hu : A.units < cLine) (hu2 : knd.room A.in1) (ha : (a == sysModules) = false) (hb : (b == sysModules) = false)
    (da : s.heap.DictOfH knd a xa) (db : s.heap.DictOfH knd b xb) (hlen : xa.length = xb.length) (hits : ∀ x ∈ xa, ∀ (j : Nat) (p : Addr × Value), xb[j]? = some (x.1, p) → SeqAt.EqP prog w A.in1 s x.2.2 p.2 true) (hin : ∀ x ∈ xa, ∃ (j : Nat) (p : Addr × Value), xb[j]? = some (x.1, p)) (h : Q (.bool r) s) :
    wpAny (model prog w) A (compareOp op (.ref a) (.ref b)) Q E s := by
  rcases hop with ⟨rfl, rfl⟩ | ⟨rfl, rfl⟩
  · refine wpAny_richCompare_same_room (op := .Eq) da.typeIs db.typeIs PySem.F.slot_dict_eq (wpAny_call_entry PySem.F.slot_dict_eq da.typeIs PySem.F.entry_dict_eq ?_ (PySem.F.args_dict_eq_2 _ _)) hu
    show wpAny _ _ (Builtin.Dict.dictSlotArgs "__eq__" ⟨[.ref a, .ref b], []⟩ >>= _) _ _ s
    refine wpAny_bind ?_
    unfold Builtin.Dict.dictSlotArgs
    refine wpAny_bind (wpAny_notOrdered_dict da.typeIs ?_)
    show wpAny _ _ (pure (Value.ref a, Value.ref b)) _ _ s
    refine wpAny_pure ?_
    refine wpAny_bind (wpAny_isInstance (T := "dict") db.typeIs PySem.F.sub_dict_dict ?_)
    simp only [Bool.not_true, Bool.false_eq_true, if_false]
    refine wpAny_bind (wpAny_pure (wpAny_bind (wpAny_pure ?_)))
    refine wpAny_bind (samePairsH hu2 ha hb da db hlen hits hin ?_)
    refine wpAny_pure ⟨_, rfl, ?_, ?_⟩
    · exact fun x => nomatch x
    · exact h
  · refine wpAny_richCompare_same_room (op := .NotEq) da.typeIs db.typeIs PySem.F.slot_dict_ne (wpAny_call_entry PySem.F.slot_dict_ne da.typeIs PySem.F.entry_dict_ne ?_ (PySem.F.args_dict_ne_2 _ _)) hu
    show wpAny _ _ (Builtin.Dict.dictSlotArgs "__ne__" ⟨[.ref a, .ref b], []⟩ >>= _) _ _ s
    refine wpAny_bind ?_
    unfold Builtin.Dict.dictSlotArgs
    refine wpAny_bind (wpAny_notOrdered_dict da.typeIs ?_)
    show wpAny _ _ (pure (Value.ref a, Value.ref b)) _ _ s
    refine wpAny_pure ?_
    refine wpAny_bind (wpAny_isInstance (T := "dict") db.typeIs PySem.F.sub_dict_dict ?_)
    simp only [Bool.not_true, Bool.false_eq_true, if_false]
    refine wpAny_bind (wpAny_pure (wpAny_bind (wpAny_pure ?_)))
    refine wpAny_bind (samePairsH hu2 ha hb da db hlen hits hin ?_)
    refine wpAny_pure ⟨_, rfl, ?_, ?_⟩
    · exact fun x => nomatch x
    · exact h
end
/-- the same keys with like values -/
def dtSame : D → D → Bool
  | .dt ks ds, .dt ls es => decide (ks.length = ls.length) && decide (ks.length = ds.length) && decide (ls.length = es.length) && (List.zipWith (fun k d => match dFind ls es k with | some e => shp d && shp e && PyData.eqv d.py e.py | none => false) ks ds).all id
  | _, _ => false
theorem kt_get {H : Hp} {kvs : List (List Key × V)} {xs : List (List Key × Addr × Value)} (r : KT H kvs xs) {j : Nat} {x : List Key × Addr × Value} (hj : xs[j]? = some x) : ∃ v, kvs[j]? = some (x.1, v) ∧ RelV v x.2.2 := by
  induction r generalizing j with
  | nil => cases hj
  | @cons p q ps qs h t ih =>
    cases j with
    | zero =>
      cases hj
      exact ⟨p.2, by rw [← h.1]; rfl, h.2.2⟩
    | succ j => exact ih (by simpa using hj)
theorem valV_mem {κ : Type} [DecidableEq κ] {kvs : List (κ × V)} (hn : (kvs.map (·.1)).Nodup) {k : κ} {v : V} (h : (k, v) ∈ kvs) : valV kvs k = some v := by
  induction kvs with
  | nil => cases h
  | cons x kvs ih =>
    obtain ⟨h1, h2⟩ := List.nodup_cons.mp hn
    unfold valV
    rcases List.mem_cons.mp h with e | h
    · subst e; simp
    · have hne : ¬ x.1 = k := fun z => h1 (by show x.1 ∈ _; rw [z]; exact List.mem_map_of_mem (f := (·.1)) h)
      have := ih h2 h
      unfold valV at this
      rw [List.find?_cons]
      simp [hne, this]
section
variable {X : Cx}
theorem op_eqDT {op : CmpOp} {r : Bool} (hop : (op = .Eq ∧ r = true) ∨ (op = .NotEq ∧ r = false)) (hu : X.A.units + 65 < cLine) {x y : D} {v w : V} {H : Hp} (rx : Rp (view H) v x) (ry : Rp (view H) w y) (h : dtSame x y = true) {pins : List (Addr × Obj)} {σ : St} {s : Shared} {u u2 : Value} {Q : VK} (I : Inv X pins σ H s) (r1 : RelV v u) (r2 : RelV w u2) (q : Q (.bl r) H) :
    wpAny (model X.prog X.w) X.A (compareOp op u u2) (EP X pins σ Q) X.xe s := by
  unfold dtSame at h
  split at h
  · rename_i ks ds ls es
    simp only [Bool.and_eq_true, decide_eq_true_eq, List.all_eq_true, id] at h
    obtain ⟨⟨⟨h1, h2⟩, h3⟩, h4⟩ := h
    cases rx with
    | @dt a kvs _ _ hv ek ra =>
      cases ry with
      | @dt b lvs _ _ hw el rb =>
        subst ek el
        cases (show u = Value.ref a from r1)
        cases (show u2 = Value.ref b from r2)
        obtain ⟨za, ya, xa, ka, da⟩ := dt_rd I.hok (view_rd hv)
        obtain ⟨zb, yb, xb, kb, db⟩ := dt_rd I.hok (view_rd hw)
        have la : kvs.length = xa.length := Paired.length ka
        have lb : lvs.length = xb.length := Paired.length kb
        have hnb : (xb.map (·.1)).Nodup := by obtain ⟨_, _, _, _, _, _, _, _, n⟩ := db; exact n
        have hkb : lvs.map (·.1) = xb.map (·.1) := by
          clear h4 hw rb lb hnb db zb h1 h3
          induction kb with
          | nil => rfl
          | cons h t ih => rw [List.map_cons, List.map_cons, ih, h.1]
        have hkm : ∀ x ∈ xa, ∃ (v : V) (d : D) (e : D) (w : V), RelV v x.2.2 ∧ Rp (view H) v d ∧ valV lvs x.1 = some w ∧ Rp (view H) w e ∧ shp d = true ∧ shp e = true ∧ PyData.eqv d.py e.py = true := fun x hx => by
          obtain ⟨i, hi⟩ := List.mem_iff_getElem?.mp hx
          obtain ⟨v, hvi, rv⟩ := kt_get ka hi
          have g1 : (kvs.map (·.1))[i]? = some x.1 := by rw [List.getElem?_map, hvi]; rfl
          have g2 : (kvs.map (·.2))[i]? = some v := by rw [List.getElem?_map, hvi]; rfl
          obtain ⟨d, hd, rd⟩ := ra.get' g2
          have h5 := h4 _ (List.mem_of_getElem? (i := i) (by rw [List.getElem?_zipWith, g1, hd]))
          obtain ⟨f1, f2⟩ := find_rp (x := x.1) rb
          cases hf : dFind (lvs.map (·.1)) es x.1 with
          | none => simp [hf] at h5
          | some e =>
            simp only [hf, Bool.and_eq_true] at h5
            obtain ⟨w, hw2, rw2⟩ := f2 _ hf
            exact ⟨v, d, e, w, rv, rd, hw2, rw2, h5.1.1, h5.1.2, h5.2⟩
        refine eqDictH (knd := tupleKind (mixKind X.prog X.w)) (A := X.A) hop (by omega) (tupleKind_room_in1 (by omega)) ya yb da db (by simp at h1; omega) (fun x hx j p hj => ?_) (fun x hx => ?_) ⟨.bl r, H, I, rfl, q⟩
        · obtain ⟨v, d, e, w, rv, rd, hw2, rw2, s1, s2, s3⟩ := hkm x hx
          obtain ⟨w', hw', rw'⟩ := kt_get kb hj
          have : valV lvs x.1 = some w' := valV_mem (by rw [hkb]; exact hnb) (List.mem_of_getElem? hw')
          rw [hw2] at this
          cases this
          obtain ⟨as, R1⟩ := Dp.reads I d.py v x.2.2 (rd.dp (shaped_lay s1)) rv
          obtain ⟨bs, R2⟩ := Dp.reads I e.py w p.2 (rw2.dp (shaped_lay s2)) rw'
          intro E Q hq
          have hroom : X.A.in1.units + 64 < cLine := by
            have : X.A.in1.units = X.A.units + 1 := rfl
            omega
          refine SeqAt.eqBoolOverData X.prog X.w X.A.in1 E s x.2.2 p.2 d.py e.py as bs Q R1 R2 (SeqAt.canLay_of_shaped s1) (SeqAt.canLay_of_shaped s2) (SeqAt.room_of_shaped s1 hroom) ?_
          rw [s3]; exact hq
        · obtain ⟨v, d, e, w, rv, rd, hw2, rw2, s1, s2, s3⟩ := hkm x hx
          have hm : x.1 ∈ lvs.map (·.1) := by
            refine Classical.byContradiction fun hm => ?_
            have : valV lvs x.1 = none := by
              unfold valV
              rw [List.find?_eq_none.mpr fun y hy => ?_]; rfl
              simp only [decide_eq_true_eq]
              exact fun e => hm (e ▸ List.mem_map_of_mem (f := (·.1)) hy)
            rw [this] at hw2; cases hw2
          rw [hkb] at hm
          obtain ⟨y, hy, e⟩ := List.mem_map.mp hm
          obtain ⟨j, hj⟩ := List.mem_iff_getElem?.mp hy
          exact ⟨j, y.2, by rw [hj, ← e]⟩
  · cases h
def gEqDT (x y : D) : Res D := if dtSame x y then .ok (.bl true) else .bad
def gNeDT (x y : D) : Res D := if dtSame x y then .ok (.bl false) else .bad
/-- == and != of two dicts of tuple keys that are alike -/
theorem sc_eqDT {a b : Expr} {ma mb : Env → Res D} {op : CmpOp} {r : Bool} {pos : Pos} {g : D → D → Res D} (hop : (op = .Eq ∧ r = true) ∨ (op = .NotEq ∧ r = false)) (hgg : ∀ x y d, g x y = .ok d → dtSame x y = true ∧ d = .bl r) (hu : X.A.units + 65 < cLine) (ha : SB X a ma) (hb : SB X b mb) (hm : behindInMarks op b = false) : SC X (.Compare a [op] [b] pos) (mOp g ma mb) := fun B H env σ tm d Q ok hmm q => by
  obtain ⟨x, y, hx, hy, hg⟩ := two hmm
  obtain ⟨hs, rfl⟩ := hgg x y d hg
  refine wE_of (pe_cmpR (r := fun v u H Q => ∃ x y, Rp (view H) v x ∧ Rp (view H) u y ∧ dtSame x y = true ∧ Q (.bl r) H) (fun pins s σ H v w u u2 Q I r1 r2 ⟨x, y, rx, ry, hs, q⟩ => op_eqDT hop hu rx ry hs I r1 r2 q) pe_sem pe_sem hm) (sb2 ha hb ok hx hy fun v u H' x' ok' r1 r2 => ⟨x, y, r1, r2, hs, q _ H' x' ok' (.bl _) rfl⟩)
theorem gEqDT_ok {x y d : D} (h : gEqDT x y = .ok d) : dtSame x y = true ∧ d = .bl true := by
  unfold gEqDT at h
  split at h
  · rename_i hs; cases h; exact ⟨hs, rfl⟩
  · cases h
theorem gNeDT_ok {x y d : D} (h : gNeDT x y = .ok d) : dtSame x y = true ∧ d = .bl false := by
  unfold gNeDT at h
  split at h
  · rename_i hs; cases h; exact ⟨hs, rfl⟩
  · cases h
end
end Mir

namespace Mir
open PySem PySem.Spec L2
/-! ### sorted(set(pairs)) -/
def prsD : List D → Option (List (Int × Int))
  | [] => some []
  | .tup [.int i, .int j] :: ds => (prsD ds).map ((i, j) :: ·)
  | _ => none
theorem prsD_map : ∀ ps : List (Int × Int), prsD (ps.map t2) = some ps
  | [] => rfl
  | p :: ps => by
    show (prsD (ps.map t2)).map ((p.1, p.2) :: ·) = _
    rw [prsD_map ps]; rfl
def lp (p : Int × Int) : List Int := [p.1, p.2]
def fp (l : List Int) : Int × Int := (l.getD 0 0, l.getD 1 0)
theorem fp_lp (p : Int × Int) : fp (lp p) = p := rfl
theorem prs_rp {H : Hp} : ∀ {vs : List V} {ds : List D} {ps : List (Int × Int)}, RpAll (view H) vs ds → prsD ds = some ps → ∃ ks : List (Addr × List Int), vs = ks.map (fun p => V.ref p.1) ∧ (∀ p ∈ ks, view H p.1 = some (.tup (p.2.map V.int))) ∧ ks.map (·.2) = ps.map lp
  | _, _, ps, .nil, h => by cases h; exact ⟨[], rfl, fun p hp => absurd hp List.not_mem_nil, rfl⟩
  | _, _, ps, .cons (d := d) (ds := ds) hr r, h => by
    unfold prsD at h
    split at h
    · rename_i hz; cases hz
    · rename_i i j ds' hz
      cases hz
      cases hq : prsD ds with
      | none => rw [hq] at h; cases h
      | some qs =>
        rw [hq] at h
        cases h
        obtain ⟨ks, h1, h2, h3⟩ := prs_rp r hq
        cases hr with
        | @tup a ws _ hv ra =>
          cases ra with
          | cons r1 r2 =>
            cases r2 with
            | cons r3 r4 =>
              cases r4
              cases r1
              cases r3
              exact ⟨(a, [i, j]) :: ks, by rw [h1]; rfl, fun p hp => (List.mem_cons.mp hp).elim (fun e => by rw [e]; exact hv) (h2 p), by rw [List.map_cons, h3]; rfl⟩
    · cases h
def gSortSetT : D → Res D
  | .lst ds => match prsD ds with
    | some ps => if ps.length < 60 ∧ (ps.all fun p => decide (0 ≤ p.1) && decide (0 ≤ p.2)) = true then .ok (.lst ((sorted (dedup ps)).map t2)) else .bad
    | none => .bad
  | _ => .bad
def bnd (ps : List (Int × Int)) : Int := 1 + (ps.map fun p => p.1 + p.2).sum
theorem bnd_le : ∀ (ps : List (Int × Int)), (∀ p ∈ ps, 0 ≤ p.1 ∧ 0 ≤ p.2) → ∀ p ∈ ps, p.1 < bnd ps ∧ p.2 < bnd ps := by
  have pos : ∀ ps : List (Int × Int), (∀ p ∈ ps, 0 ≤ p.1 ∧ 0 ≤ p.2) → 0 ≤ (ps.map fun p => p.1 + p.2).sum := by
    intro ps
    induction ps with
    | nil => intro _; exact Int.le_refl _
    | cons q ps ih =>
      intro h
      have h1 := ih fun p hp => h p (List.mem_cons_of_mem _ hp)
      have h2 := h q List.mem_cons_self
      rw [List.map_cons, List.sum_cons]; omega
  intro ps
  induction ps with
  | nil => intro _ p hp; cases hp
  | cons q ps ih =>
    intro h p hp
    have h0 := pos ps fun p hp => h p (List.mem_cons_of_mem _ hp)
    have h2 := h q List.mem_cons_self
    unfold bnd at *
    rw [List.map_cons, List.sum_cons]
    rcases List.mem_cons.mp hp with e | hp
    · rw [e]; omega
    · have := ih (fun p hp => h p (List.mem_cons_of_mem _ hp)) p hp
      omega
theorem lt_pair (a b : Int × Int) (h : a.1 < b.1 ∨ (a.1 = b.1 ∧ a.2 ≤ b.2)) : Dat.lt b a = false := by
  show (if b.1 = a.1 then decide (b.2 < a.2) else decide (b.1 < a.1)) = false
  split
  · simp; omega
  · simp; omega
section
variable {X : Cx} {e : Expr} {m : Env → Res D} {k : Nat} {pos p p2 pos2 : Pos}
theorem se_sortSetT (hc : X.calm = true) (hu : X.A.units + 65 < cLine) (hg : Gl X "sorted") (hm0 : X.mg "sorted" = none) (hg2 : Gl X "set") (hm2 : X.mg "set" = none) (h : SB X e m)
    (he : starEach [.Call (.Name "set" p2) [e] [] pos2] X.env = (false, eval (.Call (.Name "set" p2) [e] [] pos2) X.env) :: starEach [] X.env := by rfl) (hpl : (backTo pos (starEach [] X.env)).any (·.1) = false := by rfl)
    (he2 : starEach [e] X.env = (false, eval e X.env) :: starEach [] X.env := by rfl) (hpl2 : (backTo pos2 (starEach [] X.env)).any (·.1) = false := by rfl) :
    SE X (k + 1) [] (.Call (.Name "sorted" p) [.Call (.Name "set" p2) [e] [] pos2] [] pos) (fun env => m env >>= gSortSetT) := fun B H env σ tm d Q ok hm q => by
  obtain ⟨x, hx, h2⟩ := bind_ok hm
  refine wE_of (pe_callB (cr_sortedT hc) hg hm0 (by decide +kernel) (pa_cons (pe_callTy (cr_setOfT hc (by omega)) hg2 hm2 (by decide +kernel) (pa_cons pe_sem pa_nil he2) (by decide) (by decide) he2 hpl2) pa_nil he) (by decide) (by decide) he hpl) (h B H env σ tm _ _ ok hx fun v H1 x1 ok1 r => ?_)
  cases r with
  | @lst a vs ds hv ra =>
    unfold gSortSetT at h2
    dsimp only at h2
    split at h2
    · rename_i ps hb
      split at h2
      · rename_i hl
        obtain ⟨hl, hpos⟩ := hl
        cases h2
        have hpos : ∀ p ∈ ps, 0 ≤ p.1 ∧ 0 ≤ p.2 := fun p hp => by
          have := List.all_eq_true.mp hpos p hp
          simpa using this
        obtain ⟨ks, e1, e2, e3⟩ := prs_rp ra hb
        subst e1
        have hkl : ks.length = ps.length := by have := congrArg List.length e3; simpa using this
        refine ⟨a, ks, rfl, .inl (view_rd hv), fun p hp => .inl (view_rd (e2 p hp)), by omega, fun pa L hpa hL1 hL2 => ?_⟩
        have hvn : ∀ (b : Addr) (o : HO), view H1 b = some o → view (upd H1 pa (SetTO X.prog X.w pa L)) b = some o := fun b o hb => by
          have : b ≠ pa := fun z => by
            subst z
            unfold view at hb
            rw [hpa] at hb; cases hb
          unfold view at hb ⊢
          rw [upd_ne this]; exact hb
        have hks : ∀ q ∈ ks, ∃ x ∈ ps, q.2 = lp x := fun q hq => by
          have : q.2 ∈ ks.map (·.2) := List.mem_map_of_mem (f := (·.2)) hq
          rw [e3] at this
          obtain ⟨x, hx, ex⟩ := List.mem_map.mp this
          exact ⟨x, hx, ex.symm⟩
        refine ⟨pa, L, 2, bnd ps, rfl, upd_same, fun q hq => .inl (view_rd (hvn _ _ (e2 q (hL1 q hq)))), by decide, fun q hq => ?_, fun L' p' hperm hnd hlen hpw hp' => ?_⟩
        · obtain ⟨x, hx, ex⟩ := hks q (hL1 q hq)
          rw [ex]
          refine ⟨rfl, fun m hm => ?_⟩
          have b1 := hpos x hx
          have b2 := bnd_le ps hpos x hx
          unfold lp at hm
          rcases List.mem_cons.mp hm with rfl | hm
          · exact ⟨b1.1, b2.1⟩
          · rw [List.mem_singleton.mp hm]; exact ⟨b1.2, b2.2⟩
        · have hLk : ∀ q ∈ L', q ∈ ks := fun q hq => hL1 q (hperm.mem_iff.mp hq)
          have hfl : ∀ q ∈ L', q.2 = lp (fp q.2) ∧ fp q.2 ∈ ps := fun q hq => by
            obtain ⟨x, hx, ex⟩ := hks q (hLk q hq)
            rw [ex]; exact ⟨rfl, hx⟩
          have hys : sorted (dedup ps) = L'.map fun q => fp q.2 := by
            refine sorted_eq ((List.perm_ext_iff_of_nodup (dedup_nodup ps) ?_).mpr fun x => ?_) ?_
            · have h1 : (L'.map (·.2)).Pairwise (· ≠ ·) := hnd
              refine List.pairwise_map.mpr (List.Pairwise.imp_of_mem (fun {q r} hq hr hne e => hne ?_) (List.pairwise_map.mp h1))
              rw [(hfl q hq).1, (hfl r hr).1, e]
            · rw [dedup_mem, List.mem_map]
              constructor
              · intro hx
                have : lp x ∈ ks.map (·.2) := by rw [e3]; exact List.mem_map_of_mem hx
                obtain ⟨q, hq, eq⟩ := List.mem_map.mp this
                have := hL2 q hq
                rw [eq] at this
                obtain ⟨r, hr, er⟩ := List.mem_map.mp this
                exact ⟨r, hperm.mem_iff.mpr hr, by rw [er]; rfl⟩
              · rintro ⟨q, hq, rfl⟩
                exact (hfl q hq).2
            · refine List.pairwise_map.mpr (List.Pairwise.imp_of_mem (fun {q r} hq hr hle => ?_) hpw)
              obtain ⟨q1, q2⟩ := hfl q hq
              obtain ⟨r1, r2⟩ := hfl r hr
              rw [q1, r1] at hle
              have bd : ∀ x ∈ ps, TS.Bd (bnd ps) (lp x) := fun x hx m hm => by
                have b1 := hpos x hx
                have b2 := bnd_le ps hpos x hx
                unfold lp at hm
                rcases List.mem_cons.mp hm with rfl | hm
                · exact ⟨b1.1, b2.1⟩
                · rw [List.mem_singleton.mp hm]; exact ⟨b1.2, b2.2⟩
              exact lt_pair _ _ (code_lex (bd _ q2) (bd _ r2) hle)
          have ok2 : EnvOk B (upd H1 pa (SetTO X.prog X.w pa L)) env σ tm := by
            have := EnvOk.grow (H' := upd H1 pa (SetTO X.prog X.w pa L)) ok1 (up_keep hpa) ok1.bnone [] fun G g => ⟨G, [], fun _ _ e => e, fun _ _ => rfl, g.newMu hpa rfl rfl, .nil, List.nodup_nil, fun p hm => nomatch hm⟩
            exact this
          have hall : RpAll (view (upd H1 pa (SetTO X.prog X.w pa L))) (L'.map fun q => V.ref q.1) ((L'.map fun q => fp q.2).map t2) := by
            have : ∀ l : List (Addr × List Int), (∀ q ∈ l, q ∈ L') → RpAll (view (upd H1 pa (SetTO X.prog X.w pa L))) (l.map fun q => V.ref q.1) ((l.map fun q => fp q.2).map t2) := by
              intro l
              induction l with
              | nil => intro _; exact .nil
              | cons q l ih =>
                intro hl
                have hq := hl q List.mem_cons_self
                refine .cons ?_ (ih fun r hr => hl r (List.mem_cons_of_mem _ hr))
                have hv2 := hvn _ _ (e2 q (hLk q hq))
                rw [(hfl q hq).1] at hv2
                exact .tup hv2 (.cons (.int _) (.cons (.int _) .nil))
            exact this L' fun q hq => hq
          have him : immAll ((L'.map fun q => fp q.2).map t2) = true := by simp
          rw [hys] at q
          exact q _ _ ((x1.trans (Ext.upd hpa)).trans (Ext.upd hp')) ((ok2.levs (k := k) hall him).newLst (by simp) hp')
      · cases h2
    · cases h2
  | _ => cases h2
/-- max(a, b), min(a, b) of whole numbers -/
def gMax2 : D → D → Res D
  | .int i, .int j => .ok (.int (if j > i then j else i))
  | _, _ => .bad
def gMin2 : D → D → Res D
  | .int i, .int j => .ok (.int (if j < i then j else i))
  | _, _ => .bad
variable {f : Expr} {m' : Env → Res D}
theorem sc_max2 (hc : X.calm = true) (hg : Gl X "max") (hm0 : X.mg "max" = none) (h : SB X e m) (h' : SB X f m')
    (he : starEach [e, f] X.env = (false, eval e X.env) :: starEach [f] X.env := by rfl) (he2 : starEach [f] X.env = (false, eval f X.env) :: starEach [] X.env := by rfl) (hpl : (backTo pos (starEach [f] X.env)).any (·.1) = false := by rfl) :
    SC X (.Call (.Name "max" p) [e, f] [] pos) (mOp gMax2 m m') := fun B H env σ tm d Q ok hm q => by
  obtain ⟨x, y, hx, hy, hgg⟩ := two hm
  refine wE_of (pe_callB (call_max2 hc) hg hm0 (by decide +kernel) (pa_cons pe_sem (pa_cons pe_sem pa_nil he2) he) (by decide) (by decide) he hpl) (sb2 h h' ok hx hy fun v u H' x' ok' r1 r2 => ?_)
  unfold gMax2 at hgg
  split at hgg
  · cases hgg
    cases r1
    cases r2
    exact ⟨_, _, rfl, q _ H' x' ok' (.int _) rfl⟩
  · cases hgg
theorem sc_min2 (hc : X.calm = true) (hg : Gl X "min") (hm0 : X.mg "min" = none) (h : SB X e m) (h' : SB X f m')
    (he : starEach [e, f] X.env = (false, eval e X.env) :: starEach [f] X.env := by rfl) (he2 : starEach [f] X.env = (false, eval f X.env) :: starEach [] X.env := by rfl) (hpl : (backTo pos (starEach [f] X.env)).any (·.1) = false := by rfl) :
    SC X (.Call (.Name "min" p) [e, f] [] pos) (mOp gMin2 m m') := fun B H env σ tm d Q ok hm q => by
  obtain ⟨x, y, hx, hy, hgg⟩ := two hm
  refine wE_of (pe_callB (call_min2 hc) hg hm0 (by decide +kernel) (pa_cons pe_sem (pa_cons pe_sem pa_nil he2) he) (by decide) (by decide) he hpl) (sb2 h h' ok hx hy fun v u H' x' ok' r1 r2 => ?_)
  unfold gMin2 at hgg
  split at hgg
  · cases hgg
    cases r1
    cases r2
    exact ⟨_, _, rfl, q _ H' x' ok' (.int _) rfl⟩
  · cases hgg
/-! ### list(d), list(d.values()): dicts of tuple keys -/
theorem keys_rp {H : Hp} {kvs : List (List Key × V)} {bs : List Addr} (hk : IsKeys H kvs bs) : RpAll (view H) (bs.map V.ref) ((kvs.map (·.1)).map fun k => D.tup (k.map kD)) := by
  unfold IsKeys at hk
  induction hk with
  | nil => exact .nil
  | cons h t ih => exact .cons (.tup (vs := _) (by unfold view; rw [h]; rfl) (kDs_rp _)) ih
def dKeysT : D → Res D
  | .dt ks _ => .ok (.lst (ks.map fun k => .tup (k.map kD)))
  | _ => .bad
theorem se_listKT (hc : X.calm = true) (hg : Gl X "list") (hm0 : X.mg "list" = none) (h : SB X e m)
    (he : starEach [e] X.env = (false, eval e X.env) :: starEach [] X.env := by rfl) (hpl : (backTo pos (starEach [] X.env)).any (·.1) = false := by rfl) :
    SE X (k + 1) [] (.Call (.Name "list" p) [e] [] pos) (fun env => m env >>= dKeysT) := fun B H env σ tm d Q ok hm q => by
  obtain ⟨x, hx, h2⟩ := bind_ok hm
  refine wE_of (pe_callTy (call_list_dT hc) hg hm0 (by decide +kernel) (pa_cons pe_sem pa_nil he) (by decide) (by decide) he hpl) (h B H env σ tm _ _ ok hx fun v H1 x1 ok1 r => ?_)
  unfold dKeysT at h2
  split at h2
  · rename_i ks ds
    cases h2
    cases r with
    | @dt a kvs _ _ hv ek ra =>
      subst ek
      refine ⟨a, kvs, rfl, view_rd hv, fun p bs hp hk => ?_⟩
      have hall : RpAll (view H1) (bs.map V.ref) ((kvs.map (·.1)).map fun k => D.tup (k.map kD)) := keys_rp hk
      have him : immAll ((kvs.map (·.1)).map fun k => D.tup (k.map kD)) = true := by
        rw [immAll_iff]
        intro d hd
        obtain ⟨k, _, rfl⟩ := List.mem_map.mp hd
        exact kDs_imm k
      exact q _ _ (x1.trans (Ext.upd hp)) ((ok1.levs (k := k) hall him).newLst hall.length hp)
  · cases h2
end
def valsO (p d : Addr) : HO := .ext fun h => h.IsValuesView p d
theorem valsO_ok {P : Program} {w : World} {H : Hp} {h : Heap} {p d : Addr} (e : h.get? p = some { cls := .type "dict_values", data := .fields #[.ref d] }) : ObjOk P w H h p (valsO p d) :=
  ⟨⟨_, e, rfl, rfl⟩, ⟨_, e⟩, fun h1 h2 x k => let ⟨o, ho, r⟩ := x; ⟨o, k o ho, r⟩⟩
def tValsT (to : TE) : TE := fun σ H Q => to σ H fun x H1 => ∃ a kvs, x = .ref a ∧ Rd H1 a (.dT kvs) ∧ ∀ p, H1 p = none → Q (.ref p) (upd H1 p (valsO p a))
section
variable {X : Cx} {e : Expr} {te : TE} {apos cpos : Pos}
theorem pe_valsT (he : PE X e te) (hbase : attributeBase e "values" X.env (eval e X.env) = eval e X.env := by rfl) (hline : (apos.endLine == cpos.line) = true := by rfl) : PE X (.Call (.Attribute e "values" apos) [] [] cpos) (tValsT te) := by
  refine ⟨fun pins s σ H R I h => ?_⟩
  refine wpAny_Call_method (T := "dict") (id := "dict.values") hbase rfl hline F.plainAttrs_dict F.slot_dict_values F.type_dict_values (thn (he.run pins s σ H _ I h) fun u s1 ⟨x, H1, I1, rx, d, kvs, ex, hd, q⟩ => ?_)
  subst ex
  obtain rfl : u = Value.ref d := rx
  obtain ⟨hs, z, xs, rel, o, es, ep, hgd, hx, hdt, _⟩ := dt_rd I1.hok hd
  have hraw : s1.heap.DictRaw d es ep := ⟨o, hgd, hx, hdt⟩
  refine ⟨hraw.typeIs, fun a ea => by cases ea; exact ⟨o, hgd, hx.2.1⟩, ?_⟩
  show wpAny _ _ (callWith cpos (.builtin "dict.values") [.ref d] [] []) _ X.xe s1
  have hf : H1 s1.heap.objs.size = none := I1.hok.fresh (Nat.le_refl _)
  refine method_meetsIn F.slot_dict_values F.entry_dict_values rfl (PySem.evalArgs_none ⟨rfl, hraw.typeIs, F.args_dict_values_1 _, _, meets_dict_values_raw d z, ⟨es, ep, hraw⟩, ?_⟩)
  exact ⟨.ref s1.heap.objs.size, upd H1 s1.heap.objs.size (valsO s1.heap.objs.size d), I1.laid (t' := s1.toks) (fun b u e => Heap.get?_push_of_some _ e) (Nat.le_refl _) (valsO_ok (Heap.get?_push_size _ rfl)), rfl, q _ hf⟩
theorem call_list_vals (hc : X.calm = true) : CallR X (.type "list") (fun xs H Q => ∃ v d kvs, xs = [V.ref v] ∧ H v = some (valsO v d) ∧ Rd H d (.dT kvs) ∧ ∀ p, H p = none → Q (.ref p) (upd H p (.lst (kvs.map (·.2))))) := by
  intro pins s σ H xs us Q I r h
  obtain ⟨v, d, kvs, rfl, hv, hd, q⟩ := h
  obtain ⟨u, rfl, rx⟩ := r.one
  cases rx
  obtain ⟨z, hs, xs, rel, o, es, ep, ho, hx, hdt, he, _⟩ := dt_rd I.hok hd
  have hraw : s.heap.DictRaw d es ep := ⟨o, ho, hx, hdt⟩
  have hvw : s.heap.IsValuesView v d := (I.hok v _ hv).1
  have l1 : es.size = xs.length := size_of_entries he
  have l2 : kvs.length = xs.length := Paired.length rel
  refine PySem.W.kdl_call (PySem.KdlSrc.rawValues (r := v) (d := d) (es := es) (ep := ep)) (I.ok.hd hc) ⟨hvw, hraw⟩ (by omega) fun h' tk acc' c' kp e it => ?_
  have rv : Vals (kvs.map (·.2)) acc'.toList := by
    have hl : acc'.toList.length = kvs.length := by rw [Array.length_toList, it.1]; omega
    refine vals_of_at (by rw [List.length_map, hl]) fun j x w h1 h2 => ?_
    rw [List.getElem?_map] at h1
    cases hk : kvs[j]? with
    | none => rw [hk] at h1; cases h1
    | some kv =>
      rw [hk] at h1
      cases h1
      obtain ⟨b, hb, _, _, rvv⟩ := paired_get rel hk
      obtain ⟨hj, hw⟩ := it.2 j w (by rw [← Array.getElem?_toList]; exact h2)
      have qe := entry_at he j
      rw [hb, Array.getElem?_eq_getElem hj] at qe
      have e2 := Option.some.inj qe
      rw [hw, e2]
      exact rvv
  refine ⟨.ref s.heap.objs.size, _, I.laid (t' := tk) (o := .lst (kvs.map (·.2))) kp (Nat.le_refl _) ?_, rfl, q _ (I.hok.fresh (Nat.le_refl _))⟩
  exact ⟨by rw [List.length_map]; omega, acc'.toList, c', rv, by rw [Array.toArray_toList]; exact e⟩
end
def dValsTL : D → Res D
  | .dt ks ds => if ks.length = ds.length ∧ immAll ds = true then .ok (.lst ds) else .bad
  | _ => .bad
section
variable {X : Cx} {e : Expr} {m : Env → Res D} {k : Nat} {pos p apos cpos : Pos}
theorem se_listVT (hc : X.calm = true) (hg : Gl X "list") (hm0 : X.mg "list" = none) (h : SB X e m)
    (hbase : attributeBase e "values" X.env (eval e X.env) = eval e X.env := by rfl) (hline : (apos.endLine == cpos.line) = true := by rfl)
    (he : starEach [.Call (.Attribute e "values" apos) [] [] cpos] X.env = (false, eval (.Call (.Attribute e "values" apos) [] [] cpos) X.env) :: starEach [] X.env := by rfl) (hpl : (backTo pos (starEach [] X.env)).any (·.1) = false := by rfl) :
    SE X (k + 1) [] (.Call (.Name "list" p) [.Call (.Attribute e "values" apos) [] [] cpos] [] pos) (fun env => m env >>= dValsTL) := fun B H env σ tm d Q ok hm q => by
  obtain ⟨x, hx, h2⟩ := bind_ok hm
  refine wE_of (pe_callTy (call_list_vals hc) hg hm0 (by decide +kernel) (pa_cons (pe_valsT pe_sem hbase hline) pa_nil he) (by decide) (by decide) he hpl) (h B H env σ tm _ _ ok hx fun v H1 x1 ok1 r => ?_)
  unfold dValsTL at h2
  split at h2
  · rename_i ks ds
    split at h2
    · rename_i hcc
      obtain ⟨hlen, him⟩ := hcc
      cases h2
      cases r with
      | @dt a kvs _ _ hv ek ra =>
        subst ek
        refine ⟨a, kvs, rfl, view_rd hv, fun pv hpv => ?_⟩
        have hpa : a ≠ pv := fun z => by
          subst z
          unfold view at hv
          rw [hpv] at hv; cases hv
        have hvn : view (upd H1 pv (valsO pv a)) a = some (.dT kvs) := by
          unfold view at hv ⊢
          rw [upd_ne hpa]; exact hv
        refine ⟨pv, a, kvs, rfl, upd_same, view_rd hvn, fun p' hp' => ?_⟩
        have ok2 : EnvOk B (upd H1 pv (valsO pv a)) env σ tm := by
          have := EnvOk.grow (H' := upd H1 pv (valsO pv a)) ok1 (up_keep hpv) ok1.bnone [] fun G g => ⟨G, [], fun _ _ e => e, fun _ _ => rfl, g.newMu hpv rfl rfl, .nil, List.nodup_nil, fun p hm => nomatch hm⟩
          exact this
        have ra2 : RpAll (view (upd H1 pv (valsO pv a))) (kvs.map (·.2)) ds := (Ext.upd hpv).rpAll ra
        have hl2 : (kvs.map (·.2)).length = ds.length := by simpa using hlen
        exact q _ _ ((x1.trans (Ext.upd hpv)).trans (Ext.upd hp')) ((ok2.levs (k := k) ra2 him).newLst hl2 hp')
    · cases h2
  · cases h2
end
end Mir

namespace Mir
open PySem PySem.Spec L2
/-! ### [.. for k in d]: dicts of tuple keys -/
def dKeysTl : D → Res (List D)
  | .dt ks _ => .ok (ks.map fun k => .tup (k.map kD))
  | _ => .bad
section
variable {X : Cx} {e a b tg it o elt : Expr} {m ma mb me mk mx : Env → Res D} {k kr : Nat} {cs : List Nat} {pos p p2 cpos apos cpos2 apos2 lp : Pos}
/-! ### list(range(n)) -/
theorem se_lcKT {own is : List Nat} {scope : Scope} {ifs : List Expr} {t : Nat → D → Env → Res Env} {mt : Env → Res Bool} {j : Nat} (ow : List (Str × Nat)) (hc : X.calm = true) (hN : X.N.Nodup) (okb : BlkOk X.N X.env.scope scope ow) (eo : ow.map (·.2) = own)
    (hx : PE X o (tVar j)) (hg : Blk X scope fun Y => STg Y tg is t) (htg : TgOk is t) (his : ∀ i ∈ is, i ∈ own) (ht : Blk X scope fun Y => SPT Y ifs mt) (he : Blk X scope fun Y => SE Y k [] elt me)
    (hs : ∀ x, foldedSetIterable o X.env x = pure x := by intro _; rfl) :
    SE X (k + 1) [] (.ListComp elt [⟨tg, o, ifs, 0⟩] scope pos) (mLc (fun env => mVarK j 0 env >>= dKeysTl) t mt me own) := fun B H env σ tm d Q ok hm q => by
  subst eo
  have hm' := hm
  obtain ⟨u0, _, h2⟩ := bind_ok hm'
  obtain ⟨ds, hds, _⟩ := bind_ok h2
  obtain ⟨dd, hdd, hdv⟩ := bind_ok hds
  have hej := sh_slot hdd
  obtain ⟨v, hv, ok0⟩ := ok.slot0 hej
  have r0 := ok0.rp
  unfold dKeysTl at hdv
  split at hdv
  · rename_i ks vs
    cases hdv
    · cases r0 with
      | @dt dA kvs _ _ hvw ek ra =>
        subst ek
        have hB : ∀ z, B dA = some z → H dA = some z := fun z e => by
          obtain ⟨⟨G, fp, g, _⟩, _⟩ := ok
          exact g.bs dA z e
        have hBg : B dA ≠ none → B.g dA = some (.dT kvs) := fun e => by
          obtain ⟨G, fp, u', g, hG, _⟩ := ok0.shAt
          have : u' = .dT kvs := Option.some.inj ((g.gs dA u' hG).symm.trans hvw)
          rw [← g.g0 dA e, hG, this]
        have core : ∀ (od : Obj) (Q1 : VK), (∀ v H', Ext (upd H dA (.frz od (.dT kvs))) H' → EnvOk (pinB B dA (.frz od (.dT kvs)) (.dT kvs)) H' env σ ((v, k + 1, d) :: tm) → Q1 v H') →
            tLc (iKeys (tVar j)) (fun v σ H Q => Blk X scope fun Y => wG Y tg v σ H Q) (fun σ H Q => Blk X scope fun Y => ∀ (pins : List (Addr × Obj)) (s : Shared), Inv Y pins σ H s → wpAny (model Y.prog Y.w) Y.A (forIn ifs true fun c r => if r = true then do let ok ← isTrue c Y.env (eval c Y.env); pure (ForInStep.yield ok) else pure (ForInStep.yield r)) (TP Y pins σ Q) Y.xe s)
              (fun σ H Q => Blk X scope fun Y => wE Y elt σ H Q) (ow.map (·.2)) σ (upd H dA (.frz od (.dT kvs))) Q1 := fun od Q1 q1 => by
          have ok1 : EnvOk (pinB B dA (.frz od (.dT kvs)) (.dT kvs)) (upd H dA (.frz od (.dT kvs))) env σ ((.ref dA, 0, .dt (kvs.map (·.1)) vs) :: tm) := (ok0.dup).pin hvw rfl rfl
          have hi : ∀ (ds' : List D) (R : It → Hp → Prop), (mVarK j 0 env >>= dKeysTl) = .ok ds' → (∀ J H' ex, Ext (upd H dA (.frz od (.dT kvs))) H' → EnvOk (pinB B dA (.frz od (.dT kvs)) (.dT kvs)) H' env σ (ex ++ tm) → Yields (pinB B dA (.frz od (.dT kvs)) (.dT kvs)) J ex ds' → R J H') → iKeys (tVar j) σ (upd H dA (.frz od (.dT kvs))) R := fun ds' R hds' qq => by
            have e1 : ds' = (kvs.map (·.1)).map fun k => Mir.D.tup (k.map kD) := by
              have h0 : (Res.ok ds' : Res (List Mir.D)) = Res.ok ((kvs.map (·.1)).map fun k => Mir.D.tup (k.map kD)) := hds'.symm.trans hds
              cases h0; rfl
            subst e1
            refine ⟨.ref dA, hv, dA, od, rfl, .inr ⟨kvs, upd_same, qq _ _ [((V.ref dA, 0, Mir.D.dt (kvs.map fun x : List Key × V => x.1) vs) : Hold)] (Ext.refl _) ok1 fun i H2 env2 σ2 tm2 ok2 => ?_⟩⟩
            have hd2 : H2 dA = some (.frz od (.dT kvs)) := ok2.pinned
            have hll : ((kvs.map (·.1)).map fun k => Mir.D.tup (k.map kD)).length = kvs.length := by simp
            rw [hll]
            refine ⟨fun ei => ⟨hd2, by omega⟩, fun hi => ⟨⟨hd2, hi⟩, fun x H3 hy => ?_⟩⟩
            obtain ⟨rfl, k, v, T, hkv, rfl, hT⟩ := hy
            have g1 : (kvs.map (·.1))[i]? = some k := by rw [List.getElem?_map, hkv]; rfl
            refine ⟨.tup (k.map kD), by rw [List.getElem?_map, g1]; rfl, Ext.refl _, ok2.imm (.tup (vs := k.map kV) ?_ (kDs_rp k)) (by show immAll _ = true; exact kDs_imm k)⟩
            unfold view; rw [hT]; rfl
          exact lc_read hi hg htg his ht he ok1.tail hm q1
        cases hH : H dA with
        | none => rw [view_none hH] at hvw; cases hvw
        | some o1 =>
          have hu1 : unf o1 = .dT kvs := by
            unfold view at hvw
            rw [hH] at hvw
            exact Option.some.inj hvw
          have un : ∀ {od : Obj} {o' : HO} {H' : Hp} {tm' : List Hold}, unf o' = .dT kvs → (∀ z, B dA = some z → z = o') → EnvOk (pinB B dA (.frz od (.dT kvs)) (.dT kvs)) H' env σ tm' → EnvOk B (upd H' dA o') env σ tm' := fun ho hz ok' => ok'.unpin hz hBg (fun _ => .inr trivial) ho rfl rfl
          have pl : Unit → PE X (.ListComp elt [⟨tg, o, ifs, 0⟩] scope pos) (tLc (iKeys (tVar j)) (fun v σ H Q => Blk X scope fun Y => wG Y tg v σ H Q) (fun σ H Q => Blk X scope fun Y => ∀ (pins : List (Addr × Obj)) (s : Shared), Inv Y pins σ H s → wpAny (model Y.prog Y.w) Y.A (forIn ifs true fun c r => if r = true then do let ok ← isTrue c Y.env (eval c Y.env); pure (ForInStep.yield ok) else pure (ForInStep.yield r)) (TP Y pins σ Q) Y.xe s)
              (fun σ H Q => Blk X scope fun Y => wE Y elt σ H Q) (ow.map (·.2))) := fun (_ : Unit) => pe_lc hc hN (pi_keys hx) okb (fun s H C cl fp => ⟨fun pins s' σ H' v u Q I r h => h s H C cl fp pins s' u I r⟩) (fun s H C cl fp => ⟨fun pins s' σ H' Q I h => h s H C cl fp pins s' I⟩) (fun s H C cl fp => ⟨fun pins s' σ H' Q I h => h s H C cl fp pins s' I⟩) hs
          by_cases hfz : ∃ od, o1 = .frz od (.dT kvs)
          · obtain ⟨od, rfl⟩ := hfz
            have e1 : upd H dA (.frz od (.dT kvs)) = H := upd_self' hH
            refine wE_of (pl ()) ?_
            have c := core od Q fun v H' x' ok' => ?_
            · rw [e1] at c; exact c
            · rw [e1] at x'
              have hd' := ok'.pinned
              have ok2 := un (o' := .frz od (.dT kvs)) rfl (fun z e => Option.some.inj ((hB z e).symm.trans hH)) ok'
              rw [upd_self' hd'] at ok2
              exact q v H' x' ok2
          · have eo : o1 = .dT kvs := by
              cases o1 with
              | frz od w => exact absurd ⟨od, congrArg _ hu1⟩ hfz
              | _ => exact hu1
            subst eo
            refine wE_of (pe_lock (pl ())) ⟨dA, _, hH, trivial, fun od => core od _ fun v H' x' ok' => ⟨ok'.pinned, ?_⟩⟩
            refine q v _ (fun a o ha => ?_) (un rfl (fun z e => Option.some.inj ((hB z e).symm.trans hH)) ok')
            by_cases z : a = dA
            · subst z
              rw [upd_same, ← ha, hH]
            · rw [upd_ne z]
              exact x' a o (by rw [upd_ne z]; exact ha)
  · cases hdv
end
end Mir

namespace Mir
open PySem PySem.Spec L2
open PyProof.Rows (envOfC)

/-! ### exceptions -/
/-- what is known of an exception's own dict: its names, its values -/
def XAt (B : Bs) (H' : Hp) (dd : Option Addr) (ns : List Str) (as : List D) : Prop :=
  (ns = [] ∧ as = [] ∧ dd = none) ∨ ∃ dx kvs, dd = some dx ∧ B.h dx = none ∧ H' dx = some (.xd kvs) ∧ kvs.map (·.1) = ns ∧ RpAll (view H') (kvs.map (·.2)) as ∧ immAll as = true
def Kp (Z : List Nat) (σ σ' : St) : Prop := ∀ z ∈ Z, σ'[z]? = σ[z]?
theorem Kp.refl {Z : List Nat} {σ : St} : Kp Z σ σ := fun _ _ => rfl
theorem Kp.trans {Z : List Nat} {a b c : St} (h : Kp Z a b) (g : Kp Z b c) : Kp Z a c := fun z hz => (g z hz).trans (h z hz)
theorem Kp.set {Z : List Nat} {σ σ' : St} {i : Nat} {x : Option V} (h : Kp Z σ σ') (hi : Z.all (fun z => z != i) = true) : Kp Z σ (σ'.set i x) := fun z hz => by
  have := List.all_eq_true.mp hi z hz
  have ne : i ≠ z := fun e => by subst e; simp at this
  rw [List.getElem?_set_ne ne]; exact h z hz
/-- what a statement's mirror asks of what stands behind it -/
def PostK (κ : Str → Addr) (kr : Nat) (Z : List Nat) (W : WX) (B : Bs) (tm : List Hold) (σ : St) (D : Ends) : Res Ctl → Prop
  | .ok (.nx e) => ∀ σ' H', EnvOk B H' e σ' tm → Kp Z σ σ' → D.nx σ' H'
  | .ok (.bk e) => ∀ σ' H', EnvOk B H' e σ' tm → Kp Z σ σ' → D.bk σ' H'
  | .ok (.ct e) => ∀ σ' H', EnvOk B H' e σ' tm → Kp Z σ σ' → D.ct σ' H'
  | .ok (.rt d) => ∀ v H', EnvOk B H' [] [] ((v, kr, d) :: tm) → D.rt v H'
  | .exc c ns as => ∀ σ' H' dd, XAt B H' dd ns as → EnvOk B H' [] [] tm → Kp Z σ σ' → W (.ref (κ c)) dd σ' H'
  | .bad => False
def S1K (X : Cx) (κ : Str → Addr) (kr : Nat) (Z : List Nat) (W : WX) (st : Stmt) (m : Env → Res Ctl) : Prop := ∀ (B : Bs) (H : Hp) (env : Env) (σ : St) (tm : List Hold) (D : Ends), EnvOk B H env σ tm → PostK κ kr Z W B tm σ D (m env) → wS X st D σ H
def SSK (X : Cx) (κ : Str → Addr) (kr : Nat) (Z : List Nat) (W : WX) (ss : List Stmt) (m : Env → Res Ctl) : Prop := ∀ (B : Bs) (H : Hp) (env : Env) (σ : St) (tm : List Hold) (D : Ends), EnvOk B H env σ tm → PostK κ kr Z W B tm σ D (m env) → wB X ss D σ H
def PostE (κ : Str → Addr) (k : Nat) (cs : List Nat) (W : WX) (B : Bs) (H : Hp) (env : Env) (σ : St) (tm : List Hold) (Q : VK) : Res D → Prop
  | .ok d => ∀ v H', Ext H H' → EnvOk B H' (clear env cs) σ ((v, k, d) :: tm) → Q v H'
  | .exc c ns as => ∀ H' dd, XAt B H' dd ns as → EnvOk B H' [] [] tm → W (.ref (κ c)) dd σ H'
  | .bad => False
/-- an expression that may raise -/
def SEX (X : Cx) (κ : Str → Addr) (k : Nat) (cs : List Nat) (W : WX) (e : Expr) (m : Env → Res D) : Prop := ∀ (B : Bs) (H : Hp) (env : Env) (σ : St) (tm : List Hold) (Q : VK), EnvOk B H env σ tm → PostE κ k cs W B H env σ tm Q (m env) → wE X e σ H Q
/-- no exception -/
def nx {α : Type} : Res α → Res α
  | .exc _ _ _ => .bad
  | r => r
@[simp] theorem nx_ok {α : Type} (a : α) : nx (.ok a) = .ok a := rfl
def mN {α : Type} (m : Env → Res α) : Env → Res α := fun env => nx (m env)
section
variable {X : Cx} {κ : Str → Addr} {kr k : Nat} {Z : List Nat} {W : WX} {st : Stmt} {ss : List Stmt} {m m1 m2 : Env → Res Ctl} {me : Env → Res D} {e : Expr} {cs : List Nat} {pos : Pos}
theorem sx_se (h : SE X k cs e me) : SEX X κ k cs W e (mN me) := fun B H env σ tm Q ok p => by
  unfold mN at p
  cases hm : me env with
  | ok d => rw [hm] at p; exact h B H env σ tm d Q ok hm p
  | exc c ns as => rw [hm] at p; exact p.elim
  | bad => rw [hm] at p; exact p.elim
theorem s1_k (h : S1 X kr st m) : S1K X κ kr [] W st (mN m) := fun B H env σ tm D ok p => by
  unfold mN at p
  cases hm : m env with
  | ok r =>
    rw [hm] at p
    refine h B H env σ tm D r ok hm ?_
    cases r with
    | nx e => exact fun σ' H' ok' => p σ' H' ok' (fun _ z => nomatch z)
    | bk e => exact fun σ' H' ok' => p σ' H' ok' (fun _ z => nomatch z)
    | ct e => exact fun σ' H' ok' => p σ' H' ok' (fun _ z => nomatch z)
    | rt d => exact p
  | exc c ns as => rw [hm] at p; exact p.elim
  | bad => rw [hm] at p; exact p.elim
theorem ss_k (h : SS X kr ss m) : SSK X κ kr [] W ss (mN m) := fun B H env σ tm D ok p => by
  unfold mN at p
  cases hm : m env with
  | ok r =>
    rw [hm] at p
    refine h B H env σ tm D r ok hm ?_
    cases r with
    | nx e => exact fun σ' H' ok' => p σ' H' ok' (fun _ z => nomatch z)
    | bk e => exact fun σ' H' ok' => p σ' H' ok' (fun _ z => nomatch z)
    | ct e => exact fun σ' H' ok' => p σ' H' ok' (fun _ z => nomatch z)
    | rt d => exact p
  | exc c ns as => rw [hm] at p; exact p.elim
  | bad => rw [hm] at p; exact p.elim
theorem ss_nilK : SSK X κ kr Z W [] mSkip := fun B H env σ tm D ok p => wB_of pss_nil (p σ H ok Kp.refl)
theorem PostK.from {B : Bs} {tm : List Hold} {σ σ1 : St} {D : Ends} : ∀ {r : Res Ctl}, Kp Z σ σ1 → PostK κ kr Z W B tm σ D r → PostK κ kr Z W B tm σ1 D r := fun {r} k p => by
  cases r with
  | ok c =>
    cases c with
    | nx e => exact fun σ' H' ok' k' => p σ' H' ok' (k.trans k')
    | bk e => exact fun σ' H' ok' k' => p σ' H' ok' (k.trans k')
    | ct e => exact fun σ' H' ok' k' => p σ' H' ok' (k.trans k')
    | rt d => exact p
  | exc c ns as => exact fun σ' H' dd x ok' k' => p σ' H' dd x ok' (k.trans k')
  | bad => exact p
theorem ss_consK (h1 : S1K X κ kr Z W st m1) (h2 : SSK X κ kr Z W ss m2) : SSK X κ kr Z W (st :: ss) (mSeq m1 m2) := fun B H env σ tm D ok p => by
  refine wB_of (pss_cons ps_sem pss_sem) (h1 B H env σ tm { D with nx := wB X ss D } ok ?_)
  unfold mSeq at p
  cases hm : m1 env with
  | ok c =>
    rw [hm] at p
    cases c with
    | nx e => exact fun σ' H' ok' k' => h2 B H' e σ' tm D ok' (PostK.from k' p)
    | bk e => exact p
    | ct e => exact p
    | rt d => exact p
  | exc c ns as => rw [hm] at p; exact p
  | bad => rw [hm] at p; exact p
theorem ss_oneK (h1 : S1K X κ kr Z W st m1) : SSK X κ kr Z W [st] m1 := fun B H env σ tm D ok p => wB_of (pss_one ps_sem) (h1 B H env σ tm D ok p)
theorem s_ifK {c : Expr} {as bs : List Stmt} {t : Env → Res Bool} (hc : ST X c t) (ha : SSK X κ kr Z W as m1) (hb : SSK X κ kr Z W bs m2) : S1K X κ kr Z W (.If c as bs pos) (mIf (mN t) m1 m2) := fun B H env σ tm D ok p => by
  unfold mIf mN at p
  cases hm : t env with
  | ok b =>
    rw [hm] at p
    refine wS_of (ps_if pt_sem pss_sem pss_sem) (hc B H env σ tm b _ ok hm fun H' x' ok' => ?_)
    cases b with
    | true => exact ha B H' env σ tm D ok' p
    | false => exact hb B H' env σ tm D ok' p
  | exc c ns as => rw [hm] at p; exact p.elim
  | bad => rw [hm] at p; exact p.elim
theorem s_setK {i : Nat} {x : Str} {pos' : Pos} (hN : X.N.Nodup) (hi : X.N[i]? = some x) (hx : Loc X.env.scope x) (hz : Z.all (fun z => z != i) = true) (he : SEX X κ k cs W e me) (hs : swapsWith e (some (.Name x pos')) pos.line X.env = pure false := by rfl)
    (hf : X.fn x = true ∨ X.env.scope.names.lookup x = some .local := by first | exact .inl rfl | exact .inr rfl | assumption) : S1K X κ kr Z W (.Assign [.Name x pos'] e pos) (mSet i k cs me) := fun B H env σ tm D ok p => by
  refine wS_of (ps_set hN hi hx pe_sem hs hf) (he B H env σ tm _ ok ?_)
  unfold mSet at p
  cases hm : me env with
  | ok d =>
    rw [hm] at p
    intro v H' x' ok'
    have p' : PostK κ kr Z W B tm σ D (tName i k d (clear env cs) >>= fun e => .ok (.nx e)) := p
    unfold tName at p'
    split at p'
    · rename_i hl
      exact p' _ _ (ok'.store hl) (Kp.refl.set hz)
    · exact p'.elim
  | exc c ns as => rw [hm] at p; exact fun H' dd x ok' => p σ H' dd x ok' Kp.refl
  | bad => rw [hm] at p; exact p
def mExpr (m : Env → Res D) : Env → Res Ctl := fun env => m env >>= fun _ => .ok (.nx env)
theorem s_exprK (he : SEX X κ k [] W e me) (hs : swapsWith e none pos.line X.env = pure false := by rfl) : S1K X κ kr Z W (.Expr e pos) (mExpr me) := fun B H env σ tm D ok p => by
  refine wS_of (ps_expr pe_sem hs) (he B H env σ tm _ ok ?_)
  unfold mExpr at p
  cases hm : me env with
  | ok d => rw [hm] at p; exact fun v H' x' ok' => p σ H' ok'.tail Kp.refl
  | exc c ns as => rw [hm] at p; exact fun H' dd x ok' => p σ H' dd x ok' Kp.refl
  | bad => rw [hm] at p; exact p
/-- .. that raises nothing -/
theorem s_expr (he : SE X k [] e me) (hs : swapsWith e none pos.line X.env = pure false := by rfl) : S1 X kr (.Expr e pos) (mExpr me) := fun B H env σ tm D r ok hm p => by
  obtain ⟨d, hd, h2⟩ := bind_ok hm
  cases h2
  exact wS_of (ps_expr pe_sem hs) (he B H env σ tm d _ ok hd fun v H' x' ok' => p σ H' ok'.tail)
theorem s_retK (he : SEX X κ kr cs W e me) : S1K X κ kr Z W (.Return (some e) pos) (mRet me) := fun B H env σ tm D ok p => by
  refine wS_of (ps_ret pe_sem) (he B H env σ tm _ ok ?_)
  unfold mRet at p
  cases hm : me env with
  | ok d => rw [hm] at p; exact fun v H' x' ok' => p v H' ok'.noSlots
  | exc c ns as => rw [hm] at p; exact fun H' dd x ok' => p σ H' dd x ok' Kp.refl
  | bad => rw [hm] at p; exact p
theorem s_breakK : S1K X κ kr Z W (.Break pos) (fun env => .ok (.bk env)) := fun B H env σ tm D ok p => wS_of ps_break (p σ H ok Kp.refl)
theorem s_contK : S1K X κ kr Z W (.Continue pos) (fun env => .ok (.ct env)) := fun B H env σ tm D ok p => wS_of ps_continue (p σ H ok Kp.refl)
theorem s_passK : S1K X κ kr Z W (.Pass pos) mSkip := fun B H env σ tm D ok p => wS_of ps_pass (p σ H ok Kp.refl)
theorem s_fzK {i : Nat} (h : S1K X κ kr Z W st m1) : S1K X κ kr Z W st (mFz i m1) := fun B H env σ tm D ok p => h B H _ σ tm D (ok.fz i) p
theorem ss_fzK {i : Nat} (h : SSK X κ kr Z W ss m1) : SSK X κ kr Z W ss (mFz i m1) := fun B H env σ tm D ok p => h B H _ σ tm D (ok.fz i) p
/-! ### raise -/
def mRaise (c : Str) : Env → Res Ctl := fun _ => .exc c [] []
theorem s_raiseK {x msg : Str} {j : Nat} {p p2 pos' : Pos} {C : Addr} {bmB : List Value} {Bn newId initId : String} (hc : X.calm = true) (tk : Takes X W) (F : ExcBaseFacts Bn newId initId bmB) (q : PySem.W.excIn X.K C bmB newId = true) (gC : X.mg x = some (.ref C)) (kC : PySem.W.keepIn X.K (.ref C) = true)
    (hR : Raises X (.ref C)) (hκ : κ x = C) (hg : Gl X x) (hdb : (x == ("__debug__" : Str)) = false := by decide) : S1K X κ kr Z W (.Raise (some (.Call (.Name x p) [.Constant (.str msg) j p2] [] pos')) none pos) (mRaise x) := fun B H env σ tm D ok pp => by
  refine wS_of (ps_raise hc tk (pmk_own F q gC kC hR hg hdb)) ?_
  have := pp σ H none (.inl ⟨rfl, rfl, rfl⟩) ok.noSlots Kp.refl
  rw [hκ] at this
  exact this
end
end Mir

namespace Mir
open PySem PySem.Spec L2
open PyProof.Rows (envOfC)
theorem Kp.off {Z is : List Nat} {σ σ1 σ2 : St} (h : Kp Z σ σ1) (o : Off is σ1 σ2) (hz : is.all (fun i => Z.all fun z => z != i) = true) : Kp Z σ σ2 := fun z hm => by
  have hn : z ∉ is := fun hi => by
    have := List.all_eq_true.mp (List.all_eq_true.mp hz z hi) z hm
    simp at this
  rw [o.2 z hn]; exact h z hm
section
variable {X : Cx} {κ : Str → Addr} {kr k : Nat} {Z : List Nat} {W : WX} {st : Stmt} {ss : List Stmt} {m m1 m2 : Env → Res Ctl} {me : Env → Res D} {e tg it : Expr} {cs : List Nat} {pos : Pos}
def nT (t : Nat → D → Env → Res Env) : Nat → D → Env → Res Env := fun k d e => nx (t k d e)
theorem s_forK {body : List Stmt} {mi : Env → Res (List D)} {t : Nat → D → Env → Res Env} {fg : List Nat} (hp : PassesOwn (model X.prog X.w) X.A X.env X.xe) (hc : X.calm = true) (hi : SI X tg it mi) {is : List Nat} (hg : STg X tg is t) (hb : SSK X κ kr Z W body m1)
    (hz : is.all (fun i => Z.all fun z => z != i) = true) (hs : ∀ x, foldedSetIterable it X.env x = pure x := by intro _; rfl) : S1K X κ kr Z W (.For tg it body [] pos) (mFor (mN mi) (nT t) m1 fg) := fun B H env σ tm D ok p => by
  unfold mFor mN at p
  cases hd : mi env with
  | exc c ns as => rw [hd] at p; exact p.elim
  | bad => rw [hd] at p; exact p.elim
  | ok ds =>
    rw [hd] at p
    have hl : PostK κ kr Z W B tm σ D (loop (nT t) m1 fg ds env) := p
    refine wS_of (ps_for hp hc pi_sem pg_sem pss_sem hs) (hi B H env σ tm ds _ ok hd fun J H1 ex x1 ok1 Y => ?_)
    refine ⟨fun i m σ' H => m = ds.length - i ∧ i ≤ ds.length ∧ ∃ env, EnvOk B H env σ' (ex ++ tm) ∧ Kp Z σ σ' ∧ PostK κ kr Z W B tm σ D (loop (nT t) m1 fg (ds.drop i) env), ⟨ds.length, by simp, Nat.zero_le _, env, ok1, Kp.refl, by simpa using hl⟩, ?_⟩
    rintro i n σ2 H2 ⟨rfl, hi2, env2, ok2, hk, hr⟩
    obtain ⟨y1, y2⟩ := Y i H2 env2 σ2 tm ok2
    by_cases hlt : i < ds.length
    · obtain ⟨go, yl⟩ := y2 hlt
      refine .inr ⟨go, fun σ' H' => i + 1 ≤ ds.length ∧ ∃ env, EnvOk B H' env σ' (ex ++ tm) ∧ Kp Z σ σ' ∧ PostK κ kr Z W B tm σ D (loop (nT t) m1 fg (ds.drop (i + 1)) env), fun σ' H' ⟨h1, h2⟩ => ⟨ds.length - (i + 1), by omega, rfl, h1, h2⟩, fun x H3 hy => ?_⟩
      obtain ⟨d, hd2, x3, ok3⟩ := yl x H3 hy
      have hdr : ds.drop i = d :: ds.drop (i + 1) := by
        obtain ⟨h1, h2⟩ := List.getElem?_eq_some_iff.mp hd2
        rw [← h2]
        exact List.drop_eq_getElem_cons h1
      rw [hdr] at hr
      unfold loop at hr
      cases ht : t 0 d env2 with
      | exc c ns as => rw [show nT t 0 d env2 = nx (t 0 d env2) from rfl, ht] at hr; exact hr.elim
      | bad => rw [show nT t 0 d env2 = nx (t 0 d env2) from rfl, ht] at hr; exact hr.elim
      | ok e1 =>
        rw [show nT t 0 d env2 = nx (t 0 d env2) from rfl, ht] at hr
        refine hg 0 B H3 env2 σ2 (ex ++ tm) d x e1 _ ok3 ht fun σ4 hoff ok4 => ?_
        have hk4 := hk.off hoff hz
        refine hb B H3 e1 σ4 (ex ++ tm) _ ok4 ?_
        have hr2 : PostK κ kr Z W B tm σ D (m1 e1 >>= fun c => match c with | .nx e => loop (nT t) m1 fg (ds.drop (i + 1)) (clear e fg) | .ct e => loop (nT t) m1 fg (ds.drop (i + 1)) (clear e fg) | .bk e => .ok (.nx (clear e fg)) | .rt d => .ok (.rt d)) := hr
        cases hm : m1 e1 with
        | bad => rw [hm] at hr2; exact hr2
        | exc c ns as =>
          rw [hm] at hr2
          exact fun σ5 H5 dd xa ok5 k5 => hr2 σ5 H5 dd xa ok5.less (hk4.trans k5)
        | ok c =>
          rw [hm] at hr2
          cases c with
          | nx e => exact fun σ5 H5 ok5 k5 => ⟨hlt, _, ok5.clear fg, hk4.trans k5, hr2⟩
          | ct e => exact fun σ5 H5 ok5 k5 => ⟨hlt, _, ok5.clear fg, hk4.trans k5, hr2⟩
          | bk e => exact fun σ5 H5 ok5 k5 => hr2 σ5 H5 ((ok5.clear fg).less) (hk4.trans k5)
          | rt d' => exact fun v H5 ok5 => hr2 v H5 (EnvOk.less (l := ex) (ok5.perm List.perm_middle.symm))
    · have ei : i = ds.length := by omega
      refine .inl ⟨y1 ei, ?_⟩
      rw [ei, List.drop_length] at hr
      exact hr σ2 H2 ok2.less hk
end
/-! ### what a def promises -/
def XRet (G H H' : Hp) (dd : Option Addr) (ns : List Str) (as : List D) : Prop := (∃ G', Good ⟨H, G⟩ G' H') ∧ XAt ⟨H, G⟩ H' dd ns as
def PostF (κ : Str → Addr) (kr : Nat) (G H : Hp) (Q : VK) (E : XK) : Res D → Prop
  | .ok d => ∀ v H', RetOk kr G H H' v d → Q v H'
  | .exc c ns as => ∀ H' dd, XRet G H H' dd ns as → E (.ref (κ c)) dd H'
  | .bad => False
def spX (kr n : Nat) (κ : Str → Addr) (F : List D → Res D) : Sp := fun vs H Q E => vs.length = n ∧ ∃ (G : Hp) (ds : List D), Good ⟨H, G⟩ G H ∧ RpAll G vs ds ∧ PostF κ kr G H Q E (F ds)
section
variable {P : Program} {w : World} {K : PySem.W.Frag} {mg : Str → Option Value} {base : Heap}
theorem env_start {N : List Str} {vs : List V} {ds : List D} {G H : Hp} (hg : Good ⟨H, G⟩ G H) (ra : RpAll G vs ds) : EnvOk ⟨H, G⟩ H (ds.map (fun d => some (0, d)) ++ List.replicate (N.length - ds.length) none) (L2.start N vs) [] := by
  have hlen := ra.length
  unfold L2.start
  rw [hlen]
  refine ⟨⟨G, [], hg, by rw [slots_start _ _ _ hlen, List.append_nil]; exact hold_lev ra, List.nodup_nil, fun p hp => by cases hp⟩, by simp [hlen], fun i kd e => ?_⟩
  by_cases hi : i < ds.length
  · have hv : i < (vs.map some).length := by rw [List.length_map]; omega
    rw [List.getElem?_append_left hv, List.getElem?_map, List.getElem?_eq_getElem (by omega)]
    exact ⟨_, rfl⟩
  · rw [List.getElem?_append_right (by simpa using hi), List.getElem?_replicate] at e
    split at e <;> cases e
/-- THE RULE for a def that may raise -/
theorem def_okX {κ : Str → Addr} {x qual : Str} {st : Stmt} {f : Addr} {fd : FuncData} {N ps : List Str} {k kr : Nat} {m : Env → Res Ctl} {n : Nat} {FF : List D → Res D} (F : Fun K x qual st f fd) (S : FnScope N ps (defScope st)) (hn : ps.length = n) (hFF : FF = runD N.length m)
    (hb : ∀ (cdv : Value) (A : Around) (outer : List PySem.Env) (s : Shared) (H : Hp) (E : XK), Room k (A.deeper (envOfC qual (defScope st) s.heap.objs.size f cdv)) → Takes (cxOf (L2.CX P w) P w K mg base N qual (defScope st) f cdv A outer s H E) (fun cls d _ H' => E cls d H') →
      SSK (cxOf (L2.CX P w) P w K mg base N qual (defScope st) f cdv A outer s H E) κ kr [] (fun cls d _ H' => E cls d H') (defBody st) m) :
    FnOk P w K mg base (L2.CX P w) (k + 1) f fd ps (spX kr n κ FF) := by
  subst hn hFF
  refine F.okX S (fun vs H Q E h => h.1) (fun cdv A outer s H vs Q E hr h => ?_)
  obtain ⟨hl, G, ds, hg, ra, hF⟩ := h
  refine ⟨_, pss_sem, ?_⟩
  refine hb cdv A outer s H E hr (takes_of rfl rfl rfl rfl) ⟨H, G⟩ H _ _ [] _ (env_start hg ra) ?_
  unfold runD at hF
  cases hc : m (ds.map (fun d => some (0, d)) ++ List.replicate (N.length - ds.length) none) with
  | bad => rw [hc] at hF; exact hF
  | exc c ns as =>
    rw [hc] at hF
    refine fun σ' H' dd xa ok' _ => hF H' dd ⟨?_, xa⟩
    obtain ⟨⟨G', fp, g, _⟩, _⟩ := ok'
    exact ⟨G', g⟩
  | ok c =>
    rw [hc] at hF
    have fin : ∀ {v : V} {H' : Hp} {e : Env} {σ : St} {d : D}, EnvOk ⟨H, G⟩ H' e σ [(v, kr, d)] → RetOk kr G H H' v d := fun {v H' e σ d} ok' => by
      obtain ⟨⟨G', fp, g, hh, nd, hp⟩, _⟩ := ok'.noSlots
      have hh' : HoldAll G' H' [(v, kr, d)] fp := hh
      cases hh' with
      | @cons _ _ _ _ f1 g1 h1 h2 =>
        cases h2
        rw [List.append_nil] at nd hp
        exact ⟨G', f1, g, h1, nd, hp⟩
    cases c with
    | nx e => exact fun σ' H' ok' _ => hF .non H' (fin (ok'.imm (k := kr) .non rfl))
    | rt d' => exact fun v H' ok' => hF v H' (fin ok')
    | bk e => exact hF.elim
    | ct e => exact hF.elim
end
/-- behind a call that raised -/
theorem EnvOk.raisedB {B : Bs} {H H' : Hp} {env : Env} {σ : St} {tm : List Hold} {dd : Option Addr} {ns : List Str} {as : List D} (ok : EnvOk B H env σ tm) (r : XRet (view H) H H' dd ns as) : Ext H H' ∧ EnvOk B H' env σ tm ∧ XAt B H' dd ns as := by
  obtain ⟨⟨G', g⟩, xa⟩ := r
  have x : Ext H H' := g.bs
  refine ⟨x, ?_, ?_⟩
  · have := ok.grow (H' := H') x ok.bnone [] fun G1 g1 => ⟨fun a => if H a = none then G' a else G1 a, [], fun a u e => ?_, fun a e => if_neg e, ⟨fun a o e => x a o (g1.bs a o e), fun a e => ?_, fun a u e => ?_, fun a xs im e => ?_, g.nf⟩, .nil, List.nodup_nil, fun p hp => nomatch hp⟩
    · exact this
    · show (if H a = none then G' a else G1 a) = some u
      rw [if_neg (g1.ne e)]; exact e
    · show (if H a = none then G' a else G1 a) = _
      have : H a ≠ none := fun z => e (ok.bnone a z)
      rw [if_neg this]; exact g1.g0 a e
    · have e' : (if H a = none then G' a else G1 a) = some u := e
      split at e'
      · exact g.gs a u e'
      · exact view_ext x a u (g1.gs a u e')
    · show (if H a = none then G' a else G1 a) = _
      split
      · exact g.gt a xs im e
      · rename_i hn
        have e1 : G' a = view H a := g.g0 a hn
        exact g1.gt a xs im (e1.symm.trans (g.gt a xs im e))
  · rcases xa with h | ⟨dx, kvs, h1, h2, h3⟩
    · exact .inl h
    · exact .inr ⟨dx, kvs, h1, ok.bnone dx h2, h3⟩
structure CalX (P : Program) (w : World) (K : PySem.W.Frag) (mg : Str → Option Value) (base : Heap) (x : Str) (j n kr : Nat) (κ : Str → Addr) (F : List D → Res D) : Prop where
  ex : ∃ f fd ps, mg x = some (.ref f) ∧ PySem.W.keepIn K (.ref f) = true ∧ Binds K fd ps [] ∧ FnOk P w K mg base (L2.CX P w) j f fd ps (spX kr n κ F)
section
variable {X : Cx} {κ : Str → Addr} {kr k n j : Nat} {W : WX} {e : Expr} {es : List Expr} {ms : Env → Res (List D)} {F : List D → Res D} {x : Str} {p pos : Pos}
def mCallX (kr : Nat) (F : List D → Res D) (ms : Env → Res (List D)) : Env → Res D := fun env => nx (ms env) >>= fun ds => F ds >>= fun d => if immAt kr d then .ok d else .bad
theorem sx_cal (C : CalX X.prog X.w X.K X.mg X.base x j n kr κ F) (hr : Room j X.A) (hg : Gl X x) (tk : Takes X W)
    (ha : SAB X (e :: es) ms) (hl : ∀ env ds, ms env = .ok ds → ds.length = n) (hdb : (x == ("__debug__" : Str)) = false := by decide) (he : starEach (e :: es) X.env = (false, eval e X.env) :: starEach es X.env := by rfl) (hpl : (backTo pos (starEach es X.env)).any (·.1) = false := by rfl) :
    SEX X κ kr [] W (.Call (.Name x p) (e :: es) [] pos) (mCallX kr F ms) := fun B H env σ tm Q ok pp => by
  obtain ⟨f, fd, ps, hm, hk, hb, Fo⟩ := C.ex
  unfold mCallX at pp
  cases hds : ms env with
  | exc c ns as => rw [hds] at pp; exact pp.elim
  | bad => rw [hds] at pp; exact pp.elim
  | ok ds =>
    rw [hds] at pp
    refine wE_of (pe_callS (E := WE W) Fo hr hg hm hk hb (passAt tk) pa_sem hdb he hpl) (ha B H env σ tm ds _ ok hds fun vs H1 x1 ok1 ra => ?_)
    refine ⟨by rw [ra.length]; exact hl _ _ hds, view H1, ds, ⟨fun _ _ e => e, fun _ _ => rfl, fun _ _ e => e, fun _ _ _ e => e, fun a xs im e => ok1.imAt im e⟩, ra, ?_⟩
    have pp' : PostE κ kr [] W B H env σ tm Q (F ds >>= fun d => if immAt kr d then .ok d else .bad) := pp
    cases hF : F ds with
    | bad => rw [hF] at pp'; exact pp'.elim
    | exc c ns as =>
      rw [hF] at pp'
      intro H' dd xr
      obtain ⟨x2, ok2, xa⟩ := ok1.raisedB xr
      exact pp' H' dd xa ok2.noSlots
    | ok d =>
      rw [hF] at pp'
      have pp2 : PostE κ kr [] W B H env σ tm Q (if immAt kr d then .ok d else .bad) := pp'
      split at pp2
      · rename_i hi
        intro v H' r
        obtain ⟨x2, ok2⟩ := ok1.retB r hi
        exact pp2 v H' (x1.trans x2) ok2
      · exact pp2.elim
/-- .. where it raises nothing -/
theorem se_calX (C : CalX X.prog X.w X.K X.mg X.base x j n kr κ F) (hr : Room j X.A) (hg : Gl X x)
    (ha : SAB X (e :: es) ms) (hl : ∀ env ds, ms env = .ok ds → ds.length = n) (hdb : (x == ("__debug__" : Str)) = false := by decide) (he : starEach (e :: es) X.env = (false, eval e X.env) :: starEach es X.env := by rfl) (hpl : (backTo pos (starEach es X.env)).any (·.1) = false := by rfl) :
    SE X kr [] (.Call (.Name x p) (e :: es) [] pos) (mCall kr F ms) := fun B H env σ tm d Q ok hm q => by
  refine sx_cal C hr hg (takes0 (X := X)) ha hl hdb he hpl B H env σ tm Q ok ?_
  obtain ⟨ds, hds, h2⟩ := bind_ok hm
  obtain ⟨d', hF, h3⟩ := bind_ok h2
  unfold mCallX
  rw [hds]
  show PostE κ kr [] _ B H env σ tm Q (F ds >>= fun d => if immAt kr d then .ok d else .bad)
  rw [hF]
  show PostE κ kr [] _ B H env σ tm Q (if immAt kr d' then .ok d' else .bad)
  rw [h3]
  exact q
end
end Mir

namespace L2
open PySem PySem.Spec PyProof.Rows
theorem exH_ok {P : Program} {w : World} {H : Hp} {h : Heap} {a : Addr} {cls : Value} {d : Option Addr} {oe : Obj} (e : h.get? a = some oe) (z : Zc cls d oe) (dt : ∃ vs, oe.data = .fields vs) : ObjOk P w H h a (Mir.ExH cls d a) := by
  obtain ⟨vs, dt⟩ := dt
  exact ⟨⟨oe, vs, e, z, dt⟩, ⟨oe, e⟩, fun h1 h2 ⟨o, v, q, r⟩ k => ⟨o, v, k o q, r⟩⟩
section
variable {X : Cx} {pins : List (Addr × Obj)} {σ : St} {H : Hp} {s sI s' : Shared} {B : Heap}
/-- back on the ground, the exception's object tracked -/
theorem Inv.landedT {a : Addr} {o : HO} (I : Inv X pins σ H sI) (nb : ∀ b o, sI.heap.get? b = some o → b ∉ frs X.stack → B.get? b = some o) (st : B.StaysIn s'.heap) (up : sI.heap.UpToSlots s'.heap) (os : s'.os = sI.os) (ag : AllBare s'.gens)
    (hn : sI.heap.get? a = none) (na : H a = none) (new : ObjOk X.prog X.w (upd H a o) s'.heap a o) : Inv X pins σ (upd H a o) s' := by
  have nf : ∀ b ∈ frs X.stack, ∀ o, sI.heap.get? b = some o → ∃ sl, s'.heap.get? b = some { o with slots := sl } := fun b hb o e => by
    obtain ⟨_, o', e', hd⟩ := I.stack.mem hb
    rw [e] at e'; cases e'
    exact up b o e hd
  have nea : ∀ b o, sI.heap.get? b = some o → b ≠ a := fun b o e z => by rw [z, hn] at e; cases e
  have J := I.call (ch := []) (h' := s'.heap) (g' := s'.gens) (t' := s'.toks) (d' := s'.drawn) (H' := upd H a o)
    ⟨fun b o e _ hb _ => st b o (nb b o e hb), fun b o e _ hb _ => nf b hb o e, fun b o e n _ => by rw [upd_ne (nea b o e)]; exact n, fun b o e _ => by
      by_cases hb : b ∈ frs X.stack
      · obtain ⟨sl, q⟩ := nf b hb o e
        exact ⟨_, q⟩
      · exact ⟨o, st b o (nb b o e hb)⟩, fun b xs e => by rw [upd_ne (ne_of_none e na)]; exact e, fun b o u e => by rw [upd_ne (ne_of_none e na)]; exact e, fun b ps e => ⟨#[], by rw [upd_ne (ne_of_none e na), e]; simp⟩⟩
    (fun b u e => by
      by_cases hb : b = a
      · subst hb; rw [upd_same] at e; cases e; exact new
      · rw [upd_ne hb] at e
        exact (((I.inGround nb).kept st) b u e).stay (fun _ _ _ q => q) (fun c q => by rw [upd_ne (ne_of_none q na)]; exact q) fun c xs q => by rw [upd_ne (ne_of_none q na)]; exact q) ag (fun _ z => nomatch z)
  obtain ⟨a1, a2, a3, a4, a5⟩ := s'
  have e5 : a5 = sI.os := os
  subst e5
  exact J
theorem Inv.suiteT (I : Inv X pins σ H s) (a : Addr) : Inv (X.suite a (X.pn ++ pins)) [] σ H s :=
  ⟨I.ok.suite _ _, I.os, I.bare, I.base, I.loc, I.cell, I.free, I.freeC, fun p hp => I.pin p (by rw [List.append_nil] at hp; exact hp), I.hok, I.len⟩
theorem Inv.unsuiteT {a : Addr} {pn' : List (Addr × Obj)} (I : Inv (X.suite a (X.pn ++ pins)) pn' σ H s) (ok : X.Ok) : Inv X pins σ H s :=
  ⟨ok, I.os, I.bare, I.base, I.loc, I.cell, I.free, I.freeC, fun p hp => I.pin p (List.mem_append_left _ hp), I.hok, I.len⟩
end
/-- what the clause 'except x as n' wishes of an exception of the body, its object tracked: slot i is n's -/
def wAsT (K : PySem.W.Frag) (n0 : Nat) (c : Value) (i : Nat) (ts : Addr → TS) (Wout : WX) (D : Ends) : WX := fun cls d σ H => σ.length = n0 →
  ∃ b, PySem.W.exmOne K cls c = some b ∧ (b = true → ∀ a, H a = none → ts a { nx := fun σ' H' => D.nx (σ'.set i none) H', rt := D.rt, bk := fun σ' H' => D.bk (σ'.set i none) H', ct := fun σ' H' => D.ct (σ'.set i none) H' } (σ.set i (some (.ref a))) (upd H a (Mir.ExH cls d a))) ∧
    (b = false → Wout cls d σ H)
section
variable {X : Cx} {x n : Str} {c : Value} {i : Nat} {body suite : List Stmt} {b₀ : Stmt} {np pos pos' : Pos} {tb : WX → TS} {ts : Addr → TS} {Wout : WX}
theorem ps_tryT (hs : X.stack = X.env :: X.outer) (hf : X.env.frame = some X.env.locals) (hN : X.N.Nodup) (hi : X.N[i]? = some n) (hln : X.env.kindOf n = some .local) (hc : Names X x c) (tk : Takes X Wout)
    (hb : ∀ (W : WX) (pn : List (Addr × Obj)) (xe : Value → Shared → Prop), Takes (X.tr pn xe) W → PassesOwn (model X.prog X.w) X.A X.env xe → PSs (X.tr pn xe) body (tb W))
    (hsu : ∀ (a : Addr) (pn : List (Addr × Obj)), PSs (X.suite a pn) (b₀ :: suite) (ts a)) :
    PS X (.Try body [.ExceptHandler (some (.Name x np)) (some n) (b₀ :: suite) pos'] [] [] pos) (fun D σ H => tb (wAsT X.K σ.length c i ts Wout D) D σ H) := by
  refine ⟨fun pins s σ H D I h => ?_⟩
  have ok := I.ok
  have hfr : X.A.frames = some (X.env :: X.outer) := by rw [ok.frames, hs]
  have hloc : Loc X.env.scope n := .inl hln
  refine wpAny_Try_except ?_
  refine wpAny_mono ((hb (wAsT X.K σ.length c i ts Wout D) (X.pn ++ pins) (fun e s₁ => wpAny (model X.prog X.w) X.A (noteFrame e X.env) (fun _ s₂ => wpAny (model X.prog X.w) X.A (setFlight e none) (fun _ s₃ =>
    wpAny (model X.prog X.w) X.A (handleBy e X.env [.ExceptHandler (some (.Name x np)) (some n) (b₀ :: suite) pos']) (SP X pins D) X.xe s₃) X.xe s₂) X.xe s₁) (fun u s' xx => ?_) PassesOwn.looking).run [] s σ H D (I.toTry _) h) (fun f s1 hsp => ?_) (fun e s1 he => he)
  · -- the catch
    obtain ⟨a, B, sI, pins', σ', H', cls, d, rfl, J', nb, up, sky, na, os, ag, w⟩ := xx
    have J : Inv X pins σ' H' sI := J'.ofTry ok
    obtain ⟨b, hb1, hyes, hno⟩ := w (J.len.trans I.len.symm)
    have sky' : Sky B (X.env :: X.outer) a (Zc cls d) X.env.locals s'.heap := by rw [← hs]; exact sky
    show wpAny (model X.prog X.w) X.A (noteFrame (.ref a) X.env) _ _ _
    refine Sky.land Zc.steady hfr hf sky' fun h3 fl3 up3 => ?_
    have J3 : Inv X pins σ' H' { s' with heap := h3 } := J.landed nb fl3.1 (up.trans up3) os ag
    obtain ⟨oe3, vs3, he3, hz3, hd3⟩ := fl3.there
    have notFr : ∀ {h : Heap} {o : Obj} {vs : Array Value}, h.FunFrames B (X.env :: X.outer) → h.get? a = some o → o.data = .fields vs → a ∉ frs (X.env :: X.outer) := fun {h o vs} ff e dd hm => by
      obtain ⟨_, o', e', hnf⟩ := ff.mem hm
      rw [e] at e'; cases e'
      exact hnf _ dd
    have nfr := notFr fl3.2.2.1 he3 hd3
    have hnI : sI.heap.get? a = none := by
      cases q : sI.heap.get? a with
      | none => rfl
      | some o =>
        have z := nb a o q (by rw [hs]; exact nfr)
        rw [fl3.2.1] at z; cases z
    have nL : a ≠ X.env.locals := fun z => nfr (List.mem_filterMap.mpr ⟨X.env, List.mem_cons_self, by rw [hf, z]⟩)
    have nF : a ∉ X.fs := fun hm => by
      obtain ⟨e, he, q⟩ := List.mem_filterMap.mp hm
      exact nfr (List.mem_filterMap.mpr ⟨e, List.mem_cons_of_mem _ he, q⟩)
    have S3 := J3.suite he3 hd3 na nL nF
    refine wpAny_handleBy_cons (codeAny_handlers_test ?_) (by intro q; cases q)
    have LT : PySem.W.Looks (model X.prog X.w) h3 (typeOf (.ref a)) cls := fun A Q E s k q => wpAny_typeOf_ref (k _ _ he3) (by rw [hz3.1]; exact q)
    have LM := PySem.W.exm_one (M := model X.prog X.w) (J3.kIn) LT hb1
    have test : ∀ {Q : Value → Shared → Prop} {E : Value → Shared → Prop}, Q c { s' with heap := h3 } → wpAny (model X.prog X.w) (X.A.mark (some (.ref a))) (eval (.Name x np) X.env) Q E { s' with heap := h3 } := fun {Q E} q => by
      obtain ⟨hg, hdbg, hm | ⟨hm, hv, hnn⟩⟩ := hc
      · exact ld_glob (X := X.suite a ((a, oe3) :: (X.pn ++ pins))) S3 hg hm q hdbg
      · exact ld_blt (X := X.suite a ((a, oe3) :: (X.pn ++ pins))) S3 hg hm hv q hnn hdbg
    refine test (LM.here ?_)
    cases b with
    | true =>
      refine codeAny_handlers_suite_as ?_
      refine HandSPX.lands_againZ fl3 fun h4 fl4 up4 => ?_
      obtain ⟨oe4, vs4, he4, hz4, hd4⟩ := fl4.there
      have J4 : Inv X pins σ' (upd H' a (Mir.ExH cls d a)) { s' with heap := h4 } := J.landedT nb fl4.1 ((up.trans up3).trans up4) os ag hnI na (exH_ok he4 hz4 ⟨_, hd4⟩)
      have S4 := J4.suiteT a
      refine store_ok (X := X.suite a (X.pn ++ pins)) (v := .ref a) S4 hN hi hloc rfl (fun s5 S5 => ?_) (.inr hln)
      refine wpAny_mono ((hsu a (X.pn ++ pins)).run [] s5 _ _ _ S5 (hyes rfl a na)) (fun f s6 hsp => ?_) (fun _ _ z => False.elim z)
      have end_ : ∀ {σ6 : St} {H6 : Hp} {Q : Shared → Prop}, Inv (X.suite a (X.pn ++ pins)) [] σ6 H6 s6 → (∀ s7, Inv X pins (σ6.set i none) H6 s7 → Q s7) →
          wpAny (model X.prog X.w) X.A (do bindName X.env n .none; unbindBehindTheSuite X.env n pos') (fun _ s7 => Q s7) X.xe s6 := fun {σ6 H6 Q} S6 hq => gone_ok (S6.unsuiteT ok) hN hi hln hq
      cases f with
      | next =>
        obtain ⟨σ6, H6, S6, q6⟩ := hsp
        exact end_ S6 fun s7 J7 => ⟨_, _, J7, q6⟩
      | brk =>
        obtain ⟨σ6, H6, S6, q6⟩ := hsp
        exact end_ S6 fun s7 J7 => ⟨_, _, J7, q6⟩
      | cont =>
        obtain ⟨σ6, H6, S6, q6⟩ := hsp
        exact end_ S6 fun s7 J7 => ⟨_, _, J7, q6⟩
      | ret u =>
        obtain ⟨v6, σ6, H6, S6, r6, q6⟩ := hsp
        exact end_ S6 fun s7 J7 => ⟨_, _, _, J7, r6, q6⟩
    | false =>
      show wpAny _ X.A (handleBy (.ref a) X.env []) _ _ _
      refine wpAny_handleBy_nil ?_
      obtain ⟨k1, k2, k3, oe, vs, T, oT, ts', he, hz, hd, h1, hr⟩ := id fl3
      unfold PySem.passOn
      refine wpAny_bind (wpAny_field he hd h1 ?_)
      rw [if_neg (show ¬ ((Value.ref T == Value.none) = true) from by simp)]
      have fin : wpAny (model X.prog X.w) X.A (setFlight (.ref a) X.env.frame) (fun _ s4 => wpAny (model X.prog X.w) X.A (throw (.ref a) : Sem Flow) (SP X pins D) X.xe s4) X.xe { s' with heap := h3 } := by
        rw [hf]
        refine HandSPX.setFlight_upZ fl3 fun h4 hh4 up4 => wpAny_throw (tk _ _ ?_)
        exact ⟨a, B, sI, pins, σ', H', cls, d, rfl, J, nb, (up.trans up3).trans up4, .inr (.inr (by rw [hs]; exact hh4)), na, os, ag, hno rfl⟩
      first
        | exact wpAny_bind (wpAny_pure (wpAny_bind fin))
        | exact wpAny_bind fin
  · cases f with
    | next =>
      obtain ⟨σ', H', J', q⟩ := hsp
      exact wpAny_execs_nil ⟨σ', H', J'.ofTry ok, q⟩
    | brk =>
      obtain ⟨σ', H', J', q⟩ := hsp
      exact ⟨σ', H', J'.ofTry ok, q⟩
    | cont =>
      obtain ⟨σ', H', J', q⟩ := hsp
      exact ⟨σ', H', J'.ofTry ok, q⟩
    | ret u =>
      obtain ⟨v, σ', H', J', r, q⟩ := hsp
      exact ⟨v, σ', H', J'.ofTry ok, r, q⟩
end
end L2

namespace Mir
open PySem PySem.Spec L2
/-! ### what is shared stays in its slots where a body raises -/
def onlyF (Z : List Nat) : Nat → Env → Env
  | _, [] => []
  | j, x :: e => (if Z.contains j = true then (match x with | some (0, d) => some (0, d) | _ => none) else none) :: onlyF Z (j + 1) e
def only (Z : List Nat) (env : Env) : Env := onlyF Z 0 env
theorem onlyF_length (Z : List Nat) : ∀ (env : Env) (j : Nat), (onlyF Z j env).length = env.length
  | [], _ => rfl
  | _ :: e, j => by simp [onlyF, onlyF_length Z e (j + 1)]
theorem onlyF_slots (Z : List Nat) : ∀ (env : Env) (σ : St) (j : Nat), ∀ x ∈ slots (onlyF Z j env) σ, x.2.1 = 0 ∧ x ∈ slots env σ
  | [], _, _, x, h => by simp [onlyF, slots] at h
  | y :: e, [], j, x, h => by
    unfold onlyF at h
    generalize (if Z.contains j = true then _ else _ : Option (Nat × D)) = z at h
    cases z <;> simp [slots] at h
  | y :: e, s :: σ, j, x, h => by
    have ih := onlyF_slots Z e σ (j + 1)
    have sub : ∀ w ∈ slots e σ, w ∈ slots (y :: e) (s :: σ) := fun w hw => by
      cases y with
      | none => cases s <;> exact hw
      | some kd =>
        obtain ⟨k, d⟩ := kd
        cases s with
        | none => exact hw
        | some v => exact List.mem_cons_of_mem _ hw
    unfold onlyF at h
    by_cases hz : Z.contains j = true
    · rw [if_pos hz] at h
      match y, s, h with
      | some (0, d), some v, h =>
        have h' : x ∈ (v, 0, d) :: slots (onlyF Z (j + 1) e) σ := h
        rcases List.mem_cons.mp h' with rfl | h'
        · exact ⟨rfl, List.mem_cons_self⟩
        · exact ⟨(ih x h').1, sub x (ih x h').2⟩
      | some (0, d), none, h => exact ⟨(ih x h).1, sub x (ih x h).2⟩
      | some (k + 1, d), some v, h => exact ⟨(ih x h).1, sub x (ih x h).2⟩
      | some (k + 1, d), none, h => exact ⟨(ih x h).1, sub x (ih x h).2⟩
      | none, some v, h => exact ⟨(ih x h).1, sub x (ih x h).2⟩
      | none, none, h => exact ⟨(ih x h).1, sub x (ih x h).2⟩
    · rw [if_neg hz] at h
      have h' : x ∈ slots (onlyF Z (j + 1) e) σ := by cases s <;> exact h
      exact ⟨(ih x h').1, sub x (ih x h').2⟩
theorem onlyF_same (Z : List Nat) : ∀ (env : Env) (σ σ' : St) (j : Nat), σ'.length = σ.length → (∀ z ∈ Z, j ≤ z → σ'[z - j]? = σ[z - j]?) → slots (onlyF Z j env) σ' = slots (onlyF Z j env) σ
  | [], σ, σ', _, _, _ => by simp [onlyF, slots]
  | y :: e, [], [], j, _, _ => rfl
  | y :: e, [], _ :: _, j, hl, _ => by simp at hl
  | y :: e, _ :: _, [], j, hl, _ => by simp at hl
  | y :: e, s :: σ, s' :: σ', j, hl, h => by
    have ih := onlyF_same Z e σ σ' (j + 1) (by simpa using hl) fun z hz hj => by
      have := h z hz (by omega)
      have e1 : z - j = (z - (j + 1)) + 1 := by omega
      rw [e1] at this
      simpa using this
    unfold onlyF
    by_cases hz : Z.contains j = true
    · have hs : s' = s := by
        have hm : j ∈ Z := by simpa using hz
        have := h j hm (Nat.le_refl _)
        simpa using this
      subst hs
      rw [if_pos hz]
      match y, s' with
      | some (0, d), some v => exact congrArg (List.cons (v, 0, d)) ih
      | some (0, d), none => exact ih
      | some (k + 1, d), some v => exact ih
      | some (k + 1, d), none => exact ih
      | none, some v => exact ih
      | none, none => exact ih
    · rw [if_neg hz]
      show slots (onlyF Z (j + 1) e) σ' = slots (onlyF Z (j + 1) e) σ
      exact ih
theorem onlyF_get (Z : List Nat) : ∀ (env : Env) (j i : Nat) (kd : Nat × D), (onlyF Z j env)[i]? = some (some kd) → Z.contains (j + i) = true ∧ env[i]? = some (some kd)
  | [], _, _, _, h => by simp [onlyF] at h
  | y :: e, j, 0, kd, h => by
    unfold onlyF at h
    by_cases hz : Z.contains j = true
    · rw [if_pos hz] at h
      refine ⟨by simpa using hz, ?_⟩
      match y, h with
      | some (0, d), h => simpa using h
      | some (k + 1, d), h => simp at h
      | none, h => simp at h
    · rw [if_neg hz] at h; simp at h
  | y :: e, j, i + 1, kd, h => by
    unfold onlyF at h
    obtain ⟨h1, h2⟩ := onlyF_get Z e (j + 1) i kd (by simpa using h)
    exact ⟨by rw [show j + (i + 1) = j + 1 + i by omega]; exact h1, by simpa using h2⟩
theorem HoldAll.zeroMem {G H : Hp} : ∀ {hs : List Hold} {fp : List Addr}, HoldAll G H hs fp → ∀ x ∈ hs, x.2.1 = 0 → Rp G x.1 x.2.2
  | _, _, .nil, x, h, _ => by cases h
  | _, _, .cons (k := k) h r, x, hx, e => by
    rcases List.mem_cons.mp hx with rfl | hx
    · have e' : k = 0 := e
      subst e'
      exact h.zero.2
    · exact HoldAll.zeroMem r x hx e
theorem HoldAll.zeros {G H : Hp} : ∀ {hs : List Hold}, (∀ x ∈ hs, x.2.1 = 0 ∧ Rp G x.1 x.2.2) → HoldAll G H hs []
  | [], _ => .nil
  | (v, k, d) :: hs, h => by
    obtain ⟨e, r⟩ := h (v, k, d) List.mem_cons_self
    have e' : k = 0 := e
    subst e'
    exact HoldAll.cons (f := []) (g := []) (.of r) (HoldAll.zeros fun x hx => h x (List.mem_cons_of_mem _ hx))
section
variable {B : Bs} {H H' : Hp} {env : Env} {σ σ' : St} {tm : List Hold}
theorem EnvOk.dupZ (Z : List Nat) (h : EnvOk B H env σ tm) : EnvOk B H env σ (slots (only Z env) σ ++ tm) := by
  obtain ⟨⟨G, fp, g, hs, nd, hp⟩, h2, h3⟩ := h
  have hz : HoldAll G H (slots (only Z env) σ) [] := HoldAll.zeros fun x hx => by
    obtain ⟨e, hm⟩ := onlyF_slots Z env σ 0 x hx
    exact ⟨e, hs.zeroMem x (List.mem_append_left _ hm) e⟩
  have app : ∀ {l : List Hold} {f : List Addr} {m : List Hold} {g : List Addr}, HoldAll G H l f → HoldAll G H m g → HoldAll G H (l ++ m) (f ++ g) := by
    intro l
    induction l with
    | nil => intro f m g a b; cases a; exact b
    | cons x l ih =>
      intro f m g a b
      cases a with
      | cons a1 a2 =>
        rw [List.append_assoc]
        exact .cons a1 (ih a2 b)
  obtain ⟨fp', hs', q⟩ := (app hz hs).perm (hs' := slots env σ ++ (slots (only Z env) σ ++ tm)) (by
    rw [← List.append_assoc, ← List.append_assoc]
    exact List.Perm.append_right _ List.perm_append_comm)
  rw [List.nil_append] at q
  exact ⟨⟨G, fp', g, hs', q.nodup_iff.mp nd, fun p hm => hp p (q.mem_iff.mpr hm)⟩, h2, h3⟩
theorem EnvOk.backZ {Z : List Nat} (h : EnvOk B H env σ tm) (h' : EnvOk B H' [] [] (slots (only Z env) σ ++ tm)) (hl : σ'.length = σ.length) (k : Kp Z σ σ') : EnvOk B H' (only Z env) σ' tm := by
  obtain ⟨⟨G, fp, g, hs, nd, hp⟩, _, _⟩ := h'
  refine ⟨⟨G, fp, g, ?_, nd, hp⟩, ?_, fun i kd e => ?_⟩
  · rw [show slots (only Z env) σ' = slots (only Z env) σ from onlyF_same Z env σ σ' 0 hl fun z hz _ => by simpa using k z hz]
    exact hs
  · rw [show (only Z env).length = env.length from onlyF_length Z env 0, h.len, hl]
  · obtain ⟨h1, h2⟩ := onlyF_get Z env 0 i kd e
    obtain ⟨v, hv⟩ := h.has i kd h2
    exact ⟨v, by rw [k i (by simpa using h1)]; exact hv⟩
/-- an exception's object, as a thing that is shared -/
theorem EnvOk.addExn {a C : Addr} {dd : Option Addr} {ns : List Str} {as : List D} {c : Str} (ok : EnvOk B H env σ tm) (na : H a = none) (xa : XAt B H dd ns as) : EnvOk B (upd H a (ExH (.ref C) dd a)) env σ ((.ref a, 0, .exn c C ns as) :: tm) := by
  obtain ⟨⟨G, fp, g, hs, nd, hp⟩, h2, h3⟩ := ok
  have fin : ∀ (G1 : Hp), Good B G1 H → (∀ b u, G b = some u → G1 b = some u) → (∀ p ∈ fp, G1 p = none) → Rp (upd G1 a (ExH (.ref C) dd a)) (.ref a) (.exn c C ns as) → EnvOk B (upd H a (ExH (.ref C) dd a)) env σ ((.ref a, 0, .exn c C ns as) :: tm) := fun G1 g1 hG hp1 r => by
    have g2 := g1.newSh na (o := ExH (.ref C) dd a) rfl
    have gn := g1.gnone na
    have hG2 : ∀ b u, G b = some u → upd G1 a (ExH (.ref C) dd a) b = some u := fun b u e => up_keep gn b u (hG b u e)
    have hm := hs.mu
    have hs1 : HoldAll (upd G1 a (ExH (.ref C) dd a)) (upd H a (ExH (.ref C) dd a)) (slots env σ ++ tm) fp := hs.frame hG2 fun b u e _ => up_keep na b u e
    obtain ⟨fp2, hs2, q2⟩ := (HoldAll.cons (Od.of r) hs1).perm (hs' := slots env σ ++ (.ref a, 0, .exn c C ns as) :: tm) List.perm_middle.symm
    rw [List.nil_append] at q2
    refine ⟨⟨_, fp2, g2, hs2, q2.nodup_iff.mp nd, fun p hpm => ?_⟩, h2, h3⟩
    have hpf := q2.mem_iff.mpr hpm
    obtain ⟨u, e, _⟩ := hm p hpf
    have pa : p ≠ a := fun z => by rw [z, na] at e; cases e
    exact ⟨(hp p hpf).1, by rw [upd_ne pa]; exact hp1 p hpf⟩
  rcases xa with ⟨rfl, rfl, rfl⟩ | ⟨dx, kvs, rfl, h4, h5, h6, h7, h8⟩
  · exact fin G g (fun _ _ e => e) (fun p hm => (hp p hm).2) (.exn0 upd_same)
  · have hv : view H dx = some (.xd kvs) := by unfold view; rw [h5]; rfl
    have hG : ∀ b u, G b = some u → upd G dx (.xd kvs) b = some u := fun b u e => by
      by_cases z : b = dx
      · subst z
        rw [upd_same, ← hv]; exact g.gs b u e
      · rw [upd_ne z]; exact e
    have dxa : dx ≠ a := fun z => by rw [z, na] at h5; cases h5
    have g1 : Good B (upd G dx (.xd kvs)) H := ⟨g.bs, fun b e => by
      have z : b ≠ dx := fun z => by rw [z] at e; exact e h4
      rw [upd_ne z]; exact g.g0 b e, fun b u e => by
      by_cases z : b = dx
      · subst z; rw [upd_same] at e; rw [hv]; exact e
      · rw [upd_ne z] at e; exact g.gs b u e, fun b u im e => hG b u (g.gt b u im e), g.nf⟩
    refine fin _ g1 hG (fun p hm => ?_) (.exn (dx := dx) upd_same (by rw [upd_ne dxa, upd_same]) h6 ?_)
    · obtain ⟨u, e, mu⟩ := hs.mu p hm
      have z : p ≠ dx := fun z => by rw [z, h5] at e; cases e; exact mu
      rw [upd_ne z]; exact (hp p hm).2
    · have r1 : RpAll (upd G dx (.xd kvs)) (kvs.map (·.2)) as := h7.immTo g1.gt h8
      exact r1.mono (up_keep (g1.gnone na))
end
theorem EnvOk.gone {B : Bs} {H : Hp} {e : Env} {σ : St} {tm : List Hold} (h : EnvOk B H e σ tm) (i : Nat) : EnvOk B H (e.set i none) (σ.set i none) tm := by
  by_cases hi : i < e.length
  · exact (h.forget i).blank (List.getElem?_set_self hi)
  · rw [List.set_eq_of_length_le (by omega), List.set_eq_of_length_le (by rw [← h.len]; omega)]
    exact h
/-! ### try: .. except X as e: .. -/
def mTry (i : Nat) (tab : Str → Option Bool) (Z : List Nat) (κ : Str → Addr) (mb ms : Env → Res Ctl) : Env → Res Ctl := fun env => match mb env with
  | .exc c ns as => (match tab c with
    | some true => (if i < env.length then nx (ms ((only Z env).set i (some (0, .exn c (κ c) ns as)))) else .bad) >>= fun r => (match r with
      | .nx e => .ok (.nx (e.set i none))
      | .bk e => .ok (.bk (e.set i none))
      | .ct e => .ok (.ct (e.set i none))
      | .rt d => .ok (.rt d))
    | some false => .exc c ns as
    | none => .bad)
  | .ok r => .ok r
  | .bad => .bad
theorem s1_of {X : Cx} {κ : Str → Addr} {kr : Nat} {W : WX} {st : Stmt} {m : Env → Res Ctl} (h : S1K X κ kr [] W st m) : S1 X kr st m := fun B H env σ tm D r ok hm p => by
  refine h B H env σ tm D ok ?_
  rw [hm]
  cases r with
  | nx e => exact fun σ' H' ok' _ => p σ' H' ok'
  | bk e => exact fun σ' H' ok' _ => p σ' H' ok'
  | ct e => exact fun σ' H' ok' _ => p σ' H' ok'
  | rt d => exact p
section
variable {X : Cx} {κ : Str → Addr} {kr : Nat} {Z : List Nat} {x n : Str} {c : Value} {i : Nat} {body suite : List Stmt} {b₀ : Stmt} {np pos pos' : Pos} {Wout : WX} {mb ms : Env → Res Ctl} {tab : Str → Option Bool}
theorem s_tryK (hs : X.stack = X.env :: X.outer) (hf : X.env.frame = some X.env.locals) (hN : X.N.Nodup) (hi : X.N[i]? = some n) (hln : X.env.kindOf n = some .local) (hc : Names X x c) (tk : Takes X Wout)
    (htab : ∀ s b, tab s = some b → PySem.W.exmOne X.K (.ref (κ s)) c = some b)
    (hb : ∀ (W : WX) (pn : List (Addr × Obj)) (xe : Value → Shared → Prop), Takes (X.tr pn xe) W → PassesOwn (model X.prog X.w) X.A X.env xe → SSK (X.tr pn xe) κ kr Z W body mb)
    (hsu : ∀ (a : Addr) (pn : List (Addr × Obj)), SS (X.suite a pn) kr (b₀ :: suite) ms) :
    S1K X κ kr [] Wout (.Try body [.ExceptHandler (some (.Name x np)) (some n) (b₀ :: suite) pos'] [] [] pos) (mTry i tab Z κ mb ms) := fun B H env σ tm D ok p => by
  refine wS_of (ps_tryT (tb := fun W D σ H => ∀ (pn : List (Addr × Obj)) (xe : Value → Shared → Prop), Takes (X.tr pn xe) W → PassesOwn (model X.prog X.w) X.A X.env xe → wB (X.tr pn xe) body D σ H)
    (ts := fun a D σ H => ∀ pn, wB (X.suite a pn) (b₀ :: suite) D σ H) hs hf hN hi hln hc tk (fun W pn xe t1 t2 => ⟨fun pins s σ H D I h => h pn xe t1 t2 pins s I⟩) fun a pn => ⟨fun pins s σ H D I h => h pn pins s I⟩) ?_
  intro pn xe t1 t2
  refine hb _ pn xe t1 t2 B H env σ (slots (only Z env) σ ++ tm) D (ok.dupZ Z) ?_
  have lenEq := ok.len
  unfold mTry at p
  cases hm : mb env with
  | bad => rw [hm] at p; exact p.elim
  | ok r =>
    rw [hm] at p
    cases r with
    | nx e => exact fun σ' H' ok' k' => p σ' H' ok'.less (fun _ z => nomatch z)
    | bk e => exact fun σ' H' ok' k' => p σ' H' ok'.less (fun _ z => nomatch z)
    | ct e => exact fun σ' H' ok' k' => p σ' H' ok'.less (fun _ z => nomatch z)
    | rt d =>
      refine fun v H' ok' => p v H' (EnvOk.less (l := slots (only Z env) σ) (ok'.perm ?_))
      exact List.perm_middle.symm
  | exc cc ns as =>
    rw [hm] at p
    intro σ' H' dd xa ok' k' hlen
    dsimp only at p
    cases ht : tab cc with
    | none => rw [ht] at p; exact p.elim
    | some b =>
      rw [ht] at p
      refine ⟨b, htab cc b ht, fun eb => ?_, fun eb => ?_⟩
      · subst eb
        dsimp only at p
        intro a na pn2
        have hi2 : i < env.length := by
          by_cases z : i < env.length
          · exact z
          · rw [if_neg z] at p; exact p.elim
        rw [if_pos hi2] at p
        have hl : σ'.length = σ.length := hlen
        have ok1 := EnvOk.backZ ok ok' hl k'
        have ok2 : EnvOk B (upd H' a (ExH (.ref (κ cc)) dd a)) (only Z env) σ' ((.ref a, 0, .exn cc (κ cc) ns as) :: tm) := ok1.addExn na xa
        have ok3 := ok2.store (i := i) (by rw [show (only Z env).length = env.length from onlyF_length Z env 0]; exact hi2)
        cases hms : ms ((only Z env).set i (some (0, .exn cc (κ cc) ns as))) with
        | bad => rw [hms] at p; exact p.elim
        | exc c2 ns2 as2 => rw [hms] at p; exact p.elim
        | ok r =>
          rw [hms] at p
          refine hsu a pn2 B _ _ _ tm _ r ok3 hms ?_
          cases r with
          | nx e => exact fun σ5 H5 ok5 => p _ H5 (ok5.gone i) (fun _ z => nomatch z)
          | bk e => exact fun σ5 H5 ok5 => p _ H5 (ok5.gone i) (fun _ z => nomatch z)
          | ct e => exact fun σ5 H5 ok5 => p _ H5 (ok5.gone i) (fun _ z => nomatch z)
          | rt d => exact fun v H5 ok5 => p v H5 ok5
      · subst eb
        dsimp only at p
        exact p σ' H' dd xa ok'.less (fun _ z => nomatch z)
end
end Mir

namespace Mir
open PySem PySem.Spec L2
open PyProof.Rows (envOfC)
/-! ### own exception classes -/
def xisB (K : PySem.W.Frag) (C : Addr) : Bool := (PySem.W.clsIn K C).isSome && (decide (PySem.W.findIn K (.ref C) "__getattribute__" = some (some (.builtin "BaseException.__getattribute__"))) && (decide (PySem.W.findIn K (.ref C) "__getattr__" = some none) && (decide (PySem.W.subIn K (.ref C) (.type "BaseException") = some true)
  && (decide (PySem.W.findIn K (.ref C) "__class__" = some (some (.builtin "object.__class__"))) && (decide (PySem.W.specialIn K (.builtin "object.__class__") "__get__" = some (some (.builtin "getset_descriptor.__get__"))) && (decide (PySem.W.takesIn K (.builtin "object.__class__") = some true)
  && (decide (PySem.W.mroIn K C (.type "object") = some true) && (PySem.W.hasDictIn K C && (decide (PySem.W.typeIn K (.ref C) = some (.type "type")) && PySem.W.keepIn K (.ref C))))))))))
structure XIs (K : PySem.W.Frag) (C : Addr) : Prop where
  hcl : (PySem.W.clsIn K C).isSome = true
  ga : PySem.W.findIn K (.ref C) "__getattribute__" = some (some (.builtin "BaseException.__getattribute__"))
  gg : PySem.W.findIn K (.ref C) "__getattr__" = some none
  sub : PySem.W.subIn K (.ref C) (.type "BaseException") = some true
  ca : PySem.W.findIn K (.ref C) "__class__" = some (some (.builtin "object.__class__"))
  hn : PySem.W.specialIn K (.builtin "object.__class__") "__get__" = some (some (.builtin "getset_descriptor.__get__"))
  ht : PySem.W.takesIn K (.builtin "object.__class__") = some true
  hm : PySem.W.mroIn K C (.type "object") = some true
  hd : PySem.W.hasDictIn K C = true
  ty : PySem.W.typeIn K (.ref C) = some (.type "type")
  kp : PySem.W.keepIn K (.ref C) = true
theorem xisB_ok {K : PySem.W.Frag} {C : Addr} (h : xisB K C = true) : XIs K C := by
  unfold xisB at h
  simp only [Bool.and_eq_true, decide_eq_true_eq] at h
  obtain ⟨h1, h2, h3, h4, h5, h6, h7, h8, h9, h10, h11⟩ := h
  exact ⟨h1, h2, h3, h4, h5, h6, h7, h8, h9, h10, h11⟩
def xmkB (K : PySem.W.Frag) (C : Addr) : Bool := PySem.W.excIn K C [.type "ValueError", .type "Exception", .type "BaseException", .type "object"] "ValueError.__new__"
/-- the class named c stands at κ c -/
structure XCl (K : PySem.W.Frag) (mg : Str → Option Value) (κ : Str → Addr) (c : Str) : Prop where
  g : mg c = some (.ref (κ c))
  is : xisB K (κ c) = true
structure XMk (K : PySem.W.Frag) (mg : Str → Option Value) (κ : Str → Addr) (c : Str) : Prop where
  cl : XCl K mg κ c
  mkx : xmkB K (κ c) = true
section
variable {X : Cx} {κ : Str → Addr} {kr : Nat} {Z : List Nat} {W : WX} {pos : Pos}
theorem s_raiseC {x msg : Str} {j : Nat} {p p2 pos' : Pos} (M : XMk X.K X.mg κ x) (hc : X.calm = true) (tk : Takes X W) (hg : Gl X x) (hdb : (x == ("__debug__" : Str)) = false := by decide) :
    S1K X κ kr Z W (.Raise (some (.Call (.Name x p) [.Constant (.str msg) j p2] [] pos')) none pos) (mRaise x) :=
  have I := xisB_ok M.cl.is
  s_raiseK (C := κ x) hc tk F.excBase_ValueError M.mkx M.cl.g I.kp (raises_own I.sub I.ty) rfl hg hdb
theorem rd_exn {P : Program} {w : World} {K : PySem.W.Frag} {H : Hp} {h : Heap} {a C : Addr} {dd : Option Addr} (hok : HOk P w H h) (e : view H a = some (ExH (.ref C) dd a)) : ∃ oe vs, h.get? a = some oe ∧ Zc (.ref C) dd oe ∧ oe.data = .fields vs := by
  have := (view_rd e).ok hok
  exact this.1
/-- what an exception's object is to the library -/
theorem inst_exn {K : PySem.W.Frag} {P : Program} {w : World} {H : Hp} {h : Heap} {a : Addr} {c : Str} {C : Addr} {ns : List Str} {as : List D} (hok : HOk P w H h) (r : Rp (view H) (.ref a) (.exn c C ns as)) :
    ∃ oe od, PySem.W.InstAt h a oe C od ∧ (ns = [] ∨ ∃ dx kvs o, od = some o ∧ h.get? dx = some o ∧ view H dx = some (.xd kvs) ∧ kvs.map (·.1) = ns ∧ RpAll (view H) (kvs.map (·.2)) as) := by
  cases r with
  | exn0 e =>
    obtain ⟨oe, vs, h1, h2, h3⟩ := rd_exn (K := K) hok e
    exact ⟨oe, none, ⟨h1, h2.1, by unfold PySem.W.notCls; rw [h3] <;> rfl, by rw [h2.2]; exact True.intro⟩, .inl rfl⟩
  | @exn _ _ dx kvs _ _ _ e e2 e3 ra =>
    obtain ⟨oe, vs, h1, h2, h3⟩ := rd_exn (K := K) hok e
    obtain ⟨mA, ⟨od, es, ep, q, r2⟩, hr⟩ := (show ObjOk P w H h dx (.xd kvs) from (view_rd e2).ok hok)
    exact ⟨oe, some od, ⟨h1, h2.1, by unfold PySem.W.notCls; rw [h3] <;> rfl, by rw [h2.2]; exact q⟩, .inr ⟨dx, kvs, od, rfl, q, e2, e3, ra⟩⟩
/-- isinstance(e, C): e an exception or None -/
def mIsO (κ : Str → Addr) (tab : Str → Option Bool) (m : Env → Res D) : Env → Res D := fun env => m env >>= fun d => match d with
  | .non => .ok (.bl false)
  | .exn c C _ _ => if C = κ c then (match tab c with | some b => .ok (.bl b) | none => .bad) else .bad
  | _ => .bad
def rIsO (K : PySem.W.Frag) (κ : Str → Addr) (tab : Str → Option Bool) (cv : Value) : List V → Hp → VK → Prop := fun xs H Q => ∃ (x c : V) (d : D) (b : Bool), xs = [x, c] ∧ RelV c cv ∧ Rp (view H) x d ∧ (d = .non ∧ b = false ∨ ∃ s ns as, d = .exn s (κ s) ns as ∧ tab s = some b) ∧ Q (.bl b) H
theorem call_isO {tab : Str → Option Bool} {cv : Value} (hcv : ∀ c u, RelV c cv → RelV c u → u = cv) (hnon : PySem.W.kitOne X.K (.type "NoneType") cv = some false) (htab : ∀ s b, tab s = some b → PySem.W.kitOne X.K (.ref (κ s)) cv = some b ∧ XIs X.K (κ s)) : CallR X (.builtin "isinstance") (rIsO X.K κ tab cv) := by
  intro pins s σ H xs us Q I r h
  obtain ⟨x, c, d, b, rfl, rc, rp, hd, q⟩ := h
  obtain ⟨u1, u2, rfl, r1, r2⟩ := vals2 r
  have e2 : u2 = cv := hcv c u2 rc r2
  subst e2
  rcases hd with ⟨rfl, rfl⟩ | ⟨sn, ns, as, rfl, ht⟩
  · cases rp
    cases (show u1 = Value.none from r1)
    exact PySem.W.kia_one PySem.W.kitx_none I.kIn True.intro hnon (fun z => nomatch z) fun tk => ⟨.bl false, H, I.tok tk, rfl, q⟩
  · obtain ⟨hk, Y⟩ := htab sn b ht
    have : ∃ a, x = .ref a := by cases rp <;> exact ⟨_, rfl⟩
    obtain ⟨a, rfl⟩ := this
    cases (show u1 = Value.ref a from r1)
    obtain ⟨oe, od, J, _⟩ := inst_exn (K := X.K) I.hok rp
    exact PySem.W.kia_one (PySem.W.kitx_exc Y.hcl Y.ga Y.gg Y.sub Y.ca Y.hn Y.ht Y.hm) I.kIn J hk (fun z => nomatch z) fun tk => ⟨.bl b, H, I.tok tk, rfl, q⟩
variable {a b : Expr} {m : Env → Res D} {p : Pos}
theorem sc_isO {tab : Str → Option Bool} {cv : Value} {c : V} (hg : Gl X "isinstance") (hm0 : X.mg "isinstance" = none) (h : SB X a m) (hT : PE X b (tC c)) (rc : RelV c cv) (hcv : ∀ c u, RelV c cv → RelV c u → u = cv) (hnon : PySem.W.kitOne X.K (.type "NoneType") cv = some false) (htab : ∀ s b, tab s = some b → PySem.W.kitOne X.K (.ref (κ s)) cv = some b ∧ XIs X.K (κ s))
    (he : starEach [a, b] X.env = (false, eval a X.env) :: starEach [b] X.env := by rfl) (he2 : starEach [b] X.env = (false, eval b X.env) :: starEach [] X.env := by rfl) (hpl : (backTo pos (starEach [b] X.env)).any (·.1) = false := by rfl) :
    SC X (.Call (.Name "isinstance" p) [a, b] [] pos) (mIsO κ tab m) := fun B H env σ tm d Q ok hm q => by
  obtain ⟨x, hx, h2⟩ := bind_ok hm
  have key : ∃ bb, d = .bl bb ∧ (x = .non ∧ bb = false ∨ ∃ s ns as, x = .exn s (κ s) ns as ∧ tab s = some bb) := by
    split at h2
    · cases h2; exact ⟨false, rfl, .inl ⟨rfl, rfl⟩⟩
    · rename_i s C ns as
      split at h2
      · rename_i hC
        subst hC
        split at h2
        · rename_i bb ht
          cases h2
          exact ⟨bb, rfl, .inr ⟨s, ns, as, rfl, ht⟩⟩
        · cases h2
      · cases h2
    · cases h2
  obtain ⟨bb, rfl, hk⟩ := key
  refine wE_of (pe_callB (call_isO hcv hnon htab) hg hm0 (by decide +kernel) (pa_cons pe_sem (pa_cons hT pa_nil he2) he) (by decide) (by decide) he hpl) (h B H env σ tm _ _ ok hx fun v H1 x1 ok1 r => ?_)
  exact ⟨v, c, x, bb, rfl, rc, r, hk, q _ H1 x1 ok1 (.bl _) rfl⟩
theorem rel_ref {C : Addr} : ∀ c u, RelV c (.ref C) → RelV c u → u = .ref C := fun c u h1 h2 => by
  cases c with
  | ref a => cases (show Value.ref C = Value.ref a from h1); exact h2
  | non => cases (show Value.ref C = Value.none from h1)
  | bl b => cases (show Value.ref C = Value.bool b from h1)
  | int i => obtain ⟨t, e⟩ := (show ∃ t, Value.ref C = Value.int i t from h1); cases e
  | str i => obtain ⟨t, e⟩ := (show ∃ t, Value.ref C = Value.str i t from h1); cases e
  | byt i => obtain ⟨t, e⟩ := (show ∃ t, Value.ref C = Value.bytes i t from h1); cases e
  | flt i => obtain ⟨t, e⟩ := (show ∃ t, Value.ref C = Value.float i t from h1); cases e
  | ty n => cases (show Value.ref C = Value.type n from h1)
theorem rel_ty {n : String} : ∀ c u, RelV c (.type n) → RelV c u → u = .type n := fun c u h1 h2 => by
  cases c with
  | ty a => cases (show Value.type n = Value.type a from h1); exact h2
  | non => cases (show Value.type n = Value.none from h1)
  | bl b => cases (show Value.type n = Value.bool b from h1)
  | int i => obtain ⟨t, e⟩ := (show ∃ t, Value.type n = Value.int i t from h1); cases e
  | str i => obtain ⟨t, e⟩ := (show ∃ t, Value.type n = Value.str i t from h1); cases e
  | byt i => obtain ⟨t, e⟩ := (show ∃ t, Value.type n = Value.bytes i t from h1); cases e
  | flt i => obtain ⟨t, e⟩ := (show ∃ t, Value.type n = Value.float i t from h1); cases e
  | ref C => cases (show Value.type n = Value.ref C from h1)
/-- .. an own class -/
theorem sc_isOwn {tab : Str → Option Bool} {x : Str} {p2 : Pos} (Y : XCl X.K X.mg κ x) (hg : Gl X "isinstance") (hm0 : X.mg "isinstance" = none) (hx : Gl X x) (h : SB X a m) (hnon : PySem.W.kitOne X.K (.type "NoneType") (.ref (κ x)) = some false) (htab : ∀ s b, tab s = some b → PySem.W.kitOne X.K (.ref (κ s)) (.ref (κ x)) = some b ∧ XIs X.K (κ s))
    (hd : (x == ("__debug__" : Str)) = false := by decide)
    (he : starEach [a, .Name x p2] X.env = (false, eval a X.env) :: starEach [.Name x p2] X.env := by rfl) (he2 : starEach [.Name x p2] X.env = (false, eval (.Name x p2) X.env) :: starEach [] X.env := by rfl) (hpl : (backTo pos (starEach [.Name x p2] X.env)).any (·.1) = false := by rfl) :
    SC X (.Call (.Name "isinstance" p) [a, .Name x p2] [] pos) (mIsO κ tab m) :=
  sc_isO (cv := .ref (κ x)) (c := .ref (κ x)) hg hm0 h (pe_glob hx Y.g rfl hd) rfl rel_ref hnon htab he he2 hpl
/-- .. ValueError -/
theorem sc_isVal {tab : Str → Option Bool} {x : Str} {n : String} {p2 : Pos} (hg : Gl X "isinstance") (hm0 : X.mg "isinstance" = none) (hT : PE X (.Name x p2) (tC (.ty n))) (h : SB X a m) (hnon : PySem.W.kitOne X.K (.type "NoneType") (.type n) = some false) (htab : ∀ s b, tab s = some b → PySem.W.kitOne X.K (.ref (κ s)) (.type n) = some b ∧ XIs X.K (κ s))
    (he : starEach [a, .Name x p2] X.env = (false, eval a X.env) :: starEach [.Name x p2] X.env := by rfl) (he2 : starEach [.Name x p2] X.env = (false, eval (.Name x p2) X.env) :: starEach [] X.env := by rfl) (hpl : (backTo pos (starEach [.Name x p2] X.env)).any (·.1) = false := by rfl) :
    SC X (.Call (.Name "isinstance" p) [a, .Name x p2] [] pos) (mIsO κ tab m) :=
  sc_isO (cv := .type n) (c := .ty n) hg hm0 h hT rfl rel_ty hnon htab he he2 hpl
/-- e.f, e an exception -/
def mXf (κ : Str → Addr) (c f : Str) (m : Env → Res D) : Env → Res D := fun env => m env >>= fun d => match d with
  | .exn s C ns as => if s = c ∧ C = κ c ∧ ns.length = as.length then (match (ns.zip as).lookup f with | some d => .ok d | none => .bad) else .bad
  | _ => .bad
theorem look_all {G : Hp} {f : Str} {d : D} : ∀ {kvs : List (Str × V)} {as : List D}, RpAll G (kvs.map (·.2)) as → ((kvs.map (·.1)).zip as).lookup f = some d → ∃ v, kvs.lookup f = some v ∧ Rp G v d
  | [], _, _, h => by simp at h
  | (g, v) :: kvs, as, r, h => by
    cases r with
    | cons r1 r2 =>
      simp only [List.map_cons, List.zip_cons_cons, List.lookup_cons] at h ⊢
      split at h
      · cases h; exact ⟨v, by simp, r1⟩
      · obtain ⟨v', h1, h2⟩ := look_all r2 h
        exact ⟨v', h1, h2⟩
theorem sb_xf {c f : Str} (Y : XIs X.K (κ c)) (hno : PySem.W.findIn X.K (.ref (κ c)) f = some none) (h : SB X a m) (hb : attributeBase a f X.env (eval a X.env) = eval a X.env := by rfl) : SB X (.Attribute a f pos) (mXf κ c f m) := fun B H env σ tm d Q ok hm q => by
  obtain ⟨x, hx, h2⟩ := bind_ok hm
  refine fun pins s I => attr_of hb (thn (h B H env σ tm x (fun v H1 => Ext H H1 ∧ EnvOk B H1 env σ tm ∧ Rp (view H1) v x) ok hx (fun v H1 x1 ok1 r1 => ⟨x1, ok1, r1⟩) pins s I) fun u s1 hh => ?_)
  obtain ⟨v, H1, I1, rv, x1, ok1, r1⟩ := hh
  split at h2
  · rename_i sn C ns as
    split at h2
    · rename_i hc
      obtain ⟨rfl, rfl, hl⟩ := hc
      have : ∃ a, v = .ref a := by cases r1 <;> exact ⟨_, rfl⟩
      obtain ⟨aa, rfl⟩ := this
      cases (show u = Value.ref aa from rv)
      split at h2
      · rename_i d' hd
        cases h2
        obtain ⟨oe, od, J, hh⟩ := inst_exn (K := X.K) I1.hok r1
        rcases hh with rfl | ⟨dx, kvs, o, rfl, ho, hvw, hns, ra⟩
        · simp at hd
        · subst hns
          obtain ⟨y, hy, ry⟩ := look_all ra hd
          obtain ⟨mA, hN, hr⟩ := (show ObjOk X.prog X.w H1 s1.heap dx (.xd kvs) from (view_rd hvw).ok I1.hok)
          obtain ⟨od2, ho2, hl2⟩ := lookIn_ns hN
          rw [ho] at ho2
          cases ho2
          obtain ⟨u2, hu, ru⟩ := RelO.some_of (v := y) (o := mA f) (by rw [← hy]; exact hr f)
          exact HandSPX.exc_get I1.kIn J Y.ga Y.gg Y.sub (PySem.W.findObj_own Y.hd hno rfl (by rw [hl2, hu])) (handed_of ru) ⟨y, H1, I1.tok _, ru, q y H1 x1 ok1 ry⟩
      · cases h2
    · cases h2
  · cases h2
end
/-! ### the end, with the classes' places -/
def kOf (K : PySem.W.Frag) (c : Str) : Addr := match PySem.W.nsIn K mainGlobals c with
  | some (some (.ref a)) => a
  | _ => 0
theorem kOf_eq {K : PySem.W.Frag} {c : Str} {a : Addr} (h : PySem.W.nsIn K mainGlobals c = some (some (.ref a))) : kOf K c = a := by unfold kOf; rw [h]
theorem xcl_of {K : PySem.W.Frag} {mg : Str → Option Value} {h : Heap} {c : Str} {a : Addr} (X : K.In h) (G : h.Ns mainGlobals mg) (z : PySem.W.nsIn K mainGlobals c = some (some (.ref a))) (i : xisB K a = true) : XCl K mg (kOf K) c :=
  ⟨by rw [kOf_eq z]; exact PySem.W.mg_of X G z, by rw [kOf_eq z]; exact i⟩
theorem walk_mirX {l : PySem.W.OpenLaw} {k : Nat} {q : Program} {loose : List Str} {XP : (Str → Option Value) → Heap → Prop} {YP : World → Heap → Prop} {d : DefRec} {K : Params → PySem.W.Frag} {x : Str} {F : (Str → Addr) → List D → Res D}
    (hn : l.most = some 63) (hdf : d.params.defaults = []) (hr : Room k callerA) (hY : ∀ (w : World) (h : Heap), YP w h → (K w.params).In h) (hK : ∀ w : World, noLists (K w.params) = true) (hF : ∀ (κ : Str → Addr) (ns : List Int), ns.length ≤ 63 → F κ [.lst (ns.map D.int)] = .ok (.bl true))
    (Fo : ∀ (w : World) (mg : Str → Option Value) (fa : Addr) (h : Heap), (K w.params).In h → h.Ns mainGlobals mg → mg d.name = some (.ref fa) →
      ∃ fd : FuncData, (∀ (s : Shared) (u : Value), BindsTo s fd ⟨[u], []⟩ [(x, u)]) ∧ ∀ base : Heap, (K w.params).In base → base.Ns mainGlobals mg → FnOk l.prog w (K w.params) mg base CX0 k fa fd [x] (spF 0 1 (F (kOf (K w.params))))) :
    PySem.W.WalkO q loose XP YP l.row.toRowW d [] (fun f vs => PySem.call f vs) :=
  L2.walk_of (n := 63) (k := k) (x := x) (CX := fun _ => CX0) (sp := fun w => spF 0 1 (F (kOf (K w.params)))) hn (by decide) hdf hr hY Fo (fun w H a ns hl hO hS => law_sp (hK w) hO hS (hF _ ns hl)) fun _ _ _ _ _ z => z
end Mir
namespace Mir
open PySem PySem.Spec L2
/-! ### tables of classes -/
def tb (l : List (Str × Bool)) : Str → Option Bool := fun c => l.lookup c
def TabK (K : PySem.W.Frag) (κ : Str → Addr) (cv : Value) : List (Str × Bool) → Prop
  | [] => True
  | (s, b) :: l => (PySem.W.kitOne K (.ref (κ s)) cv = some b ∧ XIs K (κ s)) ∧ TabK K κ cv l
def TabE (K : PySem.W.Frag) (κ : Str → Addr) (cv : Value) : List (Str × Bool) → Prop
  | [] => True
  | (s, b) :: l => PySem.W.exmOne K (.ref (κ s)) cv = some b ∧ TabE K κ cv l
theorem tabK_ok {K : PySem.W.Frag} {κ : Str → Addr} {cv : Value} : ∀ {l : List (Str × Bool)}, TabK K κ cv l → ∀ s b, tb l s = some b → PySem.W.kitOne K (.ref (κ s)) cv = some b ∧ XIs K (κ s)
  | [], _, s, b, h => by simp [tb] at h
  | (t, c) :: l, h, s, b, e => by
    unfold tb at e
    rw [List.lookup_cons] at e
    split at e
    · rename_i z
      have : s = t := by simpa using z
      subst this
      cases e
      exact h.1
    · exact tabK_ok h.2 s b e
theorem tabE_ok {K : PySem.W.Frag} {κ : Str → Addr} {cv : Value} : ∀ {l : List (Str × Bool)}, TabE K κ cv l → ∀ s b, tb l s = some b → PySem.W.exmOne K (.ref (κ s)) cv = some b
  | [], _, s, b, h => by simp [tb] at h
  | (t, c) :: l, h, s, b, e => by
    unfold tb at e
    rw [List.lookup_cons] at e
    split at e
    · rename_i z
      have : s = t := by simpa using z
      subst this
      cases e
      exact h.1
    · exact tabE_ok h.2 s b e
theorem names_own {X : Cx} {κ : Str → Addr} {x : Str} (hg : Gl X x) (Y : XCl X.K X.mg κ x) (hd : (x == ("__debug__" : Str)) = false := by decide) : Names X x (.ref (κ x)) := ⟨hg, hd, .inl Y.g⟩
end Mir

namespace Mir
open PySem PySem.Spec L2
open PyProof.Rows (is_bool isnot_bool)
section
variable {X : Cx} {e a b c : Expr} {m ma mb mc : Env → Res D} {pos p : Pos} {k : Nat}
/-! ### is True, is False -/
def gIsB : D → D → Res D
  | .bl x, .bl y => .ok (.bl (x == y))
  | _, _ => .bad
def gIsnB : D → D → Res D
  | .bl x, .bl y => .ok (.bl (x != y))
  | _, _ => .bad
theorem op_isB : OpR X (compareOp .Is) (fun x y H Q => ∃ i j, x = .bl i ∧ y = .bl j ∧ Q (.bl (i == j)) H) := by
  intro pins s σ H x y v u Q I rx ry h
  obtain ⟨i, j, rfl, rfl, q⟩ := h
  cases rx
  cases ry
  exact is_bool ⟨.bl (i == j), H, I, rfl, q⟩
theorem op_isnB : OpR X (compareOp .IsNot) (fun x y H Q => ∃ i j, x = .bl i ∧ y = .bl j ∧ Q (.bl (i != j)) H) := by
  intro pins s σ H x y v u Q I rx ry h
  obtain ⟨i, j, rfl, rfl, q⟩ := h
  cases rx
  cases ry
  exact isnot_bool ⟨.bl (i != j), H, I, rfl, q⟩
theorem o_isB : OpC X (compareOp .Is) gIsB := ⟨_, op_isB, fun x y dx dy d H Q rx ry hg q => by
  unfold gIsB at hg
  split at hg
  · cases hg; cases rx; cases ry; exact ⟨_, _, rfl, rfl, q _ (.bl _) rfl⟩
  · cases hg⟩
theorem o_isnB : OpC X (compareOp .IsNot) gIsnB := ⟨_, op_isnB, fun x y dx dy d H Q rx ry hg q => by
  unfold gIsnB at hg
  split at hg
  · cases hg; cases rx; cases ry; exact ⟨_, _, rfl, rfl, q _ (.bl _) rfl⟩
  · cases hg⟩
/-! ### a < b < c -/
def mChain (g g' : D → D → Res D) (ma mb mc : Env → Res D) : Env → Res D := fun env => ma env >>= fun x => mb env >>= fun y => g x y >>= toB >>= fun k => if k then mc env >>= fun z => g' y z else .ok (.bl false)
theorem sc_chain {op op' : CmpOp} {g g' : D → D → Res D} (ho : OpC X (compareOp op) g) (ho' : OpC X (compareOp op') g') (ha : SB X a ma) (hb : SB X b mb) (hc : SB X c mc) (hm : lastMarks [op, op'] [b, c] = false := by with_unfolding_all rfl) : SC X (.Compare a [op, op'] [b, c] pos) (mChain g g' ma mb mc) := fun B H env σ tm d Q ok hm' q => by
  obtain ⟨x, hx, h1⟩ := bind_ok hm'
  obtain ⟨y, hy, h2⟩ := bind_ok h1
  obtain ⟨kk, hk, h3⟩ := bind_ok h2
  obtain ⟨z0, hg, h4⟩ := bind_ok hk
  have := toB_ok h4
  subst this
  obtain ⟨r, hr, hq⟩ := ho
  obtain ⟨r', hr', hq'⟩ := ho'
  refine wE_of (pe_chain hr hr' pe_sem pe_sem pe_sem hm) (sb2 ha hb ok hx hy fun v u H' x' ok' r1 r2 => hq v u _ _ _ H' _ r1 r2 hg fun w rz iz => ?_)
  cases rz
  refine ⟨kk, rfl, ?_⟩
  cases kk with
  | true =>
    rw [if_pos rfl] at h3 ⊢
    obtain ⟨z, hz, h5⟩ := bind_ok h3
    exact hc B H' env σ tm z _ ok' hz fun v2 H2 x2 ok2 r3 => hq' u v2 _ _ _ H2 Q (x2.rp r2) r3 h5 fun w2 rw2 iw2 => q w2 H2 (x'.trans x2) ok2 rw2 iw2
  | false =>
    rw [if_neg (by decide)]
    cases h3
    exact q _ H' x' ok' (.bl false) rfl
theorem st_chain {op op' : CmpOp} {g g' : D → D → Res D} (ho : OpC X (compareOp op) g) (ho' : OpC X (compareOp op') g') (ha : SB X a ma) (hb : SB X b mb) (hc : SB X c mc) (hm : lastMarks [op, op'] [b, c] = false := by with_unfolding_all rfl) : ST X (.Compare a [op, op'] [b, c] pos) (mTb (mChain g g' ma mb mc)) := fun B H env σ tm d Q ok hm' q => by
  obtain ⟨zz, hzz, hd⟩ := bind_ok hm'
  have hd' := toB_ok hd
  subst hd'
  obtain ⟨x, hx, h1⟩ := bind_ok hzz
  obtain ⟨y, hy, h2⟩ := bind_ok h1
  obtain ⟨kk, hk, h3⟩ := bind_ok h2
  obtain ⟨z0, hg, h4⟩ := bind_ok hk
  have := toB_ok h4
  subst this
  obtain ⟨r, hr, hq⟩ := ho
  obtain ⟨r', hr', hq'⟩ := ho'
  refine wT_of (pt_chain hr hr' pe_sem pe_sem pe_sem hm) (sb2 ha hb ok hx hy fun v u H' x' ok' r1 r2 => hq v u _ _ _ H' _ r1 r2 hg fun w rz iz => ?_)
  cases rz
  refine ⟨kk, rfl, ?_⟩
  cases kk with
  | true =>
    rw [if_pos rfl] at h3 ⊢
    obtain ⟨z, hz, h5⟩ := bind_ok h3
    refine hc B H' env σ tm z _ ok' hz fun v2 H2 x2 ok2 r3 => hq' u v2 _ _ _ H2 _ (x2.rp r2) r3 h5 fun w2 rw2 iw2 => ?_
    cases rw2
    exact ⟨_, rfl, q H2 (x'.trans x2) ok2⟩
  | false =>
    rw [if_neg (by decide)]
    cases h3
    exact ⟨_, rfl, q H' x' ok'⟩
/-! ### abs, int -/
def gAbs : D → Res D
  | .int i => .ok (.int (if i < 0 then -i else i))
  | _ => .bad
theorem sc_abs (hg : Gl X "abs") (hm0 : X.mg "abs" = none) (h : SB X e m) (he : starEach [e] X.env = (false, eval e X.env) :: starEach [] X.env := by rfl) (hpl : (backTo pos (starEach [] X.env)).any (·.1) = false := by rfl) : SC X (.Call (.Name "abs" p) [e] [] pos) (mUn gAbs m) := fun B H env σ tm d Q ok hm q => by
  obtain ⟨x, hx, h2⟩ := bind_ok hm
  refine wE_of (pe_callB call_abs hg hm0 (by decide +kernel) (pa_cons pe_sem pa_nil he) (by decide) (by decide) he hpl) (h B H env σ tm _ _ ok hx fun v H1 x1 ok1 r => ?_)
  unfold gAbs at h2
  split at h2
  · cases h2; cases r; exact ⟨_, rfl, q _ H1 x1 ok1 (.int _) rfl⟩
  · cases h2
def gInt : D → Res D
  | .int i => .ok (.int i)
  | .bl k => .ok (.int (if k then 1 else 0))
  | _ => .bad
theorem sc_int1 (hg : Gl X "int") (hm0 : X.mg "int" = none) (h : SB X e m) (he : starEach [e] X.env = (false, eval e X.env) :: starEach [] X.env := by rfl) (hpl : (backTo pos (starEach [] X.env)).any (·.1) = false := by rfl) : SC X (.Call (.Name "int" p) [e] [] pos) (mUn gInt m) := fun B H env σ tm d Q ok hm q => by
  obtain ⟨x, hx, h2⟩ := bind_ok hm
  refine wE_of (pe_callTy call_int1 hg hm0 (by decide +kernel) (pa_cons pe_sem pa_nil he) (by decide) (by decide) he hpl) (h B H env σ tm _ _ ok hx fun v H1 x1 ok1 r => ?_)
  unfold gInt at h2
  split at h2
  · cases h2; cases r; exact .inl ⟨_, rfl, q _ H1 x1 ok1 (.int _) rfl⟩
  · cases h2; cases r; exact .inr ⟨_, rfl, q _ H1 x1 ok1 (.int _) rfl⟩
  · cases h2
end
/-! ### raising within an expression -/
def PostB (κ : Str → Addr) (W : WX) (B : Bs) (H : Hp) (env : Env) (σ : St) (tm : List Hold) (Q : VK) : Res D → Prop
  | .ok d => ∀ v H', Ext H H' → EnvOk B H' env σ tm → Rp (view H') v d → Q v H'
  | .exc c ns as => ∀ H' dd, XAt B H' dd ns as → EnvOk B H' [] [] tm → W (.ref (κ c)) dd σ H'
  | .bad => False
def SBX (X : Cx) (κ : Str → Addr) (W : WX) (e : Expr) (m : Env → Res D) : Prop := ∀ (B : Bs) (H : Hp) (env : Env) (σ : St) (tm : List Hold) (Q : VK), EnvOk B H env σ tm → PostB κ W B H env σ tm Q (m env) → wE X e σ H Q
def PostA (κ : Str → Addr) (W : WX) (B : Bs) (H : Hp) (env : Env) (σ : St) (tm : List Hold) (Q : List V → Hp → Prop) : Res (List D) → Prop
  | .ok ds => ∀ vs H', Ext H H' → EnvOk B H' env σ tm → RpAll (view H') vs ds → Q vs H'
  | .exc c ns as => ∀ H' dd, XAt B H' dd ns as → EnvOk B H' [] [] tm → W (.ref (κ c)) dd σ H'
  | .bad => False
def SAX (X : Cx) (κ : Str → Addr) (W : WX) (es : List Expr) (m : Env → Res (List D)) : Prop := ∀ (B : Bs) (H : Hp) (env : Env) (σ : St) (tm : List Hold) (Q : List V → Hp → Prop), EnvOk B H env σ tm → PostA κ W B H env σ tm Q (m env) → wA X es σ H Q
section
variable {X : Cx} {κ : Str → Addr} {W : WX} {e : Expr} {es : List Expr} {m : Env → Res D} {ms : Env → Res (List D)} {pos p : Pos} {k kr j n : Nat} {x : Str} {F : List D → Res D}
theorem bx_e (h : SEX X κ k [] W e m) : SBX X κ W e m := fun B H env σ tm Q ok p => by
  refine h B H env σ tm Q ok ?_
  cases hm : m env with
  | ok d => rw [hm] at p; exact fun v H' x' ok' => p v H' x' ok'.tail ok'.rp
  | exc c ns as => rw [hm] at p; exact p
  | bad => rw [hm] at p; exact p
theorem bx_b (h : SB X e m) : SBX X κ W e (mN m) := fun B H env σ tm Q ok p => by
  unfold mN at p
  cases hm : m env with
  | ok d => rw [hm] at p; exact h B H env σ tm d Q ok hm p
  | exc c ns as => rw [hm] at p; exact p.elim
  | bad => rw [hm] at p; exact p.elim
/-- len of what may raise -/
theorem bx_len (hg : Gl X "len") (hm0 : X.mg "len" = none) (h : SBX X κ W e m) (he : starEach [e] X.env = (false, eval e X.env) :: starEach [] X.env := by rfl) (hpl : (backTo pos (starEach [] X.env)).any (·.1) = false := by rfl) : SBX X κ W (.Call (.Name "len" p) [e] [] pos) (mUn (fun d => nx (gLen d)) m) := fun B H env σ tm Q ok p => by
  refine wE_of (pe_callB call_len hg hm0 PySem.boot_len (pa_cons pe_sem pa_nil he) (by decide) (by decide) he hpl) (h B H env σ tm _ ok ?_)
  unfold mUn at p
  cases hm : m env with
  | bad => rw [hm] at p; exact p
  | exc c ns as => rw [hm] at p; exact p
  | ok x =>
    rw [hm] at p
    have p' : PostB κ W B H env σ tm Q (nx (gLen x)) := p
    intro v H1 x1 ok1 r
    cases r with
    | lst hv ra => exact ⟨_, _, rfl, .inl ⟨_, .inl (view_rd hv), rfl⟩, by rw [ra.length]; exact p' _ H1 x1 ok1 (.int _)⟩
    | tup hv ra => exact ⟨_, _, rfl, .inr ⟨_, .inl (view_rd hv), rfl⟩, by rw [ra.length]; exact p' _ H1 x1 ok1 (.int _)⟩
    | str z =>
      have h3 : PostB κ W B H env σ tm Q (nx (if z.length ≤ sizeLine then Res.ok (D.int z.length) else .bad)) := p'
      by_cases hl : z.length ≤ sizeLine
      · rw [if_pos hl] at h3
        exact ⟨_, _, rfl, ⟨hl, rfl⟩, h3 _ H1 x1 ok1 (.int _)⟩
      · rw [if_neg hl] at h3; exact h3.elim
    | _ => exact p'.elim
theorem sax_nil : SAX X κ W [] mNilA := fun B H env σ tm Q ok p => wA_of pa_nil (p [] H (Ext.refl H) ok .nil)
theorem sax_cons (he : SBX X κ W e m) (hs : SAX X κ W es ms) (hst : starEach (e :: es) X.env = (false, eval e X.env) :: starEach es X.env := by rfl) : SAX X κ W (e :: es) (mConsA m ms) := fun B H env σ tm Q ok p => by
  refine wA_of (pa_cons pe_sem pa_sem hst) (he B H env σ tm _ ok ?_)
  unfold mConsA at p
  cases hm : m env with
  | bad => rw [hm] at p; exact p
  | exc c ns as => rw [hm] at p; exact p
  | ok d =>
    rw [hm] at p
    have p1 : PostA κ W B H env σ tm Q (ms env >>= fun xs => .ok (d :: xs)) := p
    intro v H1 x1 ok1 r1
    refine hs B H1 env σ tm _ ok1 ?_
    cases hms : ms env with
    | bad => rw [hms] at p1; exact p1
    | exc c ns as => rw [hms] at p1; exact p1
    | ok ds =>
      rw [hms] at p1
      exact fun vs H2 x2 ok2 r2 => p1 (v :: vs) H2 (x1.trans x2) ok2 (.cons (x2.rp r1) r2)
/-- f(..), its arguments may raise, f raises nothing -/
theorem sx_calA (C : Cal X.prog X.w X.K X.mg X.base x j n kr F) (hr : Room j X.A) (hg : Gl X x)
    (ha : SAX X κ W (e :: es) ms) (hl : ∀ env ds, ms env = .ok ds → ds.length = n) (hdb : (x == ("__debug__" : Str)) = false := by decide) (he : starEach (e :: es) X.env = (false, eval e X.env) :: starEach es X.env := by rfl) (hpl : (backTo pos (starEach es X.env)).any (·.1) = false := by rfl) :
    SEX X κ kr [] W (.Call (.Name x p) (e :: es) [] pos) (mCall kr (fun ds => nx (F ds)) ms) := fun B H env σ tm Q ok pp => by
  obtain ⟨f, fd, ps, hm, hk, hb, Fo⟩ := C.ex
  refine wE_of (pe_call Fo hr hg hm hk hb .nil pass0 pa_sem hdb he hpl) (ha B H env σ tm _ ok ?_)
  unfold mCall at pp
  cases hms : ms env with
  | bad => rw [hms] at pp; exact pp
  | exc c ns as => rw [hms] at pp; exact pp
  | ok ds =>
    rw [hms] at pp
    have p1 : PostE κ kr [] W B H env σ tm Q (nx (F ds) >>= fun d => if immAt kr d then .ok d else .bad) := pp
    intro vs H1 x1 ok1 ra
    rw [List.append_nil]
    cases hF : F ds with
    | bad => rw [hF] at p1; exact p1.elim
    | exc c ns as => rw [hF] at p1; exact p1.elim
    | ok d =>
      rw [hF] at p1
      have p2 : PostE κ kr [] W B H env σ tm Q (if immAt kr d then .ok d else .bad) := p1
      split at p2
      · rename_i hi
        refine ⟨by rw [ra.length]; exact hl _ _ hms, view H1, ds, _, ⟨fun _ _ e => e, fun _ _ => rfl, fun _ _ e => e, fun _ _ _ e => e, fun a xs im e => ok1.imAt im e⟩, ra, hF, fun v H' r => ?_⟩
        obtain ⟨x2, ok2⟩ := ok1.retB r hi
        exact p2 v H' (x1.trans x2) ok2
      · exact p2.elim
/-- f(..), its arguments may raise, f too -/
theorem sx_calXA (C : CalX X.prog X.w X.K X.mg X.base x j n kr κ F) (hr : Room j X.A) (hg : Gl X x) (tk : Takes X W)
    (ha : SAX X κ W (e :: es) ms) (hl : ∀ env ds, ms env = .ok ds → ds.length = n) (hdb : (x == ("__debug__" : Str)) = false := by decide) (he : starEach (e :: es) X.env = (false, eval e X.env) :: starEach es X.env := by rfl) (hpl : (backTo pos (starEach es X.env)).any (·.1) = false := by rfl) :
    SEX X κ kr [] W (.Call (.Name x p) (e :: es) [] pos) (mCall kr F ms) := fun B H env σ tm Q ok pp => by
  obtain ⟨f, fd, ps, hm, hk, hb, Fo⟩ := C.ex
  refine wE_of (pe_callS (E := WE W) Fo hr hg hm hk hb (passAt tk) pa_sem hdb he hpl) (ha B H env σ tm _ ok ?_)
  unfold mCall at pp
  cases hms : ms env with
  | bad => rw [hms] at pp; exact pp
  | exc c ns as => rw [hms] at pp; exact pp
  | ok ds =>
    rw [hms] at pp
    have p1 : PostE κ kr [] W B H env σ tm Q (F ds >>= fun d => if immAt kr d then .ok d else .bad) := pp
    intro vs H1 x1 ok1 ra
    refine ⟨by rw [ra.length]; exact hl _ _ hms, view H1, ds, ⟨fun _ _ e => e, fun _ _ => rfl, fun _ _ e => e, fun _ _ _ e => e, fun a xs im e => ok1.imAt im e⟩, ra, ?_⟩
    cases hF : F ds with
    | bad => rw [hF] at p1; exact p1.elim
    | exc c ns as =>
      rw [hF] at p1
      intro H' dd xr
      obtain ⟨x2, ok2, xa⟩ := ok1.raisedB xr
      exact p1 H' dd xa ok2.noSlots
    | ok d =>
      rw [hF] at p1
      have p2 : PostE κ kr [] W B H env σ tm Q (if immAt kr d then .ok d else .bad) := p1
      split at p2
      · rename_i hi
        intro v H' r
        obtain ⟨x2, ok2⟩ := ok1.retB r hi
        exact p2 v H' (x1.trans x2) ok2
      · exact p2.elim
end
end Mir

namespace Mir
open PySem PySem.Spec L2
/-! ### in a tuple of numbers -/
def gInT : D → D → Res D
  | .int i, .tup ds => match intsD? ds with | some is => .ok (.bl (decide (i ∈ is))) | none => .bad
  | _, _ => .bad
def gNotInT : D → D → Res D
  | .int i, .tup ds => match intsD? ds with | some is => .ok (.bl (!decide (i ∈ is))) | none => .bad
  | _, _ => .bad
theorem inV_ints (i : Int) (is : List Int) : inV (.int i) (is.map V.int) = decide (i ∈ is) := by
  unfold inV
  rw [List.any_map]
  induction is with
  | nil => rfl
  | cons j is ih =>
    rw [List.any_cons, ih]
    simp only [Function.comp, eqV]
    by_cases h : j = i
    · subst h; simp
    · have h2 : i ≠ j := fun z => h z.symm
      simp [h, h2]
theorem flat_ints (is : List Int) : (is.map V.int).all flatV = true := by
  rw [List.all_eq_true]
  intro x hx
  obtain ⟨i, _, rfl⟩ := List.mem_map.mp hx
  rfl
section
variable {X : Cx}
theorem o_inT (hu : X.A.units + 64 < cLine) : OpC X (compareOp .In) gInT := ⟨_, op_in_seq, fun x y dx dy d H Q rx ry hg q => by
  unfold gInT at hg
  split at hg
  · split at hg
    · rename_i ds is e
      cases hg
      cases rx
      cases ry with
      | tup hv ra =>
        have := intsD_rp ra e
        subst this
        exact ⟨_, _, rfl, .inr (.inl (view_rd hv)), rfl, flat_ints is, by rw [if_neg (by decide), inV_ints]; exact q _ (.bl _) rfl⟩
    · cases hg
  · cases hg⟩
theorem o_ninT (hu : X.A.units + 64 < cLine) : OpC X (compareOp .NotIn) gNotInT := ⟨_, op_notIn_seq, fun x y dx dy d H Q rx ry hg q => by
  unfold gNotInT at hg
  split at hg
  · split at hg
    · rename_i ds is e
      cases hg
      cases rx
      cases ry with
      | tup hv ra =>
        have := intsD_rp ra e
        subst this
        exact ⟨_, _, rfl, .inr (.inl (view_rd hv)), rfl, flat_ints is, by rw [if_pos rfl, inV_ints]; exact q _ (.bl _) rfl⟩
    · cases hg
  · cases hg⟩
end
end Mir

namespace Mir
open PySem PySem.Spec L2
/-! ### equations of the mirrors that may raise -/
section
variable {α : Type} {m mb ms : Mir.Env → Res Ctl} {me : Mir.Env → Res D} {msA : Mir.Env → Res (List D)} {env : Mir.Env} {κ : Str → Addr}
@[simp] theorem nx_bad : nx (.bad : Res α) = .bad := rfl
@[simp] theorem nx_exc (c : Str) (ns : List Str) (as : List D) : nx (.exc c ns as : Res α) = .bad := rfl
@[simp] theorem e_mN (f : Mir.Env → Res α) : mN f env = nx (f env) := rfl
@[simp] theorem e_mExpr : mExpr me env = (me env >>= fun _ => .ok (.nx env)) := rfl
@[simp] theorem e_mRaise (c : Str) : mRaise c env = .exc c [] [] := rfl
@[simp] theorem e_mCallX (k : Nat) (F : List D → Res D) : mCallX k F msA env = (nx (msA env) >>= fun ds => F ds >>= fun d => if immAt k d then .ok d else .bad) := rfl
@[simp] theorem e_nT (t : Nat → D → Mir.Env → Res Mir.Env) (k : Nat) (d : D) : nT t k d env = nx (t k d env) := rfl
@[simp] theorem e_only (Z : List Nat) : only Z env = onlyF Z 0 env := rfl
@[simp] theorem e_onlyF_nil (Z : List Nat) (j : Nat) : onlyF Z j [] = [] := rfl
@[simp] theorem e_onlyF_cons (Z : List Nat) (j : Nat) (x : Option (Nat × D)) (e : Mir.Env) : onlyF Z j (x :: e) = (if Z.contains j = true then (match x with | some (0, d) => some (0, d) | _ => none) else none) :: onlyF Z (j + 1) e := rfl
theorem e_mTry_ok {i : Nat} {tab : Str → Option Bool} {Z : List Nat} {r : Ctl} (h : mb env = .ok r) : mTry i tab Z κ mb ms env = .ok r := by unfold mTry; rw [h]
theorem e_mTry_exc {i : Nat} {tab : Str → Option Bool} {Z : List Nat} {c : Str} {ns : List Str} {as : List D} (h : mb env = .exc c ns as) (ht : tab c = some true) (hi : i < env.length) : mTry i tab Z κ mb ms env = (nx (ms ((only Z env).set i (some (0, .exn c (κ c) ns as)))) >>= fun r => (match r with
      | .nx e => .ok (.nx (e.set i none))
      | .bk e => .ok (.bk (e.set i none))
      | .ct e => .ok (.ct (e.set i none))
      | .rt d => .ok (.rt d))) := by unfold mTry; rw [h]; dsimp only; rw [ht]; dsimp only; rw [if_pos hi] <;> rfl
@[simp] theorem e_mIsO (tab : Str → Option Bool) : mIsO κ tab me env = (me env >>= fun d => match d with
  | .non => .ok (.bl false)
  | .exn c C _ _ => if C = κ c then (match tab c with | some b => .ok (.bl b) | none => .bad) else .bad
  | _ => .bad) := rfl
@[simp] theorem e_mChain (g g' : D → D → Res D) (ma mb mc : Mir.Env → Res D) : mChain g g' ma mb mc env = (ma env >>= fun x => mb env >>= fun y => g x y >>= toB >>= fun k => if k then mc env >>= fun z => g' y z else .ok (.bl false)) := rfl
@[simp] theorem e_mXf (c f : Str) : mXf κ c f me env = (me env >>= fun d => match d with
  | .exn s C ns as => if s = c ∧ C = κ c ∧ ns.length = as.length then (match (ns.zip as).lookup f with | some d => .ok d | none => .bad) else .bad
  | _ => .bad) := rfl
@[simp] theorem e_gIsB (a b : Bool) : gIsB (.bl a) (.bl b) = .ok (.bl (a == b)) := rfl
@[simp] theorem e_gIsnB (a b : Bool) : gIsnB (.bl a) (.bl b) = .ok (.bl (a != b)) := rfl
@[simp] theorem e_gAbs (i : Int) : gAbs (.int i) = .ok (.int (if i < 0 then -i else i)) := rfl
@[simp] theorem e_gIntI (i : Int) : gInt (.int i) = .ok (.int i) := rfl
@[simp] theorem e_gIntB (k : Bool) : gInt (.bl k) = .ok (.int (if k then 1 else 0)) := rfl
@[simp] theorem e_intsD_nil : intsD? [] = some [] := rfl
@[simp] theorem e_intsD_cons (i : Int) (ds : List D) : intsD? (.int i :: ds) = (intsD? ds).map fun is => i :: is := rfl
@[simp] theorem e_gInT (i : Int) (ds : List D) : gInT (.int i) (.tup ds) = (match intsD? ds with | some is => .ok (.bl (decide (i ∈ is))) | none => .bad) := rfl
@[simp] theorem e_gNotInT (i : Int) (ds : List D) : gNotInT (.int i) (.tup ds) = (match intsD? ds with | some is => .ok (.bl (!decide (i ∈ is))) | none => .bad) := rfl
@[simp] theorem e_gIsN_exn (c : Str) (C : Addr) (ns : List Str) (ds : List D) : gIsN (.exn c C ns ds) = .ok (.bl false) := rfl
@[simp] theorem e_gNotN_exn (c : Str) (C : Addr) (ns : List Str) (ds : List D) : gNotN (.exn c C ns ds) = .ok (.bl true) := rfl
end
/-! ### a long body, step by step -/
section
variable {β : Type} {m1 m2 : Mir.Env → Res Ctl} {env e : Mir.Env} {k : Ctl → Res β} {Q : β → Prop} {t : Mir.Env → Res Bool} {d : D}
theorem t_seq (h : m1 env = .ok (.nx e)) (h2 : Tells (m2 e >>= k) Q) : Tells (mSeq m1 m2 env >>= k) Q := by
  unfold mSeq
  rw [h]; exact h2
theorem t_seqR (h : m1 env = .ok (.rt d)) (h2 : Tells (k (.rt d)) Q) : Tells (mSeq m1 m2 env >>= k) Q := by
  unfold mSeq
  rw [h]; exact h2
theorem t_seqT (h : Tells (m1 env) fun c => c = .nx e) (h2 : Tells (m2 e >>= k) Q) : Tells (mSeq m1 m2 env >>= k) Q := t_seq h.eq h2
/-- the first statement tells an env of which P holds -/
theorem t_seqP {P : Mir.Env → Prop} (h : Tells (m1 env) fun c => ∃ e, c = .nx e ∧ P e) (h2 : ∀ e, P e → Tells (m2 e >>= k) Q) : Tells (mSeq m1 m2 env >>= k) Q := by
  obtain ⟨_, h1, e, rfl, hp⟩ := h
  exact t_seq h1 (h2 e hp)
theorem t_ifT {α : Type} {x y : Mir.Env → Res α} (h : t env = .ok true) : mIf t x y env = x env := by unfold mIf; rw [h]; rfl
theorem t_ifF {α : Type} {x y : Mir.Env → Res α} (h : t env = .ok false) : mIf t x y env = y env := by unfold mIf; rw [h]; rfl
theorem t_set {i kk : Nat} {cs : List Nat} {m : Mir.Env → Res D} (h : m env = .ok d) (hi : i < (clear env cs).length) : mSet i kk cs m env = .ok (.nx ((clear env cs).set i (some (kk, d)))) := by
  unfold mSet tName
  rw [h]
  show (if i < (clear env cs).length then Res.ok ((clear env cs).set i (some (kk, d))) else .bad) >>= _ = _
  rw [if_pos hi] <;> rfl
end
end Mir

namespace Mir
open PySem PySem.Spec L2
section
variable {X : Cx} {e o i2 ep : Expr} {mv mi mp m : Env → Res D} {k kr : Nat} {pos apos cpos pos2 : Pos} {cs : List Nat}
/-! ### xs[i].append(e), e without lists, dicts -/
def mAppII (j k : Nat) (mi mv : Env → Res D) : Env → Res Ctl := fun env => mi env >>= fun y => mv env >>= fun d => atL env j (k + 2) >>= fun ds => match y with
  | .int n => (match ixN ds.length n with
    | some jj => (match ds[jj]? with
      | some (.lst es) => if d.imm = true ∧ es.length < sizeLine then .ok (.nx (env.set j (some (k + 2, .lst (ds.set jj (.lst (es ++ [d]))))))) else .bad
      | _ => .bad)
    | none => .bad)
  | _ => .bad
theorem s_appII {j : Nat} {i : Expr} (hx : PE X o (tVar j)) (hi : SB X i mi) (hv : SB X e mv) (hix : PlainIx i)
    (hbase : attributeBase (.Subscript o i pos2) "append" X.env (eval (.Subscript o i pos2) X.env) = eval (.Subscript o i pos2) X.env := by rfl)
    (hfew : ((backTo cpos (starEach [e] X.env)).all (fun x => !x.1) && (backToKw cpos (keywordEach [] X.env)).all (fun x => x.1.isSome)
      && decide ([e].length + ([] : List Keyword).length + (if ([] : List Keyword).isEmpty then 0 else 1) < 30)) = true := by rfl)
    (hline : (apos.endLine == cpos.line) = true := by rfl) (hs : starEach [e] X.env = (false, eval e X.env) :: starEach [] X.env := by rfl) (hplain : (backTo cpos (starEach [] X.env)).any (·.1) = false := by rfl)
    (hsw : swapsWith (.Call (.Attribute (.Subscript o i pos2) "append" apos) [e] [] cpos) none pos.line X.env = pure false := by rfl) :
    S1 X kr (.Expr (.Call (.Attribute (.Subscript o i pos2) "append" apos) [e] [] cpos) pos) (mAppII j k mi mv) := fun B H env σ tm D r ok hm p => by
  obtain ⟨y, hy, h2⟩ := bind_ok hm
  obtain ⟨d, hd, h3⟩ := bind_ok h2
  obtain ⟨ds, hds, h4⟩ := bind_ok h3
  have he1 := atL_ok hds
  split at h4
  · rename_i n
    split at h4
    · rename_i jj hjj
      split at h4
      · rename_i es hes
        split at h4
        · rename_i hh
          obtain ⟨hdi, hel⟩ := hh
          cases h4
          refine wS_of (ps_expr (pe_bm F.plainAttrs_list F.slot_list_append F.type_list_append mt_append (pe_ix ix_seq hx pe_sem hix) (pa_cons pe_sem pa_nil hs) hbase hfew hline hs hplain) hsw) ?_
          obtain ⟨v, hv', rv⟩ := ok.slot he1
          refine ⟨v, hv', hi B H env σ _ _ _ ok hy fun u H2 x2 ok2 r2 => ?_⟩
          cases r2
          obtain ⟨q, hq, ok3⟩ := ok2.slotMu he1 rfl
          rw [hv'] at hq
          cases hq
          have rpl := ok3.rp
          obtain ⟨vs, hL, hvl, ok3b⟩ := ok3.takeLst
          have hjl := ixN_lt hjj
          have hjv : jj < vs.length := by omega
          refine .inl ⟨q, vs, n, vs[jj], rfl, rfl, .inl (.inl hL), ?_, ?_⟩
          · unfold atI
            rw [hvl, hjj]
            exact List.getElem?_eq_getElem hjv
          have hjr : ∃ a ws0, vs[jj] = .ref a ∧ view H2 a = some (.lst ws0) := by
            cases rpl with
            | @lst _ vs0 _ hq0 ra0 =>
              have e0 : vs0 = vs := by
                unfold view at hq0
                rw [hL] at hq0
                cases hq0; rfl
              subst e0
              obtain ⟨v1, hv1, rv1⟩ := ra0.get hes
              rw [List.getElem?_eq_getElem hjv] at hv1
              cases hv1
              generalize vs0[jj] = z at rv1
              cases rv1 with
              | lst h _ => exact ⟨_, _, rfl, h⟩
          obtain ⟨a0, ws0, ea0, hv0⟩ := hjr
          rw [ea0]
          refine ⟨.inl ⟨rfl, _, .inl (view_rd hv0)⟩, ?_⟩
          refine hv B H2 env σ tm d _ ok2 hd fun w H3 x3 ok4 rw1 => ?_
          obtain ⟨q2, hq2, ok5⟩ := ok4.slotMu he1 rfl
          rw [hv'] at hq2
          cases hq2
          obtain ⟨vs2, hL2, hvl2, ok6⟩ := ok5.takeLst
          have ev : vs2 = vs := by
            have := x3 _ _ hL
            rw [this] at hL2; cases hL2; rfl
          subst ev
          obtain ⟨l, l1, l2⟩ := lev_one (k := k + 1) hvl2 (List.getElem?_eq_getElem hjv) hes
          have ok7 : EnvOk B (del H3 q) (env.set j none) σ ((vs2[jj], k + 1, .lst es) :: (l ++ tm)) := ok6.perm (l1.append_right _)
          rw [ea0] at ok7
          obtain ⟨ws, hA, hwl, ok8⟩ := ok7.takeLst
          have haq : a0 ≠ q := fun z => by rw [z, del_self] at hA; cases hA
          have hA2 : H3 a0 = some (.lst ws) := by rw [← hA, del_ne haq]
          refine ⟨a0, ws, w, rfl, rfl, hA2, by omega, ?_⟩
          have rw2 : Rp (view (del (del H3 q) a0)) w d := rw1.immTo (fun b u im hb => by
            unfold view at hb ⊢
            have b1 : b ≠ a0 := fun z => by rw [z, hA2] at hb; cases hb; cases im
            have b2 : b ≠ q := fun z => by rw [z, hL2] at hb; cases hb; cases im
            rw [del_ne b1, del_ne b2]; exact hb) hdi
          have ok11 : EnvOk B (del (del H3 q) a0) (env.set j none) σ (lev k (ws ++ [w]) (es ++ [d]) ++ (l ++ tm)) := by
            rw [lev_append [w] [d] hwl, List.append_assoc]
            exact (ok8.imm (k := k) rw2 hdi).perm List.perm_middle.symm
          have ok12 := ok11.newLst (p := a0) (by simp [hwl]) del_self
          rw [upd_del] at ok12
          have ok13 : EnvOk B (upd (del H3 q) a0 (.lst (ws ++ [w]))) (env.set j none) σ (lev (k + 1) (vs2.set jj (.ref a0)) (ds.set jj (.lst (es ++ [d]))) ++ tm) := ok12.perm ((l2 _ _).symm.append_right tm)
          rw [del_upd haq] at ok13
          have ok14 := ok13.newLst (p := q) (by simp [hvl2]) del_self
          rw [upd_del] at ok14
          have evs : vs2.set jj (.ref a0) = vs2 := by
            rw [← ea0]; exact List.set_getElem_self hjv
          rw [evs, upd_self (by rw [upd_ne (Ne.symm haq)]; exact hL2)] at ok14
          exact p σ _ (ok14.putBack he1 hv')
        · cases h4
      · cases h4
    · cases h4
  · cases h4
/-! ### xs.insert(i, e) -/
def mInsert (j k : Nat) (mp mv : Env → Res D) : Env → Res Ctl := fun env => mp env >>= fun z => mv env >>= fun d => atL env j (k + 1) >>= fun ds => match z with
  | .int pz => if 0 ≤ pz ∧ pz < 2 ^ 62 ∧ ds.length < sizeLine ∧ d.imm = true then .ok (.nx (env.set j (some (k + 1, .lst (ds.take pz.toNat ++ [d] ++ ds.drop pz.toNat))))) else .bad
  | _ => .bad
theorem s_insert {j : Nat} (hx : PE X o (tVar j)) (hp : SB X ep mp) (hv : SB X e mv)
    (hbase : attributeBase o "insert" X.env (eval o X.env) = eval o X.env := by rfl)
    (hfew : ((backTo cpos (starEach [ep, e] X.env)).all (fun x => !x.1) && (backToKw cpos (keywordEach [] X.env)).all (fun x => x.1.isSome)
      && decide ([ep, e].length + ([] : List Keyword).length + (if ([] : List Keyword).isEmpty then 0 else 1) < 30)) = true := by rfl)
    (hline : (apos.endLine == cpos.line) = true := by rfl) (hst : starEach [ep, e] X.env = (false, eval ep X.env) :: starEach [e] X.env := by rfl) (hst2 : starEach [e] X.env = (false, eval e X.env) :: starEach [] X.env := by rfl) (hplain : (backTo cpos (starEach [e] X.env)).any (·.1) = false := by rfl)
    (hsw : swapsWith (.Call (.Attribute o "insert" apos) [ep, e] [] cpos) none pos.line X.env = pure false := by rfl) : S1 X kr (.Expr (.Call (.Attribute o "insert" apos) [ep, e] [] cpos) pos) (mInsert j k mp mv) := fun B H env σ tm D r ok hm p => by
  obtain ⟨z, hz, h2⟩ := bind_ok hm
  obtain ⟨d, hd, h3⟩ := bind_ok h2
  obtain ⟨ds, hds, h4⟩ := bind_ok h3
  have he1 := atL_ok hds
  split at h4
  · rename_i pz
    split at h4
    · rename_i hh
      obtain ⟨hp0, hp1, hel, hdi⟩ := hh
      cases h4
      obtain ⟨v, hv', rv⟩ := ok.slot he1
      refine wS_of (ps_expr (pe_bm F.plainAttrs_list F.slot_list_insert F.type_list_insert mt_insert hx (pa_cons pe_sem (pa_cons pe_sem pa_nil hst2) hst) hbase hfew hline hst hplain) hsw) ?_
      refine ⟨v, hv', ?_⟩
      cases rv with
      | @lst q vs0 _ hq ra0 =>
        refine ⟨.inl ⟨rfl, _, .inl (view_rd hq)⟩, hp B H env σ tm _ _ ok hz fun u3 H3 x3 ok7 r7 => hv B H3 env σ tm _ _ ok7 hd fun w H4 x4 ok8 r8 => ?_⟩
        cases r7
        obtain ⟨a2, ha2, ok9⟩ := ok8.slotMu he1 rfl
        rw [hv'] at ha2
        cases ha2
        obtain ⟨ws, hA, hwl, ok10⟩ := ok9.takeLst
        refine ⟨q, ws, pz, w, rfl, rfl, hA, by omega, hp0, by omega, ?_⟩
        have rw2 : Rp (view (del H4 q)) w d := r8.immTo (fun b u im hb => by
          unfold view at hb ⊢
          have b1 : b ≠ q := fun z => by rw [z, hA] at hb; cases hb; cases im
          rw [del_ne b1]; exact hb) hdi
        have ok11 := ok10.imm (k := k) rw2 hdi
        have pm : (lev k (ws.take pz.toNat ++ [w] ++ ws.drop pz.toNat) (ds.take pz.toNat ++ [d] ++ ds.drop pz.toNat)).Perm ((w, k, d) :: lev k ws ds) := by
          have ht : (ws.take pz.toNat).length = (ds.take pz.toNat).length := by simp [hwl]
          rw [lev_append _ _ (by simp [hwl]), lev_append _ _ ht]
          show (lev k (ws.take pz.toNat) (ds.take pz.toNat) ++ [(w, k, d)] ++ lev k (ws.drop pz.toNat) (ds.drop pz.toNat)).Perm _
          have e0 : lev k ws ds = lev k (ws.take pz.toNat) (ds.take pz.toNat) ++ lev k (ws.drop pz.toNat) (ds.drop pz.toNat) := by
            rw [← lev_append _ _ ht, List.take_append_drop, List.take_append_drop]
          rw [e0, List.append_assoc]
          exact List.perm_middle
        have ok12 := (ok11.perm (pm.symm.append_right _)).newLst (p := q) (by simp [hwl]) del_self
        rw [upd_del] at ok12
        exact p σ _ (ok12.putBack he1 hv')
    · cases h4
  · cases h4
/-! ### xs.clear(), xs.reverse() -/
def mClear (j k : Nat) : Env → Res Ctl := fun env => atL env j (k + 1) >>= fun _ => .ok (.nx (env.set j (some (k + 1, .lst []))))
theorem s_clear {j : Nat} (hx : PE X o (tVar j)) (hbase : attributeBase o "clear" X.env (eval o X.env) = eval o X.env := by rfl) (hline : (apos.endLine == cpos.line) = true := by rfl)
    (hsw : swapsWith (.Call (.Attribute o "clear" apos) [] [] cpos) none pos.line X.env = pure false := by rfl) : S1 X kr (.Expr (.Call (.Attribute o "clear" apos) [] [] cpos) pos) (mClear j k) := fun B H env σ tm D r ok hm p => by
  obtain ⟨ds, hds, h2⟩ := bind_ok hm
  cases h2
  have he1 := atL_ok hds
  obtain ⟨v, hv', rv⟩ := ok.slot he1
  refine wS_of (ps_expr (pe_bm0 F.plainAttrs_list F.slot_list_clear F.type_list_clear mt_clear hx hbase hline) hsw) ?_
  refine ⟨v, hv', ?_⟩
  cases rv with
  | @lst q vs0 _ hq ra0 =>
    refine ⟨.inl ⟨rfl, _, .inl (view_rd hq)⟩, ?_⟩
    obtain ⟨a2, ha2, ok9⟩ := ok.slotMu he1 rfl
    rw [hv'] at ha2
    cases ha2
    obtain ⟨ws, hA, hwl, ok10⟩ := ok9.takeLst
    refine ⟨q, ws, rfl, rfl, hA, ?_⟩
    have ok11 : EnvOk B (del H q) (env.set j none) σ (lev k [] [] ++ tm) := ok10.less
    have ok12 := ok11.newLst (p := q) rfl del_self
    rw [upd_del] at ok12
    exact p σ _ (ok12.putBack he1 hv')
def mReverse (j k : Nat) : Env → Res Ctl := fun env => atL env j (k + 1) >>= fun ds => .ok (.nx (env.set j (some (k + 1, .lst ds.reverse))))
theorem lev_rev {k : Nat} : ∀ {vs : List V} {ds : List D}, vs.length = ds.length → (lev k vs.reverse ds.reverse).Perm (lev k vs ds)
  | [], [], _ => .refl _
  | [], _ :: _, h => by simp at h
  | _ :: _, [], h => by simp at h
  | v :: vs, d :: ds, h => by
    have h' : vs.length = ds.length := by simpa using h
    rw [List.reverse_cons, List.reverse_cons, lev_append [v] [d] (by simp [h'])]
    exact (List.perm_append_comm).trans (List.Perm.cons _ (lev_rev h'))
theorem s_reverse {j : Nat} (hx : PE X o (tVar j)) (hbase : attributeBase o "reverse" X.env (eval o X.env) = eval o X.env := by rfl) (hline : (apos.endLine == cpos.line) = true := by rfl)
    (hsw : swapsWith (.Call (.Attribute o "reverse" apos) [] [] cpos) none pos.line X.env = pure false := by rfl) : S1 X kr (.Expr (.Call (.Attribute o "reverse" apos) [] [] cpos) pos) (mReverse j k) := fun B H env σ tm D r ok hm p => by
  obtain ⟨ds, hds, h2⟩ := bind_ok hm
  cases h2
  have he1 := atL_ok hds
  obtain ⟨v, hv', rv⟩ := ok.slot he1
  refine wS_of (ps_expr (pe_bm0 F.plainAttrs_list F.slot_list_reverse F.type_list_reverse mt_reverse hx hbase hline) hsw) ?_
  refine ⟨v, hv', ?_⟩
  cases rv with
  | @lst q vs0 _ hq ra0 =>
    refine ⟨.inl ⟨rfl, _, .inl (view_rd hq)⟩, ?_⟩
    obtain ⟨a2, ha2, ok9⟩ := ok.slotMu he1 rfl
    rw [hv'] at ha2
    cases ha2
    obtain ⟨ws, hA, hwl, ok10⟩ := ok9.takeLst
    refine ⟨q, ws, rfl, rfl, hA, ?_⟩
    have ok12 := (ok10.perm ((lev_rev hwl).symm.append_right _)).newLst (p := q) (by simp [hwl]) del_self
    rw [upd_del] at ok12
    exact p σ _ (ok12.putBack he1 hv')
end
end Mir

namespace Mir
open PySem PySem.Spec L2
open PyProof.Rows (envOfC)
/-! ### x = xs[i]; ..; x.insert(p, v), told with what stays -/
theorem nx_isok {α : Type} {r : Res α} {a : α} (h : nx r = .ok a) : r = .ok a := by
  cases r with
  | ok b => exact h
  | exc c ns as => cases h
  | bad => cases h
/-- a Post of a bind over a result that raises nothing -/
theorem post_bind {κ : Str → Addr} {kr : Nat} {Z : List Nat} {W : WX} {B : Bs} {tm : List Hold} {σ : St} {D : Ends} {α : Type} {x : Res α} {f : α → Res Ctl} (p : PostK κ kr Z W B tm σ D (nx x >>= f)) : ∃ a, x = .ok a ∧ PostK κ kr Z W B tm σ D (f a) := by
  cases x with
  | ok a => exact ⟨a, rfl, p⟩
  | exc c ns as => exact p.elim
  | bad => exact p.elim
def SIN (X : Cx) (κ : Str → Addr) (kr : Nat) (Z : List Nat) (W : WX) (j i k : Nat) (ss : List Stmt) (m : Nat → List D → Env → Res Ctl) : Prop := ∀ (B : Bs) (H : Hp) (e : Env) (σ : St) (tm : List Hold) (D : Ends) (q a : Addr) (vs : List V) (ds : List Mir.D) (jj : Nat) (l : List Hold),
  B q = none → vs.length = ds.length → vs[jj]? = some (.ref a) → (∀ w d, (lev (k + 1) (vs.set jj w) (ds.set jj d)).Perm ((w, k + 1, d) :: l)) → EnvOk (B.lent q (.lst vs)) H e σ (l ++ tm) → i ≠ j → e[j]? = some none → σ[j]? = some (some (.ref q)) → σ[i]? = some (some (.ref a)) →
    PostK κ kr Z W B tm σ D (m jj ds e) → wB X ss D σ H
section
variable {X : Cx} {κ : Str → Addr} {Z : List Nat} {W : WX} {e ep o ix o2 : Expr} {mi mp mv : Env → Res D} {i j k kr : Nat} {pos p pos' pos2 spos apos cpos spos2 : Pos} {mr m1 : Env → Res Ctl} {m2 : Nat → List D → Env → Res Ctl} {rest ss : List Stmt} {st : Stmt} {x : Str}
def mMid (j : Nat) (m1 : Env → Res Ctl) (m2 : Nat → List D → Env → Res Ctl) : Nat → List D → Env → Res Ctl := fun jj ds e => nx (m1 e) >>= fun c => match c with
  | .nx e' => (match e'[j]? with | some none => m2 jj ds e' | _ => .bad)
  | _ => .bad
theorem sin_mid (h : S1K X κ kr (j :: i :: Z) W st m1) (t : SIN X κ kr Z W j i k ss m2) : SIN X κ kr Z W j i k (st :: ss) (mMid j m1 m2) := fun B H e σ tm D q a vs ds jj l hq hl hv hp ok hij hj hsj hsi pp => by
  obtain ⟨c, hc, p2⟩ := post_bind pp
  refine wB_of (pss_cons ps_sem pss_sem) (h _ H e σ (l ++ tm) { D with nx := wB X ss D } ok ?_)
  rw [hc]
  cases c with
  | nx e' =>
    intro σ' H' ok' kk
    dsimp only at p2
    split at p2
    · rename_i hj'
      exact t B H' e' σ' tm D q a vs ds jj l hq hl hv hp ok' hij hj' ((kk j List.mem_cons_self).trans hsj) ((kk i (List.mem_cons_of_mem _ List.mem_cons_self)).trans hsi) (PostK.from (fun z hz => kk z (List.mem_cons_of_mem _ (List.mem_cons_of_mem _ hz))) p2)
    · exact p2.elim
  | bk e' => exact p2.elim
  | ct e' => exact p2.elim
  | rt d => exact p2.elim
def mIns (j i k : Nat) (mp mv : Env → Res D) (mr : Env → Res Ctl) : Nat → List D → Env → Res Ctl := fun jj ds e => match e[i]? with
  | some (some (k', .lst es)) => if k' = k + 1 then nx (mp e) >>= fun z => nx (mv e) >>= fun d => (match z with
    | .int pz => if 0 ≤ pz ∧ pz < 2 ^ 62 ∧ es.length < sizeLine ∧ d.imm = true then mr ((e.set i none).set j (some (k + 2, .lst (ds.set jj (.lst (es.take pz.toNat ++ [d] ++ es.drop pz.toNat)))))) else .bad
    | _ => .bad) else .bad
  | _ => .bad
theorem sin_ins (hx2 : PE X o2 (tVar i)) (hp : SB X ep mp) (hv : SB X e mv) (hr : SSK X κ kr Z W rest mr)
    (hbase : attributeBase o2 "insert" X.env (eval o2 X.env) = eval o2 X.env := by rfl)
    (hfew : ((backTo cpos (starEach [ep, e] X.env)).all (fun x => !x.1) && (backToKw cpos (keywordEach [] X.env)).all (fun x => x.1.isSome)
      && decide ([ep, e].length + ([] : List Keyword).length + (if ([] : List Keyword).isEmpty then 0 else 1) < 30)) = true := by rfl)
    (hline : (apos.endLine == cpos.line) = true := by rfl) (hst : starEach [ep, e] X.env = (false, eval ep X.env) :: starEach [e] X.env := by rfl) (hst2 : starEach [e] X.env = (false, eval e X.env) :: starEach [] X.env := by rfl) (hplain : (backTo cpos (starEach [e] X.env)).any (·.1) = false := by rfl)
    (hsw : swapsWith (.Call (.Attribute o2 "insert" apos) [ep, e] [] cpos) none spos2.line X.env = pure false := by rfl) :
    SIN X κ kr Z W j i k (.Expr (.Call (.Attribute o2 "insert" apos) [ep, e] [] cpos) spos2 :: rest) (mIns j i k mp mv mr) := fun B H env σ tm D q a vs ds jj l hBq hvl hvj l2 ok6 hij hej hsj hsi pp => by
  unfold mIns at pp
  split at pp
  · rename_i k' es hei
    split at pp
    · rename_i ek
      subst ek
      obtain ⟨z, hz, p2⟩ := post_bind pp
      obtain ⟨d, hd, p3⟩ := post_bind p2
      split at p3
      · rename_i pz
        split at p3
        · rename_i hh
          obtain ⟨hp0, hp1, hel, hdi⟩ := hh
          refine wB_of (pss_cons (ps_expr (pe_bm F.plainAttrs_list F.slot_list_insert F.type_list_insert mt_insert hx2 (pa_cons pe_sem (pa_cons pe_sem pa_nil hst2) hst) hbase hfew hline hst hplain) hsw) pss_sem) ?_
          obtain ⟨w0, hw0, rw0⟩ := ok6.slot hei
          rw [hsi] at hw0
          cases hw0
          refine ⟨.ref a, hsi, ?_⟩
          cases rw0 with
          | @lst _ ws0 _ hq0 ra0 =>
            refine ⟨.inl ⟨rfl, _, .inl (view_rd hq0)⟩, hp _ H _ _ (l ++ tm) _ _ ok6 hz fun u3 H3 x3 ok7 r7 => hv _ H3 _ _ (l ++ tm) _ _ ok7 hd fun w H4 x4 ok8 r8 => ?_⟩
            cases r7
            obtain ⟨a2, ha2, ok9⟩ := ok8.slotMu hei rfl
            rw [hsi] at ha2
            cases ha2
            obtain ⟨ws, hA, hwl, ok10⟩ := ok9.takeLst
            refine ⟨a, ws, pz, w, rfl, rfl, hA, by omega, hp0, by omega, ?_⟩
            have rw2 : Rp (view (del H4 a)) w d := r8.immTo (fun b xs im hb => by
              unfold view at hb ⊢
              have b1 : b ≠ a := fun z => by rw [z, hA] at hb; cases hb; cases im
              rw [del_ne b1]; exact hb) hdi
            have ok11 := ok10.imm (k := k) rw2 hdi
            have pm : (lev k (ws.take pz.toNat ++ [w] ++ ws.drop pz.toNat) (es.take pz.toNat ++ [d] ++ es.drop pz.toNat)).Perm ((w, k, d) :: lev k ws es) := by
              have ht : (ws.take pz.toNat).length = (es.take pz.toNat).length := by simp [hwl]
              rw [lev_append _ _ (by simp [hwl]), lev_append _ _ ht]
              show (lev k (ws.take pz.toNat) (es.take pz.toNat) ++ [(w, k, d)] ++ lev k (ws.drop pz.toNat) (es.drop pz.toNat)).Perm _
              have e0 : lev k ws es = lev k (ws.take pz.toNat) (es.take pz.toNat) ++ lev k (ws.drop pz.toNat) (es.drop pz.toNat) := by
                rw [← lev_append _ _ ht, List.take_append_drop, List.take_append_drop]
              rw [e0, List.append_assoc]
              exact List.perm_middle
            have ok12 := (ok11.perm (pm.symm.append_right _)).newLst (p := a) (by simp [hwl]) del_self
            rw [upd_del] at ok12
            have ok13 := ok12.perm ((l2 (.ref a) (.lst (es.take pz.toNat ++ [d] ++ es.drop pz.toNat))).symm.append_right tm)
            have evs : vs.set jj (.ref a) = vs := set_self hvj
            rw [evs] at ok13
            obtain ⟨_, ok14⟩ := ok13.unlend hBq (by simp [hvl])
            have hjl : j < (env.set i none).length := by
              rw [List.length_set]; exact (List.getElem?_eq_some_iff.mp hej).1
            have ok15 := ok14.store (i := j) hjl
            rw [set_self hsj] at ok15
            exact hr B _ _ _ tm D ok15 p3
        · exact p3.elim
      · exact p3.elim
    · exact pp.elim
  · exact pp.elim
def mAlias (j i k : Nat) (mi : Env → Res D) (m : Nat → List D → Env → Res Ctl) : Env → Res Ctl := fun env => nx (mi env) >>= fun y => nx (atL env j (k + 2)) >>= fun ds => match y with
  | .int n => (match ixN ds.length n with
    | some jj => (match ds[jj]? with
      | some (.lst es) => if i < env.length ∧ i ≠ j then m jj ds ((env.set j none).set i (some (k + 1, .lst es))) else .bad
      | _ => .bad)
    | none => .bad)
  | _ => .bad
theorem ss_aliasK (hN : X.N.Nodup) (hi0 : X.N[i]? = some x) (hxl : Loc X.env.scope x) (hx : PE X o (tVar j)) (hi : SB X ix mi) (hix : PlainIx ix) (hz : Z.all (fun z => z != i) = true) (hr : SIN X κ kr Z W j i k ss m2)
    (hs : swapsWith (.Subscript o ix pos2) (some (.Name x pos')) spos.line X.env = pure false := by rfl) (hf : X.fn x = true ∨ X.env.scope.names.lookup x = some .local := by first | exact .inl rfl | exact .inr rfl | assumption) :
    SSK X κ kr Z W (.Assign [.Name x pos'] (.Subscript o ix pos2) spos :: ss) (mAlias j i k mi m2) := fun B H env σ tm D ok pp => by
  obtain ⟨y, hy, h2⟩ := post_bind pp
  obtain ⟨ds, hds, h3⟩ := post_bind h2
  have he1 := atL_ok hds
  split at h3
  · rename_i n
    split at h3
    · rename_i jj hjj
      split at h3
      · rename_i es hes
        split at h3
        · rename_i hil
          obtain ⟨hil, hij⟩ := hil
          refine wB_of (pss_cons (ps_set hN hi0 hxl (pe_ix ix_seq hx pe_sem hix) hs hf) pss_sem) ?_
          obtain ⟨v, hv', rv⟩ := ok.slot he1
          refine ⟨v, hv', hi B H env σ _ _ _ ok hy fun u H2 x2 ok2 r2 => ?_⟩
          cases r2
          obtain ⟨q, hq, ok3⟩ := ok2.slotMu he1 rfl
          rw [hv'] at hq
          cases hq
          obtain ⟨vs, hL, hvl, hBq, ok4⟩ := ok3.lend
          have hjl := ixN_lt hjj
          have hjv : jj < vs.length := by omega
          refine .inl ⟨q, vs, n, vs[jj], rfl, rfl, .inl (.inl hL), ?_, ?_⟩
          · unfold atI
            rw [hvl, hjj]
            exact List.getElem?_eq_getElem hjv
          obtain ⟨l, l1, l2⟩ := lev_one (k := k + 1) hvl (List.getElem?_eq_getElem hjv) hes
          have ok5 : EnvOk (B.lent q (.lst vs)) H2 (env.set j none) σ ((vs[jj], k + 1, .lst es) :: (l ++ tm)) := ok4.perm (l1.append_right _)
          obtain ⟨a, ha⟩ := ok5.isRef rfl
          rw [ha] at ok5 ⊢
          have ok6 := ok5.store (i := i) (by simpa using hil)
          have hsi : (σ.set i (some (.ref a)))[i]? = some (some (.ref a)) := by
            have := ok2.len
            exact List.getElem?_set_self (by omega)
          have hsj : (σ.set i (some (.ref a)))[j]? = some (some (.ref q)) := by
            rw [List.getElem?_set_ne hij]; exact hv'
          have hej : ((env.set j none).set i (some (k + 1, Mir.D.lst es)))[j]? = some none := by
            rw [List.getElem?_set_ne hij]
            exact List.getElem?_set_self (List.getElem?_eq_some_iff.mp he1).1
          exact hr B H2 _ _ tm D q a vs ds jj l hBq hvl (by rw [List.getElem?_eq_getElem hjv, ha]) l2 ok6 hij hej hsj hsi (PostK.from (Kp.refl.set hz) h3)
        · exact h3.elim
      · exact h3.elim
    · exact h3.elim
  · exact h3.elim
theorem ss_of (h : SSK X κ kr [] W ss m1) : SS X kr ss m1 := fun B H env σ tm D r ok hm p => by
  refine h B H env σ tm D ok ?_
  rw [hm]
  cases r with
  | nx e => exact fun σ' H' ok' _ => p σ' H' ok'
  | bk e => exact fun σ' H' ok' _ => p σ' H' ok'
  | ct e => exact fun σ' H' ok' _ => p σ' H' ok'
  | rt d => exact p
end
end Mir

namespace Mir
open PySem PySem.Spec L2
open PyProof.Rows (envOfC)
/-! ### a def that changes its first argument -/
def wo (H : Hp) (f : List Addr) : Hp := fun a => if a ∈ f then none else H a
theorem wo_in {H : Hp} {f : List Addr} {a : Addr} (h : a ∈ f) : wo H f a = none := if_pos h
theorem wo_out {H : Hp} {f : List Addr} {a : Addr} (h : a ∉ f) : wo H f a = H a := if_neg h
theorem wo_some {H : Hp} {f : List Addr} {a : Addr} {o : HO} (h : wo H f a = some o) : a ∉ f ∧ H a = some o := by
  by_cases q : a ∈ f
  · rw [wo_in q] at h; cases h
  · rw [wo_out q] at h; exact ⟨q, h⟩
theorem view_wo {H : Hp} {f : List Addr} {a : Addr} {u : HO} : view (wo H f) a = some u ↔ a ∉ f ∧ view H a = some u := by
  unfold view
  by_cases q : a ∈ f
  · rw [wo_in q]; simp [q]
  · rw [wo_out q]; simp [q]
def spM (k0 n : Nat) (F : List D → Res D) : Sp := fun vs H Q _ => vs.length = n ∧ ∃ (G : Hp) (v0 : V) (vs' : List V) (d0 : D) (ds' : List D) (f : List Addr) (d1 : D), vs = v0 :: vs' ∧ Good ⟨wo H f, G⟩ G H ∧ Od G H k0 f v0 d0 ∧ f.Nodup ∧ (∀ p ∈ f, G p = none) ∧ RpAll G vs' ds' ∧ F (d0 :: ds') = .ok d1 ∧
  ∀ H', RetOk k0 G (wo H f) H' v0 d1 → Q .non H'
def runM (k0 n : Nat) (m : Env → Res Ctl) : List D → Res D
  | [] => .bad
  | d0 :: ds => m (some (k0, d0) :: (ds.map (fun d => some (0, d)) ++ List.replicate (n - (ds.length + 1)) none)) >>= fun c => match c with
    | .nx e => (match e[0]? with | some (some (k', d')) => if k' = k0 then .ok d' else .bad | _ => .bad)
    | _ => .bad
section
variable {P : Program} {w : World} {K : PySem.W.Frag} {mg : Str → Option Value} {base : Heap}
theorem def_okM {κ : Str → Addr} {x qual : Str} {st : Stmt} {f : Addr} {fd : FuncData} {N ps : List Str} {k k0 : Nat} {m : Env → Res Ctl} {n : Nat} {FF : List D → Res D} (F : Fun K x qual st f fd) (S : FnScope N ps (defScope st)) (hn : ps.length = n) (hFF : FF = runM k0 N.length m)
    (hb : ∀ (cdv : Value) (A : Around) (outer : List PySem.Env) (s : Shared) (H : Hp) (E : XK), Room k (A.deeper (envOfC qual (defScope st) s.heap.objs.size f cdv)) → SSK (cxOf CX0 P w K mg base N qual (defScope st) f cdv A outer s H E).nox κ 0 [0] (fun _ _ _ _ => False) (defBody st) m) :
    FnOk P w K mg base CX0 (k + 1) f fd ps (spM k0 n FF) := by
  subst hn hFF
  refine F.ok S (fun vs H Q E h => h.1) (fun cdv A outer s H vs Q E hr h => ?_)
  obtain ⟨hl, G, v0, vs', d0, ds', fp, d1, rfl, hg, od, nd, hfg, ra, hF, q⟩ := h
  have hlen := ra.length
  refine ⟨_, pss_sem, ?_⟩
  have ok : EnvOk ⟨wo H fp, G⟩ H (some (k0, d0) :: (ds'.map (fun d => some (0, d)) ++ List.replicate (N.length - (ds'.length + 1)) none)) (L2.start N (v0 :: vs')) [] := by
    unfold L2.start
    have e1 : N.length - (v0 :: vs').length = N.length - (ds'.length + 1) := by rw [List.length_cons, hlen]
    rw [e1]
    refine ⟨⟨G, fp, hg, ?_, nd, fun p hp => ⟨wo_in hp, hfg p hp⟩⟩, by simp [hlen], fun i kd e => ?_⟩
    · rw [List.append_nil]
      have e2 : slots (some (k0, d0) :: (ds'.map (fun d => some (0, d)) ++ List.replicate (N.length - (ds'.length + 1)) none)) ((v0 :: vs').map some ++ List.replicate (N.length - (ds'.length + 1)) none) = (v0, k0, d0) :: lev 0 vs' ds' := congrArg (List.cons (v0, k0, d0)) (slots_start vs' ds' _ hlen)
      rw [e2]
      have := HoldAll.cons od (hold_lev ra) (H := H)
      rw [List.append_nil] at this
      exact this
    · match i, e with
      | 0, _ => exact ⟨v0, rfl⟩
      | i + 1, e =>
        have e' : (ds'.map (fun d => some (0, d)) ++ List.replicate (N.length - (ds'.length + 1)) none)[i]? = some (some kd) := by simpa using e
        show ∃ v, ((vs'.map some ++ List.replicate (N.length - (ds'.length + 1)) none))[i]? = some (some v)
        by_cases hi : i < ds'.length
        · have hv : i < (vs'.map some).length := by rw [List.length_map]; omega
          rw [List.getElem?_append_left hv, List.getElem?_map, List.getElem?_eq_getElem (by omega)]
          exact ⟨_, rfl⟩
        · rw [List.getElem?_append_right (by simpa using hi), List.getElem?_replicate] at e'
          split at e' <;> cases e'
  refine hb cdv A outer s H E hr ⟨wo H fp, G⟩ H _ _ [] _ ok ?_
  unfold runM at hF
  obtain ⟨c, hc, hd⟩ := bind_ok hF
  rw [hc]
  cases c with
  | nx e =>
    intro σ' H' ok' kk
    dsimp only at hd
    split at hd
    · rename_i k' d' he0
      split at hd
      · rename_i ek
        subst ek
        cases hd
        have hs0 : σ'[0]? = some (some v0) := (kk 0 List.mem_cons_self).trans rfl
        have ok2 := (ok'.move he0 hs0).noSlots
        refine q H' ?_
        obtain ⟨⟨G', f2, g, hh, nd2, hp⟩, _⟩ := ok2
        have hh' : HoldAll G' H' [(v0, k', d1)] f2 := hh
        cases hh' with
        | @cons _ _ _ _ f1 g1 h1 h2 =>
          cases h2
          rw [List.append_nil] at nd2 hp
          exact ⟨G', f1, g, h1, nd2, hp⟩
      · cases hd
    · cases hd
  | bk e => cases hd
  | ct e => cases hd
  | rt d => cases hd
end
structure CalM (P : Program) (w : World) (K : PySem.W.Frag) (mg : Str → Option Value) (base : Heap) (x : Str) (j n k0 : Nat) (F : List D → Res D) : Prop where
  ex : ∃ f fd ps, mg x = some (.ref f) ∧ PySem.W.keepIn K (.ref f) = true ∧ Binds K fd ps [] ∧ FnOk P w K mg base CX0 j f fd ps (spM k0 n F)
section
variable {X : Cx} {e o : Expr} {es : List Expr} {ms : Env → Res (List D)} {F : List D → Res D} {x : Str} {p pos cpos : Pos} {n k0 kr jl : Nat}
def mCallM (j k0 : Nat) (F : List D → Res D) (ms : Env → Res (List D)) : Env → Res Ctl := fun env => ms env >>= fun ds => match env[j]? with
  | some (some (k, d0)) => if k = k0 ∧ immAll ds = true then F (d0 :: ds) >>= fun d1 => if immAt k0 d1 = true then .ok (.nx (env.set j (some (k0, d1)))) else .bad else .bad
  | _ => .bad
theorem s_callM {j : Nat} (C : CalM X.prog X.w X.K X.mg X.base x jl n k0 F) (hr : Room jl X.A) (hg : Gl X x) (hx : PE X o (tVar j)) (ha : SAB X es ms) (hl : ∀ env ds, ms env = .ok ds → ds.length + 1 = n)
    (hdb : (x == ("__debug__" : Str)) = false := by decide) (he : starEach (o :: es) X.env = (false, eval o X.env) :: starEach es X.env := by rfl) (hpl : (backTo cpos (starEach es X.env)).any (·.1) = false := by rfl)
    (hs : swapsWith (.Call (.Name x p) (o :: es) [] cpos) none pos.line X.env = pure false := by rfl) :
    S1 X kr (.Expr (.Call (.Name x p) (o :: es) [] cpos) pos) (mCallM j k0 F ms) := fun B H env σ tm D r ok hm pp => by
  obtain ⟨f, fd, ps, hmg, hk, hb, Fo⟩ := C.ex
  obtain ⟨ds, hds, h2⟩ := bind_ok hm
  split at h2
  · rename_i k d0 hej
    split at h2
    · rename_i hh
      obtain ⟨rfl, hi⟩ := hh
      obtain ⟨d1, hF, h3⟩ := bind_ok h2
      split at h3
      · rename_i hi1
        cases h3
        refine wS_of (ps_expr (pe_call Fo hr hg hmg hk hb .nil pass0 (pa_cons hx pa_sem he) hdb he hpl) hs) ?_
        obtain ⟨v0, hv0⟩ := ok.has j _ hej
        refine ⟨v0, hv0, ha B H env σ tm ds _ ok hds fun vs H1 x1 ok1 ra => ?_⟩
        show spM k n F ((v0 :: vs) ++ []) H1 _ _
        rw [List.append_nil]
        have okm := ok1.move hej hv0
        have hlen := okm.len
        have hhas := okm.has
        obtain ⟨G, fq, g, hg0, hf, hrst, nd, hq⟩ := EnvOk.apart (l := [(v0, k, d0)]) okm
        cases hf with
        | @cons _ _ _ _ f1 g1 h1 hn =>
          cases hn
          rw [List.append_nil] at nd hq
          have hmu := h1.mu
          have hmf : ∀ p ∈ f1, ∀ u, isIm u = true → view H1 p ≠ some u := fun p hp u im e => by
            obtain ⟨o, e1, mu⟩ := hmu p hp
            unfold view at e
            rw [e1] at e
            have e2 : unf o = u := Option.some.inj e
            rw [mu.unf] at e2
            subst e2
            exact im_mu im mu
          have hGv : ∀ a u, G a = some u → view (wo H1 f1) a = some u := fun a u e => view_wo.mpr ⟨fun hm => (by rw [(hq a (List.mem_append_left _ hm)).2] at e; cases e), hg0.gs a u e⟩
          have gt0 : ∀ a u, isIm u = true → view H1 a = some u → view (wo H1 f1) a = some u := fun a u im e => view_wo.mpr ⟨fun hm => hmf a hm u im e, e⟩
          refine ⟨by rw [List.length_cons, ra.length]; exact hl _ _ hds, view (wo H1 f1), v0, vs, d0, ds, f1, d1, rfl, ⟨fun a o e => (wo_some e).2, fun _ _ => rfl, fun a u e => (view_wo.mp e).2, gt0, fun a u im e => ok1.imAt im e⟩, h1.frame hGv fun _ _ e _ => e, (List.nodup_append.mp nd).1, fun p hp => ?_, ra.immTo gt0 hi, hF, fun H' rr => ?_⟩
          · show view (wo H1 f1) p = none
            exact view_none (wo_in hp)
          · have okr : EnvOk B (wo H1 f1) (env.set j none) σ tm := by
              refine ⟨⟨G, g, ⟨fun a o e => ?_, hg0.g0, hGv, fun a u im e => hg0.gt a u im (view_wo.mp e).2, fun a u im e => ?_⟩, hrst.frame (fun _ _ e => e) fun a u e q => ?_, (List.nodup_append.mp nd).2.1, fun p hp => hq p (List.mem_append_right _ hp)⟩, hlen, hhas⟩
              · have : a ∉ f1 := fun hm => by rw [(hq a (List.mem_append_left _ hm)).1] at e; cases e
                rw [wo_out this]; exact hg0.bs a o e
              · obtain ⟨h5, h6⟩ := view_wo.mp e
                rw [wo_out h5]; exact hg0.nf a u im h6
              · have : a ∉ f1 := fun hm => by
                  rcases q with q | ⟨xs, rfl⟩
                  · exact (List.nodup_append.mp nd).2.2 a hm a q rfl
                  · exact hmf a hm (.tup xs) rfl (by unfold view; rw [e]; rfl)
                rw [wo_out this]; exact e
            obtain ⟨x2, ok2⟩ := okr.retB rr hi1
            have hjl : j < (env.set j none).length := by rw [List.length_set]; exact (List.getElem?_eq_some_iff.mp hej).1
            have ok3 := ok2.store (i := j) hjl
            rw [List.set_set, set_self hv0] at ok3
            exact pp σ H' ok3
      · cases h3
    · cases h2
  · cases h2
end
end Mir
namespace Mir
theorem lenM {ms : Env → Res (List D)} {n : Nat} (h : ∀ env ds, ms env = .ok ds → ds.length = n) : ∀ env ds, ms env = .ok ds → ds.length + 1 = n + 1 := fun env ds e => by rw [h env ds e]
end Mir
namespace L_k17
open PySem PySem.Spec L2 Mir
/-- _law_script:0, _law_k:1 -/
def m__law_cell : Mir.Env → Res Ctl :=
  (mSeq (mIf (mTb (mOp gLt (mVar 1) (mUn gLen (mVar 0)))) (mRet (mImm (mOp gIx (mVar 0) (mVar 1)))) mSkip) (mRet (mC (.int 0))))
def F__law_cell : List D → Res D := runD 2 m__law_cell
/-- _law_cells:0, _law_strings:1, _law_rows:2, _law_names:3, _law_cell_here:4, _law_name:5, _law_rest:6, _law_hand:7, _law_way:8, _law_row:9, _law_at:10, _law_k:11 -/
def m__law_made : Mir.Env → Res Ctl :=
  (mSeq (mSet 2 2 [] (mLc (fun env => (mVar 1) env >>= gRng1) (tName 11) (fun _ => .ok true) (mLst mNilA) [11])) (mSeq (mSet 3 1 [] (mLst mNilA)) (mSeq (mFor (fun env => (mVarK 0 0) env >>= itemsL) (tName 4) (mSeq (mSet 5 0 [] (mOp gMod (mVar 4) (mC (.int 999)))) (mSeq (fun env => wloop (mTb (mOp gIn (mVar 5) (mVar 3))) (mSet 5 0 [] (mOp gMod (mOp gAdd (mVar 5) (mC (.int 1))) (mC (.int 999)))) [] 4096 env) (mSeq (mSet 6 0 [] (mOp gFdv (mVar 4) (mC (.int 1998)))) (mSeq (mIf (mTb (mOp gEq (mOp gMod (mVar 4) (mC (.int 2))) (mC (.int 1)))) (mSet 6 0 [] (mOp gMod (mOp gMul (mOp gMod (mOp gMul (mOp gAdd (mVar 4) (mOp gMul (mC (.int 7919)) (mUn gLen (mVar 3)))) (mC (.int 48271))) (mC (.int 2147483647))) (mC (.int 69621))) (mC (.int 2147483629)))) mSkip) (mSeq (mAppend 3 0 [] (mImm (mVar 5))) (mSeq (mSet 7 0 [] (mOp gSub (mC (.int 1)) (mOp gMul (mC (.int 2)) (mOp gMod (mVar 6) (mC (.int 2)))))) (mSeq (mSet 6 0 [] (mOp gFdv (mVar 6) (mC (.int 2)))) (mFor (fun env => (mC (.int 2)) env >>= gRng1) (tName 8) (mAlias 2 9 0 (mOp gMod (mVar 6) (mVar 1)) (mMid 2 (mSet 6 0 [] (mN (mOp gFdv (mVar 6) (mVar 1)))) (mMid 2 (mSet 10 0 [] (mN (mOp gMod (mVar 6) (mOp gAdd (mUn gLen (mVar 9)) (mC (.int 1)))))) (mMid 2 (mSet 6 0 [] (mN (mOp gFdv (mVar 6) (mOp gAdd (mUn gLen (mVar 9)) (mC (.int 1)))))) (mIns 2 9 0 (mVar 10) (mImm (mTup (mConsE (mOp gAdd (mVar 5) (mC (.int 1))) [] (mConsE (mImm (mVar 8)) [] (mConsE (mImm (mVar 7)) [] mNilA))))) (mN mSkip)))))) [8, 9, 10])))))))) [4, 5, 6, 7, 8, 9, 10]) (mRet (mVarK 2 2)))))
def F__law_made : List D → Res D := runD 12 m__law_made
/-- drawing:0, behind:1, row:2, at:3, passing:4, follower:5 -/
def m_next_of : Mir.Env → Res Ctl :=
  (mSeq (mSet 1 1 [] (mC (.dt [] []))) (mSeq (mFor (fun env => (mVarK 0 0) env >>= itemsL) (tName 2) (mFor (fun env => (mVarK 2 0) env >>= itemsL >>= fun ds => .ok (enumD 0 ds)) (tTupT 2 (tCons (tName 3) (tCons (tName 4) tNil))) (mSeq (mSet 5 0 [] (mImm (mOp gIx (mVar 2) (mOp gMod (mOp gAdd (mVar 3) (mC (.int 1))) (mUn gLen (mVar 2)))))) (mDput 1 [] (mImm (mTup (mConsE (mImm (mOp gIx (mVar 5) (mC (.int 0)))) [] (mConsE (mImm (mOp gIx (mVar 5) (mC (.int 1)))) [] mNilA)))) (mImm (mTup (mConsE (mImm (mOp gIx (mVar 4) (mC (.int 0)))) [] (mConsE (mImm (mOp gIx (mVar 4) (mC (.int 1)))) [] mNilA)))))) [3, 4, 5]) [2, 3, 4, 5]) (mRet (mVarK 1 1))))
def F_next_of : List D → Res D := runD 6 m_next_of
/-- drawing:0, found:1, spot:2, after:3 -/
def m_arrivals : Mir.Env → Res Ctl :=
  (mSeq (mSet 1 1 [] (mC (.dt [] []))) (mSeq (mFor (fun env => (mCall 1 F_next_of (mConsA (mVar 0) mNilA)) env >>= dItemsT) (tTupT 2 (tCons (tName 2) (tCons (tName 3) tNil))) (mDput 1 [] (mImm (mVar 2)) (mVar 3)) [2, 3]) (mRet (mVarK 1 1))))
def F_arrivals : List D → Res D := runD 4 m_arrivals
/-- drawing:0, hands:1, row:2, passing:3 -/
def m_hands_of : Mir.Env → Res Ctl :=
  (mSeq (mSet 1 1 [] (mC (.dk [] []))) (mSeq (mFor (fun env => (mVarK 0 0) env >>= itemsL) (tName 2) (mFor (fun env => (mVarK 2 0) env >>= itemsL) (tName 3) (mDput 1 [] (mImm (mOp gIx (mVar 3) (mC (.int 2)))) (mOp gIx (mVar 3) (mC (.int 0)))) [3]) [2, 3]) (mRet (mVarK 1 1))))
def F_hands_of : List D → Res D := runD 4 m_hands_of
/-- drawing:0 -/
def m_names_of : Mir.Env → Res Ctl :=
  (mRet (fun env => (mCall 1 F_hands_of (mConsA (mVar 0) mNilA)) env >>= gSortD))
def F_names_of : List D → Res D := runD 1 m_names_of
/-- things:0, pairs:1, home:2, thing:3, one:4, other:5, first:6, second:7, groups:8, group:9 -/
def m_grouped : Mir.Env → Res Ctl :=
  (mSeq (mSet 2 1 [] (mC (.dt [] []))) (mSeq (mFor (fun env => (mVarK 0 0) env >>= itemsL) (tName 3) (mDput 2 [] (mImm (mVar 3)) (mVar 3)) [3]) (mSeq (mFor (fun env => (mVarK 1 0) env >>= itemsL) (tTupT 2 (tCons (tName 4) (tCons (tName 5) tNil))) (mSeq (mSet 6 0 [] (mImm (mOp gDGet (mVar 2) (mVar 4)))) (mSeq (mSet 7 0 [] (mImm (mOp gDGet (mVar 2) (mVar 5)))) (mIf (mTb (mOp gNe (mVar 6) (mVar 7))) (mFor (fun env => (mVarK 0 0) env >>= itemsL) (tName 3) (mIf (mTb (mOp gEq (mOp gDGet (mVar 2) (mVar 3)) (mVar 7))) (mDput 2 [] (mImm (mVar 6)) (mVar 3)) mSkip) [3]) mSkip))) [3, 4, 5, 6, 7]) (mSeq (mSet 8 2 [] (mC (.dt [] []))) (mSeq (mFor (fun env => (mVarK 0 0) env >>= itemsL) (tName 3) (mSetdAppT 8 (mOp gDGet (mVar 2) (mVar 3)) (mImm (mVar 3))) [3]) (mFz 8 (mRet (fun env => (mLc (fun env => mVarK 8 0 env >>= dValsT) (tName 9) (fun _ => .ok true) (fun env => (mVar 9) env >>= itemsL >>= immL >>= fun ds => gSort (.lst ds)) [9]) env >>= gSort))))))))
def F_grouped : List D → Res D := runD 10 m_grouped
/-- drawing:0, found:1, at:2, row:3, passing:4 -/
def m_spots_by_strings : Mir.Env → Res Ctl :=
  (mSeq (mSet 1 1 [] (mC (.dt [] []))) (mSeq (mFor (fun env => (mVarK 0 0) env >>= itemsL >>= fun ds => .ok (enumD 0 ds)) (tTupT 2 (tCons (tName 2) (tCons (tName 3) tNil))) (mSeq (mIf (mNotB (fun env => (mVar 3) env >>= gTru)) (mDput 1 [] (mImm (mVar 2)) (mImm (mTup (mConsE (mImm (mVar 2)) [] (mConsE (mC (.int 2)) [] mNilA))))) mSkip) (mFor (fun env => (mVarK 3 0) env >>= itemsL) (tName 4) (mDput 1 [] (mImm (mVar 2)) (mImm (mTup (mConsE (mImm (mOp gIx (mVar 4) (mC (.int 0)))) [] (mConsE (mImm (mOp gIx (mVar 4) (mC (.int 1)))) [] mNilA))))) [4])) [2, 3, 4]) (mRet (mVarK 1 1))))
def F_spots_by_strings : List D → Res D := runD 5 m_spots_by_strings
/-- drawing:0 -/
def m_spots_of : Mir.Env → Res Ctl :=
  (mRet (fun env => (mCall 1 F_spots_by_strings (mConsA (mVar 0) mNilA)) env >>= dKeys >>= fun ks => gSort (.lst ks)))
def F_spots_of : List D → Res D := runD 1 m_spots_of
/-- drawing:0, found:1, spot:2 -/
def m_sides_of : Mir.Env → Res Ctl :=
  (mSeq (mSet 1 1 [] (mLst mNilA)) (mSeq (mFor (fun env => (mCall 1 F_spots_of (mConsA (mVar 0) mNilA)) env >>= itemsL) (tName 2) (mSeq (mAppend 1 0 [] (mImm (mTup (mConsE (mImm (mOp gIx (mVar 2) (mC (.int 0)))) [] (mConsE (mImm (mOp gIx (mVar 2) (mC (.int 1)))) [] (mConsE (mC (.int 0)) [] mNilA)))))) (mAppend 1 0 [] (mImm (mTup (mConsE (mImm (mOp gIx (mVar 2) (mC (.int 0)))) [] (mConsE (mImm (mOp gIx (mVar 2) (mC (.int 1)))) [] (mConsE (mC (.int 1)) [] mNilA))))))) [2]) (mRet (fun env => (mVar 1) env >>= itemsL >>= immL >>= fun ds => gSort (.lst ds)))))
def F_sides_of : List D → Res D := runD 3 m_sides_of
/-- name:0, hand:1, comes:2, over:3, under:4 -/
def m_corners_at : Mir.Env → Res Ctl :=
  (mSeq (mSet 3 0 [] (mImm (mOp gDGet (mVar 2) (mImm (mTup (mConsE (mImm (mVar 0)) [] (mConsE (mC (.int 0)) [] mNilA))))))) (mSeq (mSet 4 0 [] (mImm (mOp gDGet (mVar 2) (mImm (mTup (mConsE (mImm (mVar 0)) [] (mConsE (mC (.int 1)) [] mNilA))))))) (mSeq (mIf (mTb (mOp gEq (mVar 1) (mC (.int 1)))) (mRet (mLst (mConsE (mImm (mTup (mConsE (mImm (mTup (mConsE (mImm (mOp gIx (mVar 3) (mC (.int 0)))) [] (mConsE (mImm (mOp gIx (mVar 3) (mC (.int 1)))) [] (mConsE (mC (.int 1)) [] mNilA))))) [] (mConsE (mImm (mTup (mConsE (mImm (mOp gIx (mVar 4) (mC (.int 0)))) [] (mConsE (mImm (mOp gIx (mVar 4) (mC (.int 1)))) [] (mConsE (mC (.int 0)) [] mNilA))))) [] mNilA)))) [] (mConsE (mImm (mTup (mConsE (mImm (mTup (mConsE (mImm (mOp gIx (mVar 4) (mC (.int 0)))) [] (mConsE (mImm (mOp gIx (mVar 4) (mC (.int 1)))) [] (mConsE (mC (.int 1)) [] mNilA))))) [] (mConsE (mImm (mTup (mConsE (mImm (mVar 0)) [] (mConsE (mC (.int 0)) [] (mConsE (mC (.int 1)) [] mNilA))))) [] mNilA)))) [] (mConsE (mImm (mTup (mConsE (mImm (mTup (mConsE (mImm (mVar 0)) [] (mConsE (mC (.int 0)) [] (mConsE (mC (.int 0)) [] mNilA))))) [] (mConsE (mImm (mTup (mConsE (mImm (mVar 0)) [] (mConsE (mC (.int 1)) [] (mConsE (mC (.int 1)) [] mNilA))))) [] mNilA)))) [] (mConsE (mImm (mTup (mConsE (mImm (mTup (mConsE (mImm (mVar 0)) [] (mConsE (mC (.int 1)) [] (mConsE (mC (.int 0)) [] mNilA))))) [] (mConsE (mImm (mTup (mConsE (mImm (mOp gIx (mVar 3) (mC (.int 0)))) [] (mConsE (mImm (mOp gIx (mVar 3) (mC (.int 1)))) [] (mConsE (mC (.int 0)) [] mNilA))))) [] mNilA)))) [] mNilA)))))) mSkip) (mRet (mLst (mConsE (mImm (mTup (mConsE (mImm (mTup (mConsE (mImm (mOp gIx (mVar 4) (mC (.int 0)))) [] (mConsE (mImm (mOp gIx (mVar 4) (mC (.int 1)))) [] (mConsE (mC (.int 1)) [] mNilA))))) [] (mConsE (mImm (mTup (mConsE (mImm (mOp gIx (mVar 3) (mC (.int 0)))) [] (mConsE (mImm (mOp gIx (mVar 3) (mC (.int 1)))) [] (mConsE (mC (.int 0)) [] mNilA))))) [] mNilA)))) [] (mConsE (mImm (mTup (mConsE (mImm (mTup (mConsE (mImm (mOp gIx (mVar 3) (mC (.int 0)))) [] (mConsE (mImm (mOp gIx (mVar 3) (mC (.int 1)))) [] (mConsE (mC (.int 1)) [] mNilA))))) [] (mConsE (mImm (mTup (mConsE (mImm (mVar 0)) [] (mConsE (mC (.int 1)) [] (mConsE (mC (.int 1)) [] mNilA))))) [] mNilA)))) [] (mConsE (mImm (mTup (mConsE (mImm (mTup (mConsE (mImm (mVar 0)) [] (mConsE (mC (.int 1)) [] (mConsE (mC (.int 0)) [] mNilA))))) [] (mConsE (mImm (mTup (mConsE (mImm (mVar 0)) [] (mConsE (mC (.int 0)) [] (mConsE (mC (.int 1)) [] mNilA))))) [] mNilA)))) [] (mConsE (mImm (mTup (mConsE (mImm (mTup (mConsE (mImm (mVar 0)) [] (mConsE (mC (.int 0)) [] (mConsE (mC (.int 0)) [] mNilA))))) [] (mConsE (mImm (mTup (mConsE (mImm (mOp gIx (mVar 4) (mC (.int 0)))) [] (mConsE (mImm (mOp gIx (mVar 4) (mC (.int 1)))) [] (mConsE (mC (.int 0)) [] mNilA))))) [] mNilA)))) [] mNilA)))))))))
def F_corners_at : List D → Res D := runD 5 m_corners_at
/-- drawing:0, name:1, hands:2 -/
def m_hand_of : Mir.Env → Res Ctl :=
  (mSeq (mSet 2 1 [] (mCall 1 F_hands_of (mConsA (mVar 0) mNilA))) (mSeq (mIf (mTb (mOp gDNotIn (mVar 1) (mVar 2))) mNo mSkip) (mRet (mImm (mOp gDGet (mVar 2) (mVar 1))))))
def F_hand_of : List D → Res D := runD 3 m_hand_of
/-- drawing:0, comes:1, pairs:2, name:3 -/
def m_regions : Mir.Env → Res Ctl :=
  (mSeq (mSet 1 1 [] (mCall 1 F_arrivals (mConsA (mVar 0) mNilA))) (mSeq (mSet 2 1 [] (mLst mNilA)) (mSeq (mFor (fun env => (mCall 1 F_names_of (mConsA (mVar 0) mNilA)) env >>= itemsL) (tName 3) (mExtend 2 0 (fun env => (mCall 1 F_corners_at (mConsA (mVar 3) (mConsA (mCall 0 F_hand_of (mConsA (mVar 0) (mConsA (mVar 3) mNilA))) (mConsA (mVar 1) mNilA)))) env >>= fun d => itemsL d >>= immL)) [3]) (mRet (mCall 2 F_grouped (mConsA (mCall 1 F_sides_of (mConsA (mVar 0) mNilA)) (mConsA (mVar 2) mNilA)))))))
def F_regions : List D → Res D := runD 4 m_regions
/-- things:0, pairs:1, home:2, thing:3, one:4, other:5, first:6, second:7, groups:8, group:9 -/
def m_grouped__2 : Mir.Env → Res Ctl :=
  (mSeq (mSet 2 1 [] (mC (.dk [] []))) (mSeq (mFor (fun env => (mVarK 0 0) env >>= itemsL) (tName 3) (mDput 2 [] (mImm (mVar 3)) (mVar 3)) [3]) (mSeq (mFor (fun env => (mVarK 1 0) env >>= itemsL) (tTupT 2 (tCons (tName 4) (tCons (tName 5) tNil))) (mSeq (mSet 6 0 [] (mImm (mOp gDGet (mVar 2) (mVar 4)))) (mSeq (mSet 7 0 [] (mImm (mOp gDGet (mVar 2) (mVar 5)))) (mIf (mTb (mOp gNe (mVar 6) (mVar 7))) (mFor (fun env => (mVarK 0 0) env >>= itemsL) (tName 3) (mIf (mTb (mOp gEq (mOp gDGet (mVar 2) (mVar 3)) (mVar 7))) (mDput 2 [] (mImm (mVar 6)) (mVar 3)) mSkip) [3]) mSkip))) [3, 4, 5, 6, 7]) (mSeq (mSet 8 2 [] (mC (.dk [] []))) (mSeq (mFor (fun env => (mVarK 0 0) env >>= itemsL) (tName 3) (mSetdApp 8 (mOp gDGet (mVar 2) (mVar 3)) (mImm (mVar 3))) [3]) (mFz 8 (mRet (fun env => (mLc (fun env => mVarK 8 0 env >>= dVals) (tName 9) (fun _ => .ok true) (fun env => (mVar 9) env >>= itemsL >>= immL >>= fun ds => gSort (.lst ds)) [9]) env >>= gSort))))))))
def F_grouped__2 : List D → Res D := runD 10 m_grouped__2
/-- drawing:0, spot:1, found:2 -/
def m_string_of : Mir.Env → Res Ctl :=
  (mSeq (mSet 2 1 [] (mCall 1 F_spots_by_strings (mConsA (mVar 0) mNilA))) (mSeq (mIf (mTb (mOp gDNotIn (mVar 1) (mVar 2))) mNo mSkip) (mRet (mImm (mOp gDGet (mVar 2) (mVar 1))))))
def F_string_of : List D → Res D := runD 3 m_string_of
/-- drawing:0, pairs:1, name:2 -/
def m_pieces : Mir.Env → Res Ctl :=
  (mSeq (mSet 1 1 [] (mLst mNilA)) (mSeq (mFor (fun env => (mCall 1 F_names_of (mConsA (mVar 0) mNilA)) env >>= itemsL) (tName 2) (mAppend 1 0 [] (mImm (mTup (mConsE (mCall 0 F_string_of (mConsA (mVar 0) (mConsA (mImm (mTup (mConsE (mImm (mVar 2)) [] (mConsE (mC (.int 0)) [] mNilA)))) mNilA))) [] (mConsE (mCall 0 F_string_of (mConsA (mVar 0) (mConsA (mImm (mTup (mConsE (mImm (mVar 2)) [] (mConsE (mC (.int 1)) [] mNilA)))) mNilA))) [] mNilA))))) [2]) (mRet (mCall 2 F_grouped__2 (mConsA (fun env => (mUn gLen (mVar 0)) env >>= gRng1 >>= fun ds => if ds.length ≤ 1000000 then .ok (.lst ds) else .bad) (mConsA (mVar 1) mNilA))))))
def F_pieces : List D → Res D := runD 3 m_pieces
/-- drawing:0 -/
def m_flat : Mir.Env → Res Ctl :=
  (mRet (mOp gEq (mUn gLen (mCall 2 F_regions (mConsA (mVar 0) mNilA))) (mOp gAdd (mUn gLen (mCall 1 F_names_of (mConsA (mVar 0) mNilA))) (mOp gMul (mC (.int 2)) (mUn gLen (mCall 2 F_pieces (mConsA (mVar 0) mNilA)))))))
def F_flat : List D → Res D := runD 1 m_flat
/-- _law_rows:0, _law_found:1, _law_row:2, _law_name:3, _law_way:4, _law_hand:5 -/
def m__law_turned : Mir.Env → Res Ctl :=
  (mSeq (mSet 1 2 [] (mLst mNilA)) (mSeq (mFor (fun env => (mVarK 0 0) env >>= itemsL) (tName 2) (mAppend 1 1 [] (mLc (fun env => (mVarK 2 0) env >>= itemsL) (tTupT 3 (tCons (tName 3) (tCons (tName 4) (tCons (tName 5) tNil)))) (fun _ => .ok true) (mImm (mTup (mConsE (mImm (mVar 3)) [] (mConsE (mImm (mVar 4)) [] (mConsE (mUn gNeg (mVar 5)) [] mNilA))))) [3, 4, 5])) [2, 3, 4, 5]) (mRet (mVarK 1 2))))
def F__law_turned : List D → Res D := runD 6 m__law_turned
/-- _law_script:0, _law_first:1, _law_cells:2, _law_rows:3, _law_fewer:4 -/
def m_law : Mir.Env → Res Ctl :=
  (mSeq (mSet 1 0 [] (mCall 0 F__law_cell (mConsA (mVar 0) (mConsA (mC (.int 0)) mNilA)))) (mSeq (mSet 2 1 [] (mSlice (fun env => (mVar 0) env >>= fun d => itemsL d >>= immL) (fun env => (mC (.int 1)) env >>= toI >>= fun i => .ok (some i)) (fun env => (mC (.int 13)) env >>= toI >>= fun i => .ok (some i)))) (mSeq (mSet 3 2 [] (mCall 2 F__law_made (mConsA (mVar 2) (mConsA (mOp gAdd (mC (.int 1)) (mOp gMod (mVar 1) (mC (.int 3)))) mNilA)))) (mSeq (mSet 4 0 [] (mOp gSub (mOp gAdd (mUn gLen (mVar 2)) (mOp gMul (mC (.int 2)) (mUn gLen (mCall 2 F_pieces (mConsA (mVar 3) mNilA))))) (mUn gLen (mCall 2 F_regions (mConsA (mVar 3) mNilA))))) (mSeq (mIf (mOrB (mTb (mOp gLt (mVar 4) (mC (.int 0)))) (mTb (mOp gNe (mOp gMod (mVar 4) (mC (.int 2))) (mC (.int 0))))) (mRet (mC (.bl false))) mSkip) (mSeq (mIf (mTb (mOp gNe (mUn gLen (mCall 2 F_regions (mConsA (mCall 2 F__law_turned (mConsA (mVar 3) mNilA)) mNilA))) (mUn gLen (mCall 2 F_regions (mConsA (mVar 3) mNilA))))) (mRet (mC (.bl false))) mSkip) (mSeq (mIf (mTb (mOp gEq (mVar 4) (mC (.int 0)))) (mRet (mOp gIsB (mCall 0 F_flat (mConsA (mVar 3) mNilA)) (mC (.bl true)))) mSkip) (mRet (mOp gIsB (mCall 0 F_flat (mConsA (mVar 3) mNilA)) (mC (.bl false)))))))))))
def F_law : List D → Res D := runD 5 m_law
theorem cell_z (ns : List Int) (k : Nat) : F__law_cell [.lst (ns.map D.int), .int k] = .ok (.int (ns.getD k 0)) := by
  simp [F__law_cell, m__law_cell, runD, gIx]
  by_cases h : k < ns.length
  · simp [h, atI, ixN]
  · simp [h]
theorem cut_map (xs : List Int) (lo hi : Option Int) : ∃ ys : List Int, cutD (xs.map D.int) lo hi = ys.map D.int ∧ ys.length ≤ xs.length := by
  refine ⟨(xs.drop (HT.sIx xs.length 0 lo)).take (HT.sIx xs.length xs.length hi - HT.sIx xs.length 0 lo), by simp [cutD], ?_⟩
  rw [List.length_take, List.length_drop]; omega

/-! drawings: what the program's own defs tell of them -/
def hnds (ds : Drw) : Pol := pts T3.a T3.c ds.flatten []
theorem pts_flat {κ β : Type} [DecidableEq κ] (key : T3 → κ) (val : T3 → β) (ds : Drw) (p : List (κ × β)) : pts key val ds.flatten p = ds.foldl (fun p r => pts key val r p) p := by
  induction ds generalizing p with
  | nil => rfl
  | cons r ds ih => rw [List.flatten_cons, pts_app, ih]; rfl
theorem hands_is (ds : Drw) (h : ds.flatten.length ≤ 1000) : F_hands_of [encD ds] = .ok (encP (hnds ds)) := by
  refine Tells.eq ?_
  simp only [F_hands_of, m_hands_of, runD]
  simp -implicitDefEqProofs [encD]
  refine loop_thenF (fun p : Pol => [some (0, .lst (ds.map encR)), some (1, encP p), none, none]) encR (fun p r => pts T3.a T3.c r p) (fun i p => p.length ≤ (ds.take i).flatten.length) ds [] rfl rfl (Nat.le_refl _) ?_ ?_
  · intro i p r hr hp
    have hl : (ds.take (i + 1)).flatten.length = (ds.take i).flatten.length + r.length := by
      rw [List.take_succ, hr]; simp
    have hle : (ds.take (i + 1)).flatten.length ≤ 1000 := by
      have e : ds.flatten = (ds.take (i + 1)).flatten ++ (ds.drop (i + 1)).flatten := by rw [← List.flatten_append, List.take_append_drop]
      have := congrArg List.length e
      rw [List.length_append] at this
      omega
    refine ⟨by have := pts_len (key := T3.a) (val := T3.c) r p; omega, ?_⟩
    refine Tells.eq ?_
    simp -implicitDefEqProofs [encR]
    refine loop_thenF (fun p : Pol => [some (0, .lst (ds.map encR)), some (1, encP p), some (0, .lst (r.map t3)), none]) t3 (fun p x => pt p x.a x.c) (fun j q => q.length ≤ p.length + j) r p rfl rfl (by omega) ?_ ?_
    · intro j q x hx hq
      have hj := (List.getElem?_eq_some_iff.mp hx).1
      refine ⟨by have := pt_len q x.a x.c; omega, ?_⟩
      have e := dSet_K D.int q x.a x.c (sizeLine_lt (by omega))
      rw [← encP_K, ← encP_K] at e
      simp -implicitDefEqProofs [e]
    · intro _
      exact Tells.eqI (by simp -implicitDefEqProofs [pts])
  · intro _
    refine Tells.eqI ?_
    unfold hnds
    rw [pts_flat]
    simp
theorem names_is (ds : Drw) (h : ds.flatten.length ≤ 1000) (h2 : (hnds ds).length < 64) : F_names_of [encD ds] = .ok (.lst ((sortI ((hnds ds).map (·.1))).map D.int)) := by
  have h1 := hands_is ds h
  have h3 := gSortD_K D.int (hnds ds) h2
  have h4 := immAt_K D.int (fun _ => rfl) (hnds ds)
  rw [← encP_K] at h3 h4
  simp only [F_names_of, m_names_of, runD]
  simp -implicitDefEqProofs [h1, h3, h4]
abbrev Spts := List ((Int × Int) × Int)
def rowSp (p : Spts) (x : List T3 × Nat) : Spts := pts (fun y : T3 => (y.a, y.b)) (fun _ => (x.2 : Int)) x.1 (if x.1 = [] then pt p ((x.2 : Int), 2) (x.2 : Int) else p)
def spts (ds : Drw) : Spts := (ds.zipIdx).foldl rowSp []
theorem enumD_map {α : Type} (f : α → D) : ∀ (xs : List α) (n : Nat), enumD n (xs.map f) = (xs.zipIdx n).map fun x => D.tup [.int (x.2 : Nat), f x.1]
  | [], _ => rfl
  | x :: xs, n => by
    rw [List.map_cons, List.zipIdx_cons, List.map_cons]
    show _ :: enumD (n + 1) _ = _
    rw [enumD_map f xs (n + 1)]
theorem rowSp_len (p : Spts) (x : List T3 × Nat) : (rowSp p x).length ≤ p.length + 1 + x.1.length := by
  unfold rowSp
  have h1 := pts_len (key := fun y : T3 => (y.a, y.b)) (val := fun _ => (x.2 : Int)) x.1 (if x.1 = [] then pt p ((x.2 : Int), 2) (x.2 : Int) else p)
  have h2 : (if x.1 = [] then pt p ((x.2 : Int), 2) (x.2 : Int) else p).length ≤ p.length + 1 := by
    split
    · exact pt_len _ _ _
    · omega
  omega
theorem spots_is (ds : Drw) (h : ds.length ≤ 100) (hr : ∀ r ∈ ds, r.length ≤ 100) : F_spots_by_strings [encD ds] = .ok (encK2 D.int (spts ds)) := by
  refine Tells.eq ?_
  simp only [F_spots_by_strings, m_spots_by_strings, runD]
  simp -implicitDefEqProofs [encD, enumD_map, encK2_nil D.int]
  refine loop_thenF (fun p : Spts => [some (0, .lst (ds.map encR)), some (1, encK2 D.int p), none, none, none]) (fun x : List T3 × Nat => D.tup [.int (x.2 : Nat), encR x.1]) rowSp (fun i p => p.length ≤ 101 * i) ds.zipIdx [] rfl rfl (by simp) ?_ ?_
  · intro i p x hx hp
    have hi : i < ds.length := by have := (List.getElem?_eq_some_iff.mp hx).1; simpa using this
    have hxr : x.1 ∈ ds := by
      have := List.mem_of_getElem? hx
      obtain ⟨r, n⟩ := x
      have := List.mem_zipIdx this
      simp at this
      rw [this.2]
      exact List.getElem_mem _
    have hxl := hr x.1 hxr
    refine ⟨by have := rowSp_len p x; omega, ?_⟩
    have e0 := dSet_K2 D.int p ((x.2 : Int), 2) (x.2 : Int) (sizeLine_lt (by omega))
    obtain ⟨r, n⟩ := x
    dsimp only at e0 hxl
    refine Tells.eq ?_
    simp -implicitDefEqProofs [encR, ofP, e0, i_nx, i_cons, i_some, i_pair, i_K2]
    refine loop_thenF (fun p : Spts => [some (0, .lst (ds.map encR)), some (1, encK2 D.int p), some (0, .int n), some (0, .lst (r.map t3)), none]) t3 (fun p y => pt p (y.a, y.b) (n : Int)) (fun j q => q.length ≤ p.length + 1 + j) r (if r = [] then pt p ((n : Int), 2) (n : Int) else p) rfl rfl ?_ ?_ ?_
    · split
      · exact pt_len _ _ _
      · omega
    · intro j q y hy hq
      have hj := (List.getElem?_eq_some_iff.mp hy).1
      refine ⟨by have := pt_len q (y.a, y.b) (n : Int); omega, ?_⟩
      have e := dSet_K2 D.int q (y.a, y.b) (n : Int) (sizeLine_lt (by omega))
      simp -implicitDefEqProofs [ofP, e]
    · intro _
      exact Tells.eqI (by simp -implicitDefEqProofs [rowSp, pts])
  · intro _
    exact Tells.eqI (by simp -implicitDefEqProofs [spts])
/-- what the spots tell -/
theorem rowSp_out (p : Spts) (x : List T3 × Nat) (k : Int × Int) (hk : k.2 ≠ 2) (h : ∀ y ∈ x.1, (y.a, y.b) ≠ k) : lk (rowSp p x) k = lk p k := by
  unfold rowSp
  rw [pts_out _ _ _ h]
  split
  · rw [lk_pt, if_neg fun e => hk (by rw [e])]
  · rfl
theorem rowSp_in (p : Spts) (x : List T3 × Nat) (k : Int × Int) (h : ∃ y ∈ x.1, (y.a, y.b) = k) : lk (rowSp p x) k = some (x.2 : Int) := pts_in _ _ _ _ (fun _ _ _ => rfl) (.inl h)
theorem spts_at (ds : Drw) (k : Int × Int) (hk : k.2 ≠ 2) (i : Nat) (h1 : ∃ r, ds[i]? = some r ∧ ∃ y ∈ r, (y.a, y.b) = k) (h2 : ∀ j r, ds[j]? = some r → (∃ y ∈ r, (y.a, y.b) = k) → j = i) : lk (spts ds) k = some (i : Int) := by
  unfold spts
  have key : ∀ (xs : List (List T3 × Nat)) (p : Spts), (∀ x ∈ xs, (∃ y ∈ x.1, (y.a, y.b) = k) → x.2 = i) → ((∃ x ∈ xs, ∃ y ∈ x.1, (y.a, y.b) = k) ∨ lk p k = some (i : Int)) → lk (xs.foldl rowSp p) k = some (i : Int) := by
    intro xs
    induction xs with
    | nil =>
      intro p _ h
      rcases h with ⟨x, hx, _⟩ | h
      · cases hx
      · exact h
    | cons x xs ih =>
      intro p ha h
      rw [List.foldl_cons]
      refine ih _ (fun y hy => ha y (List.mem_cons_of_mem _ hy)) ?_
      by_cases e : ∃ y ∈ x.1, (y.a, y.b) = k
      · right
        rw [rowSp_in p x k e, ha x List.mem_cons_self e]
      · rcases h with ⟨z, hz, hy⟩ | h
        · rcases List.mem_cons.mp hz with e2 | hz
          · exact absurd (e2 ▸ hy) e
          · exact .inl ⟨z, hz, hy⟩
        · right
          rw [rowSp_out p x k hk fun y hy e2 => e ⟨y, hy, e2⟩]; exact h
  refine key _ _ (fun x hx hy => ?_) ?_
  · obtain ⟨r, n⟩ := x
    have hm := List.mem_zipIdx hx
    simp at hm
    refine h2 n r ?_ hy
    rw [hm.2]
    exact List.getElem?_eq_getElem _
  · left
    obtain ⟨r, hr, hy⟩ := h1
    refine ⟨(r, i), ?_, hy⟩
    have hi := (List.getElem?_eq_some_iff.mp hr)
    obtain ⟨hi, e⟩ := hi
    rw [List.mem_iff_getElem?]
    exact ⟨i, by rw [List.getElem?_zipIdx, hr]; simp⟩
theorem hnds_at (ds : Drw) (n c : Int) (h1 : ∃ x ∈ ds.flatten, x.a = n) (h2 : ∀ x ∈ ds.flatten, x.a = n → x.c = c) : lk (hnds ds) n = some c := pts_in _ _ _ _ h2 (.inl h1)

theorem hand_is (ds : Drw) (h : ds.flatten.length ≤ 1000) {n c : Int} (h2 : lk (hnds ds) n = some c) : F_hand_of [encD ds, .int n] = .ok (.int c) := by
  have h1 := hands_is ds h
  have h3 := gDGet_K D.int h2
  have h4 := gDNotIn_K D.int (hnds ds) n
  have h5 := immAt_K D.int (fun _ => rfl) (hnds ds)
  rw [← encP_K] at h3 h4 h5
  rw [h2] at h4
  simp only [F_hand_of, m_hand_of, runD]
  simp -implicitDefEqProofs [h1, h3, h4, h5]

/-- a crossing: its name, the strings of its passings, its hand -/
structure Crs where
  n : Int
  i : Nat
  j : Nat
  c : Int
structure DI (S : Nat) (ds : Drw) (C : List Crs) : Prop where
  len : ds.length = S
  nd : (C.map (·.n)).Nodup
  bd : ∀ c ∈ C, c.i < S ∧ c.j < S
  mem : ∀ k r, ds[k]? = some r → ∀ x, x ∈ r ↔ ∃ c ∈ C, (x = ⟨c.n, 0, c.c⟩ ∧ k = c.i) ∨ (x = ⟨c.n, 1, c.c⟩ ∧ k = c.j)
  cnt : ∀ r ∈ ds, r.length ≤ 2 * C.length
theorem uniq {C : List Crs} (h : (C.map (·.n)).Nodup) {c d : Crs} (hc : c ∈ C) (hd : d ∈ C) (e : c.n = d.n) : c = d := by
  induction C with
  | nil => cases hc
  | cons x C ih =>
    have h2 := List.nodup_cons.mp h
    rcases List.mem_cons.mp hc with e1 | hc1
    · rcases List.mem_cons.mp hd with e2 | hd1
      · rw [e1, e2]
      · exact absurd (List.mem_map.mpr ⟨d, hd1, by rw [← e, e1]⟩) h2.1
    · rcases List.mem_cons.mp hd with e2 | hd1
      · exact absurd (List.mem_map.mpr ⟨c, hc1, by rw [e, e2]⟩) h2.1
      · exact ih h2.2 hc1 hd1
section
variable {S : Nat} {ds : Drw} {C : List Crs}
theorem DI.all (h : DI S ds C) {x : T3} (hx : x ∈ ds.flatten) : ∃ c ∈ C, x = ⟨c.n, 0, c.c⟩ ∨ x = ⟨c.n, 1, c.c⟩ := by
  obtain ⟨r, hr, hx⟩ := List.mem_flatten.mp hx
  obtain ⟨k, hk⟩ := List.mem_iff_getElem?.mp hr
  obtain ⟨c, hc, e⟩ := (h.mem k r hk x).mp hx
  exact ⟨c, hc, e.imp (·.1) (·.1)⟩
theorem DI.over (h : DI S ds C) {c : Crs} (hc : c ∈ C) : ∃ r, ds[c.i]? = some r ∧ (⟨c.n, 0, c.c⟩ : T3) ∈ r := by
  have := (h.bd c hc).1
  have hl : c.i < ds.length := by rw [h.len]; exact this
  refine ⟨ds[c.i], List.getElem?_eq_getElem hl, ?_⟩
  exact (h.mem _ _ (List.getElem?_eq_getElem hl) _).mpr ⟨c, hc, .inl ⟨rfl, rfl⟩⟩
theorem DI.under (h : DI S ds C) {c : Crs} (hc : c ∈ C) : ∃ r, ds[c.j]? = some r ∧ (⟨c.n, 1, c.c⟩ : T3) ∈ r := by
  have := (h.bd c hc).2
  have hl : c.j < ds.length := by rw [h.len]; exact this
  refine ⟨ds[c.j], List.getElem?_eq_getElem hl, ?_⟩
  exact (h.mem _ _ (List.getElem?_eq_getElem hl) _).mpr ⟨c, hc, .inr ⟨rfl, rfl⟩⟩
theorem DI.hand (h : DI S ds C) {c : Crs} (hc : c ∈ C) : lk (hnds ds) c.n = some c.c := by
  refine hnds_at ds c.n c.c ?_ fun x hx e => ?_
  · obtain ⟨r, hr, hm⟩ := h.over hc
    exact ⟨_, List.mem_flatten.mpr ⟨r, List.mem_of_getElem? hr, hm⟩, rfl⟩
  · obtain ⟨d, hd, e2⟩ := h.all hx
    have : d.n = c.n := by rcases e2 with e2 | e2 <;> rw [e2] at e <;> exact e
    have := uniq h.nd hd hc this
    subst this
    rcases e2 with e2 | e2 <;> rw [e2]
theorem DI.spO (h : DI S ds C) {c : Crs} (hc : c ∈ C) : lk (spts ds) (c.n, 0) = some (c.i : Int) := by
  refine spts_at ds (c.n, 0) (fun z : (0 : Int) = 2 => by omega) c.i ?_ fun j r hr hy => ?_
  · obtain ⟨r, hr, hm⟩ := h.over hc
    exact ⟨r, hr, _, hm, rfl⟩
  · obtain ⟨y, hy, e⟩ := hy
    obtain ⟨d, hd, e2⟩ := (h.mem j r hr y).mp hy
    rcases e2 with ⟨e2, e3⟩ | ⟨e2, e3⟩
    · rw [e2] at e
      injection e with e4 _
      rw [e3, uniq h.nd hd hc e4]
    · rw [e2] at e
      injection e with _ e4
      cases e4
theorem DI.spU (h : DI S ds C) {c : Crs} (hc : c ∈ C) : lk (spts ds) (c.n, 1) = some (c.j : Int) := by
  refine spts_at ds (c.n, 1) (fun z : (1 : Int) = 2 => by omega) c.j ?_ fun j r hr hy => ?_
  · obtain ⟨r, hr, hm⟩ := h.under hc
    exact ⟨r, hr, _, hm, rfl⟩
  · obtain ⟨y, hy, e⟩ := hy
    obtain ⟨d, hd, e2⟩ := (h.mem j r hr y).mp hy
    rcases e2 with ⟨e2, e3⟩ | ⟨e2, e3⟩
    · rw [e2] at e
      injection e with _ e4
      cases e4
    · rw [e2] at e
      injection e with e4 _
      rw [e3, uniq h.nd hd hc e4]
theorem DI.keys (h : DI S ds C) : ((hnds ds).map (·.1)).Perm (C.map (·.n)) := by
  have hn : ((hnds ds).map (·.1)).Nodup := by
    unfold hnds
    exact pts_nodup _ (by simp)
  refine (List.perm_ext_iff_of_nodup hn h.nd).mpr fun n => ?_
  unfold hnds
  rw [pts_mem]
  constructor
  · rintro (hx | ⟨x, hx, e⟩)
    · cases hx
    · obtain ⟨c, hc, e2⟩ := h.all hx
      rw [← e]
      rcases e2 with e2 | e2 <;> rw [e2] <;> exact List.mem_map_of_mem (f := (·.n)) hc
  · intro hn
    obtain ⟨c, hc, e⟩ := List.mem_map.mp hn
    obtain ⟨r, hr, hm⟩ := h.over hc
    exact .inr ⟨_, List.mem_flatten.mpr ⟨r, List.mem_of_getElem? hr, hm⟩, e⟩
/-- the crossings by rising names -/
theorem DI.sorted (h : DI S ds C) : ∃ L : List Crs, L.Perm C ∧ sortI ((hnds ds).map (·.1)) = L.map (·.n) := by
  obtain ⟨L, h1, h2⟩ := lift_perm (fun c : Crs => c.n) ((sortI_perm _).trans h.keys)
  exact ⟨L, h1, h2.symm⟩
theorem DI.flat (h : DI S ds C) (hS : S ≤ 3) (hC : C.length ≤ 40) : ds.flatten.length ≤ 1000 := by
  have key : ∀ ds : Drw, (∀ r ∈ ds, r.length ≤ 80) → ds.flatten.length ≤ 80 * ds.length := by
    intro ds
    induction ds with
    | nil => intro _; simp
    | cons r ds ih =>
      intro hr
      have h1 := ih fun r hr' => hr r (List.mem_cons_of_mem _ hr')
      have h2 := hr r List.mem_cons_self
      rw [List.flatten_cons, List.length_append, List.length_cons]; omega
  have := key ds fun r hr => by have := h.cnt r hr; omega
  rw [h.len] at this
  omega
/-- one passing more -/
def ins (ds : Drw) (k p : Nat) (x : T3) : Drw := ds.set k ((ds.getD k []).take p ++ [x] ++ (ds.getD k []).drop p)
theorem ins_len (ds : Drw) (k p : Nat) (x : T3) : (ins ds k p x).length = ds.length := by unfold ins; simp
theorem ins_get (ds : Drw) {k p : Nat} {x : T3} (hk : k < ds.length) {m : Nat} {r : List T3} (hr : (ins ds k p x)[m]? = some r) : ∃ r0, ds[m]? = some r0 ∧ (∀ y, y ∈ r ↔ y ∈ r0 ∨ (m = k ∧ y = x)) ∧ r.length ≤ r0.length + 1 := by
  unfold ins at hr
  by_cases e : m = k
  · subst e
    rw [List.getElem?_set_self hk] at hr
    cases hr
    have e0 : ds.getD m [] = ds[m] := by rw [List.getD_eq_getElem?_getD, List.getElem?_eq_getElem hk]; rfl
    refine ⟨ds[m], List.getElem?_eq_getElem hk, fun y => ?_, ?_⟩
    · rw [e0]
      have : y ∈ ds[m] ↔ y ∈ ds[m].take p ∨ y ∈ ds[m].drop p := by
        rw [← List.mem_append, List.take_append_drop]
      rw [this]
      simp only [List.mem_append, List.mem_singleton, true_and]
      constructor
      · rintro ((h | h) | h)
        · exact .inl (.inl h)
        · exact .inr h
        · exact .inl (.inr h)
      · rintro ((h | h) | h)
        · exact .inl (.inl h)
        · exact .inr h
        · exact .inl (.inr h)
    · rw [e0]; simp; omega
  · rw [List.getElem?_set_ne (Ne.symm e)] at hr
    exact ⟨r, hr, fun y => ⟨.inl, fun h => h.elim id fun h => absurd h.1 e⟩, by omega⟩
theorem DI.more (h : DI S ds C) (c : Crs) (hn : c.n ∉ C.map (·.n)) (hi : c.i < S) (hj : c.j < S) (p q : Nat) : DI S (ins (ins ds c.i p ⟨c.n, 0, c.c⟩) c.j q ⟨c.n, 1, c.c⟩) (C ++ [c]) where
  len := by rw [ins_len, ins_len]; exact h.len
  nd := by
    rw [List.map_append]
    refine List.nodup_append.mpr ⟨h.nd, by simp, fun a ha b hb e => ?_⟩
    rw [e, List.mem_singleton.mp hb] at ha
    exact hn ha
  bd := fun d hd => by
    rcases List.mem_append.mp hd with hd | hd
    · exact h.bd d hd
    · rw [List.mem_singleton.mp hd]; exact ⟨hi, hj⟩
  mem := fun k r hr x => by
    obtain ⟨r1, h1, e1, _⟩ := ins_get _ (by rw [ins_len, h.len]; exact hj) hr
    obtain ⟨r0, h0, e0, _⟩ := ins_get _ (by rw [h.len]; exact hi) h1
    rw [e1, e0, h.mem k r0 h0]
    constructor
    · rintro ((⟨d, hd, e⟩ | ⟨hk, e⟩) | ⟨hk, e⟩)
      · exact ⟨d, List.mem_append_left _ hd, e⟩
      · exact ⟨c, List.mem_append_right _ List.mem_cons_self, .inl ⟨e, hk⟩⟩
      · exact ⟨c, List.mem_append_right _ List.mem_cons_self, .inr ⟨e, hk⟩⟩
    · rintro ⟨d, hd, e⟩
      rcases List.mem_append.mp hd with hd | hd
      · exact .inl (.inl ⟨d, hd, e⟩)
      · rw [List.mem_singleton.mp hd] at e
        rcases e with ⟨e, hk⟩ | ⟨e, hk⟩
        · exact .inl (.inr ⟨hk, e⟩)
        · exact .inr ⟨hk, e⟩
  cnt := fun r hr => by
    obtain ⟨k, hk⟩ := List.mem_iff_getElem?.mp hr
    obtain ⟨r1, h1, _, l1⟩ := ins_get _ (by rw [ins_len, h.len]; exact hj) hk
    obtain ⟨r0, h0, _, l0⟩ := ins_get _ (by rw [h.len]; exact hi) h1
    have := h.cnt r0 (List.mem_of_getElem? h0)
    rw [List.length_append, List.length_singleton]; omega
end

theorem ins_eq {ds : Drw} {a p : Nat} {r : List T3} {x : T3} (h : ds[a]? = some r) : ds.set a (r.take p ++ [x] ++ r.drop p) = ins ds a p x := by
  unfold ins
  rw [List.getD_eq_getElem?_getD, h]; rfl
abbrev envW (cl : D) (S : Nat) (st : Int) (ds : Drw) (nm c hand : Int) : Mir.Env := [some (0, cl), some (0, .int S), some (0, .int st), some (2, encD ds), some (0, .int nm), some (0, .int c), some (0, .int hand), none, none, none]
theorem fresh (st u v : Int) (h1 : u < v) (h2 : v < u + 999) : (st + v) % 999 ≠ (st + u) % 999 := by omega
def psg (C : List Crs) : List T3 := C.flatMap fun c => [⟨c.n, 0, c.c⟩, ⟨c.n, 1, c.c⟩]
theorem flat_set {α : Type} {ds : List (List α)} {k : Nat} {r r2 : List α} {x : α} (h : ds[k]? = some r) (hp : r2.Perm (x :: r)) : (ds.set k r2).flatten.Perm (x :: ds.flatten) := by
  induction ds generalizing k with
  | nil => cases h
  | cons d ds ih =>
    cases k with
    | zero =>
      cases h
      rw [List.set_cons_zero, List.flatten_cons, List.flatten_cons]
      exact hp.append_right _
    | succ k =>
      rw [List.set_cons_succ, List.flatten_cons, List.flatten_cons]
      exact ((ih (by simpa using h)).append_left d).trans List.perm_middle
theorem ins_flat {ds : Drw} {k : Nat} (hk : k < ds.length) (p : Nat) (x : T3) : (ins ds k p x).flatten.Perm (x :: ds.flatten) := by
  unfold ins
  have e0 : ds.getD k [] = ds[k] := by rw [List.getD_eq_getElem?_getD, List.getElem?_eq_getElem hk]; rfl
  rw [e0]
  refine flat_set (List.getElem?_eq_getElem hk) ?_
  rw [List.append_assoc]
  refine List.perm_middle.trans ?_
  show (x :: (ds[k].take p ++ ds[k].drop p)).Perm _
  rw [List.take_append_drop]
theorem psg_snoc (C : List Crs) (c : Crs) : psg (C ++ [c]) = psg C ++ [⟨c.n, 0, c.c⟩, ⟨c.n, 1, c.c⟩] := by
  unfold psg; rw [List.flatMap_append]; rfl
structure MI (S : Nat) (st : Int) (i : Nat) (s : Drw × List Crs × Int × Int) : Prop where
  di : DI S s.1 s.2.1
  len : s.2.1.length = i
  nm : s.2.2.1 = (st + s.2.2.2) % 999
  up : 0 ≤ s.2.2.2 ∧ s.2.2.2 ≤ 83 * i
  pm : s.1.flatten.Perm (psg s.2.1)
  hd : ∀ c ∈ s.2.1, c.c = 1 ∨ c.c = -1
  nms : ∀ c ∈ s.2.1, ∃ u, c.n = (st + u) % 999 + 1 ∧ 1 ≤ u ∧ u ≤ s.2.2.2
/-! who comes behind whom -/
def ky (x : T3) : Int × Int := (x.a, x.b)
theorem flat_pos {α : Type} : ∀ {ds : List (List α)}, ds.flatten.Nodup → ∀ {i j k l : Nat} {r r' : List α} {x : α}, ds[i]? = some r → r[k]? = some x → ds[j]? = some r' → r'[l]? = some x → i = j ∧ k = l
  | [], _, i, j, k, l, r, r', x, h1, _, _, _ => by cases h1
  | d :: ds, hn, i, j, k, l, r, r', x, h1, h2, h3, h4 => by
    rw [List.flatten_cons, List.nodup_append] at hn
    obtain ⟨n1, n2, n3⟩ := hn
    cases i with
    | zero =>
      cases h1
      cases j with
      | zero =>
        cases h3
        refine ⟨rfl, ?_⟩
        obtain ⟨hk, ek⟩ := List.getElem?_eq_some_iff.mp h2
        obtain ⟨hl, el⟩ := List.getElem?_eq_some_iff.mp h4
        rcases Nat.lt_trichotomy k l with h | h | h
        · exact absurd (ek.trans el.symm) (List.pairwise_iff_getElem.mp n1 k l hk hl h)
        · exact h
        · exact absurd (el.trans ek.symm) (List.pairwise_iff_getElem.mp n1 l k hl hk h)
      | succ j =>
        have m1 := List.mem_of_getElem? h2
        have m2 : x ∈ ds.flatten := List.mem_flatten.mpr ⟨r', List.mem_of_getElem? (by simpa using h3), List.mem_of_getElem? h4⟩
        exact absurd rfl (n3 x m1 x m2)
    | succ i =>
      cases j with
      | zero =>
        cases h3
        have m1 := List.mem_of_getElem? h4
        have m2 : x ∈ ds.flatten := List.mem_flatten.mpr ⟨r, List.mem_of_getElem? (by simpa using h1), List.mem_of_getElem? h2⟩
        exact absurd rfl (n3 x m1 x m2)
      | succ j =>
        obtain ⟨e1, e2⟩ := flat_pos n2 (by simpa using h1) h2 (by simpa using h3) h4
        exact ⟨by omega, e2⟩
/-- x is right ahead of y -/
def Rl (ds : Drw) (x y : T3) : Prop := ∃ (i : Nat) (r : List T3) (k : Nat), ds[i]? = some r ∧ r[k]? = some x ∧ r[(k + 1) % r.length]? = some y
abbrev UK (ds : Drw) : Prop := (ds.flatten.map ky).Nodup
theorem uk_pos {ds : Drw} (h : UK ds) {i j k l : Nat} {r r' : List T3} {x y : T3} (h1 : ds[i]? = some r) (h2 : r[k]? = some x) (h3 : ds[j]? = some r') (h4 : r'[l]? = some y) (e : ky x = ky y) : i = j ∧ k = l := by
  have hn : (ds.map (·.map ky)).flatten.Nodup := by rw [← List.map_flatten]; exact h
  exact flat_pos hn (i := i) (j := j) (k := k) (l := l) (r := r.map ky) (r' := r'.map ky) (x := ky x) (by rw [List.getElem?_map, h1]; rfl) (by rw [List.getElem?_map, h2]; rfl) (by rw [List.getElem?_map, h3]; rfl) (by rw [List.getElem?_map, h4, e]; rfl)
theorem uk_eq {ds : Drw} (h : UK ds) {x y : T3} (hx : x ∈ ds.flatten) (hy : y ∈ ds.flatten) (e : ky x = ky y) : x = y := by
  obtain ⟨r, hr, hx⟩ := List.mem_flatten.mp hx
  obtain ⟨r', hr', hy⟩ := List.mem_flatten.mp hy
  obtain ⟨i, hi⟩ := List.mem_iff_getElem?.mp hr
  obtain ⟨j, hj⟩ := List.mem_iff_getElem?.mp hr'
  obtain ⟨k, hk⟩ := List.mem_iff_getElem?.mp hx
  obtain ⟨l, hl⟩ := List.mem_iff_getElem?.mp hy
  obtain ⟨rfl, rfl⟩ := uk_pos h hi hk hj hl e
  rw [hi] at hj; cases hj
  rw [hk] at hl; cases hl; rfl
theorem succ_inj {n k l : Nat} (hk : k < n) (hl : l < n) (e : (k + 1) % n = (l + 1) % n) : k = l := by
  by_cases h1 : k + 1 = n <;> by_cases h2 : l + 1 = n
  · omega
  · rw [h1, Nat.mod_self, Nat.mod_eq_of_lt (by omega)] at e; omega
  · rw [h2, Nat.mod_self, Nat.mod_eq_of_lt (by omega)] at e; omega
  · rw [Nat.mod_eq_of_lt (by omega), Nat.mod_eq_of_lt (by omega)] at e; omega
section
variable {ds : Drw}
theorem Rl.left {x y : T3} (h : Rl ds x y) : x ∈ ds.flatten := by
  obtain ⟨i, r, k, h1, h2, _⟩ := h
  exact List.mem_flatten.mpr ⟨r, List.mem_of_getElem? h1, List.mem_of_getElem? h2⟩
theorem Rl.right {x y : T3} (h : Rl ds x y) : y ∈ ds.flatten := by
  obtain ⟨i, r, k, h1, _, h3⟩ := h
  exact List.mem_flatten.mpr ⟨r, List.mem_of_getElem? h1, List.mem_of_getElem? h3⟩
theorem Rl.fn (hu : UK ds) {x y x' y' : T3} (h : Rl ds x y) (h' : Rl ds x' y') (e : ky x = ky x') : y = y' := by
  obtain ⟨i, r, k, h1, h2, h3⟩ := h
  obtain ⟨j, r', l, g1, g2, g3⟩ := h'
  obtain ⟨rfl, rfl⟩ := uk_pos hu h1 h2 g1 g2 e
  rw [h1] at g1; cases g1
  rw [h3] at g3; cases g3; rfl
theorem Rl.inj (hu : UK ds) {x y x' y' : T3} (h : Rl ds x y) (h' : Rl ds x' y') (e : ky y = ky y') : x = x' := by
  obtain ⟨i, r, k, h1, h2, h3⟩ := h
  obtain ⟨j, r', l, g1, g2, g3⟩ := h'
  obtain ⟨rfl, e2⟩ := uk_pos hu h1 h3 g1 g3 e
  rw [h1] at g1; cases g1
  have hk := (List.getElem?_eq_some_iff.mp h2).1
  have hl := (List.getElem?_eq_some_iff.mp g2).1
  have := succ_inj hk hl e2
  subst this
  rw [h2] at g2; cases g2; rfl
theorem Rl.next {x : T3} (h : x ∈ ds.flatten) : ∃ y, Rl ds x y := by
  obtain ⟨r, hr, hx⟩ := List.mem_flatten.mp h
  obtain ⟨i, hi⟩ := List.mem_iff_getElem?.mp hr
  obtain ⟨k, hk⟩ := List.mem_iff_getElem?.mp hx
  have hl := (List.getElem?_eq_some_iff.mp hk).1
  have h2 : (k + 1) % r.length < r.length := Nat.mod_lt _ (by omega)
  exact ⟨_, i, r, k, hi, hk, List.getElem?_eq_getElem h2⟩
theorem Rl.prev {y : T3} (h : y ∈ ds.flatten) : ∃ x, Rl ds x y := by
  obtain ⟨r, hr, hx⟩ := List.mem_flatten.mp h
  obtain ⟨i, hi⟩ := List.mem_iff_getElem?.mp hr
  obtain ⟨k, hk⟩ := List.mem_iff_getElem?.mp hx
  have hl := (List.getElem?_eq_some_iff.mp hk).1
  by_cases h0 : k = 0
  · subst h0
    refine ⟨r[r.length - 1], i, r, r.length - 1, hi, List.getElem?_eq_getElem (by omega), ?_⟩
    rw [show r.length - 1 + 1 = r.length by omega, Nat.mod_self]; exact hk
  · refine ⟨r[k - 1], i, r, k - 1, hi, List.getElem?_eq_getElem (by omega), ?_⟩
    rw [show k - 1 + 1 = k by omega, Nat.mod_eq_of_lt hl]; exact hk
end
/-- a dict that tells of each passing the one ahead -/
def Cms (ds : Drw) (P : List ((Int × Int) × (Int × Int))) : Prop := ∀ x y, Rl ds x y → lk P (ky y) = some (ky x)
theorem zip_mem {α : Type} {r : List α} {x : α × Nat} (h : x ∈ r.zipIdx) : r[x.2]? = some x.1 := by
  obtain ⟨a, n⟩ := x
  have hm := List.mem_zipIdx h
  simp at hm
  rw [hm.2]; exact List.getElem?_eq_getElem _
def T0 : T3 := ⟨0, 0, 0⟩
/-- pairs: a passing and the next -/
def nxR (r : List T3) : List (T3 × T3) := r.zipIdx.map fun x => (x.1, r.getD ((x.2 + 1) % r.length) T0)
def nxA (ds : Drw) : List (T3 × T3) := ds.flatMap nxR
theorem nxA_mem {ds : Drw} {e : T3 × T3} : e ∈ nxA ds ↔ Rl ds e.1 e.2 := by
  unfold nxA nxR
  simp only [List.mem_flatMap, List.mem_map]
  constructor
  · rintro ⟨r, hr, x, hx, rfl⟩
    obtain ⟨i, hi⟩ := List.mem_iff_getElem?.mp hr
    have h1 := zip_mem hx
    have hl := (List.getElem?_eq_some_iff.mp h1).1
    have h2 : (x.2 + 1) % r.length < r.length := Nat.mod_lt _ (by omega)
    refine ⟨i, r, x.2, hi, h1, ?_⟩
    show r[(x.2 + 1) % r.length]? = some (r.getD ((x.2 + 1) % r.length) T0)
    rw [List.getD_eq_getElem?_getD, List.getElem?_eq_getElem h2]; rfl
  · rintro ⟨i, r, k, h1, h2, h3⟩
    refine ⟨r, List.mem_of_getElem? h1, (e.1, k), ?_, ?_⟩
    · rw [List.mem_iff_getElem?]
      exact ⟨k, by rw [List.getElem?_zipIdx, h2]; simp⟩
    · show (e.1, r.getD ((k + 1) % r.length) T0) = e
      rw [List.getD_eq_getElem?_getD, h3]; rfl
def nxP (ds : Drw) : List ((Int × Int) × (Int × Int)) := pts (fun e : T3 × T3 => ky e.1) (fun e => ky e.2) (nxA ds) []
theorem nxP_lk {ds : Drw} (hu : UK ds) {x y : T3} (h : Rl ds x y) : lk (nxP ds) (ky x) = some (ky y) := by
  refine pts_in _ _ _ _ (fun e he e2 => ?_) (.inl ⟨(x, y), nxA_mem.mpr h, rfl⟩)
  have := Rl.fn hu (nxA_mem.mp he) h e2
  rw [this]
theorem nxP_mem {ds : Drw} (hu : UK ds) {e : (Int × Int) × (Int × Int)} (h : e ∈ nxP ds) : ∃ x y, Rl ds x y ∧ e = (ky x, ky y) := by
  have hn : ((nxP ds).map (·.1)).Nodup := pts_nodup _ (by simp)
  have h1 := lk_mem hn h
  have hk : e.1 ∈ (nxP ds).map (·.1) := List.mem_map_of_mem h
  unfold nxP at hk
  rw [pts_mem] at hk
  rcases hk with hk | ⟨p, hp, e2⟩
  · cases hk
  · have h2 := nxA_mem.mp hp
    have h3 := nxP_lk hu h2
    rw [e2, h1] at h3
    exact ⟨p.1, p.2, h2, Prod.ext e2.symm (Option.some.inj h3)⟩
def cmsP (ds : Drw) : List ((Int × Int) × (Int × Int)) := pts (fun e : (Int × Int) × (Int × Int) => e.2) (fun e => e.1) (nxP ds) []
theorem cmsP_is {ds : Drw} (hu : UK ds) : Cms ds (cmsP ds) := fun x y h => by
  refine pts_in _ _ _ _ (fun e he e2 => ?_) (.inl ⟨(ky x, ky y), lk_some_mem (nxP_lk hu h), rfl⟩)
  obtain ⟨x', y', h', rfl⟩ := nxP_mem hu he
  show ky x' = ky x
  rw [Rl.inj hu h' h e2]
theorem nxA_len (ds : Drw) : (nxA ds).length = ds.flatten.length := by
  unfold nxA nxR
  rw [List.length_flatMap, List.length_flatten]
  congr 1
  refine List.map_congr_left fun r _ => ?_
  simp
theorem foldl_flat {α β γ : Type} (f : γ → β → γ) (g : α → List β) : ∀ (xs : List α) (s : γ), (xs.flatMap g).foldl f s = xs.foldl (fun s x => (g x).foldl f s) s
  | [], s => rfl
  | x :: xs, s => by rw [List.flatMap_cons, List.foldl_append, foldl_flat f g xs]; rfl
theorem next_is (ds : Drw) (h : ds.flatten.length ≤ 1000) : F_next_of [encD ds] = .ok (encK2 t2 (nxP ds)) := by
  refine Tells.eq ?_
  simp only [F_next_of, m_next_of, runD]
  simp -implicitDefEqProofs [encD, encK2_nil t2]
  refine loop_thenF (fun p : List ((Int × Int) × (Int × Int)) => [some (0, .lst (ds.map encR)), some (1, encK2 t2 p), none, none, none, none]) encR (fun p r => pts (fun e : T3 × T3 => ky e.1) (fun e => ky e.2) (nxR r) p) (fun i p => p.length ≤ (ds.take i).flatten.length) ds [] rfl rfl (Nat.le_refl _) ?_ ?_
  · intro i p r hr hp
    have hl : (ds.take (i + 1)).flatten.length = (ds.take i).flatten.length + r.length := by
      rw [List.take_succ, hr]; simp
    have hle : (ds.take (i + 1)).flatten.length ≤ 1000 := by
      have e : ds.flatten = (ds.take (i + 1)).flatten ++ (ds.drop (i + 1)).flatten := by rw [← List.flatten_append, List.take_append_drop]
      have := congrArg List.length e
      rw [List.length_append] at this
      omega
    have hnl : (nxR r).length = r.length := by unfold nxR; simp
    refine ⟨by have := pts_len (key := fun e : T3 × T3 => ky e.1) (val := fun e => ky e.2) (nxR r) p; omega, ?_⟩
    refine Tells.eq ?_
    simp -implicitDefEqProofs [encR, enumD_map]
    refine loop_thenF (fun p : List ((Int × Int) × (Int × Int)) => [some (0, .lst (ds.map encR)), some (1, encK2 t2 p), some (0, .lst (r.map t3)), none, none, none]) (fun x : T3 × Nat => D.tup [.int (x.2 : Nat), t3 x.1]) (fun p x => pt p (ky x.1) (ky (r.getD ((x.2 + 1) % r.length) T0))) (fun j q => q.length ≤ p.length + j) r.zipIdx p rfl rfl (by omega) ?_ ?_
    · intro j q x hx hq
      have hj := (List.getElem?_eq_some_iff.mp hx).1
      rw [List.length_zipIdx] at hj
      refine ⟨by have := pt_len q (ky x.1) (ky (r.getD ((x.2 + 1) % r.length) T0)); omega, ?_⟩
      have h2 : (x.2 + 1) % r.length < r.length := Nat.mod_lt _ (by omega)
      have gm : Mir.gMod (.int ((x.2 : Int) + 1)) (.int (r.length : Int)) = .ok (.int (((x.2 + 1) % r.length : Nat) : Int)) := by
        rw [e_gMod _ _ (by omega)]; congr 2
      have gi : gIx (.lst (r.map t3)) (.int (((x.2 + 1) % r.length : Nat) : Int)) = .ok (t3 (r.getD ((x.2 + 1) % r.length) T0)) := gIx_map (by rw [List.getD_eq_getElem?_getD, List.getElem?_eq_getElem h2]; rfl)
      have e := dSet_K2 t2 q (ky x.1) (ky (r.getD ((x.2 + 1) % r.length) T0)) (sizeLine_lt (by omega))
      obtain ⟨y, hy⟩ : ∃ y, y = r.getD ((x.2 + 1) % r.length) T0 := ⟨_, rfl⟩
      rw [← hy] at gi e ⊢
      rw [show (((x.2 + 1) % r.length : Nat) : Int) = ((x.2 : Int) + 1) % (r.length : Int) by simp] at gi gm
      have e' : dSet (encK2 t2 q) (.tup [.int x.1.a, .int x.1.b]) (.tup [.int y.a, .int y.b]) = .ok (encK2 t2 (pt q (ky x.1) (ky y))) := e
      simp -implicitDefEqProofs [gm, gi, e']
    · intro _
      have e : r.zipIdx.foldl (fun p x => pt p (ky x.1) (ky (r.getD ((x.2 + 1) % r.length) T0))) p = pts (fun e : T3 × T3 => ky e.1) (fun e => ky e.2) (nxR r) p := by
        unfold pts nxR; rw [List.foldl_map]
      rw [e]
      exact Tells.eqI (by simp -implicitDefEqProofs)
  · intro _
    have e : ds.foldl (fun p r => pts (fun e : T3 × T3 => ky e.1) (fun e => ky e.2) (nxR r) p) [] = nxP ds := by
      unfold nxP nxA pts
      rw [foldl_flat]
    rw [e]
    exact Tells.eqI (by simp -implicitDefEqProofs [immAt_K2])
theorem nxP_len (ds : Drw) : (nxP ds).length ≤ ds.flatten.length := by
  have : (nxP ds).length ≤ ([] : List ((Int × Int) × (Int × Int))).length + (nxA ds).length := pts_len (key := fun e : T3 × T3 => ky e.1) (val := fun e => ky e.2) (nxA ds) []
  rw [nxA_len] at this
  rwa [List.length_nil, Nat.zero_add] at this
theorem t2_imm' (b : Int × Int) : (t2 b).imm = true := rfl
theorem arrivals_is (ds : Drw) (h : ds.flatten.length ≤ 1000) : F_arrivals [encD ds] = .ok (encK2 t2 (cmsP ds)) := by
  have hn := next_is ds h
  have hi := immAt_K2 t2 t2_imm' (nxP ds)
  have hd := dItemsT_K2 t2 (nxP ds)
  have hl := nxP_len ds
  refine Tells.eq ?_
  simp only [F_arrivals, m_arrivals, runD]
  simp -implicitDefEqProofs [hn, hi, hd, encK2_nil t2]
  refine loop_thenF (fun p : List ((Int × Int) × (Int × Int)) => [some (0, encD ds), some (1, encK2 t2 p), none, none]) (fun x : (Int × Int) × (Int × Int) => D.tup [t2 x.1, t2 x.2]) (fun p e => pt p e.2 e.1) (fun j q => q.length ≤ j) (nxP ds) [] rfl rfl (Nat.le_refl _) ?_ ?_
  · intro j q x hx hq
    have hj := (List.getElem?_eq_some_iff.mp hx).1
    refine ⟨by have := pt_len q x.2 x.1; omega, ?_⟩
    have e := dSet_K2 t2 q x.2 x.1 (sizeLine_lt (by omega))
    simp -implicitDefEqProofs [e]
  · intro _
    exact Tells.eqI (by simp -implicitDefEqProofs [cmsP, pts])

/-! drawings whose passings are all unlike -/
structure WD (S : Nat) (ds : Drw) (C : List Crs) : Prop where
  di : DI S ds C
  pm : ds.flatten.Perm (psg C)
  hd : ∀ c ∈ C, c.c = 1 ∨ c.c = -1
section
variable {S : Nat} {ds : Drw} {C : List Crs}
theorem psg_ky (C : List Crs) (h : (C.map (·.n)).Nodup) : ((psg C).map ky).Nodup := by
  induction C with
  | nil => exact List.nodup_nil
  | cons c C ih =>
    obtain ⟨h1, h2⟩ := List.nodup_cons.mp h
    show ((c.n, (0 : Int)) :: (c.n, (1 : Int)) :: (psg C).map ky).Nodup
    have hm : ∀ w : Int, (c.n, w) ∉ (psg C).map ky := fun w hm => by
      obtain ⟨x, hx, e⟩ := List.mem_map.mp hm
      unfold psg at hx
      obtain ⟨d, hd, hx⟩ := List.mem_flatMap.mp hx
      have hn : d.n = c.n := by
        rcases List.mem_cons.mp hx with hx | hx
        · rw [hx] at e; exact congrArg Prod.fst e
        · rw [List.mem_singleton.mp hx] at e; exact congrArg Prod.fst e
      exact h1 (by show c.n ∈ _; rw [← hn]; exact List.mem_map_of_mem (f := (·.n)) hd)
    refine List.nodup_cons.mpr ⟨fun hz => ?_, List.nodup_cons.mpr ⟨hm 1, ih h2⟩⟩
    rcases List.mem_cons.mp hz with e | hz
    · have e := congrArg Prod.snd e
      have e : (0 : Int) = 1 := e
      omega
    · exact hm 0 hz
theorem WD.uk (h : WD S ds C) : UK ds := (h.pm.map ky).nodup_iff.mpr (psg_ky C h.di.nd)
theorem WD.mem (h : WD S ds C) {x : T3} : x ∈ ds.flatten ↔ ∃ c ∈ C, x = ⟨c.n, 0, c.c⟩ ∨ x = ⟨c.n, 1, c.c⟩ := by
  rw [h.pm.mem_iff]
  unfold psg
  simp only [List.mem_flatMap, List.mem_cons, List.not_mem_nil, or_false]
theorem psg_len (C : List Crs) : (psg C).length = 2 * C.length := by
  induction C with
  | nil => rfl
  | cons c C ih =>
    show (_ :: _ :: psg C).length = _
    rw [List.length_cons, List.length_cons, ih, List.length_cons]; omega
theorem WD.len (h : WD S ds C) : ds.flatten.length = 2 * C.length := by rw [h.pm.length_eq, psg_len]
theorem WD.way (h : WD S ds C) {x : T3} (hx : x ∈ ds.flatten) : x.b = 0 ∨ x.b = 1 := by
  obtain ⟨c, _, e⟩ := h.mem.mp hx
  rcases e with e | e <;> rw [e]
  · exact .inl rfl
  · exact .inr rfl
/-! the spots -/
def rowK (x : List T3 × Nat) : List (Int × Int) := (if x.1 = [] then [((x.2 : Int), (2 : Int))] else []) ++ x.1.map ky
def spk (ds : Drw) : List (Int × Int) := ds.zipIdx.flatMap rowK
theorem pts_fresh {κ β α : Type} [DecidableEq κ] {key : α → κ} {val : α → β} : ∀ (xs : List α) (p : List (κ × β)), (p.map (·.1) ++ xs.map key).Nodup → (pts key val xs p).map (·.1) = p.map (·.1) ++ xs.map key
  | [], p, _ => by show p.map (·.1) = _; simp
  | x :: xs, p, h => by
    show (pts key val xs (pt p (key x) (val x))).map (·.1) = _
    have hx : key x ∉ p.map (·.1) := fun hm => by
      rw [List.nodup_append] at h
      exact h.2.2 _ hm _ (by rw [List.map_cons]; exact List.mem_cons_self) rfl
    have e : (pt p (key x) (val x)).map (·.1) = p.map (·.1) ++ [key x] := by rw [pt_keys, if_neg hx]
    rw [pts_fresh xs _ (by rw [e, List.append_assoc]; exact h), e, List.append_assoc]; rfl
theorem rowSp_keys (p : Spts) (x : List T3 × Nat) (h : (p.map (·.1) ++ rowK x).Nodup) : (rowSp p x).map (·.1) = p.map (·.1) ++ rowK x := by
  unfold rowSp rowK at *
  by_cases e : x.1 = []
  · rw [if_pos e] at h ⊢
    rw [if_pos e]
    rw [e] at h ⊢
    have hx : ((x.2 : Int), (2 : Int)) ∉ p.map (·.1) := fun hm => by
      rw [List.nodup_append] at h
      exact h.2.2 _ hm _ List.mem_cons_self rfl
    show (pt p _ _).map (·.1) = _
    rw [pt_keys, if_neg hx]; rfl
  · rw [if_neg e] at h ⊢
    rw [if_neg e]
    exact pts_fresh (key := fun y : T3 => (y.a, y.b)) (val := fun _ => (x.2 : Int)) x.1 p h
theorem foldSp_keys : ∀ (xs : List (List T3 × Nat)) (p : Spts), (p.map (·.1) ++ xs.flatMap rowK).Nodup → (xs.foldl rowSp p).map (·.1) = p.map (·.1) ++ xs.flatMap rowK
  | [], p, _ => by simp
  | x :: xs, p, h => by
    rw [List.flatMap_cons, ← List.append_assoc] at h
    have e := rowSp_keys p x (List.nodup_append.mp h).1
    rw [List.foldl_cons, foldSp_keys xs _ (by rw [e]; exact h), e, List.flatMap_cons, List.append_assoc]
theorem flatMap_perm {α β : Type} (f g : α → List β) : ∀ l : List α, (l.flatMap fun x => f x ++ g x).Perm (l.flatMap f ++ l.flatMap g)
  | [] => .refl _
  | x :: l => by
    rw [List.flatMap_cons, List.flatMap_cons, List.flatMap_cons, List.append_assoc, List.append_assoc]
    refine List.Perm.append_left _ ?_
    refine ((flatMap_perm f g l).append_left (g x)).trans ?_
    rw [← List.append_assoc, ← List.append_assoc]
    exact List.perm_append_comm.append_right _
theorem WD.spk_nodup (h : WD S ds C) : (spk ds).Nodup := by
  have hp := flatMap_perm (fun x : List T3 × Nat => if x.1 = [] then [((x.2 : Int), (2 : Int))] else []) (fun x => x.1.map ky) ds.zipIdx
  have e2 : ds.zipIdx.flatMap (fun x => x.1.map ky) = ds.flatten.map ky := by
    have : ∀ (ds : Drw) (n : Nat), (ds.zipIdx n).flatMap (fun x => x.1.map ky) = ds.flatten.map ky := by
      intro ds
      induction ds with
      | nil => intro n; rfl
      | cons r ds ih => intro n; rw [List.zipIdx_cons, List.flatMap_cons, ih, List.flatten_cons, List.map_append]
    exact this ds 0
  have hp2 : (spk ds).Perm _ := hp
  rw [e2] at hp2
  refine hp2.nodup_iff.mpr (List.nodup_append.mpr ⟨?_, h.uk, ?_⟩)
  · have : ∀ (ds : Drw) (n : Nat), ((ds.zipIdx n).flatMap fun x : List T3 × Nat => if x.1 = [] then [((x.2 : Int), (2 : Int))] else []).Nodup ∧ ∀ k ∈ ((ds.zipIdx n).flatMap fun x : List T3 × Nat => if x.1 = [] then [((x.2 : Int), (2 : Int))] else []), (n : Int) ≤ k.1 := by
      intro ds
      induction ds with
      | nil => intro n; exact ⟨List.nodup_nil, fun k hk => by cases hk⟩
      | cons r ds ih =>
        intro n
        rw [List.zipIdx_cons, List.flatMap_cons]
        obtain ⟨i1, i2⟩ := ih (n + 1)
        by_cases e : r = []
        · rw [if_pos e]
          refine ⟨List.nodup_cons.mpr ⟨fun hm => ?_, i1⟩, fun k hk => ?_⟩
          · have := i2 _ hm; dsimp only at this; omega
          · rcases List.mem_cons.mp hk with e | hk
            · rw [e]; exact Int.le_refl _
            · have := i2 _ hk; omega
        · rw [if_neg e]
          exact ⟨i1, fun k hk => by have := i2 k hk; omega⟩
    exact (this ds 0).1
  · intro a ha b hb e
    obtain ⟨x, _, hx⟩ := List.mem_flatMap.mp ha
    split at hx
    · obtain ⟨y, hy, e2⟩ := List.mem_map.mp hb
      have hw := h.way hy
      rw [List.mem_singleton.mp hx] at e
      rw [← e2] at e
      have e3 : (2 : Int) = y.b := congrArg Prod.snd e
      omega
    · cases hx
theorem WD.spts_keys (h : WD S ds C) : (spts ds).map (·.1) = spk ds := by
  exact foldSp_keys ds.zipIdx [] h.spk_nodup
theorem spk_mem {k : Int × Int} : k ∈ spk ds ↔ (∃ x ∈ ds.flatten, ky x = k) ∨ ∃ i : Nat, ds[i]? = some [] ∧ k = ((i : Int), 2) := by
  unfold spk rowK
  rw [List.mem_flatMap]
  constructor
  · rintro ⟨x, hx, hk⟩
    rcases List.mem_append.mp hk with hk | hk
    · split at hk
      · rename_i e
        have := zip_mem hx
        rw [e] at this
        exact .inr ⟨x.2, this, List.mem_singleton.mp hk⟩
      · cases hk
    · obtain ⟨y, hy, e⟩ := List.mem_map.mp hk
      exact .inl ⟨y, List.mem_flatten.mpr ⟨x.1, List.mem_of_getElem? (zip_mem hx), hy⟩, e⟩
  · rintro (⟨x, hx, e⟩ | ⟨i, hi, e⟩)
    · obtain ⟨r, hr, hx⟩ := List.mem_flatten.mp hx
      obtain ⟨i, hi⟩ := List.mem_iff_getElem?.mp hr
      exact ⟨(r, i), List.mem_iff_getElem?.mpr ⟨i, by rw [List.getElem?_zipIdx, hi]; simp⟩, List.mem_append_right _ (e ▸ List.mem_map_of_mem hx)⟩
    · refine ⟨([], i), List.mem_iff_getElem?.mpr ⟨i, by rw [List.getElem?_zipIdx, hi]; simp⟩, ?_⟩
      rw [e]; simp
def dbl (k : Int × Int) : List T3 := [⟨k.1, k.2, 0⟩, ⟨k.1, k.2, 1⟩]
theorem dbl_nodup {ks : List (Int × Int)} (h : ks.Nodup) : (ks.flatMap dbl).Nodup := by
  induction ks with
  | nil => exact List.nodup_nil
  | cons k ks ih =>
    obtain ⟨h1, h2⟩ := List.nodup_cons.mp h
    show ((⟨k.1, k.2, 0⟩ : T3) :: ⟨k.1, k.2, 1⟩ :: ks.flatMap dbl).Nodup
    have hm : ∀ s : Int, (⟨k.1, k.2, s⟩ : T3) ∉ ks.flatMap dbl := fun s hm => by
      obtain ⟨j, hj, hx⟩ := List.mem_flatMap.mp hm
      have : k = j := by
        rcases List.mem_cons.mp hx with e | hx
        · injection e with e1 e2 _; exact Prod.ext e1 e2
        · have e := List.mem_singleton.mp hx
          injection e with e1 e2 _; exact Prod.ext e1 e2
      exact h1 (this ▸ hj)
    refine List.nodup_cons.mpr ⟨fun hz => ?_, List.nodup_cons.mpr ⟨hm 1, ih h2⟩⟩
    rcases List.mem_cons.mp hz with e | hz
    · injection e with _ _ e; cases e
    · exact hm 0 hz
theorem dbl_mem {ks : List (Int × Int)} {x : T3} : x ∈ ks.flatMap dbl ↔ ky x ∈ ks ∧ (x.c = 0 ∨ x.c = 1) := by
  rw [List.mem_flatMap]
  constructor
  · rintro ⟨k, hk, hx⟩
    rcases List.mem_cons.mp hx with e | hx
    · rw [e]; exact ⟨hk, .inl rfl⟩
    · rw [List.mem_singleton.mp hx]; exact ⟨hk, .inr rfl⟩
  · rintro ⟨h, e⟩
    refine ⟨_, h, ?_⟩
    obtain ⟨a, b, c⟩ := x
    rcases e with e | e <;> (dsimp only at e; subst e)
    · exact List.mem_cons_self
    · exact List.mem_cons_of_mem _ List.mem_cons_self
/-- the sides, rising -/
def sdl (ds : Drw) : List T3 := sorted ((spk ds).flatMap dbl)
theorem WD.sdl_up (h : WD S ds C) : (sdl ds).Pairwise fun a b => Dat.lt a b = true := sorted_strict (dbl_nodup h.spk_nodup)
theorem sdl_mem {x : T3} : x ∈ sdl ds ↔ ky x ∈ spk ds ∧ (x.c = 0 ∨ x.c = 1) := by
  unfold sdl
  rw [(sorted_perm _).mem_iff, dbl_mem]
theorem spk_len : ∀ (xs : List (List T3 × Nat)), (xs.flatMap rowK).length ≤ xs.length + (xs.map fun x => x.1.length).sum
  | [] => Nat.le_refl _
  | x :: xs => by
    have h := spk_len xs
    rw [List.flatMap_cons, List.length_append, List.length_cons, List.map_cons, List.sum_cons]
    have : (rowK x).length ≤ 1 + x.1.length := by
      unfold rowK
      rw [List.length_append, List.length_map]
      split <;> simp
    omega
theorem WD.spk_le (h : WD S ds C) : (spk ds).length ≤ S + 2 * C.length := by
  have h1 := spk_len ds.zipIdx
  have e : (ds.zipIdx.map fun x => x.1.length).sum = ds.flatten.length := by
    rw [List.length_flatten]
    congr 1
    have : ∀ (ds : Drw) (n : Nat), ((ds.zipIdx n).map fun x => x.1.length) = ds.map List.length := by
      intro ds
      induction ds with
      | nil => intro n; rfl
      | cons r ds ih => intro n; rw [List.zipIdx_cons, List.map_cons, ih, List.map_cons]
    exact this ds 0
  rw [e, h.len, List.length_zipIdx, h.di.len] at h1
  exact h1
theorem dbl_len (ks : List (Int × Int)) : (ks.flatMap dbl).length = 2 * ks.length := by
  induction ks with
  | nil => rfl
  | cons k ks ih => rw [List.flatMap_cons, List.length_append, ih, List.length_cons]; show 2 + _ = _; omega
theorem WD.sdl_le (h : WD S ds C) : (sdl ds).length ≤ 2 * (S + 2 * C.length) := by
  unfold sdl
  rw [(sorted_perm _).length_eq, dbl_len]
  have := h.spk_le
  omega
theorem spotsof_is (h : WD S ds C) (hS : S ≤ 3) (hC : C.length ≤ 12) : F_spots_of [encD ds] = .ok (.lst ((sorted (spk ds)).map t2)) := by
  have h1 := spots_is ds (by rw [h.di.len]; omega) (fun r hr => by have := h.di.cnt r hr; omega)
  have h2 := dKeys_K2 D.int (spts ds)
  have h3 := immAt_K2 D.int (fun _ => rfl) (spts ds)
  have h4 := gSort_t2 (spk ds)
  have e : (spts ds).map (fun x => t2 x.1) = (spk ds).map t2 := by rw [← h.spts_keys, List.map_map]; rfl
  rw [e] at h2
  simp only [F_spots_of, m_spots_of, runD]
  generalize (spk ds).map t2 = vs at *
  simp -implicitDefEqProofs [h1, h2, h3, h4]
theorem sides_is (h : WD S ds C) (hS : S ≤ 3) (hC : C.length ≤ 12) : F_sides_of [encD ds] = .ok (encR (sdl ds)) := by
  have h1 := spotsof_is h hS hC
  have hl : (sorted (spk ds)).length ≤ 100 := by rw [(sorted_perm _).length_eq]; have := h.spk_le; omega
  have h4 := gSort_t3 ((sorted (spk ds)).flatMap dbl)
  have e4 : sorted ((sorted (spk ds)).flatMap dbl) = sdl ds := sorted_congr ((sorted_perm _).flatMap_right _)
  rw [e4] at h4
  have hi : immAt 1 (.lst ((sorted (spk ds)).map t2)) = true := by simp
  generalize sorted (spk ds) = ks at *
  refine Tells.eq ?_
  simp only [F_sides_of, m_sides_of, runD]
  simp -implicitDefEqProofs [h1]
  refine loop_thenF (fun G : List T3 => [some (0, encD ds), some (1, encR G), none]) t2 (fun G k => G ++ dbl k) (fun i G => G.length = 2 * i) ks [] rfl rfl rfl ?_ ?_
  · intro i G k hk hG
    have hi := (List.getElem?_eq_some_iff.mp hk).1
    have hz : G.length < sizeLine := sizeLine_lt (by omega)
    have hz2 : G.length + 1 < sizeLine := sizeLine_lt (by omega)
    refine ⟨by simp [hG, dbl]; omega, ?_⟩
    simp -implicitDefEqProofs [hz, hz2, encR, dbl, t3]
  · intro _
    have e : ks.foldl (fun G k => G ++ dbl k) [] = ks.flatMap dbl := by
      have : ∀ (ks : List (Int × Int)) (G : List T3), ks.foldl (fun G k => G ++ dbl k) G = G ++ ks.flatMap dbl := by
        intro ks
        induction ks with
        | nil => intro G; simp
        | cons k ks ih => intro G; rw [List.foldl_cons, ih, List.flatMap_cons, List.append_assoc]
      rw [this]; rfl
    rw [e]
    refine Tells.eqI ?_
    generalize ks.flatMap dbl = xs at *
    simp -implicitDefEqProofs [encR, h4]
end

/-! groups: things joined by pairs -/
section
variable {α β : Type} [DecidableEq α]
def mrg (a b : α) (h : α → α) : α → α := fun t => if h t = h b then h a else h t
def fits (h : α → α) (g : α → β) : Prop := ∀ t u, h t = h u → g t = g u
theorem mrg_fits {a b : α} {h : α → α} {g : α → β} (hf : fits h g) (e : g a = g b) : fits (mrg a b h) g := fun t u ht => by
  unfold mrg at ht
  by_cases h1 : h t = h b <;> by_cases h2 : h u = h b
  · rw [hf t b h1, hf u b h2]
  · rw [if_pos h1, if_neg h2] at ht
    rw [hf t b h1, ← e, hf a u ht]
  · rw [if_neg h1, if_pos h2] at ht
    rw [hf t a ht, e, hf u b h2]
  · rw [if_neg h1, if_neg h2] at ht
    exact hf t u ht
theorem mrg_keeps {a b : α} {h : α → α} {t u : α} (e : h t = h u) : mrg a b h t = mrg a b h u := by unfold mrg; rw [e]
theorem mrg_joins {a b : α} {h : α → α} : mrg a b h a = mrg a b h b := by
  unfold mrg
  rw [if_pos (rfl : h b = h b)]
  split <;> rfl
def mrgs (E : List (α × α)) (h : α → α) : α → α := E.foldl (fun h e => mrg e.1 e.2 h) h
theorem mrgs_fits : ∀ (E : List (α × α)) {h : α → α} {g : α → β}, fits h g → (∀ e ∈ E, g e.1 = g e.2) → fits (mrgs E h) g
  | [], _, _, hf, _ => hf
  | e :: E, h, g, hf, he => mrgs_fits E (mrg_fits hf (he e List.mem_cons_self)) fun x hx => he x (List.mem_cons_of_mem _ hx)
theorem mrgs_keeps : ∀ (E : List (α × α)) {h : α → α} {t u : α}, h t = h u → mrgs E h t = mrgs E h u
  | [], _, _, _, e => e
  | p :: E, h, t, u, e => mrgs_keeps E (h := mrg p.1 p.2 h) (mrg_keeps e)
theorem mrgs_joins : ∀ (E : List (α × α)) {h : α → α}, ∀ e ∈ E, mrgs E h e.1 = mrgs E h e.2
  | [], _, e, he => by cases he
  | p :: E, h, e, he => by
    rcases List.mem_cons.mp he with rfl | he
    · exact mrgs_keeps E (h := mrg e.1 e.2 h) mrg_joins
    · exact mrgs_joins E (h := mrg p.1 p.2 h) e he
theorem id_fits (g : α → β) : fits id g := fun t u e => by rw [show t = u from e]
/-- the things of a home -/
def cls (xs : List α) (h : α → α) (v : α) : List α := xs.filter fun t => decide (h t = v)
theorem cls_mem {xs : List α} {h : α → α} {v x : α} : x ∈ cls xs h v ↔ x ∈ xs ∧ h x = v := by
  unfold cls
  rw [List.mem_filter, decide_eq_true_eq]
theorem cls_len (xs : List α) (h : α → α) (v : α) : (cls xs h v).length ≤ xs.length := List.length_filter_le _ _
theorem cls_nd {xs : List α} {h : α → α} {K : List α} (hK : K.Nodup) (mK : ∀ v, v ∈ K ↔ ∃ t ∈ xs, h t = v) : (K.map (cls xs h)).Nodup := by
  refine List.pairwise_map.mpr (List.Pairwise.imp_of_mem (fun {a b} ha hb hab e => hab ?_) hK)
  obtain ⟨t, ht, e1⟩ := (mK a).mp ha
  have m : t ∈ cls xs h b := by rw [← e]; exact cls_mem.mpr ⟨ht, e1⟩
  rw [← e1, ← (cls_mem.mp m).2]
/-! the dict of homes -/
def homeP (xs : List α) (h : α → α) : List (α × α) := xs.map fun t => (t, h t)
theorem homeP_keys (xs : List α) (h : α → α) : (homeP xs h).map (·.1) = xs := by unfold homeP; rw [List.map_map]; exact List.map_id _
theorem home_len (xs : List α) (h : α → α) : (homeP xs h).length = xs.length := by unfold homeP; simp
theorem lk_home {xs : List α} (h : α → α) {t : α} (ht : t ∈ xs) : lk (homeP xs h) t = some (h t) := by
  induction xs with
  | nil => cases ht
  | cons x xs ih =>
    show lk ((x, h x) :: homeP xs h) t = _
    rw [lk_cons]
    by_cases e : x = t
    · subst e; rw [if_pos rfl]
    · rw [if_neg e]
      rcases List.mem_cons.mp ht with e2 | ht
      · exact absurd e2.symm e
      · exact ih ht
theorem pt_home {xs : List α} (h : α → α) {t : α} (ht : t ∈ xs) (v : α) : pt (homeP xs h) t v = homeP xs (fun u => if u = t then v else h u) := by
  rw [pt_in v (by rw [homeP_keys]; exact ht)]
  unfold homeP
  rw [List.map_map]
  refine List.map_congr_left fun u _ => ?_
  by_cases e : u = t
  · subst e; simp
  · simp [e]
theorem pt_home_new {xs : List α} (h : α → α) {t : α} (ht : t ∉ xs) : pt (homeP xs h) t (h t) = homeP (xs ++ [t]) h := by
  rw [pt_out _ (by rw [homeP_keys]; exact ht)]
  unfold homeP
  rw [List.map_append]; rfl
/-- the groups of the things so far -/
structure GI (h : α → α) (xs : List α) (G : List (α × List α)) : Prop where
  nd : (G.map (·.1)).Nodup
  mem : ∀ v, v ∈ G.map (·.1) ↔ ∃ t ∈ xs, h t = v
  val : ∀ x ∈ G, x.2 = cls xs h x.1
  len : G.length ≤ xs.length
theorem cls_snoc (xs : List α) (h : α → α) (t v : α) : cls (xs ++ [t]) h v = if h t = v then cls xs h v ++ [t] else cls xs h v := by
  unfold cls
  rw [List.filter_append]
  by_cases e : h t = v
  · rw [if_pos e, List.filter_cons_of_pos (by simpa using e)]; simp
  · rw [if_neg e, List.filter_cons_of_neg (by simpa using e)]; simp
theorem GI.more {h : α → α} {xs : List α} {G : List (α × List α)} (g : GI h xs G) (t : α) : GI h (xs ++ [t]) (addK G (h t) t) := by
  unfold addK
  by_cases e : h t ∈ G.map (·.1)
  · rw [if_pos e]
    have ek : (G.map fun x => if x.1 = h t then (x.1, x.2 ++ [t]) else x).map (·.1) = G.map (·.1) := by
      rw [List.map_map]
      refine List.map_congr_left fun x _ => ?_
      by_cases e : x.1 = h t <;> simp [e]
    refine ⟨by rw [ek]; exact g.nd, fun v => ?_, fun x hx => ?_, by rw [List.length_map, List.length_append]; have := g.len; omega⟩
    · rw [ek, g.mem]
      constructor
      · rintro ⟨t, ht, e⟩; exact ⟨t, List.mem_append_left _ ht, e⟩
      · rintro ⟨u, hu, e2⟩
        rcases List.mem_append.mp hu with hu | hu
        · exact ⟨u, hu, e2⟩
        · rw [← e2, List.mem_singleton.mp hu]
          exact (g.mem _).mp e
    · obtain ⟨y, hy, rfl⟩ := List.mem_map.mp hx
      by_cases ey : y.1 = h t
      · rw [if_pos ey]
        show y.2 ++ [t] = cls (xs ++ [t]) h y.1
        rw [cls_snoc, if_pos ey.symm, g.val y hy]
      · rw [if_neg ey, cls_snoc, if_neg (Ne.symm ey), g.val y hy]
  · rw [if_neg e]
    refine ⟨?_, fun v => ?_, fun x hx => ?_, by rw [List.length_append, List.length_append]; have := g.len; simp; omega⟩
    · rw [List.map_append]
      refine List.nodup_append.mpr ⟨g.nd, by simp, fun a ha b hb eab => ?_⟩
      rw [eab, List.mem_singleton.mp hb] at ha
      exact e ha
    · rw [List.map_append, List.mem_append, g.mem]
      constructor
      · rintro (⟨u, hu, e2⟩ | e2)
        · exact ⟨u, List.mem_append_left _ hu, e2⟩
        · exact ⟨t, List.mem_append_right _ List.mem_cons_self, (List.mem_singleton.mp e2).symm⟩
      · rintro ⟨u, hu, e2⟩
        rcases List.mem_append.mp hu with hu | hu
        · exact .inl ⟨u, hu, e2⟩
        · right
          rw [← e2, List.mem_singleton.mp hu]; exact List.mem_cons_self
    · rcases List.mem_append.mp hx with hx | hx
      · have hne : ¬ h t = x.1 := fun z => e (by rw [z]; exact List.mem_map_of_mem hx)
        rw [cls_snoc, if_neg hne, g.val x hx]
      · rw [List.mem_singleton.mp hx]
        show [t] = cls (xs ++ [t]) h (h t)
        rw [cls_snoc, if_pos rfl]
        have : cls xs h (h t) = [] := by
          cases hc : cls xs h (h t) with
          | nil => rfl
          | cons x l =>
            have hm : x ∈ cls xs h (h t) := by rw [hc]; exact List.mem_cons_self
            obtain ⟨h1, h2⟩ := cls_mem.mp hm
            exact absurd ((g.mem _).mpr ⟨x, h1, h2⟩) e
        rw [this]; rfl
end
theorem take_snoc {α : Type} {xs : List α} {i : Nat} {t : α} (h : xs[i]? = some t) : xs.take (i + 1) = xs.take i ++ [t] := by rw [List.take_succ, h]; rfl
theorem not_take {α : Type} {xs : List α} (hn : xs.Nodup) {i : Nat} {t : α} (h : xs[i]? = some t) : t ∉ xs.take i := fun hm => by
  obtain ⟨hi, e⟩ := List.getElem?_eq_some_iff.mp h
  obtain ⟨j, hj, e2⟩ := List.mem_iff_getElem.mp hm
  have hj2 : j < i := by simp at hj; omega
  rw [List.getElem_take] at e2
  exact List.pairwise_iff_getElem.mp hn j i (by omega) hi hj2 (by rw [e2, e])
def encE (e : T3 × T3) : D := .tup [t3 e.1, t3 e.2]
theorem grouped_is (xs : List T3) (hx : xs.length ≤ 500) (hs : xs.Pairwise fun a b => Dat.lt a b = true) (E : List (T3 × T3)) (hE : ∀ e ∈ E, e.1 ∈ xs ∧ e.2 ∈ xs) : ∃ K : List T3, K.Nodup ∧ (∀ v, v ∈ K ↔ ∃ t ∈ xs, mrgs E id t = v) ∧ F_grouped [.lst (xs.map t3), .lst (E.map encE)] = .ok (encD (sorted (K.map (cls xs (mrgs E id))))) := by
  have hn : xs.Nodup := hs.imp fun {a b} h e => by rw [e, Dat.irr] at h; cases h
  have main : Tells (F_grouped [.lst (xs.map t3), .lst (E.map encE)]) fun d => ∃ G : Grp3, GI (mrgs E id) xs G ∧ d = encD (sorted (G.map (·.2))) := by
    simp only [F_grouped, m_grouped, runD]
    simp -implicitDefEqProofs [encK3_nil t3]
    refine loop_then (fun k : Nat => [some (0, .lst (xs.map t3)), some (0, .lst (E.map encE)), some (1, encK3 t3 (homeP (xs.take k) id)), none, none, none, none, none, none, none]) t3 (fun i k => k = i) xs 0 rfl rfl rfl ?_ ?_
    · intro i k t ht e
      subst e
      have hk := (List.getElem?_eq_some_iff.mp ht).1
      have hd := dSet_K3 t3 (homeP (xs.take k) id) t t (sizeLine_lt (by rw [home_len]; simp; omega))
      have hp := pt_home_new (id : T3 → T3) (not_take hn ht)
      rw [← take_snoc ht] at hp
      refine ⟨k + 1, rfl, ?_⟩
      simp -implicitDefEqProofs [hd]
      exact congrArg (encK3 t3) hp
    · intro k e
      subst e
      rw [List.take_length]
      simp -implicitDefEqProofs
      refine loop_thenF (fun h : T3 → T3 => [some (0, .lst (xs.map t3)), some (0, .lst (E.map encE)), some (1, encK3 t3 (homeP xs h)), none, none, none, none, none, none, none]) encE (fun h e => mrg e.1 e.2 h) (fun _ _ => True) E id rfl rfl trivial ?_ ?_
      · intro i h e he _
        obtain ⟨ha, hb⟩ := hE e (List.mem_of_getElem? he)
        have g1 := gDGet_K3 t3 (lk_home h ha)
        have g2 := gDGet_K3 t3 (lk_home h hb)
        have gn : gNe (t3 (h e.1)) (t3 (h e.2)) = .ok (.bl (!decide (h e.1 = h e.2))) := gNe_enc (α := T3) _ _ (by decide)
        refine ⟨trivial, ?_⟩
        by_cases hab : h e.1 = h e.2
        · have hm : mrg e.1 e.2 h = h := by
            funext t
            unfold mrg
            split
            · rename_i h1; rw [h1, hab]
            · rfl
          rw [hm]
          rw [decide_eq_true hab] at gn
          simp -implicitDefEqProofs [encE, g1, g2, gn]
        · refine Tells.eq ?_
          rw [decide_eq_false hab] at gn
          simp -implicitDefEqProofs [encE, g1, g2, gn]
          refine loop_then (fun m : Nat => [some (0, .lst (xs.map t3)), some (0, .lst (E.map encE)), some (1, encK3 t3 (homeP xs fun u => if u ∈ xs.take m ∧ h u = h e.2 then h e.1 else h u)), none, some (0, t3 e.1), some (0, t3 e.2), some (0, t3 (h e.1)), some (0, t3 (h e.2)), none, none]) t3 (fun i m => m = i) xs 0 rfl (by simp) rfl ?_ ?_
          · intro i m t ht em
            subst em
            have hmem := List.mem_of_getElem? ht
            have g3 := gDGet_K3 t3 (lk_home (fun u => if u ∈ xs.take m ∧ h u = h e.2 then h e.1 else h u) hmem)
            have e0 : (if t ∈ xs.take m ∧ h t = h e.2 then h e.1 else h t) = h t := if_neg fun z => not_take hn ht z.1
            rw [e0] at g3
            have ge : gEq (t3 (h t)) (t3 (h e.2)) = .ok (.bl (decide (h t = h e.2))) := gEq_enc (α := T3) _ _ (by decide)
            refine ⟨m + 1, rfl, ?_⟩
            by_cases ht2 : h t = h e.2
            · have hd := dSet_K3 t3 (homeP xs fun u => if u ∈ xs.take m ∧ h u = h e.2 then h e.1 else h u) t (h e.1) (sizeLine_lt (by rw [home_len]; omega))
              rw [pt_home _ hmem] at hd
              have ef : (fun u => if u = t then h e.1 else if u ∈ xs.take m ∧ h u = h e.2 then h e.1 else h u) = fun u => if u ∈ xs.take (m + 1) ∧ h u = h e.2 then h e.1 else h u := by
                funext u
                rw [take_snoc ht]
                by_cases e1 : u = t
                · subst e1; rw [if_pos rfl, if_pos ⟨List.mem_append_right _ List.mem_cons_self, ht2⟩]
                · rw [if_neg e1]
                  by_cases e2 : u ∈ xs.take m ∧ h u = h e.2
                  · rw [if_pos e2, if_pos ⟨List.mem_append_left _ e2.1, e2.2⟩]
                  · rw [if_neg e2, if_neg fun z => e2 ⟨(List.mem_append.mp z.1).elim id fun z2 => absurd (List.mem_singleton.mp z2) e1, z.2⟩]
              rw [ef] at hd
              rw [decide_eq_true ht2] at ge
              simp -implicitDefEqProofs [g3, ge, hd]
            · have ef : (fun u => if u ∈ xs.take (m + 1) ∧ h u = h e.2 then h e.1 else h u) = fun u => if u ∈ xs.take m ∧ h u = h e.2 then h e.1 else h u := by
                funext u
                rw [take_snoc ht]
                by_cases e2 : u ∈ xs.take m ∧ h u = h e.2
                · rw [if_pos e2, if_pos ⟨List.mem_append_left _ e2.1, e2.2⟩]
                · rw [if_neg e2, if_neg fun z => e2 ⟨(List.mem_append.mp z.1).elim id fun z2 => absurd z.2 (by rw [List.mem_singleton.mp z2]; exact ht2), z.2⟩]
              rw [ef]
              rw [decide_eq_false ht2] at ge
              simp -implicitDefEqProofs [g3, ge]
          · intro m em
            subst em
            have ef : homeP xs (fun u => if u ∈ xs.take xs.length ∧ h u = h e.2 then h e.1 else h u) = homeP xs (mrg e.1 e.2 h) := by
              unfold homeP
              refine List.map_congr_left fun u hu => ?_
              show (u, if u ∈ xs.take xs.length ∧ h u = h e.2 then h e.1 else h u) = (u, if h u = h e.2 then h e.1 else h u)
              rw [List.take_length]
              by_cases e2 : h u = h e.2
              · rw [if_pos ⟨hu, e2⟩, if_pos e2]
              · rw [if_neg fun z : u ∈ xs ∧ h u = h e.2 => e2 z.2, if_neg e2]
            rw [ef]
            exact Tells.eqI (by simp -implicitDefEqProofs)
      · intro _
        have em : E.foldl (fun h e => mrg e.1 e.2 h) id = mrgs E id := rfl
        rw [em]
        generalize mrgs E id = h
        simp -implicitDefEqProofs [encK3_nil encR]
        refine loop_then (fun G : Grp3 => [some (0, .lst (xs.map t3)), some (0, .lst (E.map encE)), some (1, encK3 t3 (homeP xs h)), none, none, none, none, none, some (2, encK3 encR G), none]) t3 (fun i G => GI h (xs.take i) G) xs [] rfl rfl ⟨by simp, fun v => by simp, fun x hx => absurd hx List.not_mem_nil, Nat.zero_le _⟩ ?_ ?_
        · intro i G t ht g
          have g3 := gDGet_K3 t3 (lk_home h (List.mem_of_getElem? ht))
          have htl : (xs.take i).length ≤ 500 := by simp; omega
          have hss := mSetdAppT_G (j := 8) (mk := mOp gDGet (mVar 2) (mVar 3)) (mx := mImm (mVar 3)) (env := [some (0, .lst (xs.map t3)), some (0, .lst (E.map encE)), some (1, encK3 t3 (homeP xs h)), some (0, t3 t), none, none, none, none, some (2, encK3 encR G), none]) (G := G) (v := h t) (t := t) rfl (by simp -implicitDefEqProofs [g3]) (by simp) g.nd (by have := g.len; omega) (fun x hx => by rw [g.val x hx]; have := cls_len (xs.take i) h x.1; omega)
          refine ⟨addK G (h t) t, by rw [take_snoc ht]; exact g.more t, ?_⟩
          simp -implicitDefEqProofs [hss]
        · intro G g
          rw [List.take_length] at g
          have hv := dValsT_K3 encR G
          have hlc := lc_all (t := tName 9) (env := [some (0, .lst (xs.map t3)), some (0, .lst (E.map encE)), some (1, encK3 t3 (homeP xs h)), none, none, none, none, none, some (0, encK3 encR G), none]) (me := fun env => (mVar 9) env >>= itemsL >>= immL >>= fun ds => gSort (.lst ds)) (fun x : T3 × List T3 => encR x.2) (fun x => encR x.2) G (fun x hx => by
            have hs2 := gSort_t3 x.2
            have hsx : sorted x.2 = x.2 := by rw [g.val x hx]; exact sorted_up (List.Pairwise.filter _ hs)
            rw [hsx] at hs2
            simp -implicitDefEqProofs [encR, hs2])
          have e1 : (G.map fun x => encR x.2) = (G.map (·.2)).map encR := by rw [List.map_map]; rfl
          have hl : (G.map fun x => encR x.2).length ≤ sizeLine := sizeLine_big (by rw [List.length_map]; have := g.len; omega)
          have hso := gSort_D (G.map (·.2))
          unfold encD at hso
          rw [← e1] at hso
          simp -implicitDefEqProofs [e_mLc]
          refine Tells.of ?_ ⟨G, g, rfl⟩
          unfold encD
          generalize (G.map fun x => encR x.2) = vs at *
          simp -implicitDefEqProofs at hlc
          simp -implicitDefEqProofs [hv, hlc, hl, hso]
  obtain ⟨_, h1, G, g, rfl⟩ := main
  refine ⟨G.map (·.1), g.nd, g.mem, ?_⟩
  have e1 : (G.map (·.1)).map (cls xs (mrgs E id)) = G.map (·.2) := by
    rw [List.map_map]
    exact List.map_congr_left fun x hx => (g.val x hx).symm
  rw [e1]
  exact h1

/-! the corners, the regions -/
def cor (o u : Int × Int) (n h : Int) : List (T3 × T3) := if h = 1 then [(⟨o.1, o.2, 1⟩, ⟨u.1, u.2, 0⟩), (⟨u.1, u.2, 1⟩, ⟨n, 0, 1⟩), (⟨n, 0, 0⟩, ⟨n, 1, 1⟩), (⟨n, 1, 0⟩, ⟨o.1, o.2, 0⟩)] else [(⟨u.1, u.2, 1⟩, ⟨o.1, o.2, 0⟩), (⟨o.1, o.2, 1⟩, ⟨n, 1, 1⟩), (⟨n, 1, 0⟩, ⟨n, 0, 1⟩), (⟨n, 0, 0⟩, ⟨u.1, u.2, 0⟩)]
def pr (P : List ((Int × Int) × (Int × Int))) (k : Int × Int) : Int × Int := (lk P k).getD (0, 0)
theorem corners_is (P : List ((Int × Int) × (Int × Int))) (n h : Int) {o u : Int × Int} (ho : lk P (n, 0) = some o) (hu : lk P (n, 1) = some u) : F_corners_at [.int n, .int h, encK2 t2 P] = .ok (.lst ((cor o u n h).map encE)) := by
  have g1 : gDGet (encK2 t2 P) (.tup [.int n, .int 0]) = .ok (t2 o) := gDGet_K2 t2 ho
  have g2 : gDGet (encK2 t2 P) (.tup [.int n, .int 1]) = .ok (t2 u) := gDGet_K2 t2 hu
  simp only [F_corners_at, m_corners_at, runD]
  by_cases e : h = 1
  · simp -implicitDefEqProofs [g1, g2, e, cor, encE, t3]
  · simp -implicitDefEqProofs [g1, g2, e, cor, encE, t3]
section
variable {S : Nat} {ds : Drw} {C : List Crs}
theorem handof_is (h : WD S ds C) (hC : C.length ≤ 12) {c : Crs} (hc : c ∈ C) : F_hand_of [encD ds, .int c.n] = .ok (.int c.c) := by
  have h1 := hands_is ds (by rw [h.len]; omega)
  have h2 := h.di.hand hc
  have h3 : gDGet (encP (hnds ds)) (.int c.n) = .ok (.int c.c) := gDGet_K D.int h2
  have h4 : gDNotIn (.int c.n) (encP (hnds ds)) = _ := gDNotIn_K D.int (hnds ds) c.n
  have h5 : immAt 1 (encP (hnds ds)) = true := immAt_K D.int (fun _ => rfl) (hnds ds)
  rw [h2] at h4
  simp only [F_hand_of, m_hand_of, runD]
  generalize encP (hnds ds) = hp at *
  simp -implicitDefEqProofs [h1, h3, h4, h5]
def corA (P : List ((Int × Int) × (Int × Int))) (c : Crs) : List (T3 × T3) := cor (pr P (c.n, 0)) (pr P (c.n, 1)) c.n c.c
theorem WD.over (h : WD S ds C) {c : Crs} (hc : c ∈ C) : (⟨c.n, 0, c.c⟩ : T3) ∈ ds.flatten := h.mem.mpr ⟨c, hc, .inl rfl⟩
theorem WD.under (h : WD S ds C) {c : Crs} (hc : c ∈ C) : (⟨c.n, 1, c.c⟩ : T3) ∈ ds.flatten := h.mem.mpr ⟨c, hc, .inr rfl⟩
theorem Cms.at (h : WD S ds C) {P : List ((Int × Int) × (Int × Int))} (hP : Cms ds P) {y : T3} (hy : y ∈ ds.flatten) : ∃ x, Rl ds x y ∧ lk P (ky y) = some (ky x) ∧ pr P (ky y) = ky x := by
  obtain ⟨x, hx⟩ := Rl.prev hy
  have := hP x y hx
  exact ⟨x, hx, this, by unfold pr; rw [this]; rfl⟩
theorem spk_of {x : T3} (hx : x ∈ ds.flatten) : ky x ∈ spk ds := spk_mem.mpr (.inl ⟨x, hx, rfl⟩)
theorem cor_in (h : WD S ds C) {P : List ((Int × Int) × (Int × Int))} (hP : Cms ds P) {c : Crs} (hc : c ∈ C) : ∀ e ∈ corA P c, e.1 ∈ sdl ds ∧ e.2 ∈ sdl ds := by
  obtain ⟨xo, ho, _, po⟩ := hP.at h (h.over hc)
  obtain ⟨xu, hu, _, pu⟩ := hP.at h (h.under hc)
  have so := spk_of ho.left
  have su := spk_of hu.left
  have s0 := spk_of (h.over hc)
  have s1 := spk_of (h.under hc)
  have e0 : ky ⟨c.n, 0, c.c⟩ = (c.n, 0) := rfl
  have e1 : ky ⟨c.n, 1, c.c⟩ = (c.n, 1) := rfl
  rw [e0] at po s0
  rw [e1] at pu s1
  unfold corA
  rw [po, pu]
  have key : ∀ (k : Int × Int), k ∈ spk ds → ∀ s : Int, s = 0 ∨ s = 1 → (⟨k.1, k.2, s⟩ : T3) ∈ sdl ds := fun k hk s hs => sdl_mem.mpr ⟨hk, hs⟩
  have a0 := key _ so 0 (.inl rfl)
  have a1 := key _ so 1 (.inr rfl)
  have b0 := key _ su 0 (.inl rfl)
  have b1 := key _ su 1 (.inr rfl)
  have c0 := key _ s0 0 (.inl rfl)
  have c1 := key _ s0 1 (.inr rfl)
  have d0 := key _ s1 0 (.inl rfl)
  have d1 := key _ s1 1 (.inr rfl)
  intro e he
  unfold cor at he
  split at he
  · simp only [List.mem_cons, List.not_mem_nil, or_false] at he
    rcases he with rfl | rfl | rfl | rfl
    · exact ⟨a1, b0⟩
    · exact ⟨b1, c1⟩
    · exact ⟨c0, d1⟩
    · exact ⟨d0, a0⟩
  · simp only [List.mem_cons, List.not_mem_nil, or_false] at he
    rcases he with rfl | rfl | rfl | rfl
    · exact ⟨b1, a0⟩
    · exact ⟨a1, d1⟩
    · exact ⟨d0, c1⟩
    · exact ⟨c0, b0⟩
theorem cor_len (o u : Int × Int) (n h : Int) : (cor o u n h).length = 4 := by
  unfold cor; split <;> rfl
theorem encE_imm (e : T3 × T3) : (encE e).imm = true := rfl
theorem regions_is (h : WD S ds C) (hS : S ≤ 3) (hC : C.length ≤ 12) : ∃ (L : List Crs) (K : List T3), L.Perm C ∧ K.Nodup ∧ (∀ v, v ∈ K ↔ ∃ t ∈ sdl ds, mrgs (L.flatMap (corA (cmsP ds))) id t = v) ∧ F_regions [encD ds] = .ok (encD (sorted (K.map (cls (sdl ds) (mrgs (L.flatMap (corA (cmsP ds))) id))))) := by
  obtain ⟨L, hL, hs⟩ := h.di.sorted
  have hP := cmsP_is h.uk
  have hfl : ds.flatten.length ≤ 1000 := by rw [h.len]; omega
  have hn := names_is ds hfl (by have := h.di.keys.length_eq; simp at this; omega)
  have hLl := hL.length_eq
  have e0 : ((L.map (·.n)).map D.int) = L.map fun c : Crs => D.int c.n := by rw [List.map_map]; rfl
  rw [hs, e0] at hn
  have har := arrivals_is ds hfl
  have hi2 := immAt_K2 t2 t2_imm' (cmsP ds)
  have hsd := sides_is h hS hC
  have hsl := h.sdl_le
  obtain ⟨K, k1, k2, hgr⟩ := grouped_is (sdl ds) (by omega) h.sdl_up (L.flatMap (corA (cmsP ds))) fun e he => by
    obtain ⟨c, hc, he⟩ := List.mem_flatMap.mp he
    exact cor_in h hP (hL.mem_iff.mp hc) e he
  refine ⟨L, K, hL, k1, k2, ?_⟩
  rw [show D.lst ((sdl ds).map t3) = encR (sdl ds) from rfl] at hgr
  have him := immAt_2D (sorted (K.map (cls (sdl ds) (mrgs (L.flatMap (corA (cmsP ds))) id))))
  have hi1 := immAt_1R (sdl ds)
  generalize encD (sorted (K.map (cls (sdl ds) (mrgs (L.flatMap (corA (cmsP ds))) id)))) = d at *
  refine Tells.eq ?_
  simp only [F_regions, m_regions, runD]
  simp -implicitDefEqProofs [har, hi2, hn]
  refine loop_thenF (fun E : List (T3 × T3) => [some (0, encD ds), some (1, encK2 t2 (cmsP ds)), some (1, .lst (E.map encE)), none]) (fun c : Crs => D.int c.n) (fun E c => E ++ corA (cmsP ds) c) (fun i E => E.length = 4 * i) L [] rfl rfl rfl ?_ ?_
  · intro i E c hc hE
    have hi := (List.getElem?_eq_some_iff.mp hc).1
    have hcC := hL.mem_iff.mp (List.mem_of_getElem? hc)
    have hh := handof_is h hC hcC
    obtain ⟨xo, _, lo, po⟩ := hP.at h (h.over hcC)
    obtain ⟨xu, _, lu, pu⟩ := hP.at h (h.under hcC)
    have hco := corners_is (cmsP ds) c.n c.c lo lu
    have e2 : cor (ky xo) (ky xu) c.n c.c = corA (cmsP ds) c := by
      unfold corA
      rw [show (c.n, (0 : Int)) = ky ⟨c.n, 0, c.c⟩ from rfl, show (c.n, (1 : Int)) = ky ⟨c.n, 1, c.c⟩ from rfl, po, pu]
    rw [e2] at hco
    have hl4 : (corA (cmsP ds) c).length = 4 := cor_len _ _ _ _
    have hia : immAt 1 (.lst ((corA (cmsP ds) c).map encE)) = true := by simp [encE_imm]
    have hia2 : immAll ((corA (cmsP ds) c).map encE) = true := by simp [encE_imm]
    have hz : E.length + 4 ≤ sizeLine := sizeLine_big (by omega)
    refine ⟨by simp [hE, hl4]; omega, ?_⟩
    have hl5 : ((corA (cmsP ds) c).map encE).length = 4 := by rw [List.length_map, hl4]
    rw [List.map_append]
    generalize (corA (cmsP ds) c).map encE = cs at *
    simp -implicitDefEqProofs [hh, hco, hia, hia2, hz, hl5]
  · intro _
    have e : L.foldl (fun E c => E ++ corA (cmsP ds) c) [] = L.flatMap (corA (cmsP ds)) := by
      have : ∀ (L : List Crs) (E : List (T3 × T3)), L.foldl (fun E c => E ++ corA (cmsP ds) c) E = E ++ L.flatMap (corA (cmsP ds)) := by
        intro L
        induction L with
        | nil => intro E; simp
        | cons c L ih => intro E; rw [List.foldl_cons, ih, List.flatMap_cons, List.append_assoc]
      rw [this]; rfl
    rw [e]
    generalize (L.flatMap (corA (cmsP ds))).map encE = es at *
    refine Tells.eqI ?_
    simp -implicitDefEqProofs [hsd, hi1, hgr, him]
end

theorem string_is (ds : Drw) (h : ds.length ≤ 100) (hr : ∀ r ∈ ds, r.length ≤ 100) {k : Int × Int} {i : Int} (h2 : lk (spts ds) k = some i) : F_string_of [encD ds, t2 k] = .ok (.int i) := by
  have h1 := spots_is ds h hr
  have h3 := gDGet_K2 D.int h2
  have h4 := gDNotIn_K2 D.int (spts ds) k
  have h5 := immAt_K2 D.int (fun _ => rfl) (spts ds)
  rw [h2] at h4
  simp only [F_string_of, m_string_of, runD]
  simp -implicitDefEqProofs [h1, h3, h4, h5]

/-! groups: things joined by pairs -/
def mrgJ (a b : Nat) (h : Nat → Int) : Nat → Int := fun t => if h t = h b then h a else h t
def fitsJ (h g : Nat → Int) : Prop := ∀ t u, h t = h u → g t = g u
theorem mrg_fitsJ {a b : Nat} {h g : Nat → Int} (hf : fitsJ h g) (e : g a = g b) : fitsJ (mrgJ a b h) g := fun t u ht => by
  unfold mrgJ at ht
  by_cases h1 : h t = h b <;> by_cases h2 : h u = h b
  · rw [hf t b h1, hf u b h2]
  · rw [if_pos h1, if_neg h2] at ht
    rw [hf t b h1, ← e, hf a u ht]
  · rw [if_neg h1, if_pos h2] at ht
    rw [hf t a ht, e, hf u b h2]
  · rw [if_neg h1, if_neg h2] at ht
    exact hf t u ht
theorem mrg_keepsJ {a b : Nat} {h : Nat → Int} {t u : Nat} (e : h t = h u) : mrgJ a b h t = mrgJ a b h u := by unfold mrgJ; rw [e]
theorem mrg_joinsJ {a b : Nat} {h : Nat → Int} : mrgJ a b h a = mrgJ a b h b := by
  unfold mrgJ
  rw [if_pos (rfl : h b = h b)]
  split <;> rfl
abbrev PrsJ := List (Nat × Nat)
def mrgsJ (E : PrsJ) (h : Nat → Int) : Nat → Int := E.foldl (fun h e => mrgJ e.1 e.2 h) h
theorem mrgs_fitsJ : ∀ (E : PrsJ) {h g : Nat → Int}, fitsJ h g → (∀ e ∈ E, g e.1 = g e.2) → fitsJ (mrgsJ E h) g
  | [], _, _, hf, _ => hf
  | e :: E, h, g, hf, he => mrgs_fitsJ E (mrg_fitsJ hf (he e List.mem_cons_self)) fun x hx => he x (List.mem_cons_of_mem _ hx)
theorem mrgs_keepsJ : ∀ (E : PrsJ) {h : Nat → Int} {t u : Nat}, h t = h u → mrgsJ E h t = mrgsJ E h u
  | [], _, _, _, e => e
  | p :: E, h, t, u, e => mrgs_keepsJ E (h := mrgJ p.1 p.2 h) (mrg_keepsJ e)
theorem mrgs_joinsJ : ∀ (E : PrsJ) {h : Nat → Int}, ∀ e ∈ E, mrgsJ E h e.1 = mrgsJ E h e.2
  | [], _, e, he => by cases he
  | p :: E, h, e, he => by
    rcases List.mem_cons.mp he with rfl | he
    · exact mrgs_keepsJ E (h := mrgJ e.1 e.2 h) mrg_joinsJ
    · exact mrgs_joinsJ E (h := mrgJ p.1 p.2 h) e he
def id0J : Nat → Int := fun t => (t : Int)
theorem id0_fitsJ (g : Nat → Int) : fitsJ id0J g := fun t u e => by
  have : t = u := by unfold id0J at e; omega
  rw [this]
theorem same_kerJ {E F : PrsJ} (h1 : ∀ e ∈ E, e ∈ F ∨ (e.2, e.1) ∈ F) (h2 : ∀ e ∈ F, e ∈ E ∨ (e.2, e.1) ∈ E) (t u : Nat) : mrgsJ E id0J t = mrgsJ E id0J u ↔ mrgsJ F id0J t = mrgsJ F id0J u := by
  have half : ∀ {E F : PrsJ}, (∀ e ∈ E, e ∈ F ∨ (e.2, e.1) ∈ F) → fitsJ (mrgsJ E id0J) (mrgsJ F id0J) := fun {E F} h => mrgs_fitsJ E (id0_fitsJ _) fun e he => by
    rcases h e he with h | h
    · exact mrgs_joinsJ F e h
    · exact (mrgs_joinsJ F _ h).symm
  exact ⟨half h1 t u, half h2 t u⟩
/-- the class of a value -/
def clsJ (S : Nat) (h : Nat → Int) (v : Int) : List Int := ((List.range S).filter fun t => decide (h t = v)).map fun t : Nat => (t : Int)
theorem cls_memJ {S : Nat} {h : Nat → Int} {v : Int} {x : Int} : x ∈ clsJ S h v ↔ ∃ t : Nat, t < S ∧ h t = v ∧ (t : Int) = x := by
  unfold clsJ
  simp only [List.mem_map, List.mem_filter, List.mem_range, decide_eq_true_eq]
  constructor
  · rintro ⟨t, ⟨h1, h2⟩, h3⟩; exact ⟨t, h1, h2, h3⟩
  · rintro ⟨t, h1, h2, h3⟩; exact ⟨t, ⟨h1, h2⟩, h3⟩
theorem cls_ascJ (S : Nat) (h : Nat → Int) (v : Int) : (clsJ S h v).Pairwise (· < ·) := by
  unfold clsJ
  refine List.pairwise_map.mpr ((List.Pairwise.filter _ List.pairwise_lt_range).imp fun h => by omega)
theorem cls_lenJ (S : Nat) (h : Nat → Int) (v : Int) : (clsJ S h v).length ≤ S := by
  unfold clsJ
  rw [List.length_map]
  exact Nat.le_trans (List.length_filter_le _ _) (by simp)
theorem cls_permJ {S : Nat} {h g : Nat → Int} {K L : List Int} (hK : K.Nodup) (hL : L.Nodup) (mK : ∀ v, v ∈ K ↔ ∃ t, t < S ∧ h t = v) (mL : ∀ v, v ∈ L ↔ ∃ t, t < S ∧ g t = v) (hk : ∀ t u, h t = h u ↔ g t = g u) : (K.map (clsJ S h)).Perm (L.map (clsJ S g)) := by
  have nd : ∀ {h : Nat → Int} {K : List Int}, K.Nodup → (∀ v, v ∈ K ↔ ∃ t, t < S ∧ h t = v) → (K.map (clsJ S h)).Nodup := fun {h K} hK mK => by
    refine List.pairwise_map.mpr (List.Pairwise.imp_of_mem (fun {a b} ha hb hab e => hab ?_) hK)
    obtain ⟨t, ht, e1⟩ := (mK a).mp ha
    have m : (t : Int) ∈ clsJ S h b := by rw [← e]; exact cls_memJ.mpr ⟨t, ht, e1, rfl⟩
    obtain ⟨u, _, e2, e3⟩ := cls_memJ.mp m
    have : u = t := by omega
    rw [← e1, ← e2, this]
  refine (List.perm_ext_iff_of_nodup (nd hK mK) (nd hL mL)).mpr fun l => ?_
  have eq : ∀ t, clsJ S h (h t) = clsJ S g (g t) := fun t => by
    unfold clsJ
    congr 1
    refine List.filter_congr fun u _ => ?_
    simp only [decide_eq_decide]
    exact hk u t
  constructor
  · intro hl
    obtain ⟨v, hv, rfl⟩ := List.mem_map.mp hl
    obtain ⟨t, ht, rfl⟩ := (mK v).mp hv
    rw [eq t]
    exact List.mem_map_of_mem ((mL _).mpr ⟨t, ht, rfl⟩)
  · intro hl
    obtain ⟨v, hv, rfl⟩ := List.mem_map.mp hl
    obtain ⟨t, ht, rfl⟩ := (mL v).mp hv
    rw [← eq t]
    exact List.mem_map_of_mem ((mK _).mpr ⟨t, ht, rfl⟩)
/-! the dict of homes -/
def homePJ (S : Nat) (h : Nat → Int) : Pol := (List.range S).map fun t : Nat => ((t : Int), h t)
theorem homeP_keysJ (S : Nat) (h : Nat → Int) : (homePJ S h).map (·.1) = (List.range S).map fun t : Nat => (t : Int) := by unfold homePJ; rw [List.map_map]; rfl
theorem homeP_nodupJ (S : Nat) (h : Nat → Int) : ((homePJ S h).map (·.1)).Nodup := by
  rw [homeP_keysJ]
  exact List.pairwise_map.mpr (List.nodup_range.imp fun h e => h (by omega))
theorem look_homeJ {S : Nat} (h : Nat → Int) {t : Nat} (ht : t < S) : look (homePJ S h) (t : Int) = some (h t) := look_mem (x := ((t : Int), h t)) (homeP_nodupJ S h) (List.mem_map.mpr ⟨t, List.mem_range.mpr ht, rfl⟩)
theorem put_homeJ {S : Nat} (h : Nat → Int) {t : Nat} (ht : t < S) (v : Int) : put (homePJ S h) (t : Int) v = homePJ S (fun u => if u = t then v else h u) := by
  unfold put
  rw [if_pos (by rw [homeP_keysJ]; exact List.mem_map.mpr ⟨t, List.mem_range.mpr ht, rfl⟩)]
  unfold homePJ
  rw [List.map_map]
  refine List.map_congr_left fun u _ => ?_
  by_cases e : u = t
  · subst e; simp
  · have : ¬ (u : Int) = (t : Int) := by omega
    simp [e, this]
theorem put_home_newJ (k : Nat) (h : Nat → Int) : put (homePJ k h) (k : Int) (h k) = homePJ (k + 1) h := by
  unfold put
  rw [if_neg (by
    rw [homeP_keysJ]
    intro hm
    obtain ⟨t, ht, e⟩ := List.mem_map.mp hm
    have := List.mem_range.mp ht
    omega)]
  unfold homePJ
  rw [List.range_succ, List.map_append]; rfl
theorem home_lenJ (S : Nat) (h : Nat → Int) : (homePJ S h).length = S := by unfold homePJ; simp
/-- the groups after the first k things -/
structure GIJ (h : Nat → Int) (k : Nat) (G : Grp) : Prop where
  nd : (G.map (·.1)).Nodup
  mem : ∀ v, v ∈ G.map (·.1) ↔ ∃ t, t < k ∧ h t = v
  val : ∀ x ∈ G, x.2 = clsJ k h x.1
  len : G.length ≤ k
theorem cls_succJ (k : Nat) (h : Nat → Int) (v : Int) : clsJ (k + 1) h v = if h k = v then clsJ k h v ++ [(k : Int)] else clsJ k h v := by
  unfold clsJ
  rw [List.range_succ, List.filter_append]
  by_cases e : h k = v
  · rw [if_pos e, List.filter_cons_of_pos (by simpa using e)]; simp
  · rw [if_neg e, List.filter_cons_of_neg (by simpa using e)]; simp
theorem GIJ.more {h : Nat → Int} {k : Nat} {G : Grp} (g : GIJ h k G) : GIJ h (k + 1) (addG G (h k) (k : Int)) := by
  unfold addG
  by_cases e : h k ∈ G.map (·.1)
  · rw [if_pos e]
    have ek : (G.map fun x => if x.1 = h k then (x.1, x.2 ++ [(k : Int)]) else x).map (·.1) = G.map (·.1) := by
      rw [List.map_map]
      refine List.map_congr_left fun x _ => ?_
      by_cases e : x.1 = h k <;> simp [e]
    refine ⟨by rw [ek]; exact g.nd, fun v => ?_, fun x hx => ?_, by rw [List.length_map]; have := g.len; omega⟩
    · rw [ek, g.mem]
      constructor
      · rintro ⟨t, ht, e⟩; exact ⟨t, by omega, e⟩
      · rintro ⟨t, ht, e2⟩
        by_cases et : t = k
        · subst et
          rw [← e2]
          exact (g.mem _).mp e
        · exact ⟨t, by omega, e2⟩
    · obtain ⟨y, hy, rfl⟩ := List.mem_map.mp hx
      by_cases ey : y.1 = h k
      · rw [if_pos ey]
        show y.2 ++ [(k : Int)] = clsJ (k + 1) h y.1
        rw [cls_succJ, if_pos ey.symm, g.val y hy]
      · rw [if_neg ey, cls_succJ, if_neg (Ne.symm ey), g.val y hy]
  · rw [if_neg e]
    refine ⟨?_, fun v => ?_, fun x hx => ?_, by rw [List.length_append, List.length_singleton]; have := g.len; omega⟩
    · rw [List.map_append]
      refine List.nodup_append.mpr ⟨g.nd, by simp, fun a ha b hb eab => ?_⟩
      rw [eab, List.mem_singleton.mp hb] at ha
      exact e ha
    · rw [List.map_append, List.mem_append, g.mem]
      constructor
      · rintro (⟨t, ht, e2⟩ | e2)
        · exact ⟨t, by omega, e2⟩
        · exact ⟨k, by omega, (List.mem_singleton.mp e2).symm⟩
      · rintro ⟨t, ht, e2⟩
        by_cases et : t = k
        · subst et; exact .inr (List.mem_singleton.mpr e2.symm)
        · exact .inl ⟨t, by omega, e2⟩
    · rcases List.mem_append.mp hx with hx | hx
      · have hne : ¬ h k = x.1 := fun z => e (by rw [z]; exact List.mem_map_of_mem hx)
        rw [cls_succJ, if_neg hne, g.val x hx]
      · rw [List.mem_singleton.mp hx]
        show [(k : Int)] = clsJ (k + 1) h (h k)
        rw [cls_succJ, if_pos rfl]
        have : clsJ k h (h k) = [] := by
          cases hc : clsJ k h (h k) with
          | nil => rfl
          | cons x l =>
            have hm : x ∈ clsJ k h (h k) := by rw [hc]; exact List.mem_cons_self
            obtain ⟨t, ht, e2, _⟩ := cls_memJ.mp hm
            exact absurd ((g.mem _).mpr ⟨t, ht, e2⟩) e
        rw [this]; rfl
def encEJ (e : Nat × Nat) : D := t2 ((e.1 : Int), (e.2 : Int))
theorem grouped_isJ (S : Nat) (hS : S ≤ 50) (E : PrsJ) (hE : ∀ e ∈ E, e.1 < S ∧ e.2 < S) : ∃ K : List Int, K.Nodup ∧ (∀ v, v ∈ K ↔ ∃ t, t < S ∧ mrgsJ E id0J t = v) ∧ F_grouped__2 [.lst ((List.range S).map fun t : Nat => D.int t), .lst (E.map encEJ)] = .ok (.lst ((sorted (K.map (clsJ S (mrgsJ E id0J)))).map encL)) := by
  have main : Tells (F_grouped__2 [.lst ((List.range S).map fun t : Nat => D.int t), .lst (E.map encEJ)]) fun d => ∃ G : Grp, GIJ (mrgsJ E id0J) S G ∧ d = .lst ((sorted (G.map (·.2))).map encL) := by
    simp only [F_grouped__2, m_grouped__2, runD]
    simp -implicitDefEqProofs
    refine loop_then (fun k : Nat => [some (0, .lst ((List.range S).map fun t : Nat => D.int t)), some (0, .lst (E.map encEJ)), some (1, encP (homePJ k id0J)), none, none, none, none, none, none, none]) (fun t : Nat => D.int t) (fun i k => k = i) (List.range S) 0 rfl rfl rfl ?_ ?_
    · intro i k t ht e
      subst e
      have hk : k < S ∧ t = k := by
        rw [List.getElem?_eq_some_iff] at ht
        obtain ⟨h1, h2⟩ := ht
        exact ⟨by simpa using h1, by simpa using h2.symm⟩
      obtain ⟨hk, rfl⟩ := hk
      have hd := dSet_enc (homePJ t id0J) t t (by rw [home_lenJ]; omega)
      have hp := put_home_newJ t id0J
      refine ⟨t + 1, rfl, ?_⟩
      simp -implicitDefEqProofs [hd]
      exact congrArg encP hp
    · intro k e
      rw [List.length_range] at e
      subst e
      simp -implicitDefEqProofs
      refine loop_thenF (fun h : Nat → Int => [some (0, .lst ((List.range k).map fun t : Nat => D.int t)), some (0, .lst (E.map encEJ)), some (1, encP (homePJ k h)), none, none, none, none, none, none, none]) encEJ (fun h e => mrgJ e.1 e.2 h) (fun _ _ => True) E id0J rfl rfl trivial ?_ ?_
      · intro i h e he _
        obtain ⟨ha, hb⟩ := hE e (List.mem_of_getElem? he)
        have g1 := gDGet_enc (look_homeJ h ha)
        have g2 := gDGet_enc (look_homeJ h hb)
        refine ⟨trivial, ?_⟩
        by_cases hab : h e.1 = h e.2
        · have hm : mrgJ e.1 e.2 h = h := by
            funext t
            unfold mrgJ
            split
            · rename_i h1; rw [h1, hab]
            · rfl
          rw [hm]
          simp -implicitDefEqProofs [encEJ, g1, g2, hab]
        · refine Tells.eq ?_
          simp -implicitDefEqProofs [encEJ, g1, g2, hab]
          refine loop_then (fun m : Nat => [some (0, .lst ((List.range k).map fun t : Nat => D.int t)), some (0, .lst (E.map encEJ)), some (1, encP (homePJ k fun u => if u < m ∧ h u = h e.2 then h e.1 else h u)), none, some (0, .int e.1), some (0, .int e.2), some (0, .int (h e.1)), some (0, .int (h e.2)), none, none]) (fun t : Nat => D.int t) (fun i m => m = i) (List.range k) 0 rfl (by simp) rfl ?_ ?_
          · intro i m t ht em
            subst em
            have hk : m < k ∧ t = m := by
              rw [List.getElem?_eq_some_iff] at ht
              obtain ⟨h1, h2⟩ := ht
              exact ⟨by simpa using h1, by simpa using h2.symm⟩
            obtain ⟨hk, rfl⟩ := hk
            have g3 := gDGet_enc (look_homeJ (fun u => if u < t ∧ h u = h e.2 then h e.1 else h u) hk)
            have e0 : (if t < t ∧ h t = h e.2 then h e.1 else h t) = h t := if_neg (by omega)
            rw [e0] at g3
            refine ⟨t + 1, rfl, ?_⟩
            by_cases ht2 : h t = h e.2
            · have hd := dSet_enc (homePJ k fun u => if u < t ∧ h u = h e.2 then h e.1 else h u) t (h e.1) (by rw [home_lenJ]; omega)
              rw [put_homeJ _ hk] at hd
              have ef : (fun u => if u = t then h e.1 else if u < t ∧ h u = h e.2 then h e.1 else h u) = fun u => if u < t + 1 ∧ h u = h e.2 then h e.1 else h u := by
                funext u
                by_cases e1 : u = t
                · subst e1; rw [if_pos rfl, if_pos ⟨by omega, ht2⟩]
                · rw [if_neg e1]
                  by_cases e2 : u < t ∧ h u = h e.2
                  · rw [if_pos e2, if_pos ⟨by omega, e2.2⟩]
                  · rw [if_neg e2, if_neg fun z => e2 ⟨by omega, z.2⟩]
              rw [ef] at hd
              simp -implicitDefEqProofs [g3, ht2, hd]
            · have ef : (fun u => if u < t + 1 ∧ h u = h e.2 then h e.1 else h u) = fun u => if u < t ∧ h u = h e.2 then h e.1 else h u := by
                funext u
                by_cases e2 : u < t ∧ h u = h e.2
                · rw [if_pos e2, if_pos ⟨by omega, e2.2⟩]
                · rw [if_neg e2, if_neg fun z => e2 ⟨by
                    have : u ≠ t := fun z2 => ht2 (z2 ▸ z.2)
                    omega, z.2⟩]
              rw [ef]
              simp -implicitDefEqProofs [g3, ht2]
          · intro m em
            rw [List.length_range] at em
            subst em
            have ef : homePJ m (fun u => if u < m ∧ h u = h e.2 then h e.1 else h u) = homePJ m (mrgJ e.1 e.2 h) := by
              unfold homePJ
              refine List.map_congr_left fun u hu => ?_
              have := List.mem_range.mp hu
              show ((u : Int), if u < m ∧ h u = h e.2 then h e.1 else h u) = ((u : Int), if h u = h e.2 then h e.1 else h u)
              by_cases e2 : h u = h e.2
              · rw [if_pos ⟨this, e2⟩, if_pos e2]
              · rw [if_neg fun z : u < m ∧ h u = h e.2 => e2 z.2, if_neg e2]
            rw [ef]
            exact Tells.eqI (by simp -implicitDefEqProofs)
      · intro _
        have em : E.foldl (fun h e => mrgJ e.1 e.2 h) id0J = mrgsJ E id0J := rfl
        rw [em]
        generalize mrgsJ E id0J = h
        simp -implicitDefEqProofs [encK_nil encL]
        refine loop_then (fun G : Grp => [some (0, .lst ((List.range k).map fun t : Nat => D.int t)), some (0, .lst (E.map encEJ)), some (1, encP (homePJ k h)), none, none, none, none, none, some (2, encK encL G), none]) (fun t : Nat => D.int t) (fun i G => GIJ h i G) (List.range k) [] rfl rfl ⟨by simp, fun v => by simp, fun x hx => absurd hx List.not_mem_nil, Nat.le_refl _⟩ ?_ ?_
        · intro i G t ht g
          have hk : i < k ∧ t = i := by
            rw [List.getElem?_eq_some_iff] at ht
            obtain ⟨h1, h2⟩ := ht
            exact ⟨by simpa using h1, by simpa using h2.symm⟩
          obtain ⟨hk, rfl⟩ := hk
          have g3 := gDGet_enc (look_homeJ h hk)
          have hs := mSetdApp_G (j := 8) (mk := mOp gDGet (mVar 2) (mVar 3)) (mx := mImm (mVar 3)) (env := [some (0, .lst ((List.range k).map fun t : Nat => D.int t)), some (0, .lst (E.map encEJ)), some (1, encP (homePJ k h)), some (0, .int t), none, none, none, none, some (2, encK encL G), none]) (G := G) (v := h t) (t := t) rfl (by simp -implicitDefEqProofs [g3]) (by simp) g.nd (by have := g.len; omega) (fun x hx => by rw [g.val x hx]; have := cls_lenJ t h x.1; omega)
          refine ⟨_, g.more, ?_⟩
          simp -implicitDefEqProofs [hs]
        · intro G g
          rw [List.length_range] at g
          have hv := dVals_G G
          have hlc := lc_all (t := tName 9) (env := [some (0, .lst ((List.range k).map fun t : Nat => D.int t)), some (0, .lst (E.map encEJ)), some (1, encP (homePJ k h)), none, none, none, none, none, some (0, encK encL G), none]) (me := fun env => (mVar 9) env >>= itemsL >>= immL >>= fun ds => gSort (.lst ds)) (fun x : Int × List Int => encL x.2) (fun x => encL x.2) G (fun x hx => by
            have hs := gSort_int x.2
            have hsx : sorted x.2 = x.2 := by rw [g.val x hx]; exact sorted_asc (cls_ascJ _ _ _)
            rw [hsx] at hs
            simp -implicitDefEqProofs [encL, hs])
          have e1 : (G.map fun x => encL x.2) = (G.map (·.2)).map encL := by rw [List.map_map]; rfl
          have hl : (G.map fun x => encL x.2).length ≤ sizeLine := sizeLine_big (by rw [List.length_map]; have := g.len; omega)
          have hso := gSort_L (G.map (·.2))
          rw [← e1] at hso
          simp -implicitDefEqProofs [e_mLc]
          refine Tells.of ?_ ⟨G, g, rfl⟩
          generalize (G.map fun x => encL x.2) = vs at *
          simp -implicitDefEqProofs at hlc
          simp -implicitDefEqProofs [hv, hlc, hl, hso]
  obtain ⟨_, h1, G, g, rfl⟩ := main
  refine ⟨G.map (·.1), g.nd, g.mem, ?_⟩
  have e1 : (G.map (·.1)).map (clsJ S (mrgsJ E id0J)) = G.map (·.2) := by
    rw [List.map_map]
    exact List.map_congr_left fun x hx => (g.val x hx).symm
  rw [e1]
  exact h1
section
theorem DI.row {S : Nat} {ds : Drw} {C : List Crs} (h : DI S ds C) (hC : C.length ≤ 12) : ∀ r ∈ ds, r.length ≤ 100 := fun r hr => by have := h.cnt r hr; omega
theorem pieces_is {S : Nat} {ds : Drw} {C : List Crs} (h : DI S ds C) (hS : S ≤ 3) (hC : C.length ≤ 12) : ∃ (E : PrsJ) (K : List Int), (∀ e, e ∈ E ↔ ∃ c ∈ C, e = (c.i, c.j)) ∧ K.Nodup ∧ (∀ v, v ∈ K ↔ ∃ t, t < S ∧ mrgsJ E id0J t = v) ∧ F_pieces [encD ds] = .ok (encM (sorted (K.map (clsJ S (mrgsJ E id0J))))) := by
  obtain ⟨L, hL, hs⟩ := h.sorted
  have hn := names_is ds (h.flat hS (by omega)) (by have := h.keys.length_eq; simp at this; omega)
  have hLl := hL.length_eq
  have e0 : ((L.map (·.n)).map D.int) = L.map fun c : Crs => D.int c.n := by rw [List.map_map]; rfl
  rw [hs, e0] at hn
  have hg := gRng1_d (n := S) (by omega)
  have dl := h.len
  have hsz : ((List.range S).map fun t : Nat => D.int t).length ≤ 1000000 := by simp; omega
  obtain ⟨K, k1, k2, hd⟩ := grouped_isJ S (by omega) (L.map fun c => (c.i, c.j)) fun e he => by
    obtain ⟨c, hc, rfl⟩ := List.mem_map.mp he
    exact h.bd c (hL.mem_iff.mp hc)
  refine ⟨L.map fun c => (c.i, c.j), K, fun e => ?_, k1, k2, ?_⟩
  · rw [List.mem_map]
    constructor
    · rintro ⟨c, hc, rfl⟩; exact ⟨c, hL.mem_iff.mp hc, rfl⟩
    · rintro ⟨c, hc, rfl⟩; exact ⟨c, hL.mem_iff.mpr hc, rfl⟩
  · have hd2 : F_grouped__2 [.lst ((List.range S).map fun t : Nat => D.int t), .lst ((L.map fun c => (c.i, c.j)).map encEJ)] = .ok (encM (sorted (K.map (clsJ S (mrgsJ (L.map fun c => (c.i, c.j)) id0J))))) := hd
    have him := immAt_2M (sorted (K.map (clsJ S (mrgsJ (L.map fun c => (c.i, c.j)) id0J))))
    clear hd
    have hS6 : S ≤ 1000000 := by omega
    generalize encM (sorted (K.map (clsJ S (mrgsJ (L.map fun c => (c.i, c.j)) id0J)))) = d at *
    refine Tells.eq ?_
    simp only [F_pieces, m_pieces, runD]
    simp -implicitDefEqProofs [hn]
    refine loop_thenF (fun E : PrsJ => [some (0, encD ds), some (1, .lst (E.map encEJ)), none]) (fun c : Crs => D.int c.n) (fun E c => E ++ [(c.i, c.j)]) (fun i E => E.length = i) L [] rfl rfl rfl ?_ ?_
    · intro i E c hc hE
      have hi := (List.getElem?_eq_some_iff.mp hc).1
      have hcC := hL.mem_iff.mp (List.mem_of_getElem? hc)
      have s1 : F_string_of [encD ds, D.tup [.int c.n, .int 0]] = .ok (.int c.i) := string_is ds (by omega) (h.row hC) (h.spO hcC)
      have s2 : F_string_of [encD ds, D.tup [.int c.n, .int 1]] = .ok (.int c.j) := string_is ds (by omega) (h.row hC) (h.spU hcC)
      have hz : E.length < sizeLine := sizeLine_lt (by omega)
      refine ⟨by simp [hE], ?_⟩
      simp -implicitDefEqProofs [s1, s2, hz, encEJ, t2]
    · intro _
      have ef : L.foldl (fun E c => E ++ [(c.i, c.j)]) ([] : PrsJ) = L.map fun c => (c.i, c.j) := by
        have : ∀ (L : List Crs) (E : PrsJ), L.foldl (fun E c => E ++ [(c.i, c.j)]) E = E ++ L.map fun c => (c.i, c.j) := by
          intro L
          induction L with
          | nil => intro E; simp
          | cons c L ih => intro E; rw [List.foldl_cons, ih]; simp
        rw [this]; rfl
      rw [ef]
      generalize (L.map fun c => (c.i, c.j)) = E at *
      refine Tells.eqI ?_
      simp -implicitDefEqProofs [dl, hg]
      generalize ((List.range S).map fun t : Nat => D.int t) = xs at *
      simp -implicitDefEqProofs [hS6, hd2, him]
end

section
def seat : List T3 → List T3
  | [] => []
  | r :: rs => (r :: rs).drop ((r :: rs).idxOf (minOf r rs)) ++ (r :: rs).take ((r :: rs).idxOf (minOf r rs))
theorem seat_len (R : List T3) : (seat R).length = R.length := by
  cases R with
  | nil => rfl
  | cons r rs =>
    unfold seat
    rw [List.length_append, List.length_drop, List.length_take]
    omega
end

section
/-! ### drawings made with a name that is free, for k15, k16, k17 -/
abbrev wayB3 : Mir.Env → Res Ctl := (mAlias 2 9 0 (mOp gMod (mVar 6) (mVar 1)) (mMid 2 (mSet 6 0 [] (mN (mOp gFdv (mVar 6) (mVar 1)))) (mMid 2 (mSet 10 0 [] (mN (mOp gMod (mVar 6) (mOp gAdd (mUn gLen (mVar 9)) (mC (.int 1)))))) (mMid 2 (mSet 6 0 [] (mN (mOp gFdv (mVar 6) (mOp gAdd (mUn gLen (mVar 9)) (mC (.int 1)))))) (mIns 2 9 0 (mVar 10) (mImm (mTup (mConsE (mOp gAdd (mVar 5) (mC (.int 1))) [] (mConsE (mImm (mVar 8)) [] (mConsE (mImm (mVar 7)) [] mNilA))))) (mN mSkip))))))
abbrev env3 (cl nms : D) (S : Nat) (ds : Drw) (c nm v hand : Int) : Mir.Env := [some (0, cl), some (0, .int S), some (2, encD ds), some (1, nms), some (0, .int c), some (0, .int nm), some (0, .int v), some (0, .int hand), none, none, none, none]
theorem way_step3 (cl nms : D) (S : Nat) (hS : 0 < S) (hS3 : S ≤ 3) (ds : Drw) (hds : ds.length = S) (hr : ∀ r ∈ ds, r.length ≤ 1000) (c nm v hand w : Int) : ∃ (a p : Nat) (v' : Int), a < S ∧ (tName 8 0 (.int w) (env3 cl nms S ds c nm v hand) >>= fun e => wayB3 e >>= stepc [8, 9, 10]) = .ok (env3 cl nms S (ins ds a p ⟨nm + 1, w, hand⟩) c nm v' hand) := by
  have x0 := Int.emod_nonneg v (b := (S : Int)) (by omega)
  have x1 := Int.emod_lt_of_pos v (b := (S : Int)) (by omega)
  obtain ⟨a, ha⟩ : ∃ a : Nat, v % (S : Int) = a := ⟨(v % S).toNat, by omega⟩
  have haS : a < S := by omega
  have m1 := e_gMod v (S : Int) (by omega)
  rw [ha] at m1
  obtain ⟨r, hra⟩ : ∃ r, ds[a]? = some r := ⟨_, List.getElem?_eq_getElem (by omega)⟩
  have hrl := hr r (List.mem_of_getElem? hra)
  have hda : (ds.map encR)[a]? = some (.lst (r.map t3)) := by rw [List.getElem?_map, hra]; rfl
  have hix : ixN ds.length (a : Int) = some a := ixN_nat (by omega)
  have d1 := e_gFdv v (S : Int) (by omega) (by omega)
  obtain ⟨v1, hv1⟩ : ∃ v1, v1 = v / (S : Int) := ⟨_, rfl⟩
  rw [← hv1] at d1
  have y0 := Int.emod_nonneg v1 (b := (r.length : Int) + 1) (by omega)
  have y1 := Int.emod_lt_of_pos v1 (b := (r.length : Int) + 1) (by omega)
  obtain ⟨p, hp⟩ : ∃ p : Nat, v1 % ((r.length : Int) + 1) = p := ⟨(v1 % ((r.length : Int) + 1)).toNat, by omega⟩
  have m2 := e_gMod v1 ((r.length : Int) + 1) (by omega)
  rw [hp] at m2
  have d2 := e_gFdv v1 ((r.length : Int) + 1) (by omega) (by omega)
  have gl : gLen (.lst (r.map t3)) = .ok (.int (r.length : Nat)) := by
    show Res.ok (D.int (((r.map t3).length : Nat) : Int)) = _
    rw [List.length_map]
  obtain ⟨v2, hv2⟩ : ∃ v2, v2 = v1 / ((r.length : Int) + 1) := ⟨_, rfl⟩
  rw [← hv2] at d2
  have hp2 : (0 : Int) ≤ (p : Int) ∧ (p : Int) < 2 ^ 62 := by omega
  have hz : (r.map t3).length < sizeLine := sizeLine_lt (by rw [List.length_map]; omega)
  have hins : (ds.map encR).set a (.lst ((r.map t3).take p ++ [.tup [.int (nm + 1), .int w, .int hand]] ++ (r.map t3).drop p)) = (ins ds a p ⟨nm + 1, w, hand⟩).map encR := by
    unfold ins
    rw [show ds.getD a [] = r by rw [List.getD_eq_getElem?_getD, hra]; rfl, List.map_set]
    congr 1
    unfold encR
    rw [List.map_append, List.map_append, List.map_take, List.map_drop]; rfl
  refine ⟨a, p, v2, haS, ?_⟩
  generalize hL : ds.length = N at hix
  have hdl : (ds.map encR).length = N := by rw [List.length_map, hL]
  rw [show ((r.length : Nat) : Int) = (((r.map t3).length : Nat) : Int) by rw [List.length_map]] at m2 d2
  simp only [env3, encD]
  rw [← hins]
  generalize ds.map encR = Dn at *
  generalize r.map t3 = R at *
  simp -implicitDefEqProofs [m1, mAlias, hdl, hix, hda, mMid, d1, m2, d2, mIns]
  rw [if_pos (show (p : Int) < 4611686018427387904 ∧ R.length < sizeLine from ⟨by omega, hz⟩)]
  simp -implicitDefEqProofs
theorem free3 (ns : List Int) (n : Int) : ∃ k : Nat, k ≤ ns.length ∧ (ns.length < 999 → (n + k) % 999 ∉ ns) := by
  by_cases hl : ns.length < 999
  · refine Classical.byContradiction fun h => ?_
    have hall : ∀ k : Nat, k ≤ ns.length → (n + k) % 999 ∈ ns := fun k hk => Classical.byContradiction fun hn => h ⟨k, hk, fun _ => hn⟩
    have nd : ((List.range (ns.length + 1)).map fun k : Nat => (n + (k : Int)) % 999).Nodup := by
      refine List.pairwise_map.mpr (List.Pairwise.imp_of_mem (fun {a b} ha hb hab e => hab ?_) List.nodup_range)
      have h1 := List.mem_range.mp ha
      have h2 := List.mem_range.mp hb
      omega
    have := nodup_sub_len nd (m := ns) fun x hx => by
      obtain ⟨k, hk, rfl⟩ := List.mem_map.mp hx
      exact hall k (by have := List.mem_range.mp hk; omega)
    rw [List.length_map, List.length_range] at this
    omega
  · exact ⟨0, Nat.zero_le _, fun h => absurd h hl⟩
theorem name_loop (ns : List Int) (x0 x1 x2 x4 : Option (Nat × D)) : ∀ (k F : Nat) (n : Int), 0 ≤ n → n < 999 → (n + k) % 999 ∉ ns → k < F → ∃ m : Int, 0 ≤ m ∧ m < 999 ∧ m ∉ ns ∧ wloop (mTb (mOp gIn (mVar 5) (mVar 3))) (mSet 5 0 [] (mOp gMod (mOp gAdd (mVar 5) (mC (.int 1))) (mC (.int 999)))) [] F [x0, x1, x2, some (1, .lst (ns.map D.int)), x4, some (0, .int n), none, none, none, none, none, none] = .ok (.nx [x0, x1, x2, some (1, .lst (ns.map D.int)), x4, some (0, .int m), none, none, none, none, none, none])
  | _, 0, _, _, _, _, h => absurd h (by omega)
  | k, F + 1, n, h0, h1, hn, hF => by
    rw [wloop_succ]
    have hi := gIn_int n ns
    by_cases hm : n ∈ ns
    · cases k with
      | zero => exact absurd (by rw [show (n + ((0 : Nat) : Int)) % 999 = n by omega]; exact hm) hn
      | succ k =>
        obtain ⟨m, a, b, c, e⟩ := name_loop ns x0 x1 x2 x4 k F ((n + 1) % 999) (by omega) (by omega) (by rw [show ((n + 1) % 999 + (k : Int)) % 999 = (n + ((k + 1 : Nat) : Int)) % 999 by omega]; exact hn) (by omega)
        refine ⟨m, a, b, c, ?_⟩
        rw [← e]
        rw [decide_eq_true hm] at hi
        have hmod := e_gMod (n + 1) 999 (by decide)
        generalize (ns.map D.int) = N at *
        simp -implicitDefEqProofs [hi, hmod]
    · refine ⟨n, h0, h1, hm, ?_⟩
      rw [decide_eq_false hm] at hi
      generalize (ns.map D.int) = N at *
      simp -implicitDefEqProofs [hi]
structure MI3 (S : Nat) (i : Nat) (s : Drw × List Crs × List Int) : Prop where
  di : DI S s.1 s.2.1
  len : s.2.1.length = i
  nl : s.2.2.length = i
  nm : ∀ c ∈ s.2.1, c.n - 1 ∈ s.2.2
  pm : s.1.flatten.Perm (psg s.2.1)
  hd : ∀ c ∈ s.2.1, c.c = 1 ∨ c.c = -1
  up : ∀ c ∈ s.2.1, 1 ≤ c.n ∧ c.n ≤ 999
theorem made3_ok (cells : List Int) (hc : cells.length ≤ 12) (S : Nat) (hS1 : 1 ≤ S) (hS3 : S ≤ 3) : Tells (F__law_made [.lst (cells.map D.int), .int S]) fun d => ∃ ds C, d = encD ds ∧ WD S ds C ∧ C.length = cells.length ∧ ∀ c ∈ C, 1 ≤ c.n ∧ c.n ≤ 999 := by
  have hg := gRng1_d (n := S) (by omega)
  have hg2 : gRng1 (.int 2) = .ok [.int 0, .int 1] := by
    have := gRng1_d (n := 2) (by omega)
    exact this
  have l1 := lc_all (t := tName 11) (me := mLst mNilA) (fun i : Nat => D.int i) (fun _ => encR []) (List.range S) (env := [some (0, D.lst (cells.map D.int)), some (0, D.int S), none, none, none, none, none, none, none, none, none, none]) (fun a _ => by simp -implicitDefEqProofs [encR])
  have e1 : ((List.range S).map fun _ => encR []) = (List.replicate S ([] : List T3)).map encR := by rw [List.map_replicate]; simp [List.map_const']
  have sz1 : ((List.replicate S ([] : List T3)).map encR).length ≤ sizeLine := sizeLine_big (by simp; omega)
  simp only [F__law_made, m__law_made, runD]
  simp -implicitDefEqProofs [e_mLc, hg]
  rw [l1, ok_bind, e1, if_pos sz1, ok_bind, ofD]
  refine loop_then (fun s : Drw × List Crs × List Int => [some (0, .lst (cells.map D.int)), some (0, .int S), some (2, encD s.1), some (1, .lst (s.2.2.map D.int)), none, none, none, none, none, none, none, none]) D.int (MI3 S) cells (List.replicate S [], [], []) rfl rfl ?_ ?_ ?_
  · refine ⟨⟨by simp, by simp, fun c hc => absurd hc List.not_mem_nil, fun k r hr x => ?_, fun r hr => ?_⟩, rfl, rfl, fun c hc => absurd hc List.not_mem_nil, by show (List.replicate S ([] : List T3)).flatten.Perm (psg []); rw [List.flatten_replicate_nil]; exact .refl _, fun c hc => absurd hc List.not_mem_nil, fun c hc => absurd hc List.not_mem_nil⟩
    · rw [List.getElem?_replicate] at hr
      split at hr
      · cases hr; simp
      · cases hr
    · have := List.eq_of_mem_replicate hr
      rw [this]; simp
  · intro i s c hcc hp
    have hi := (List.getElem?_eq_some_iff.mp hcc).1
    obtain ⟨ds, C, nms⟩ := s
    have dl := hp.di.len
    have hlen := hp.len
    have hnl := hp.nl
    dsimp only at dl hlen hnl
    have z0 := Int.emod_nonneg c (b := 999) (by decide)
    have z1 := Int.emod_lt_of_pos c (b := 999) (by decide)
    have mc := e_gMod c 999 (by decide)
    obtain ⟨k, hk, hfr⟩ := free3 nms (c % 999)
    obtain ⟨m, hm0, hm1, hmn, hw⟩ := name_loop nms (some (0, .lst (cells.map D.int))) (some (0, .int S)) (some (2, encD ds)) (some (0, .int c)) k 4096 (c % 999) z0 z1 (hfr (by omega)) (by omega)
    have gl : gLen (.lst (nms.map D.int)) = .ok (.int (nms.length : Nat)) := by
      show Res.ok (D.int ((((nms.map D.int).length : Nat)) : Int)) = _
      rw [List.length_map]
    have d0 := e_gFdv c 1998 (by decide) (by decide)
    have m2 := e_gMod c 2 (by decide)
    have u1 := e_gMul 7919 (nms.length : Int) (.inl (by decide))
    have u2 := e_gMul (c + 7919 * (nms.length : Int)) 48271 (.inr (by decide))
    have u3 := e_gMod ((c + 7919 * (nms.length : Int)) * 48271) 2147483647 (by decide)
    have u4 := e_gMul ((c + 7919 * (nms.length : Int)) * 48271 % 2147483647) 69621 (.inr (by decide))
    have u5 := e_gMod ((c + 7919 * (nms.length : Int)) * 48271 % 2147483647 * 69621) 2147483629 (by decide)
    -- the rest
    obtain ⟨v, hv⟩ : ∃ v : Int, mIf (mTb (mOp gEq (mOp gMod (mVar 4) (mC (.int 2))) (mC (.int 1)))) (mSet 6 0 [] (mOp gMod (mOp gMul (mOp gMod (mOp gMul (mOp gAdd (mVar 4) (mOp gMul (mC (.int 7919)) (mUn gLen (mVar 3)))) (mC (.int 48271))) (mC (.int 2147483647))) (mC (.int 69621))) (mC (.int 2147483629)))) mSkip [some (0, .lst (cells.map D.int)), some (0, .int S), some (2, encD ds), some (1, .lst (nms.map D.int)), some (0, .int c), some (0, .int m), some (0, .int (c / 1998)), none, none, none, none, none] = .ok (.nx [some (0, .lst (cells.map D.int)), some (0, .int S), some (2, encD ds), some (1, .lst (nms.map D.int)), some (0, .int c), some (0, .int m), some (0, .int v), none, none, none, none, none]) := by
      generalize (nms.length : Int) = L at *
      generalize (cells.map D.int) = A at *
      generalize (nms.map D.int) = N at *
      by_cases h : c % 2 = 1
      · exact ⟨(c + 7919 * L) * 48271 % 2147483647 * 69621 % 2147483629, by simp -implicitDefEqProofs [m2, h, gl, u1, u2, u3, u4, u5]⟩
      · exact ⟨c / 1998, by simp -implicitDefEqProofs [m2, h]⟩
    have hz : (nms.map D.int).length < sizeLine := sizeLine_lt (by rw [List.length_map]; omega)
    have m3 := e_gMod v 2 (by decide)
    have d3 := e_gFdv v 2 (by decide) (by decide)
    have u6 := e_gMul 2 (v % 2) (.inl (by decide))
    have v20 := Int.emod_nonneg v (b := 2) (by decide)
    have v21 := Int.emod_lt_of_pos v (b := 2) (by decide)
    have hs1 : Mir.gSub (.int 1) (.int (2 * (v % 2))) = .ok (.int (1 - 2 * (v % 2))) := rfl
    obtain ⟨hand, hh⟩ : ∃ hand, hand = 1 - 2 * (v % 2) := ⟨_, rfl⟩
    rw [← hh] at hs1
    have hr1 : ∀ r ∈ ds, r.length ≤ 1000 := fun r hr => by have := hp.di.cnt r hr; dsimp only at this; omega
    obtain ⟨a, p, v', ha, w0⟩ := way_step3 (.lst (cells.map D.int)) (.lst ((nms ++ [m]).map D.int)) S hS1 hS3 ds dl hr1 c m (v / 2) hand 0
    have hr2 : ∀ r ∈ ins ds a p ⟨m + 1, 0, hand⟩, r.length ≤ 1000 := fun r hr => by
      obtain ⟨k, hk⟩ := List.mem_iff_getElem?.mp hr
      obtain ⟨r0, h0, _, l0⟩ := ins_get _ (by omega) hk
      have := hp.di.cnt r0 (List.mem_of_getElem? h0)
      dsimp only at this
      omega
    obtain ⟨b, q, v'', hb, w1⟩ := way_step3 (.lst (cells.map D.int)) (.lst ((nms ++ [m]).map D.int)) S hS1 hS3 (ins ds a p ⟨m + 1, 0, hand⟩) (by rw [ins_len]; exact dl) hr2 c m v' hand 1
    have hfresh : m + 1 ∉ C.map (·.n) := fun hm => by
      obtain ⟨d, hd, e⟩ := List.mem_map.mp hm
      have := hp.nm d hd
      dsimp only at this
      rw [show d.n - 1 = m by omega] at this
      exact hmn this
    have hmore := hp.di.more ⟨m + 1, a, b, hand⟩ hfresh ha hb p q
    refine ⟨(ins (ins ds a p ⟨m + 1, 0, hand⟩) b q ⟨m + 1, 1, hand⟩, C ++ [⟨m + 1, a, b, hand⟩], nms ++ [m]), ⟨hmore, by simp [hlen], by simp [hnl], fun d hd => ?_, ?_, fun d hd => ?_, fun d hd => ?_⟩, ?_⟩
    · rcases List.mem_append.mp hd with hd | hd
      · exact List.mem_append_left _ (hp.nm d hd)
      · rw [List.mem_singleton.mp hd]
        refine List.mem_append_right _ ?_
        show m + 1 - 1 ∈ [m]
        rw [show m + 1 - 1 = m by omega]; exact List.mem_singleton_self _
    · dsimp only
      rw [psg_snoc]
      refine (ins_flat (by rw [ins_len]; omega) q _).trans (((ins_flat (by omega) p _).cons _).trans ?_)
      exact (List.Perm.swap _ _ _).trans ((((hp.pm).cons _).cons _).trans (List.perm_append_comm (l₁ := [_, _])))
    · rcases List.mem_append.mp hd with hd | hd
      · exact hp.hd d hd
      · rw [List.mem_singleton.mp hd]
        dsimp only
        rw [hh]
        omega
    · rcases List.mem_append.mp hd with hd | hd
      · exact hp.up d hd
      · rw [List.mem_singleton.mp hd]
        dsimp only
        omega
    · have hloop : loop (tName 8) wayB3 [8, 9, 10] [.int 0, .int 1] (env3 (.lst (cells.map D.int)) (.lst ((nms ++ [m]).map D.int)) S ds c m (v / 2) hand) = .ok (.nx (env3 (.lst (cells.map D.int)) (.lst ((nms ++ [m]).map D.int)) S (ins (ins ds a p ⟨m + 1, 0, hand⟩) b q ⟨m + 1, 1, hand⟩) c m v'' hand)) := by
        rw [loop_step w0, loop_step w1]; rfl
      have en : (nms ++ [m]).map D.int = nms.map D.int ++ [.int m] := by simp
      rw [en] at hloop ⊢
      refine Tells.eq ?_
      generalize (cells.map D.int) = A at *
      generalize (nms.map D.int) = N at *
      show Tells (mSeq (mSet 5 0 [] _) _ [some (0, .lst A), some (0, .int S), some (2, encD ds), some (1, .lst N), some (0, .int c), none, none, none, none, none, none, none] >>= _) _
      refine t_seq (by simp -implicitDefEqProofs [mc]; rfl) ?_
      refine t_seq hw ?_
      refine t_seq (by simp -implicitDefEqProofs [d0]; rfl) ?_
      refine t_seq hv ?_
      refine t_seq (by simp -implicitDefEqProofs [hz]; rfl) ?_
      refine t_seq (by simp -implicitDefEqProofs [-e_gSub, m3, u6, hs1]; rfl) ?_
      refine t_seq (by simp -implicitDefEqProofs [d3]; rfl) ?_
      show Tells ((gRng1 (.int 2) >>= fun l => loop (tName 8) wayB3 [8, 9, 10] l _) >>= _) _
      rw [hg2, ok_bind]
      exact Tells.eqI (by rw [hloop]; rfl)
  · intro s hp
    have hl := hp.len
    refine Tells.of (b := encD s.1) ?_ ⟨s.1, rfl, s.2.1, ⟨hp.di, hp.pm, hp.hd⟩, hl, hp.up⟩
    simp -implicitDefEqProofs
end

/-! walking round -/
section
variable {α : Type} [DecidableEq α]
def it (f : α → α) : Nat → α → α
  | 0, s => s
  | k + 1, s => f (it f k s)
def orb (f : α → α) (k : Nat) (s : α) : List α := (List.range k).map fun i => it f i s
theorem orb_succ (f : α → α) (k : Nat) (s : α) : orb f (k + 1) s = orb f k s ++ [it f k s] := by
  unfold orb; rw [List.range_succ, List.map_append]; rfl
theorem orb_mem {f : α → α} {k : Nat} {s x : α} : x ∈ orb f k s ↔ ∃ i, i < k ∧ it f i s = x := by
  unfold orb
  rw [List.mem_map]
  constructor
  · rintro ⟨i, hi, e⟩; exact ⟨i, List.mem_range.mp hi, e⟩
  · rintro ⟨i, hi, e⟩; exact ⟨i, List.mem_range.mpr hi, e⟩
theorem orb_len (f : α → α) (k : Nat) (s : α) : (orb f k s).length = k := by unfold orb; simp
variable {f : α → α} {xs : List α}
theorem it_in (hf : ∀ x ∈ xs, f x ∈ xs) {s : α} (hs : s ∈ xs) : ∀ k, it f k s ∈ xs
  | 0 => hs
  | k + 1 => hf _ (it_in hf hs k)
/-- walked until it is met again: it has come round -/
theorem orb_round (hf : ∀ x ∈ xs, f x ∈ xs) (hj : ∀ x ∈ xs, ∀ y ∈ xs, f x = f y → x = y) {s : α} (hs : s ∈ xs) {k : Nat} (hn : (orb f k s).Nodup) (hm : it f k s ∈ orb f k s) : it f k s = s := by
  obtain ⟨i, hi, e⟩ := orb_mem.mp hm
  cases i with
  | zero => exact e.symm
  | succ i =>
    cases k with
    | zero => omega
    | succ k =>
      have e2 : it f i s = it f k s := hj _ (it_in hf hs i) _ (it_in hf hs k) e
      rw [orb_succ, List.nodup_append] at hn
      exact absurd e2 (hn.2.2 _ (orb_mem.mpr ⟨i, by omega, rfl⟩) _ List.mem_cons_self)
theorem orb_cls {E : List (α × α)} (hf : ∀ x ∈ xs, f x ∈ xs) (hj : ∀ x ∈ xs, ∀ y ∈ xs, f x = f y → x = y) {s : α} (hs : s ∈ xs) {k : Nat} (hk : 1 ≤ k) (hn : (orb f k s).Nodup) (hr : it f k s = s)
    (h1 : ∀ e ∈ E, e.1 = f e.2 ∧ e.2 ∈ xs) (h2 : ∀ x ∈ xs, f x = x ∨ (f x, x) ∈ E) (hx : xs.Nodup) : (orb f k s).Perm (cls xs (mrgs E id) (mrgs E id s)) := by
  have hx2 : (cls xs (mrgs E id) (mrgs E id s)).Nodup := List.Pairwise.filter _ hx
  refine (List.perm_ext_iff_of_nodup hn hx2).mpr fun u => ?_
  rw [cls_mem]
  constructor
  · intro hu
    obtain ⟨i, hi, rfl⟩ := orb_mem.mp hu
    refine ⟨it_in hf hs i, ?_⟩
    clear hu hi
    induction i with
    | zero => rfl
    | succ i ih =>
      rcases h2 _ (it_in hf hs i) with e | e
      · show mrgs E id (f (it f i s)) = _
        rw [e]; exact ih
      · show mrgs E id (f (it f i s)) = _
        rw [← ih]
        exact mrgs_joins E _ e
  · rintro ⟨hu, e⟩
    have hft : fits (mrgs E id) (fun t => decide (t ∈ orb f k s)) := by
      refine mrgs_fits E (id_fits _) fun e he => ?_
      obtain ⟨e1, e2⟩ := h1 e he
      rw [decide_eq_decide, e1]
      constructor
      · intro hm
        obtain ⟨i, hi, ei⟩ := orb_mem.mp hm
        cases i with
        | zero =>
          obtain ⟨k', rfl⟩ : ∃ k', k = k' + 1 := ⟨k - 1, by omega⟩
          have ei2 : f (it f k' s) = f e.2 := hr.trans ei
          exact orb_mem.mpr ⟨k', by omega, hj _ (it_in hf hs k') _ e2 ei2⟩
        | succ i => exact orb_mem.mpr ⟨i, by omega, hj _ (it_in hf hs i) _ e2 ei⟩
      · intro hm
        obtain ⟨i, hi, ei⟩ := orb_mem.mp hm
        by_cases hik : i + 1 = k
        · refine orb_mem.mpr ⟨0, by omega, ?_⟩
          rw [← ei]
          show s = it f (i + 1) s
          rw [hik, hr]
        · exact orb_mem.mpr ⟨i + 1, by omega, by rw [← ei]; rfl⟩
    have := hft u s e
    have hs2 : s ∈ orb f k s := orb_mem.mpr ⟨0, by omega, rfl⟩
    exact (decide_eq_decide.mp this).mpr hs2
theorem sub_len {l xs : List α} (hn : l.Nodup) (h : ∀ x ∈ l, x ∈ xs) : l.length ≤ xs.length := nodup_sub_len hn h
end

section
/-! ### classes of a permutation, one swap after another -/
variable {α β γ : Type} [DecidableEq α] [DecidableEq β] [DecidableEq γ]
def ncl (X : List α) (h : α → β) : Nat := (dedup (X.map h)).length
theorem ncl_of {X : List α} {h : α → β} {K : List β} (hK : K.Nodup) (hm : ∀ v, v ∈ K ↔ ∃ t ∈ X, h t = v) : K.length = ncl X h := by
  unfold ncl
  refine ((List.perm_ext_iff_of_nodup hK (dedup_nodup _)).mpr fun v => ?_).length_eq
  rw [hm, dedup_mem, List.mem_map]
theorem ncl_cons (x : α) (X : List α) (h : α → β) : ncl (x :: X) h = if h x ∈ X.map h then ncl X h else ncl X h + 1 := by
  by_cases e : h x ∈ X.map h
  · rw [if_pos e]
    refine (ncl_of (dedup_nodup _) fun v => ?_).symm
    rw [dedup_mem, List.mem_map]
    constructor
    · rintro ⟨t, ht, e2⟩; exact ⟨t, List.mem_cons_of_mem _ ht, e2⟩
    · rintro ⟨t, ht, e2⟩
      rcases List.mem_cons.mp ht with rfl | ht
      · obtain ⟨y, hy, e3⟩ := List.mem_map.mp e
        exact ⟨y, hy, e3.trans e2⟩
      · exact ⟨t, ht, e2⟩
  · rw [if_neg e]
    have : (h x :: dedup (X.map h)).length = ncl (x :: X) h := ncl_of (List.nodup_cons.mpr ⟨fun hm => e (dedup_mem.mp hm), dedup_nodup _⟩) fun v => by
      rw [List.mem_cons, dedup_mem, List.mem_map]
      constructor
      · rintro (rfl | ⟨t, ht, e2⟩)
        · exact ⟨x, List.mem_cons_self, rfl⟩
        · exact ⟨t, List.mem_cons_of_mem _ ht, e2⟩
      · rintro ⟨t, ht, e2⟩
        rcases List.mem_cons.mp ht with rfl | ht
        · exact .inl e2.symm
        · exact .inr ⟨t, ht, e2⟩
    rw [← this]; rfl
theorem ncl_congr : ∀ {X : List α} {h : α → β} {g : α → γ}, (∀ x ∈ X, ∀ y ∈ X, h x = h y ↔ g x = g y) → ncl X h = ncl X g
  | [], _, _, _ => rfl
  | x :: X, h, g, e => by
    rw [ncl_cons, ncl_cons, ncl_congr fun a ha b hb => e a (List.mem_cons_of_mem _ ha) b (List.mem_cons_of_mem _ hb)]
    have : h x ∈ X.map h ↔ g x ∈ X.map g := by
      rw [List.mem_map, List.mem_map]
      constructor
      · rintro ⟨y, hy, e2⟩; exact ⟨y, hy, (e y (List.mem_cons_of_mem _ hy) x List.mem_cons_self).mp e2⟩
      · rintro ⟨y, hy, e2⟩; exact ⟨y, hy, (e y (List.mem_cons_of_mem _ hy) x List.mem_cons_self).mpr e2⟩
    by_cases h1 : h x ∈ X.map h
    · rw [if_pos h1, if_pos (this.mp h1)]
    · rw [if_neg h1, if_neg fun h2 => h1 (this.mpr h2)]
theorem ncl_mrg {X : List α} {h : α → α} {a b : α} (ha : a ∈ X) (hb : b ∈ X) : ncl X (mrg a b h) + (if h a = h b then 0 else 1) = ncl X h := by
  by_cases e : h a = h b
  · rw [if_pos e, Nat.add_zero]
    refine ncl_congr fun x _ y _ => ?_
    have : ∀ t, mrg a b h t = h t := fun t => by
      unfold mrg
      by_cases h1 : h t = h b
      · rw [if_pos h1, e, h1]
      · rw [if_neg h1]
    rw [this, this]
  · rw [if_neg e]
    have : (h b :: dedup (X.map (mrg a b h))).length = ncl X h := ncl_of (List.nodup_cons.mpr ⟨fun hm => by
      rw [dedup_mem, List.mem_map] at hm
      obtain ⟨t, _, e2⟩ := hm
      unfold mrg at e2
      by_cases h1 : h t = h b
      · rw [if_pos h1] at e2; exact e e2
      · rw [if_neg h1] at e2; exact h1 e2, dedup_nodup _⟩) fun v => by
      rw [List.mem_cons, dedup_mem, List.mem_map]
      constructor
      · rintro (rfl | ⟨t, ht, rfl⟩)
        · exact ⟨b, hb, rfl⟩
        · unfold mrg
          by_cases h1 : h t = h b
          · rw [if_pos h1]; exact ⟨a, ha, rfl⟩
          · rw [if_neg h1]; exact ⟨t, ht, rfl⟩
      · rintro ⟨t, ht, rfl⟩
        by_cases h1 : h t = h b
        · exact .inl h1
        · exact .inr ⟨t, ht, by unfold mrg; rw [if_neg h1]⟩
    exact this
theorem mrgs_app1 (E : List (α × α)) (a b : α) (h : α → α) : mrgs (E ++ [(a, b)]) h = mrg a b (mrgs E h) := by
  unfold mrgs; rw [List.foldl_append]; rfl
theorem rel_sub {E F : List (α × α)} (h : ∀ e ∈ E, mrgs F id e.1 = mrgs F id e.2) {x y : α} (e : mrgs E id x = mrgs E id y) : mrgs F id x = mrgs F id y := mrgs_fits E (id_fits _) h x y e
theorem joins_l {E F : List (α × α)} {e : α × α} (h : e ∈ E) : mrgs (E ++ F) id e.1 = mrgs (E ++ F) id e.2 := mrgs_joins _ e (List.mem_append_left _ h)
def fE (X : List α) (f : α → α) : List (α × α) := X.map fun x => (x, f x)
def tr (a b x : α) : α := if x = a then b else if x = b then a else x
theorem fE_mem {X : List α} {f : α → α} {x : α} (h : x ∈ X) : (x, f x) ∈ fE X f := List.mem_map.mpr ⟨x, h, rfl⟩
theorem tr_l (a b : α) : tr a b a = b := if_pos rfl
theorem tr_r (a b : α) : tr a b b = a := by
  unfold tr
  by_cases h : b = a
  · rw [if_pos h, h]
  · rw [if_neg h, if_pos rfl]
theorem tr_o {a b x : α} (h1 : x ≠ a) (h2 : x ≠ b) : tr a b x = x := by unfold tr; rw [if_neg h1, if_neg h2]
theorem tr_tr (a b x : α) : tr a b (tr a b x) = x := by
  by_cases h1 : x = a
  · rw [h1, tr_l, tr_r]
  · by_cases h2 : x = b
    · rw [h2, tr_r, tr_l]
    · rw [tr_o h1 h2, tr_o h1 h2]
structure PX (X : List α) (f : α → α) : Prop where
  m : ∀ x ∈ X, f x ∈ X
  j : ∀ x ∈ X, ∀ y ∈ X, f x = f y → x = y
theorem PX.swp {X : List α} {f : α → α} (P : PX X f) {a b : α} (ha : a ∈ X) (hb : b ∈ X) : PX X fun x => f (tr a b x) := by
  have ht : ∀ x ∈ X, tr a b x ∈ X := fun x hx => by
    unfold tr; split
    · exact hb
    · split
      · exact ha
      · exact hx
  refine ⟨fun x hx => P.m _ (ht x hx), fun x hx y hy e => ?_⟩
  have := P.j _ (ht x hx) _ (ht y hy) e
  rw [← tr_tr a b x, this, tr_tr]
theorem it_sh (f : α → α) (s : α) : ∀ k, it f (k + 1) s = it f k (f s)
  | 0 => rfl
  | k + 1 => by
    show f (it f (k + 1) s) = f (it f k (f s))
    rw [it_sh f s k]
theorem ex_round {X : List α} {f : α → α} (P : PX X f) {s : α} (hs : s ∈ X) : ∃ k, it f (k + 1) s = s := by
  have key : ∀ k, (orb f k s).Nodup ∨ ∃ k, it f (k + 1) s = s := by
    intro k
    induction k with
    | zero => exact .inl List.nodup_nil
    | succ k ih =>
      rcases ih with h | h
      · by_cases hm : it f k s ∈ orb f k s
        · have := orb_round P.m P.j hs h hm
          cases k with
          | zero => exact absurd hm (by unfold orb; simp)
          | succ k => exact .inr ⟨k, this⟩
        · refine .inl ?_
          rw [orb_succ]
          exact List.nodup_append.mpr ⟨h, by simp, fun x hx y hy e => hm (by rw [List.mem_singleton.mp hy] at e; exact e ▸ hx)⟩
      · exact .inr h
  rcases key (X.length + 1) with h | h
  · have := nodup_sub_len h (m := X) fun x hx => by
      obtain ⟨i, _, rfl⟩ := orb_mem.mp hx
      exact it_in P.m hs i
    rw [orb_len] at this; omega
  · exact h
theorem first_hit {p : Nat → Prop} : ∀ k : Nat, p k → ∃ i, p i ∧ ∀ j, j < i → ¬ p j := fun k => by
  induction k using Nat.strongRecOn with
  | _ k ih =>
    intro hk
    by_cases h : ∃ j, j < k ∧ p j
    · obtain ⟨j, h1, h2⟩ := h
      exact ih j h1 h2
    · exact ⟨k, hk, fun j hj hp => h ⟨j, hj, hp⟩⟩
theorem sep {X U : List α} {f : α → α} (P : PX X f) (hU : ∀ u ∈ U, u ∈ X ∧ f u ∈ U) {w z : α} (hw : w ∈ U) (hz : z ∉ U) : mrgs (fE X f) id w ≠ mrgs (fE X f) id z := fun e => by
  have back : ∀ x ∈ X, f x ∈ U → x ∈ U := fun x hx hf => by
    have hn : ((dedup U).map f).Nodup := List.pairwise_map.mpr (List.Pairwise.imp_of_mem (fun {a b} ha hb hab e => hab (P.j a (hU a (dedup_mem.mp ha)).1 b (hU b (dedup_mem.mp hb)).1 e)) (dedup_nodup U))
    refine Classical.byContradiction fun hxu => ?_
    have hni : f x ∉ (dedup U).map f := fun hm => by
      obtain ⟨u, hu, e⟩ := List.mem_map.mp hm
      have hu := dedup_mem.mp hu
      rw [P.j u (hU u hu).1 x hx e] at hu
      exact hxu hu
    have := nodup_sub_len (List.nodup_cons.mpr ⟨hni, hn⟩) (m := dedup U) fun y hy => by
      rcases List.mem_cons.mp hy with rfl | hy
      · exact dedup_mem.mpr hf
      · obtain ⟨u, hu, rfl⟩ := List.mem_map.mp hy
        exact dedup_mem.mpr (hU u (dedup_mem.mp hu)).2
    rw [List.length_cons, List.length_map] at this; omega
  have hf := mrgs_fits (fE X f) (id_fits fun x => decide (x ∈ U)) (fun e he => by
    obtain ⟨x, hx, rfl⟩ := List.mem_map.mp he
    show decide (x ∈ U) = decide (f x ∈ U)
    rw [decide_eq_decide]
    exact ⟨fun h => (hU x h).2, back x hx⟩) w z e
  have hf : decide (w ∈ U) = decide (z ∈ U) := hf
  rw [decide_eq_true hw, decide_eq_false hz] at hf
  exact nomatch hf
theorem swap_di {X : List α} {f : α → α} (P : PX X f) {a b : α} (ha : a ∈ X) (hb : b ∈ X) (hab : a ≠ b) :
    (mrgs (fE X f) id a ≠ mrgs (fE X f) id b ∧ mrgs (fE X fun x => f (tr a b x)) id a = mrgs (fE X fun x => f (tr a b x)) id b) ∨
    (mrgs (fE X f) id a = mrgs (fE X f) id b ∧ mrgs (fE X fun x => f (tr a b x)) id a ≠ mrgs (fE X fun x => f (tr a b x)) id b) := by
  have P' := P.swp ha hb
  obtain ⟨k, hk⟩ := ex_round P hb
  rw [it_sh] at hk
  have hfb := P.m b hb
  obtain ⟨i, hi, hmin⟩ := first_hit (p := fun i => it f i (f b) = a ∨ it f i (f b) = b) k (.inr hk)
  have hy := it_in P.m hfb
  have e1 : ∀ j, mrgs (fE X f) id (it f j (f b)) = mrgs (fE X f) id (f b) := by
    intro j
    induction j with
    | zero => rfl
    | succ j ih => rw [← ih]; exact (mrgs_joins _ _ (fE_mem (f := f) (hy j))).symm
  have st : ∀ j, j < i → f (tr a b (it f j (f b))) = it f (j + 1) (f b) := fun j hj => by
    have := hmin j hj
    rw [tr_o (fun h => this (.inl h)) (fun h => this (.inr h))]; rfl
  have e2 : ∀ j, j ≤ i → mrgs (fE X fun x => f (tr a b x)) id (it f j (f b)) = mrgs (fE X fun x => f (tr a b x)) id (f b) := by
    intro j
    induction j with
    | zero => intro _; rfl
    | succ j ih =>
      intro hj
      rw [← ih (by omega)]
      have := mrgs_joins (h := id) _ _ (fE_mem (f := fun x => f (tr a b x)) (hy j))
      dsimp only at this
      rw [st j (by omega)] at this
      exact this.symm
  have e3 : mrgs (fE X fun x => f (tr a b x)) id a = mrgs (fE X fun x => f (tr a b x)) id (f b) := by
    have := mrgs_joins (h := id) _ _ (fE_mem (f := fun x => f (tr a b x)) ha)
    dsimp only at this
    rw [tr_l] at this; exact this
  have inU : ∀ x, x ∈ orb f (i + 1) (f b) → x ∈ X := fun x hx => by
    obtain ⟨j, _, rfl⟩ := orb_mem.mp hx
    exact hy j
  have h0 : f b ∈ orb f (i + 1) (f b) := orb_mem.mpr ⟨0, by omega, rfl⟩
  by_cases hib : it f i (f b) = b
  · refine .inl ⟨?_, ?_⟩
    · refine Ne.symm (sep (U := orb f (i + 1) (f b)) P (fun u hu => ⟨inU u hu, ?_⟩) (orb_mem.mpr ⟨i, by omega, hib⟩) fun hm => ?_)
      · obtain ⟨j, hj, rfl⟩ := orb_mem.mp hu
        by_cases hji : j = i
        · rw [hji, hib]; exact h0
        · exact orb_mem.mpr ⟨j + 1, by omega, rfl⟩
      · obtain ⟨j, hj, e⟩ := orb_mem.mp hm
        by_cases hji : j = i
        · rw [hji, hib] at e; exact hab e.symm
        · exact hmin j (by omega) (.inl e)
    · rw [e3, ← e2 i (Nat.le_refl _), hib]
  · have hia := hi.resolve_right hib
    refine .inr ⟨?_, ?_⟩
    · rw [← hia, e1 i]
      exact (mrgs_joins _ _ (fE_mem (f := f) hb)).symm
    · refine sep (U := orb f (i + 1) (f b)) P' (fun u hu => ⟨inU u hu, ?_⟩) (orb_mem.mpr ⟨i, by omega, hia⟩) fun hm => ?_
      · obtain ⟨j, hj, rfl⟩ := orb_mem.mp hu
        by_cases hji : j = i
        · rw [hji, hia]
          show f (tr a b a) ∈ _
          rw [tr_l]; exact h0
        · rw [st j (by omega)]
          exact orb_mem.mpr ⟨j + 1, by omega, rfl⟩
      · obtain ⟨j, hj, e⟩ := orb_mem.mp hm
        by_cases hji : j = i
        · rw [hji, hia] at e; exact hab e
        · exact hmin j (by omega) (.inr e)
theorem swap_cnt {X : List α} {f : α → α} (P : PX X f) {a b : α} (ha : a ∈ X) (hb : b ∈ X) (hab : a ≠ b) :
    (mrgs (fE X f) id a ≠ mrgs (fE X f) id b → ncl X (mrgs (fE X fun x => f (tr a b x)) id) + 1 = ncl X (mrgs (fE X f) id)) ∧
    (mrgs (fE X f) id a = mrgs (fE X f) id b → ncl X (mrgs (fE X fun x => f (tr a b x)) id) = ncl X (mrgs (fE X f) id) + 1) := by
  have c1 := ncl_mrg (h := mrgs (fE X f) id) ha hb
  have c2 := ncl_mrg (h := mrgs (fE X fun x => f (tr a b x)) id) ha hb
  rw [← mrgs_app1] at c1 c2
  have hsame : ncl X (mrgs (fE X f ++ [(a, b)]) id) = ncl X (mrgs ((fE X fun x => f (tr a b x)) ++ [(a, b)]) id) := by
    have half : ∀ (f : α → α), (∀ e ∈ (fE X fun x => f (tr a b x)) ++ [(a, b)], mrgs (fE X f ++ [(a, b)]) id e.1 = mrgs (fE X f ++ [(a, b)]) id e.2) := fun f e he => by
      have jab : mrgs (fE X f ++ [(a, b)]) id a = mrgs (fE X f ++ [(a, b)]) id b := mrgs_joins _ (a, b) (List.mem_append_right _ List.mem_cons_self)
      rcases List.mem_append.mp he with he | he
      · obtain ⟨x, hx, rfl⟩ := List.mem_map.mp he
        show mrgs (fE X f ++ [(a, b)]) id x = mrgs (fE X f ++ [(a, b)]) id (f (tr a b x))
        have jt : ∀ y ∈ X, mrgs (fE X f ++ [(a, b)]) id y = mrgs (fE X f ++ [(a, b)]) id (f y) := fun y hy => joins_l (fE_mem hy)
        by_cases h1 : x = a
        · rw [h1, tr_l, ← jt b hb]; exact jab
        · by_cases h2 : x = b
          · rw [h2, tr_r, ← jt a ha]; exact jab.symm
          · rw [tr_o h1 h2]; exact jt x hx
      · rw [List.mem_singleton.mp he]; exact jab
    refine ncl_congr fun x _ y _ => ⟨fun e => rel_sub (fun e he => ?_) e, fun e => rel_sub (half f) e⟩
    have := half (fun x => f (tr a b x)) e (by
      have e2 : (fun x => f (tr a b (tr a b x))) = f := funext fun x => by rw [tr_tr]
      rw [e2]; exact he)
    exact this
  rcases swap_di P ha hb hab with ⟨h1, h2⟩ | ⟨h1, h2⟩
  · refine ⟨fun _ => ?_, fun h => absurd h h1⟩
    rw [if_neg h1] at c1
    rw [if_pos h2] at c2
    omega
  · refine ⟨fun h => absurd h1 h, fun _ => ?_⟩
    rw [if_pos h1] at c1
    rw [if_neg h2] at c2
    omega
def appS (f : α → α) : List (α × α) → α → α
  | [] => f
  | e :: l => appS (fun x => f (tr e.1 e.2 x)) l
theorem pot {X : List α} : ∀ (l : List (α × α)) (f : α → α) (E : List (α × α)), PX X f → (∀ x ∈ X, mrgs E id x = mrgs E id (f x)) → (∀ e ∈ l, e.1 ∈ X ∧ e.2 ∈ X ∧ e.1 ≠ e.2) →
    ∃ d : Nat, 2 * ncl X (mrgs (E ++ l) id) + ncl X (mrgs (fE X f) id) + l.length = 2 * ncl X (mrgs E id) + ncl X (mrgs (fE X (appS f l)) id) + 2 * d
  | [], f, E, _, _, _ => ⟨0, by rw [List.append_nil]; show _ = _; simp [appS]⟩
  | (a, b) :: l, f, E, P, hc, hl => by
    obtain ⟨ha, hb, hab⟩ := hl (a, b) List.mem_cons_self
    dsimp only at ha hb hab
    have hE : mrgs (E ++ [(a, b)]) id = mrg a b (mrgs E id) := mrgs_app1 E a b id
    have hc' : ∀ x ∈ X, mrgs (E ++ [(a, b)]) id x = mrgs (E ++ [(a, b)]) id (f (tr a b x)) := fun x hx => by
      have k1 : ∀ y ∈ X, mrgs (E ++ [(a, b)]) id y = mrgs (E ++ [(a, b)]) id (f y) := fun y hy => by rw [hE]; exact mrg_keeps (hc y hy)
      have jab : mrgs (E ++ [(a, b)]) id a = mrgs (E ++ [(a, b)]) id b := mrgs_joins _ (a, b) (List.mem_append_right _ List.mem_cons_self)
      by_cases h1 : x = a
      · rw [h1, tr_l, ← k1 b hb]; exact jab
      · by_cases h2 : x = b
        · rw [h2, tr_r, ← k1 a ha]; exact jab.symm
        · rw [tr_o h1 h2]; exact k1 x hx
    obtain ⟨d, hd⟩ := pot l (fun x => f (tr a b x)) (E ++ [(a, b)]) (P.swp ha hb) hc' fun e he => hl e (List.mem_cons_of_mem _ he)
    rw [List.append_assoc] at hd
    have hd : 2 * ncl X (mrgs (E ++ (a, b) :: l) id) + ncl X (mrgs (fE X fun x => f (tr a b x)) id) + l.length = 2 * ncl X (mrgs (E ++ [(a, b)]) id) + ncl X (mrgs (fE X (appS f ((a, b) :: l))) id) + 2 * d := hd
    obtain ⟨s1, s2⟩ := swap_cnt P ha hb hab
    have cm := ncl_mrg (h := mrgs E id) ha hb
    rw [← hE] at cm
    rw [List.length_cons]
    by_cases h1 : mrgs E id a = mrgs E id b
    · rw [if_pos h1] at cm
      by_cases h2 : mrgs (fE X f) id a = mrgs (fE X f) id b
      · have := s2 h2
        exact ⟨d, by omega⟩
      · have := s1 h2
        exact ⟨d + 1, by omega⟩
    · rw [if_neg h1] at cm
      have h2 : mrgs (fE X f) id a ≠ mrgs (fE X f) id b := fun e => h1 (rel_sub (fun e he => by
        obtain ⟨x, hx, rfl⟩ := List.mem_map.mp he
        exact hc x hx) e)
      have := s1 h2
      exact ⟨d, by omega⟩
end

section
/-! ### corners of a drawing: a permutation made by swaps -/
def flp (x : T3) : T3 := ⟨x.a, x.b, 1 - x.c⟩
def f0 (x : T3) : T3 := if x.b = 2 then x else flp x
abbrev CP := List ((Int × Int) × (Int × Int))
def q1 (P : CP) (c : Crs) : T3 := if c.c = 1 then sdK (pr P (c.n, 0)) 1 else sdK (pr P (c.n, 1)) 1
where sdK (k : Int × Int) (s : Int) : T3 := ⟨k.1, k.2, s⟩
def q2 (P : CP) (c : Crs) : T3 := if c.c = 1 then ⟨(pr P (c.n, 1)).1, (pr P (c.n, 1)).2, 1⟩ else ⟨(pr P (c.n, 0)).1, (pr P (c.n, 0)).2, 1⟩
def q3 (c : Crs) : T3 := if c.c = 1 then ⟨c.n, 0, 0⟩ else ⟨c.n, 1, 0⟩
def q4 (c : Crs) : T3 := if c.c = 1 then ⟨c.n, 1, 0⟩ else ⟨c.n, 0, 0⟩
def qs (P : CP) (c : Crs) : List (T3 × T3) := [(q1 P c, q2 P c), (q2 P c, q3 c), (q3 c, q4 c)]
def qp (P : CP) (c : Crs) : List T3 := [q1 P c, q2 P c, q3 c, q4 c]
theorem appS_app {α : Type} [DecidableEq α] : ∀ (l m : List (α × α)) (f : α → α), appS f (l ++ m) = appS (appS f l) m
  | [], _, _ => rfl
  | _ :: l, m, f => appS_app l m _
variable {S : Nat} {ds : Drw} {C : List Crs}
theorem pr_at (h : WD S ds C) {c : Crs} (hc : c ∈ C) : ∃ xo xu, Rl ds xo ⟨c.n, 0, c.c⟩ ∧ Rl ds xu ⟨c.n, 1, c.c⟩ ∧ pr (cmsP ds) (c.n, 0) = ky xo ∧ pr (cmsP ds) (c.n, 1) = ky xu := by
  have hP := cmsP_is h.uk
  obtain ⟨xo, ho, _, po⟩ := hP.at h (h.over hc)
  obtain ⟨xu, hu, _, pu⟩ := hP.at h (h.under hc)
  exact ⟨xo, xu, ho, hu, po, pu⟩
theorem qp_mem (P : CP) {c : Crs} {x : T3} : x ∈ qp P c ↔ (x = ⟨(pr P (c.n, 0)).1, (pr P (c.n, 0)).2, 1⟩ ∨ x = ⟨(pr P (c.n, 1)).1, (pr P (c.n, 1)).2, 1⟩) ∨ (x = ⟨c.n, 0, 0⟩ ∨ x = ⟨c.n, 1, 0⟩) := by
  unfold qp q1 q2 q3 q4 q1.sdK
  simp only [List.mem_cons, List.not_mem_nil, or_false]
  by_cases h : c.c = 1
  · simp only [if_pos h]
    constructor
    · rintro (h | h | h | h)
      · exact .inl (.inl h)
      · exact .inl (.inr h)
      · exact .inr (.inl h)
      · exact .inr (.inr h)
    · rintro ((h | h) | (h | h))
      · exact .inl h
      · exact .inr (.inl h)
      · exact .inr (.inr (.inl h))
      · exact .inr (.inr (.inr h))
  · simp only [if_neg h]
    constructor
    · rintro (h | h | h | h)
      · exact .inl (.inr h)
      · exact .inl (.inl h)
      · exact .inr (.inr h)
      · exact .inr (.inl h)
    · rintro ((h | h) | (h | h))
      · exact .inr (.inl h)
      · exact .inl h
      · exact .inr (.inr (.inr h))
      · exact .inr (.inr (.inl h))
theorem prev_key (h : WD S ds C) {x x' y y' : T3} (h1 : Rl ds x y) (h2 : Rl ds x' y') (e : ky x = ky x') : ky y = ky y' := by rw [Rl.fn h.uk h1 h2 e]
theorem qp_one (h : WD S ds C) {c d : Crs} (hc : c ∈ C) (hd : d ∈ C) {x : T3} (h1 : x ∈ qp (cmsP ds) c) (h2 : x ∈ qp (cmsP ds) d) : c.n = d.n := by
  obtain ⟨xo, xu, ho, hu, po, pu⟩ := pr_at h hc
  obtain ⟨yo, yu, ko, ku, ro, ru⟩ := pr_at h hd
  rw [qp_mem, po, pu] at h1
  rw [qp_mem, ro, ru] at h2
  have fin : ∀ {a b : T3} {w w' : Int}, Rl ds a ⟨c.n, w, c.c⟩ → Rl ds b ⟨d.n, w', d.c⟩ → (⟨(ky a).1, (ky a).2, 1⟩ : T3) = ⟨(ky b).1, (ky b).2, 1⟩ → c.n = d.n := fun {a b w w'} ha hb e => by
    have e1 : ky a = ky b := by
      injection e with e1 e2
      exact Prod.ext e1 e2
    exact congrArg Prod.fst (prev_key h ha hb e1)
  rcases h1 with (h1 | h1) | (h1 | h1) <;> rcases h2 with (h2 | h2) | (h2 | h2) <;> rw [h1] at h2
  · exact fin ho ko h2
  · exact fin ho ku h2
  · exact absurd (show (1 : Int) = 0 from congrArg T3.c h2) (by decide)
  · exact absurd (show (1 : Int) = 0 from congrArg T3.c h2) (by decide)
  · exact fin hu ko h2
  · exact fin hu ku h2
  · exact absurd (show (1 : Int) = 0 from congrArg T3.c h2) (by decide)
  · exact absurd (show (1 : Int) = 0 from congrArg T3.c h2) (by decide)
  · exact absurd (show (0 : Int) = 1 from congrArg T3.c h2) (by decide)
  · exact absurd (show (0 : Int) = 1 from congrArg T3.c h2) (by decide)
  · exact congrArg T3.a h2
  · exact congrArg T3.a h2
  · exact absurd (show (0 : Int) = 1 from congrArg T3.c h2) (by decide)
  · exact absurd (show (0 : Int) = 1 from congrArg T3.c h2) (by decide)
  · exact congrArg T3.a h2
  · exact congrArg T3.a h2
theorem qp_nd (h : WD S ds C) {c : Crs} (hc : c ∈ C) : (qp (cmsP ds) c).Nodup := by
  obtain ⟨xo, xu, ho, hu, po, pu⟩ := pr_at h hc
  have hne : ky xo ≠ ky xu := fun e => by
    have e2 : (0 : Int) = 1 := congrArg Prod.snd (prev_key h ho hu e)
    exact absurd e2 (by decide)
  have hne1 : (⟨(ky xo).1, (ky xo).2, 1⟩ : T3) ≠ ⟨(ky xu).1, (ky xu).2, 1⟩ := fun e => by
    injection e with e1 e2
    exact hne (Prod.ext e1 e2)
  have d1 : ∀ (a b : Int) (w : Int), (⟨a, b, 1⟩ : T3) ≠ ⟨c.n, w, 0⟩ := fun a b w e => absurd (show (1 : Int) = 0 from congrArg T3.c e) (by decide)
  have d2 : (⟨c.n, 0, 0⟩ : T3) ≠ ⟨c.n, 1, 0⟩ := fun e => absurd (show (0 : Int) = 1 from congrArg T3.b e) (by decide)
  unfold qp q1 q2 q3 q4 q1.sdK
  rw [po, pu]
  by_cases h1 : c.c = 1
  · simp only [if_pos h1]
    refine List.nodup_cons.mpr ⟨?_, List.nodup_cons.mpr ⟨?_, List.nodup_cons.mpr ⟨?_, by simp⟩⟩⟩
    · simp only [List.mem_cons, List.not_mem_nil, or_false]
      rintro (e | e | e)
      · exact hne1 e
      · exact d1 _ _ _ e
      · exact d1 _ _ _ e
    · simp only [List.mem_cons, List.not_mem_nil, or_false]
      rintro (e | e)
      · exact d1 _ _ _ e
      · exact d1 _ _ _ e
    · simp only [List.mem_cons, List.not_mem_nil, or_false]
      exact d2
  · simp only [if_neg h1]
    refine List.nodup_cons.mpr ⟨?_, List.nodup_cons.mpr ⟨?_, List.nodup_cons.mpr ⟨?_, by simp⟩⟩⟩
    · simp only [List.mem_cons, List.not_mem_nil, or_false]
      rintro (e | e | e)
      · exact hne1 e.symm
      · exact d1 _ _ _ e
      · exact d1 _ _ _ e
    · simp only [List.mem_cons, List.not_mem_nil, or_false]
      rintro (e | e)
      · exact d1 _ _ _ e
      · exact d1 _ _ _ e
    · simp only [List.mem_cons, List.not_mem_nil, or_false]
      exact d2.symm
/-- the four swapped -/
theorem app_q {P : CP} {c : Crs} (hn : (qp P c).Nodup) (f : T3 → T3) : appS f (qs P c) (q1 P c) = f (q2 P c) ∧ appS f (qs P c) (q2 P c) = f (q3 c) ∧ appS f (qs P c) (q3 c) = f (q4 c) ∧ appS f (qs P c) (q4 c) = f (q1 P c) ∧ ∀ x, x ∉ qp P c → appS f (qs P c) x = f x := by
  unfold qp at hn ⊢
  show f (tr _ _ (tr _ _ (tr _ _ _))) = _ ∧ f (tr _ _ (tr _ _ (tr _ _ _))) = _ ∧ f (tr _ _ (tr _ _ (tr _ _ _))) = _ ∧ f (tr _ _ (tr _ _ (tr _ _ _))) = _ ∧ ∀ x, _ → f (tr _ _ (tr _ _ (tr _ _ x))) = _
  generalize q1 P c = a1 at *
  generalize q2 P c = a2 at *
  generalize q3 c = a3 at *
  generalize q4 c = a4 at *
  simp only [List.nodup_cons, List.mem_cons, List.not_mem_nil, or_false, not_or, not_false_eq_true, List.nodup_nil, and_true] at hn
  obtain ⟨⟨n12, n13, n14⟩, ⟨n23, n24⟩, n34⟩ := hn
  refine ⟨?_, ?_, ?_, ?_, fun x hx => ?_⟩
  · rw [tr_o n13 n14, tr_o n12 n13, tr_l]
  · rw [tr_o n23 n24, tr_l, tr_o (Ne.symm n13) (Ne.symm n23)]
  · rw [tr_l, tr_o (Ne.symm n24) (Ne.symm n34), tr_o (Ne.symm n14) (Ne.symm n24)]
  · rw [tr_r, tr_r, tr_r]
  · simp only [List.mem_cons, List.not_mem_nil, or_false, not_or] at hx
    obtain ⟨x1, x2, x3, x4⟩ := hx
    rw [tr_o x3 x4, tr_o x2 x3, tr_o x1 x2]
theorem app_all (h : WD S ds C) : ∀ (L : List Crs) (f : T3 → T3), (∀ c ∈ L, c ∈ C) → (L.map (·.n)).Nodup →
    (∀ x, (∀ c ∈ L, x ∉ qp (cmsP ds) c) → appS f (L.flatMap (qs (cmsP ds))) x = f x) ∧
    ∀ c ∈ L, appS f (L.flatMap (qs (cmsP ds))) (q1 (cmsP ds) c) = f (q2 (cmsP ds) c) ∧ appS f (L.flatMap (qs (cmsP ds))) (q2 (cmsP ds) c) = f (q3 c) ∧ appS f (L.flatMap (qs (cmsP ds))) (q3 c) = f (q4 c) ∧ appS f (L.flatMap (qs (cmsP ds))) (q4 c) = f (q1 (cmsP ds) c)
  | [], f, _, _ => ⟨fun _ _ => rfl, fun _ h => (List.not_mem_nil h).elim⟩
  | d :: L, f, hL, hn => by
    obtain ⟨hn1, hn2⟩ := List.nodup_cons.mp hn
    have hd := hL d List.mem_cons_self
    obtain ⟨i1, i2⟩ := app_all h L (appS f (qs (cmsP ds) d)) (fun c hc => hL c (List.mem_cons_of_mem _ hc)) hn2
    obtain ⟨a1, a2, a3, a4, a5⟩ := app_q (qp_nd h hd) f
    rw [List.flatMap_cons, appS_app]
    have dis : ∀ c ∈ L, ∀ x, x ∈ qp (cmsP ds) d → x ∉ qp (cmsP ds) c := fun c hc x h1 h2 => hn1 (by
      show d.n ∈ _
      rw [qp_one h hd (hL c (List.mem_cons_of_mem _ hc)) h1 h2]
      exact List.mem_map_of_mem (f := (·.n)) hc)
    refine ⟨fun x hx => ?_, fun c hc => ?_⟩
    · rw [i1 x fun c hc => hx c (List.mem_cons_of_mem _ hc)]
      exact a5 x (hx d List.mem_cons_self)
    · rcases List.mem_cons.mp hc with rfl | hc
      · refine ⟨?_, ?_, ?_, ?_⟩
        · rw [i1 _ fun e he => dis e he _ (by simp [qp])]; exact a1
        · rw [i1 _ fun e he => dis e he _ (by simp [qp])]; exact a2
        · rw [i1 _ fun e he => dis e he _ (by simp [qp])]; exact a3
        · rw [i1 _ fun e he => dis e he _ (by simp [qp])]; exact a4
      · obtain ⟨b1, b2, b3, b4⟩ := i2 c hc
        have nd : ∀ x, x ∈ qp (cmsP ds) c → appS f (qs (cmsP ds) d) x = f x := fun x hx => a5 x fun h2 => dis c hc x h2 hx
        refine ⟨?_, ?_, ?_, ?_⟩
        · rw [b1]; exact nd _ (by simp [qp])
        · rw [b2]; exact nd _ (by simp [qp])
        · rw [b3]; exact nd _ (by simp [qp])
        · rw [b4]; exact nd _ (by simp [qp])
theorem corA_q (h : WD S ds C) {c : Crs} (hc : c ∈ C) : corA (cmsP ds) c = [(q1 (cmsP ds) c, f0 (q2 (cmsP ds) c)), (q2 (cmsP ds) c, f0 (q3 c)), (q3 c, f0 (q4 c)), (q4 c, f0 (q1 (cmsP ds) c))] := by
  obtain ⟨xo, xu, ho, hu, po, pu⟩ := pr_at h hc
  have wo := h.way ho.left
  have wu := h.way hu.left
  unfold corA cor q1 q2 q3 q4 q1.sdK f0 flp
  rw [po, pu]
  have no : ¬ (ky xo).2 = 2 := by show ¬ xo.b = 2; omega
  have nu : ¬ (ky xu).2 = 2 := by show ¬ xu.b = 2; omega
  by_cases h1 : c.c = 1
  · simp [h1, no, nu]
  · simp [h1, no, nu]
end

section
variable {S : Nat} {ds : Drw} {C : List Crs}
theorem flp_flp (x : T3) (h : x.c = 0 ∨ x.c = 1) : flp (flp x) = x := by
  unfold flp
  cases x
  dsimp only at h ⊢
  congr 1; omega
theorem ky_f0 (x : T3) : ky (f0 x) = ky x := by unfold f0 flp; split <;> rfl
theorem f0_c {x : T3} (h : x.c = 0 ∨ x.c = 1) : (f0 x).c = 0 ∨ (f0 x).c = 1 := by
  unfold f0 flp
  split
  · exact h
  · show 1 - x.c = 0 ∨ 1 - x.c = 1; omega
theorem f0_px : PX (sdl ds) f0 where
  m := fun x hx => by
    obtain ⟨h1, h2⟩ := sdl_mem.mp hx
    exact sdl_mem.mpr ⟨by rw [ky_f0]; exact h1, f0_c h2⟩
  j := fun x hx y hy e => by
    obtain ⟨_, h2⟩ := sdl_mem.mp hx
    obtain ⟨_, h4⟩ := sdl_mem.mp hy
    have ek : ky x = ky y := by rw [← ky_f0 x, e, ky_f0]
    have eb : x.b = y.b := congrArg Prod.snd ek
    unfold f0 at e
    by_cases hb : x.b = 2
    · rw [if_pos hb, if_pos (by omega)] at e; exact e
    · rw [if_neg hb, if_neg (by omega)] at e
      rw [← flp_flp x h2, e, flp_flp y h4]
theorem qp_in (h : WD S ds C) {c : Crs} (hc : c ∈ C) {x : T3} (hx : x ∈ qp (cmsP ds) c) : x ∈ sdl ds ∧ x.b ≠ 2 := by
  obtain ⟨xo, xu, ho, hu, po, pu⟩ := pr_at h hc
  rw [qp_mem, po, pu] at hx
  have wo := h.way ho.left
  have wu := h.way hu.left
  have so := spk_of ho.left
  have su := spk_of hu.left
  have s0 := spk_of (h.over hc)
  have s1 := spk_of (h.under hc)
  rcases hx with (rfl | rfl) | (rfl | rfl)
  · exact ⟨sdl_mem.mpr ⟨so, .inr rfl⟩, by show xo.b ≠ 2; omega⟩
  · exact ⟨sdl_mem.mpr ⟨su, .inr rfl⟩, by show xu.b ≠ 2; omega⟩
  · exact ⟨sdl_mem.mpr ⟨s0, .inl rfl⟩, by show (0 : Int) ≠ 2; decide⟩
  · exact ⟨sdl_mem.mpr ⟨s1, .inl rfl⟩, by show (1 : Int) ≠ 2; decide⟩
theorem cover (h : WD S ds C) {x : T3} (hx : x ∈ sdl ds) (hb : x.b ≠ 2) : ∃ c ∈ C, x ∈ qp (cmsP ds) c := by
  obtain ⟨h1, h2⟩ := sdl_mem.mp hx
  obtain ⟨y, hy, e⟩ : ∃ y ∈ ds.flatten, ky y = ky x := by
    rcases spk_mem.mp h1 with h1 | ⟨i, _, e⟩
    · exact h1
    · exact absurd (congrArg Prod.snd e) hb
  rcases h2 with h2 | h2
  · obtain ⟨c, hc, e2⟩ := h.mem.mp hy
    refine ⟨c, hc, ?_⟩
    rw [qp_mem]
    refine .inr ?_
    obtain ⟨xa, xb, xc⟩ := x
    dsimp only at h2
    subst h2
    rcases e2 with rfl | rfl
    · injection e with e1 e3
      exact .inl (by rw [show xa = c.n from e1.symm, show xb = 0 from e3.symm])
    · injection e with e1 e3
      exact .inr (by rw [show xa = c.n from e1.symm, show xb = 1 from e3.symm])
  · obtain ⟨z, hz⟩ := Rl.next hy
    obtain ⟨c, hc, e2⟩ := h.mem.mp hz.right
    obtain ⟨xo, xu, ho, hu, po, pu⟩ := pr_at h hc
    refine ⟨c, hc, ?_⟩
    rw [qp_mem, po, pu]
    refine .inl ?_
    have ex : x = ⟨(ky y).1, (ky y).2, 1⟩ := by
      obtain ⟨xa, xb, xc⟩ := x
      dsimp only at h2
      subst h2
      rw [e]; rfl
    rcases e2 with rfl | rfl
    · exact .inl (by rw [ex, Rl.inj h.uk hz ho rfl])
    · exact .inr (by rw [ex, Rl.inj h.uk hz hu rfl])
abbrev swsL (ds : Drw) (L : List Crs) : List (T3 × T3) := L.flatMap (qs (cmsP ds))
theorem sws_len (ds : Drw) : ∀ L : List Crs, (swsL ds L).length = 3 * L.length
  | [] => rfl
  | c :: L => by
    have := sws_len ds L
    unfold swsL at this ⊢
    rw [List.flatMap_cons, List.length_append, this, List.length_cons]
    show 3 + _ = _; omega
theorem sws_ok (h : WD S ds C) {L : List Crs} (hL : L.Perm C) : ∀ e ∈ swsL ds L, e.1 ∈ sdl ds ∧ e.2 ∈ sdl ds ∧ e.1 ≠ e.2 := fun e he => by
  obtain ⟨c, hc, he⟩ := List.mem_flatMap.mp he
  have hc := hL.mem_iff.mp hc
  have nd := qp_nd h hc
  have i1 := qp_in h hc (x := q1 (cmsP ds) c) (by simp [qp])
  have i2 := qp_in h hc (x := q2 (cmsP ds) c) (by simp [qp])
  have i3 := qp_in h hc (x := q3 c) (by simp [qp])
  have i4 := qp_in h hc (x := q4 c) (by simp [qp])
  unfold qp at nd
  simp only [List.nodup_cons, List.mem_cons, List.not_mem_nil, or_false, not_or, not_false_eq_true, List.nodup_nil, and_true] at nd
  unfold qs at he
  simp only [List.mem_cons, List.not_mem_nil, or_false] at he
  rcases he with rfl | rfl | rfl
  · exact ⟨i1.1, i2.1, nd.1.1⟩
  · exact ⟨i2.1, i3.1, nd.2.1.1⟩
  · exact ⟨i3.1, i4.1, nd.2.2⟩
theorem regs_z (h : WD S ds C) {L : List Crs} (hL : L.Perm C) : ncl (sdl ds) (mrgs (L.flatMap (corA (cmsP ds))) id) = ncl (sdl ds) (mrgs (fE (sdl ds) (appS f0 (swsL ds L))) id) := by
  obtain ⟨a1, a2⟩ := app_all h L f0 (fun c hc => hL.mem_iff.mp hc) ((hL.map (·.n)).nodup_iff.mpr h.di.nd)
  refine ncl_congr fun x _ y _ => ⟨fun e => rel_sub (fun e he => ?_) e, fun e => rel_sub (fun e he => ?_) e⟩
  · obtain ⟨c, hc, he⟩ := List.mem_flatMap.mp he
    have hcC := hL.mem_iff.mp hc
    obtain ⟨b1, b2, b3, b4⟩ := a2 c hc
    rw [corA_q h hcC] at he
    have jo : ∀ y, y ∈ qp (cmsP ds) c → mrgs (fE (sdl ds) (appS f0 (swsL ds L))) id y = mrgs (fE (sdl ds) (appS f0 (swsL ds L))) id (appS f0 (swsL ds L) y) := fun y hy => mrgs_joins _ _ (fE_mem (qp_in h hcC hy).1)
    simp only [List.mem_cons, List.not_mem_nil, or_false] at he
    rcases he with rfl | rfl | rfl | rfl
    · have := jo (q1 (cmsP ds) c) (by simp [qp]); rw [b1] at this; exact this
    · have := jo (q2 (cmsP ds) c) (by simp [qp]); rw [b2] at this; exact this
    · have := jo (q3 c) (by simp [qp]); rw [b3] at this; exact this
    · have := jo (q4 c) (by simp [qp]); rw [b4] at this; exact this
  · obtain ⟨z, hz, rfl⟩ := List.mem_map.mp he
    show mrgs _ id z = mrgs _ id (appS f0 (swsL ds L) z)
    by_cases hb : z.b = 2
    · rw [a1 z fun c hc hq => (qp_in h (hL.mem_iff.mp hc) hq).2 hb]
      unfold f0; rw [if_pos hb]
    · obtain ⟨c, hcC, hq⟩ := cover h hz hb
      have hc := hL.mem_iff.mpr hcC
      obtain ⟨b1, b2, b3, b4⟩ := a2 c hc
      have jo : ∀ e ∈ corA (cmsP ds) c, mrgs (L.flatMap (corA (cmsP ds))) id e.1 = mrgs (L.flatMap (corA (cmsP ds))) id e.2 := fun e he => mrgs_joins _ e (List.mem_flatMap.mpr ⟨c, hc, he⟩)
      rw [corA_q h hcC] at jo
      unfold qp at hq
      simp only [List.mem_cons, List.not_mem_nil, or_false] at hq
      rcases hq with rfl | rfl | rfl | rfl
      · rw [b1]; exact jo (q1 (cmsP ds) c, f0 (q2 (cmsP ds) c)) (.head _)
      · rw [b2]; exact jo (q2 (cmsP ds) c, f0 (q3 c)) (.tail _ (.head _))
      · rw [b3]; exact jo (q3 c, f0 (q4 c)) (.tail _ (.tail _ (.head _)))
      · rw [b4]; exact jo (q4 c, f0 (q1 (cmsP ds) c)) (.tail _ (.tail _ (.tail _ (.head _))))
def g0 (x : T3) : (Int × Int) × Int := (ky x, if x.b = 2 then x.c else 0)
theorem ncl_mem {α β : Type} [DecidableEq α] [DecidableEq β] {X Y : List α} (h : α → β) (e : ∀ x, x ∈ X ↔ x ∈ Y) : ncl X h = ncl Y h := by
  refine ncl_of (dedup_nodup _) fun v => ?_
  rw [dedup_mem, List.mem_map]
  constructor
  · rintro ⟨t, ht, e2⟩; exact ⟨t, (e t).mp ht, e2⟩
  · rintro ⟨t, ht, e2⟩; exact ⟨t, (e t).mpr ht, e2⟩
theorem base_ks : ∀ ks : List (Int × Int), ks.Nodup → 2 * ncl (ks.flatMap dbl) ky = ncl (ks.flatMap dbl) g0 + (ks.filter fun k => decide (k.2 ≠ 2)).length
  | [], _ => rfl
  | k :: ks, hn => by
    obtain ⟨hk, hn⟩ := List.nodup_cons.mp hn
    have ih := base_ks ks hn
    have no1 : ∀ s : Int, ky ⟨k.1, k.2, s⟩ ∉ (ks.flatMap dbl).map ky := fun s hm => by
      obtain ⟨x, hx, e⟩ := List.mem_map.mp hm
      have := (dbl_mem.mp hx).1
      rw [e] at this; exact hk this
    have no2 : ∀ s : Int, g0 ⟨k.1, k.2, s⟩ ∉ (ks.flatMap dbl).map g0 := fun s hm => by
      obtain ⟨x, hx, e⟩ := List.mem_map.mp hm
      have h1 := (dbl_mem.mp hx).1
      rw [show ky x = ky ⟨k.1, k.2, s⟩ from congrArg Prod.fst e] at h1
      exact hk h1
    have ef : (k :: ks).flatMap dbl = ⟨k.1, k.2, 0⟩ :: ⟨k.1, k.2, 1⟩ :: ks.flatMap dbl := rfl
    have c1 : ncl ((k :: ks).flatMap dbl) ky = ncl (ks.flatMap dbl) ky + 1 := by
      rw [ef, ncl_cons, if_pos (show ky ⟨k.1, k.2, 0⟩ ∈ (⟨k.1, k.2, 1⟩ :: ks.flatMap dbl).map ky from List.mem_map.mpr ⟨⟨k.1, k.2, 1⟩, List.mem_cons_self, rfl⟩), ncl_cons, if_neg (no1 1)]
    rw [c1, ef, ncl_cons, ncl_cons, if_neg (no2 1), List.filter_cons]
    by_cases hb : k.2 = 2
    · have n3 : g0 ⟨k.1, k.2, 0⟩ ∉ (⟨k.1, k.2, 1⟩ :: ks.flatMap dbl).map g0 := fun hm => by
        rw [List.map_cons] at hm
        rcases List.mem_cons.mp hm with e | hm
        · have e2 := congrArg Prod.snd e
          unfold g0 at e2
          dsimp only at e2
          rw [if_pos hb, if_pos hb] at e2
          exact absurd e2 (by decide)
        · exact no2 0 hm
      rw [if_neg n3, if_neg (by simpa using hb)]
      omega
    · have y3 : g0 ⟨k.1, k.2, 0⟩ ∈ (⟨k.1, k.2, 1⟩ :: ks.flatMap dbl).map g0 := by
        rw [List.map_cons]
        refine List.mem_cons.mpr (.inl ?_)
        unfold g0
        dsimp only
        rw [if_neg hb, if_neg hb]; rfl
      rw [if_pos y3, if_pos (by simpa using hb), List.length_cons]
      omega
theorem base_cnt (h : WD S ds C) : 2 * ncl (sdl ds) (mrgs (fE (sdl ds) flp) id) = ncl (sdl ds) (mrgs (fE (sdl ds) f0) id) + 2 * C.length := by
  have r1 : ncl (sdl ds) (mrgs (fE (sdl ds) flp) id) = ncl (sdl ds) ky := ncl_congr fun x hx y hy => by
    constructor
    · intro e
      exact mrgs_fits (fE (sdl ds) flp) (id_fits ky) (fun e he => by
        obtain ⟨z, _, rfl⟩ := List.mem_map.mp he; rfl) x y e
    · intro e
      obtain ⟨_, hxc⟩ := sdl_mem.mp hx
      obtain ⟨_, hyc⟩ := sdl_mem.mp hy
      by_cases ec : x.c = y.c
      · have : x = y := by
          obtain ⟨a, b, c⟩ := x; obtain ⟨a', b', c'⟩ := y
          injection e with e1 e2
          dsimp only at ec e1 e2
          rw [e1, e2, ec]
        rw [this]
      · have : y = flp x := by
          obtain ⟨a, b, c⟩ := x; obtain ⟨a', b', c'⟩ := y
          injection e with e1 e2
          dsimp only at ec e1 e2 hxc hyc
          unfold flp
          dsimp only
          rw [e1, e2, show c' = 1 - c by omega]
        rw [this]; exact mrgs_joins _ _ (fE_mem hx)
  have r2 : ncl (sdl ds) (mrgs (fE (sdl ds) f0) id) = ncl (sdl ds) g0 := ncl_congr fun x hx y hy => by
    obtain ⟨_, hxc⟩ := sdl_mem.mp hx
    obtain ⟨_, hyc⟩ := sdl_mem.mp hy
    constructor
    · intro e
      exact mrgs_fits (fE (sdl ds) f0) (id_fits g0) (fun e he => by
        obtain ⟨z, _, rfl⟩ := List.mem_map.mp he
        show g0 z = g0 (f0 z)
        by_cases hb : z.b = 2
        · rw [show f0 z = z by unfold f0; rw [if_pos hb]]
        · rw [show f0 z = flp z by unfold f0; rw [if_neg hb]]
          unfold g0
          rw [if_neg hb, if_neg (show ¬ (flp z).b = 2 from hb)]; rfl) x y e
    · intro e
      have ek : ky x = ky y := congrArg Prod.fst e
      have ec2 := congrArg Prod.snd e
      unfold g0 at ec2
      dsimp only at ec2
      obtain ⟨a, b, c⟩ := x; obtain ⟨a', b', c'⟩ := y
      injection ek with e1 e2
      dsimp only at e1 e2 hxc hyc ec2
      subst e1
      subst e2
      by_cases ec : c = c'
      · rw [ec]
      · by_cases hb : b = 2
        · rw [if_pos hb, if_pos hb] at ec2; exact absurd ec2 ec
        · have : (⟨a, b, c'⟩ : T3) = f0 ⟨a, b, c⟩ := by
            unfold f0 flp
            dsimp only
            rw [if_neg hb, show c' = 1 - c by omega]
          rw [this]; exact mrgs_joins _ _ (fE_mem hx)
  have hm : ∀ x, x ∈ sdl ds ↔ x ∈ (spk ds).flatMap dbl := fun x => by
    unfold sdl; exact (sorted_perm _).mem_iff
  rw [r1, r2, ncl_mem ky hm, ncl_mem g0 hm, base_ks _ h.spk_nodup]
  congr 1
  rw [← h.len, ← List.length_map (f := ky)]
  refine ((List.perm_ext_iff_of_nodup (List.Pairwise.filter _ h.spk_nodup) h.uk).mpr fun k => ?_).length_eq
  rw [List.mem_filter, decide_eq_true_eq, spk_mem, List.mem_map]
  constructor
  · rintro ⟨h1 | ⟨i, _, rfl⟩, h2⟩
    · exact h1
    · exact absurd rfl h2
  · rintro ⟨x, hx, rfl⟩
    exact ⟨.inl ⟨x, hx, rfl⟩, by have := h.way hx; show x.b ≠ 2; omega⟩
/-- regions and joined spots -/
theorem genus (h : WD S ds C) {L : List Crs} (hL : L.Perm C) : ∃ d : Nat, 2 * ncl (sdl ds) (mrgs (fE (sdl ds) flp ++ swsL ds L) id) + C.length = ncl (sdl ds) (mrgs (L.flatMap (corA (cmsP ds))) id) + 2 * d := by
  obtain ⟨d, hd⟩ := pot (swsL ds L) f0 (fE (sdl ds) flp) (f0_px (ds := ds)) (fun x hx => by
    by_cases hb : x.b = 2
    · unfold f0; rw [if_pos hb]
    · unfold f0; rw [if_neg hb]; exact mrgs_joins _ _ (fE_mem hx)) (sws_ok h hL)
  have hb := base_cnt h
  rw [sws_len, hL.length_eq] at hd
  rw [regs_z h hL]
  exact ⟨d, by omega⟩
end

section
variable {S : Nat} {ds : Drw} {C : List Crs}
/-! ### joined spots are pieces -/
def rwO (ds : Drw) (x : T3) : Nat := if x.b = 2 then x.a.toNat else ((lk (spts ds) (x.a, x.b)).getD 0).toNat
theorem idx_inj {α : Type} [DecidableEq α] {l : List α} {a b : α} (ha : a ∈ l) (hb : b ∈ l) (e : l.idxOf a = l.idxOf b) : a = b := by
  have h1 : l[l.idxOf a]? = some a := by rw [List.getElem?_eq_getElem (List.idxOf_lt_length_iff.mpr ha), List.getElem_idxOf]
  have h2 : l[l.idxOf b]? = some b := by rw [List.getElem?_eq_getElem (List.idxOf_lt_length_iff.mpr hb), List.getElem_idxOf]
  rw [e, h2] at h1
  exact (Option.some.inj h1).symm
theorem rwO_at (h : WD S ds C) {k : Nat} {r : List T3} (hr : ds[k]? = some r) {y : T3} (hy : y ∈ r) (s : Int) : rwO ds ⟨y.a, y.b, s⟩ = k := by
  obtain ⟨c, hc, e⟩ := (h.di.mem k r hr y).mp hy
  unfold rwO
  rcases e with ⟨rfl, rfl⟩ | ⟨rfl, rfl⟩
  · dsimp only
    rw [if_neg (by decide), h.di.spO hc]; simp
  · dsimp only
    rw [if_neg (by decide), h.di.spU hc]; simp
theorem rwO_over (h : WD S ds C) {c : Crs} (hc : c ∈ C) (s : Int) : rwO ds ⟨c.n, 0, s⟩ = c.i ∧ rwO ds ⟨c.n, 1, s⟩ = c.j := by
  unfold rwO
  dsimp only
  rw [if_neg (by decide), if_neg (by decide), h.di.spO hc, h.di.spU hc]
  simp
theorem rl_row (h : WD S ds C) {x y : T3} (hr : Rl ds x y) (s s' : Int) : rwO ds ⟨x.a, x.b, s⟩ = rwO ds ⟨y.a, y.b, s'⟩ := by
  obtain ⟨i, r, k, h1, h2, h3⟩ := hr
  rw [rwO_at h h1 (List.mem_of_getElem? h2), rwO_at h h1 (List.mem_of_getElem? h3)]
def repR (ds : Drw) (t : Nat) : T3 := match ds[t]? with
  | some (y :: _) => ⟨y.a, y.b, 0⟩
  | _ => ⟨(t : Int), 2, 0⟩
theorem sdl_two (h : WD S ds C) {x : T3} (hx : x ∈ sdl ds) : (∃ (k : Nat) (r : List T3) (y : T3), ds[k]? = some r ∧ y ∈ r ∧ x = ⟨y.a, y.b, x.c⟩) ∨ ∃ i : Nat, ds[i]? = some [] ∧ x = ⟨(i : Int), 2, x.c⟩ := by
  obtain ⟨h1, _⟩ := sdl_mem.mp hx
  rcases spk_mem.mp h1 with ⟨y, hy, e⟩ | ⟨i, hi, e⟩
  · obtain ⟨r, hr, hyr⟩ := List.mem_flatten.mp hy
    obtain ⟨k, hk⟩ := List.mem_iff_getElem?.mp hr
    refine .inl ⟨k, r, y, hk, hyr, ?_⟩
    obtain ⟨a, b, c⟩ := x
    injection e with e1 e2
    rw [show a = y.a from e1.symm, show b = y.b from e2.symm]
  · refine .inr ⟨i, hi, ?_⟩
    obtain ⟨a, b, c⟩ := x
    injection e with e1 e2
    rw [show a = (i : Int) from e1, show b = 2 from e2]
theorem rwO_lt (h : WD S ds C) {x : T3} (hx : x ∈ sdl ds) : rwO ds x < S := by
  rw [← h.di.len]
  rcases sdl_two h hx with ⟨k, r, y, hk, hy, e⟩ | ⟨i, hi, e⟩
  · rw [e, rwO_at h hk hy]; exact (List.getElem?_eq_some_iff.mp hk).1
  · rw [e]
    unfold rwO
    rw [if_pos rfl]
    show (i : Int).toNat < _
    rw [Int.toNat_natCast]; exact (List.getElem?_eq_some_iff.mp hi).1
theorem repR_in (h : WD S ds C) {t : Nat} (ht : t < S) : repR ds t ∈ sdl ds ∧ rwO ds (repR ds t) = t := by
  have hl : t < ds.length := by rw [h.di.len]; exact ht
  obtain ⟨r, hr⟩ : ∃ r, ds[t]? = some r := ⟨_, List.getElem?_eq_getElem hl⟩
  unfold repR
  rw [hr]
  cases r with
  | nil =>
    refine ⟨sdl_mem.mpr ⟨spk_mem.mpr (.inr ⟨t, hr, rfl⟩), .inl rfl⟩, ?_⟩
    unfold rwO
    dsimp only
    rw [if_pos rfl]; simp
  | cons y r =>
    refine ⟨sdl_mem.mpr ⟨spk_mem.mpr (.inl ⟨y, List.mem_flatten.mpr ⟨_, List.mem_of_getElem? hr, List.mem_cons_self⟩, rfl⟩), .inl rfl⟩, ?_⟩
    exact rwO_at h hr List.mem_cons_self 0
theorem comp_cnt (h : WD S ds C) {L : List Crs} (hL : L.Perm C) {E : PrsJ} {K : List Int} (hE : ∀ e, e ∈ E ↔ ∃ c ∈ C, e = (c.i, c.j)) (hK : K.Nodup) (hm : ∀ v, v ∈ K ↔ ∃ t, t < S ∧ mrgsJ E id0J t = v) : K.length = ncl (sdl ds) (mrgs (fE (sdl ds) flp ++ swsL ds L) id) := by
  obtain ⟨Ec, hEc⟩ : ∃ Ec, Ec = fE (sdl ds) flp ++ swsL ds L := ⟨_, rfl⟩
  rw [← hEc]
  have jf : ∀ z ∈ sdl ds, mrgs Ec id z = mrgs Ec id (flp z) := fun z hz => mrgs_joins Ec (z, flp z) (by rw [hEc]; exact List.mem_append_left _ (fE_mem hz))
  have js : ∀ c ∈ C, ∀ e ∈ qs (cmsP ds) c, mrgs Ec id e.1 = mrgs Ec id e.2 := fun c hc e he => mrgs_joins Ec e (by rw [hEc]; exact List.mem_append_right _ (List.mem_flatMap.mpr ⟨c, hL.mem_iff.mpr hc, he⟩))
  -- a spot's two sides
  have m1 : ∀ k : Int × Int, k ∈ spk ds → ∀ s s' : Int, (s = 0 ∨ s = 1) → (s' = 0 ∨ s' = 1) → mrgs Ec id ⟨k.1, k.2, s⟩ = mrgs Ec id ⟨k.1, k.2, s'⟩ := fun k hk s s' hs hs' => by
    have := jf ⟨k.1, k.2, 0⟩ (sdl_mem.mpr ⟨hk, .inl rfl⟩)
    have e : flp ⟨k.1, k.2, 0⟩ = ⟨k.1, k.2, 1⟩ := rfl
    rw [e] at this
    rcases hs with rfl | rfl <;> rcases hs' with rfl | rfl
    · rfl
    · exact this
    · exact this.symm
    · rfl
  -- all four of a crossing
  have m2 : ∀ c ∈ C, ∀ x ∈ qp (cmsP ds) c, mrgs Ec id x = mrgs Ec id ⟨c.n, 0, 0⟩ := fun c hc => by
    have j1 := js c hc (q1 (cmsP ds) c, q2 (cmsP ds) c) (.head _)
    have j2 := js c hc (q2 (cmsP ds) c, q3 c) (.tail _ (.head _))
    have j3 := js c hc (q3 c, q4 c) (.tail _ (.tail _ (.head _)))
    dsimp only at j1 j2 j3
    have all : ∀ x ∈ qp (cmsP ds) c, mrgs Ec id x = mrgs Ec id (q4 c) := fun x hx => by
      unfold qp at hx
      simp only [List.mem_cons, List.not_mem_nil, or_false] at hx
      rcases hx with rfl | rfl | rfl | rfl
      · rw [j1, j2, j3]
      · rw [j2, j3]
      · exact j3
      · rfl
    intro x hx
    rw [all x hx]
    exact (all ⟨c.n, 0, 0⟩ ((qp_mem _).mpr (.inr (.inl rfl)))).symm
  have m4 : ∀ c ∈ C, mrgs Ec id ⟨c.n, 1, 0⟩ = mrgs Ec id ⟨c.n, 0, 0⟩ := fun c hc => m2 c hc _ ((qp_mem _).mpr (.inr (.inr rfl)))
  have m3 : ∀ x y : T3, Rl ds x y → mrgs Ec id ⟨x.a, x.b, 0⟩ = mrgs Ec id ⟨y.a, y.b, 0⟩ := fun x y hr => by
    obtain ⟨c, hc, e⟩ := h.mem.mp hr.right
    obtain ⟨xo, xu, ho, hu, po, pu⟩ := pr_at h hc
    have hsx := m1 (ky x) (spk_of hr.left) 0 1 (.inl rfl) (.inr rfl)
    have e0 : ∀ s : Int, (⟨x.a, x.b, s⟩ : T3) = ⟨(ky x).1, (ky x).2, s⟩ := fun _ => rfl
    rw [e0, hsx]
    rcases e with rfl | rfl
    · have ex := Rl.inj h.uk hr ho rfl
      refine m2 c hc _ ((qp_mem _).mpr (.inl (.inl ?_)))
      rw [po, ex]
    · have ex := Rl.inj h.uk hr hu rfl
      refine (m2 c hc _ ((qp_mem _).mpr (.inl (.inr ?_)))).trans (m4 c hc).symm
      rw [pu, ex]
  have m5 : ∀ (k : Nat) (r : List T3), ds[k]? = some r → ∀ (i : Nat) (y y0 : T3), r[i]? = some y → r[0]? = some y0 → mrgs Ec id ⟨y.a, y.b, 0⟩ = mrgs Ec id ⟨y0.a, y0.b, 0⟩ := fun k r hr i => by
    induction i with
    | zero => intro y y0 h1 h2; rw [h1] at h2; rw [Option.some.inj h2]
    | succ i ih =>
      intro y y0 h1 h2
      have hl := (List.getElem?_eq_some_iff.mp h1).1
      obtain ⟨z, hz⟩ : ∃ z, r[i]? = some z := ⟨_, List.getElem?_eq_getElem (by omega)⟩
      rw [← ih z y0 hz h2]
      exact (m3 z y ⟨k, r, i, hr, hz, by rw [Nat.mod_eq_of_lt hl]; exact h1⟩).symm
  have m6 : ∀ x ∈ sdl ds, mrgs Ec id x = mrgs Ec id (repR ds (rwO ds x)) := fun x hx => by
    obtain ⟨hk1, hk2⟩ := sdl_mem.mp hx
    have hflat : mrgs Ec id x = mrgs Ec id ⟨x.a, x.b, 0⟩ := m1 (ky x) hk1 x.c 0 hk2 (.inl rfl)
    rw [hflat]
    rcases sdl_two h hx with ⟨k, r, y, hk, hy, e⟩ | ⟨i, hi, e⟩
    · have e2 : rwO ds x = k := by rw [e]; exact rwO_at h hk hy _
      have ea : x.a = y.a := by have := congrArg T3.a e; exact this
      have eb : x.b = y.b := by have := congrArg T3.b e; exact this
      rw [e2, ea, eb]
      unfold repR
      rw [hk]
      obtain ⟨j, hj⟩ := List.mem_iff_getElem?.mp hy
      cases r with
      | nil => exact (List.not_mem_nil hy).elim
      | cons y0 r => exact m5 k _ hk j y y0 hj rfl
    · have ea : x.a = (i : Int) := by have := congrArg T3.a e; exact this
      have eb : x.b = 2 := by have := congrArg T3.b e; exact this
      have e2 : rwO ds x = i := by
        unfold rwO
        rw [if_pos eb, ea, Int.toNat_natCast]
      rw [e2, ea, eb]
      unfold repR
      rw [hi]
  obtain ⟨κ, hκ⟩ : ∃ κ, κ = mrgsJ E id0J := ⟨_, rfl⟩
  rw [← hκ] at hm
  have kj : ∀ c ∈ C, κ c.i = κ c.j := fun c hc => by
    rw [hκ]; exact mrgs_joinsJ E (c.i, c.j) ((hE _).mpr ⟨c, hc, rfl⟩)
  have hkl : K.length = ncl (sdl ds) fun x => κ (rwO ds x) := ncl_of hK fun v => by
    rw [hm]
    constructor
    · rintro ⟨t, ht, e⟩
      obtain ⟨r1, r2⟩ := repR_in h ht
      exact ⟨_, r1, by rw [r2]; exact e⟩
    · rintro ⟨x, hx, e⟩
      exact ⟨_, rwO_lt h hx, e⟩
  rw [hkl]
  refine ncl_congr fun x hx y hy => ⟨fun e => ?_, fun e => ?_⟩
  · have ff : fitsJ κ fun t => (((sdl ds).map (mrgs Ec id)).idxOf (mrgs Ec id (repR ds t)) : Nat) := by
      rw [hκ]
      refine mrgs_fitsJ E (id0_fitsJ _) fun e he => ?_
      obtain ⟨c, hc, rfl⟩ := (hE e).mp he
      obtain ⟨r1, r2⟩ := rwO_over h hc 0
      have a1 := m6 ⟨c.n, 0, 0⟩ (qp_in h hc ((qp_mem _).mpr (.inr (.inl rfl)))).1
      have a2 := m6 ⟨c.n, 1, 0⟩ (qp_in h hc ((qp_mem _).mpr (.inr (.inr rfl)))).1
      rw [r1] at a1
      rw [r2] at a2
      dsimp only
      rw [← a1, ← a2, m4 c hc]
    have e2 := ff _ _ e
    dsimp only at e2
    have e3 := idx_inj (l := (sdl ds).map (mrgs Ec id)) (List.mem_map_of_mem (repR_in h (rwO_lt h hx)).1) (List.mem_map_of_mem (repR_in h (rwO_lt h hy)).1) (by omega)
    rw [m6 x hx, m6 y hy, e3]
  · have rq : ∀ c ∈ C, ∀ z ∈ qp (cmsP ds) c, κ (rwO ds z) = κ c.i := fun c hc z hz => by
      obtain ⟨xo, xu, ho, hu, po, pu⟩ := pr_at h hc
      rw [qp_mem, po, pu] at hz
      rcases hz with (rfl | rfl) | (rfl | rfl)
      · have : rwO ds ⟨(ky xo).1, (ky xo).2, 1⟩ = c.i := (rl_row h ho 1 0).trans (rwO_over h hc 0).1
        rw [this]
      · have : rwO ds ⟨(ky xu).1, (ky xu).2, 1⟩ = c.j := (rl_row h hu 1 0).trans (rwO_over h hc 0).2
        rw [this, kj c hc]
      · rw [(rwO_over h hc 0).1]
      · rw [(rwO_over h hc 0).2, kj c hc]
    exact mrgs_fits Ec (id_fits fun z => κ (rwO ds z)) (fun e he => by
      rw [hEc] at he
      rcases List.mem_append.mp he with he | he
      · obtain ⟨z, _, rfl⟩ := List.mem_map.mp he; rfl
      · obtain ⟨c, hc, he⟩ := List.mem_flatMap.mp he
        have hc := hL.mem_iff.mp hc
        have i1 := rq c hc (q1 (cmsP ds) c) (by simp [qp])
        have i2 := rq c hc (q2 (cmsP ds) c) (by simp [qp])
        have i3 := rq c hc (q3 c) (by simp [qp])
        have i4 := rq c hc (q4 c) (by simp [qp])
        unfold qs at he
        simp only [List.mem_cons, List.not_mem_nil, or_false] at he
        rcases he with rfl | rfl | rfl
        · exact i1.trans i2.symm
        · exact i2.trans i3.symm
        · exact i3.trans i4.symm) x y e
/-- regions, crossings, pieces of a drawing -/
theorem euler (h : WD S ds C) (hS : S ≤ 3) (hC : C.length ≤ 12) : ∃ (T : Drw) (Q : Mat) (L : List Crs) (d : Nat), L.Perm C ∧ F_regions [encD ds] = .ok (encD T) ∧ F_pieces [encD ds] = .ok (encM Q) ∧ T.length = ncl (sdl ds) (mrgs (L.flatMap (corA (cmsP ds))) id) ∧ C.length + 2 * Q.length = T.length + 2 * d := by
  obtain ⟨L, K, hL, hK, hm, hr⟩ := regions_is h hS hC
  obtain ⟨E, K2, hE, hK2, hm2, hp⟩ := pieces_is h.di hS hC
  obtain ⟨d, hd⟩ := genus h hL
  have c1 := ncl_of hK hm
  have c2 := comp_cnt h hL hE hK2 hm2
  refine ⟨_, _, L, d, hL, hr, hp, ?_, ?_⟩
  · rw [(sorted_perm _).length_eq, List.length_map, c1]
  · rw [(sorted_perm _).length_eq, List.length_map, (sorted_perm _).length_eq, List.length_map, c1, c2]
    omega
end

section
variable {S : Nat} {ds : Drw} {C : List Crs}
/-! ### law k17: all hands turned -/
def ng (x : T3) : T3 := ⟨x.a, x.b, -x.c⟩
def ngD (ds : Drw) : Drw := ds.map fun r => r.map ng
def ngC (c : Crs) : Crs := ⟨c.n, c.i, c.j, -c.c⟩
theorem ngD_flat (ds : Drw) : (ngD ds).flatten = ds.flatten.map ng := by unfold ngD; rw [List.map_flatten]
theorem ngD_get {i : Nat} {r : List T3} (h : ds[i]? = some r) : (ngD ds)[i]? = some (r.map ng) := by unfold ngD; rw [List.getElem?_map, h]; rfl
theorem Rl.ngR {x y : T3} (h : Rl ds x y) : Rl (ngD ds) (ng x) (ng y) := by
  obtain ⟨i, r, k, h1, h2, h3⟩ := h
  exact ⟨i, _, k, ngD_get h1, by rw [List.getElem?_map, h2]; rfl, by rw [List.length_map, List.getElem?_map, h3]; rfl⟩
theorem wd_ng (h : WD S ds C) : WD S (ngD ds) (C.map ngC) := by
  have hn : (C.map ngC).map (·.n) = C.map (·.n) := by rw [List.map_map]; rfl
  refine ⟨⟨by unfold ngD; rw [List.length_map]; exact h.di.len, by rw [hn]; exact h.di.nd, ?_, ?_, ?_⟩, ?_, ?_⟩
  · intro c hc
    obtain ⟨d, hd, rfl⟩ := List.mem_map.mp hc
    exact h.di.bd d hd
  · intro k r hr x
    unfold ngD at hr
    rw [List.getElem?_map] at hr
    obtain ⟨r0, hr0, rfl⟩ := Option.map_eq_some_iff.mp hr
    have hm := h.di.mem k r0 hr0
    rw [List.mem_map]
    constructor
    · rintro ⟨y, hy, rfl⟩
      obtain ⟨c, hc, e⟩ := (hm y).mp hy
      refine ⟨ngC c, List.mem_map_of_mem hc, ?_⟩
      rcases e with ⟨rfl, e⟩ | ⟨rfl, e⟩
      · exact .inl ⟨rfl, e⟩
      · exact .inr ⟨rfl, e⟩
    · rintro ⟨c', hc', e⟩
      obtain ⟨c, hc, rfl⟩ := List.mem_map.mp hc'
      rcases e with ⟨rfl, e⟩ | ⟨rfl, e⟩
      · exact ⟨⟨c.n, 0, c.c⟩, (hm _).mpr ⟨c, hc, .inl ⟨rfl, e⟩⟩, rfl⟩
      · exact ⟨⟨c.n, 1, c.c⟩, (hm _).mpr ⟨c, hc, .inr ⟨rfl, e⟩⟩, rfl⟩
  · intro r hr
    unfold ngD at hr
    obtain ⟨r0, hr0, rfl⟩ := List.mem_map.mp hr
    rw [List.length_map, List.length_map]; exact h.di.cnt r0 hr0
  · rw [ngD_flat]
    refine (h.pm.map ng).trans ?_
    have : ∀ C : List Crs, (psg C).map ng = psg (C.map ngC) := by
      intro C
      induction C with
      | nil => rfl
      | cons c C ih => show ng _ :: ng _ :: (psg C).map ng = _; rw [ih]; rfl
    rw [this]
  · intro c hc
    obtain ⟨d, hd, rfl⟩ := List.mem_map.mp hc
    have := h.hd d hd
    show -d.c = 1 ∨ -d.c = -1; omega
theorem sdl_ng (x : T3) : x ∈ sdl (ngD ds) ↔ x ∈ sdl ds := by
  rw [sdl_mem, sdl_mem, spk_mem, spk_mem]
  have e1 : (∃ y ∈ (ngD ds).flatten, ky y = ky x) ↔ ∃ y ∈ ds.flatten, ky y = ky x := by
    rw [ngD_flat]
    constructor
    · rintro ⟨y, hy, e⟩
      obtain ⟨z, hz, rfl⟩ := List.mem_map.mp hy
      exact ⟨z, hz, e⟩
    · rintro ⟨z, hz, e⟩
      exact ⟨ng z, List.mem_map_of_mem hz, e⟩
  have e2 : ∀ i : Nat, (ngD ds)[i]? = some [] ↔ ds[i]? = some [] := fun i => by
    constructor
    · intro h
      unfold ngD at h
      rw [List.getElem?_map] at h
      obtain ⟨r, hr, e⟩ := Option.map_eq_some_iff.mp h
      rw [hr, List.map_eq_nil_iff.mp e]
    · intro h; rw [ngD_get h]; rfl
  rw [e1]
  simp only [e2]
theorem cor_flip (o u : Int × Int) (n h : Int) (hh : h = 1 ∨ h = -1) : ∀ e ∈ cor o u n h, (flp e.2, flp e.1) ∈ cor o u n (-h) := fun e he => by
  rcases hh with rfl | rfl
  · unfold cor at he ⊢
    rw [if_pos rfl] at he
    rw [if_neg (by decide)]
    simp only [List.mem_cons, List.not_mem_nil, or_false] at he
    rcases he with rfl | rfl | rfl | rfl
    · exact .head _
    · exact .tail _ (.tail _ (.tail _ (.head _)))
    · exact .tail _ (.tail _ (.head _))
    · exact .tail _ (.head _)
  · unfold cor at he ⊢
    rw [if_neg (by decide)] at he
    rw [if_pos (by decide)]
    simp only [List.mem_cons, List.not_mem_nil, or_false] at he
    rcases he with rfl | rfl | rfl | rfl
    · exact .head _
    · exact .tail _ (.tail _ (.tail _ (.head _)))
    · exact .tail _ (.tail _ (.head _))
    · exact .tail _ (.head _)
theorem corA_ng (h : WD S ds C) {c : Crs} (hc : c ∈ C) : ∃ o u, corA (cmsP ds) c = cor o u c.n c.c ∧ corA (cmsP (ngD ds)) (ngC c) = cor o u c.n (-c.c) := by
  obtain ⟨xo, xu, ho, hu, po, pu⟩ := pr_at h hc
  obtain ⟨yo, yu, ko, ku, ro, ru⟩ := pr_at (wd_ng h) (List.mem_map_of_mem (f := ngC) hc)
  have e1 : yo = ng xo := Rl.inj (wd_ng h).uk ko (Rl.ngR ho) rfl
  have e2 : yu = ng xu := Rl.inj (wd_ng h).uk ku (Rl.ngR hu) rfl
  refine ⟨ky xo, ky xu, ?_, ?_⟩
  · unfold corA; rw [po, pu]
  · unfold corA
    rw [ro, ru, e1, e2]; rfl
theorem turned_cnt (h : WD S ds C) {L LT : List Crs} (hL : L.Perm C) (hLT : LT.Perm (C.map ngC)) : ncl (sdl (ngD ds)) (mrgs (LT.flatMap (corA (cmsP (ngD ds)))) id) = ncl (sdl ds) (mrgs (L.flatMap (corA (cmsP ds))) id) := by
  rw [ncl_mem _ (sdl_ng (ds := ds))]
  have s1 : ∀ x y, mrgs (LT.flatMap (corA (cmsP (ngD ds)))) id x = mrgs (LT.flatMap (corA (cmsP (ngD ds)))) id y → mrgs (L.flatMap (corA (cmsP ds))) id (flp x) = mrgs (L.flatMap (corA (cmsP ds))) id (flp y) := fun x y e => mrgs_fits _ (id_fits fun z => mrgs (L.flatMap (corA (cmsP ds))) id (flp z)) (fun e he => by
    obtain ⟨c', hc', he⟩ := List.mem_flatMap.mp he
    obtain ⟨c, hc, rfl⟩ := List.mem_map.mp (hLT.mem_iff.mp hc')
    obtain ⟨o, u, c1, c2⟩ := corA_ng h hc
    rw [c2] at he
    have := cor_flip o u c.n (-c.c) (by have := h.hd c hc; omega) e he
    rw [Int.neg_neg, ← c1] at this
    exact (mrgs_joins (L.flatMap (corA (cmsP ds))) (flp e.2, flp e.1) (List.mem_flatMap.mpr ⟨c, hL.mem_iff.mpr hc, this⟩)).symm) x y e
  have s2 : ∀ x y, mrgs (L.flatMap (corA (cmsP ds))) id x = mrgs (L.flatMap (corA (cmsP ds))) id y → mrgs (LT.flatMap (corA (cmsP (ngD ds)))) id (flp x) = mrgs (LT.flatMap (corA (cmsP (ngD ds)))) id (flp y) := fun x y e => mrgs_fits _ (id_fits fun z => mrgs (LT.flatMap (corA (cmsP (ngD ds)))) id (flp z)) (fun e he => by
    obtain ⟨c, hc', he⟩ := List.mem_flatMap.mp he
    have hc := hL.mem_iff.mp hc'
    obtain ⟨o, u, c1, c2⟩ := corA_ng h hc
    rw [c1] at he
    have := cor_flip o u c.n c.c (h.hd c hc) e he
    rw [← c2] at this
    exact (mrgs_joins (LT.flatMap (corA (cmsP (ngD ds)))) (flp e.2, flp e.1) (List.mem_flatMap.mpr ⟨ngC c, hLT.mem_iff.mpr (List.mem_map_of_mem hc), this⟩)).symm) x y e
  have fc : ∀ x ∈ sdl ds, flp x ∈ sdl ds ∧ flp (flp x) = x := fun x hx => by
    obtain ⟨h1, h2⟩ := sdl_mem.mp hx
    exact ⟨sdl_mem.mpr ⟨h1, by show 1 - x.c = 0 ∨ 1 - x.c = 1; omega⟩, flp_flp x h2⟩
  have e1 : ncl (sdl ds) (mrgs (LT.flatMap (corA (cmsP (ngD ds)))) id) = ncl (sdl ds) fun x => mrgs (L.flatMap (corA (cmsP ds))) id (flp x) := ncl_congr fun x hx y hy => ⟨s1 x y, fun e => by
    have := s2 _ _ e
    rwa [(fc x hx).2, (fc y hy).2] at this⟩
  rw [e1]
  refine (ncl_of (X := sdl ds) (h := fun x => mrgs (L.flatMap (corA (cmsP ds))) id (flp x)) (dedup_nodup ((sdl ds).map (mrgs (L.flatMap (corA (cmsP ds))) id))) fun v => ?_).symm
  rw [dedup_mem, List.mem_map]
  constructor
  · rintro ⟨x, hx, e⟩
    exact ⟨flp x, (fc x hx).1, by rw [(fc x hx).2]; exact e⟩
  · rintro ⟨x, hx, e⟩
    exact ⟨flp x, (fc x hx).1, e⟩
theorem turned_is (hd : ds.length ≤ 100) (hr : ∀ r ∈ ds, r.length ≤ 1000) : F__law_turned [encD ds] = .ok (encD (ngD ds)) := by
  refine Tells.eq ?_
  simp only [F__law_turned, m__law_turned, runD]
  simp -implicitDefEqProofs [encD]
  refine loop_thenF (fun f : Drw => [some (0, .lst (ds.map encR)), some (2, .lst (f.map encR)), none, none, none, none]) encR (fun f r => f ++ [r.map ng]) (fun i f => f.length ≤ i) ds [] rfl rfl (Nat.le_refl _) ?_ ?_
  · intro i f r hri hf
    have hi : i < ds.length := (List.getElem?_eq_some_iff.mp hri).1
    refine ⟨by rw [List.length_append, List.length_singleton]; omega, ?_⟩
    have hz : f.length < sizeLine := sizeLine_lt (by omega)
    have hrl := hr r (List.mem_of_getElem? hri)
    have hlc := lc_all (t := tTupT 3 (Mir.tCons (tName 3) (Mir.tCons (tName 4) (Mir.tCons (tName 5) Mir.tNil)))) (me := mImm (mTup (mConsE (mImm (mVar 3)) [] (mConsE (mImm (mVar 4)) [] (mConsE (mUn gNeg (mVar 5)) [] mNilA))))) (env := [some (0, .lst (ds.map encR)), some (2, .lst (f.map encR)), some (0, encR r), none, none, none]) t3 (fun x => t3 (ng x)) r (fun x _ => by
      generalize ds.map encR = Dn
      generalize f.map encR = Fn
      obtain ⟨a, b, c⟩ := x
      simp -implicitDefEqProofs [t3, ng])
    have e2 : r.map (fun x => t3 (ng x)) = (r.map ng).map t3 := by rw [List.map_map]; rfl
    rw [e2] at hlc
    have hz2 : ((r.map ng).map t3).length ≤ sizeLine := sizeLine_big (by simp; omega)
    have e3 : encR (r.map ng) = .lst ((r.map ng).map t3) := rfl
    rw [List.map_append]
    show _ = Res.ok [_, some (2, D.lst (f.map encR ++ [encR (r.map ng)])), _, _, _, _]
    rw [e3]
    generalize (r.map ng).map t3 = R at *
    generalize hF : f.map encR = Fn at *
    have hz3 : Fn.length < sizeLine := by rw [← hF, List.length_map]; exact hz
    generalize ds.map encR = Dn at *
    simp -implicitDefEqProofs [e_mLc, hlc, hz2, hz3]
  · intro _
    have e : ds.foldl (fun f r => f ++ [r.map ng]) [] = ngD ds := by
      have : ∀ (r b : Drw), r.foldl (fun b x => b ++ [x.map ng]) b = b ++ ngD r := by
        intro r
        induction r with
        | nil => intro b; simp [ngD]
        | cons x r ih => intro b; rw [List.foldl_cons, ih]; simp [ngD]
      rw [this]; rfl
    rw [e]
    refine Tells.eqI ?_
    simp -implicitDefEqProofs
theorem law_true (ns : List Int) (hn : ns.length ≤ 63) : F_law [.lst (ns.map D.int)] = .ok (.bl true) := by
  have c0 : F__law_cell [.lst (ns.map D.int), .int 0] = _ := cell_z ns 0
  generalize ns.getD 0 0 = v0 at c0
  have m0 := e_gMod v0 3 (by decide)
  obtain ⟨S, hSe, hS1, hS3⟩ : ∃ S : Nat, 1 + v0 % 3 = (S : Int) ∧ 1 ≤ S ∧ S ≤ 3 := ⟨(1 + v0 % 3).toNat, by omega, by omega, by omega⟩
  obtain ⟨xs, hx, hxl⟩ : ∃ ys : List Int, cutD (ns.map D.int) (some ((1 : Nat) : Int)) (some ((13 : Nat) : Int)) = ys.map D.int ∧ ys.length ≤ 12 := by
    refine ⟨(ns.drop (HT.sIx ns.length 0 (some ((1 : Nat) : Int)))).take (HT.sIx ns.length ns.length (some ((13 : Nat) : Int)) - HT.sIx ns.length 0 (some ((1 : Nat) : Int))), by simp [cutD], ?_⟩
    rw [HT.sIx_nat, HT.sIx_nat, List.length_take]; omega
  have hx : cutD (ns.map D.int) (some 1) (some 13) = xs.map D.int := hx
  obtain ⟨_, hmade, ds, C, rfl, wd, hCl, _⟩ := made3_ok xs hxl S hS1 hS3
  have hC : C.length ≤ 12 := by omega
  obtain ⟨T, Q, L, d, hL, hr, hp, ht, he⟩ := euler wd hS3 hC
  obtain ⟨T2, Q2, L2, d2, hL2, hr2, hp2, ht2, he2⟩ := euler (wd_ng wd) hS3 (by rw [List.length_map]; exact hC)
  have htt : T2.length = T.length := by rw [ht2, ht, turned_cnt wd hL hL2]
  have hrl : ∀ r ∈ ds, r.length ≤ 1000 := fun r hr => by have := wd.di.cnt r hr; omega
  have htu := turned_is (ds := ds) (by rw [wd.di.len]; omega) hrl
  have hk := wd.di.keys.length_eq
  rw [List.length_map, List.length_map] at hk
  have hnm := names_is ds (wd.di.flat hS3 (by omega)) (by omega)
  have hnl : (sortI ((hnds ds).map (·.1))).length = C.length := by rw [(sortI_perm _).length_eq, List.length_map]; exact hk
  have l1 : gLen (encD T) = .ok (.int (T.length : Nat)) := by
    show Res.ok (D.int (((T.map encR).length : Nat) : Int)) = _
    rw [List.length_map]
  have l2 : gLen (encM Q) = .ok (.int (Q.length : Nat)) := by
    show Res.ok (D.int (((Q.map _).length : Nat) : Int)) = _
    rw [List.length_map]
  have l3 : gLen (.lst ((sortI ((hnds ds).map (·.1))).map D.int)) = .ok (.int (C.length : Nat)) := by
    show Res.ok (D.int ((((sortI ((hnds ds).map (·.1))).map D.int).length : Nat) : Int)) = _
    rw [List.length_map, hnl]
  have l4 : gLen (encD T2) = .ok (.int (T.length : Nat)) := by
    show Res.ok (D.int (((T2.map encR).length : Nat) : Int)) = _
    rw [List.length_map, htt]
  have l5 : gLen (.lst (xs.map D.int)) = .ok (.int (C.length : Nat)) := by
    show Res.ok (D.int (((xs.map D.int).length : Nat) : Int)) = _
    rw [List.length_map, hCl]
  have mu : gMul (.int 2) (.int (Q.length : Nat)) = .ok (.int (2 * (Q.length : Int))) := e_gMul 2 (Q.length : Int) (.inl (by decide))
  have i1 : immAt 2 (encD T) = true := by simp
  have i2 : immAt 2 (encM Q) = true := by simp
  have i3 : immAt 1 (.lst ((sortI ((hnds ds).map (·.1))).map D.int)) = true := by simp
  have i4 : immAt 2 (encD T2) = true := by simp
  have i5 : immAt 2 (encD (ngD ds)) = true := by simp
  have i6 : immAt 2 (encD ds) = true := by simp
  have hfl : F_flat [encD ds] = .ok (.bl (decide ((T.length : Int) = (C.length : Int) + 2 * (Q.length : Int)))) := by
    generalize (sortI ((hnds ds).map (·.1))).map D.int = N at *
    generalize encD T = R at *
    generalize encM Q = P at *
    generalize (T.length : Int) = t at *
    generalize (C.length : Int) = c at *
    generalize (Q.length : Int) = q at *
    simp only [F_flat, m_flat, runD]
    simp -implicitDefEqProofs [hr, hp, hnm, i1, i2, i3, l1, l2, l3, mu]
    rfl
  have hfew : (C.length : Int) + 2 * (Q.length : Int) - (T.length : Int) = 2 * (d : Int) := by omega
  have hmod := e_gMod (2 * (d : Int)) 2 (by decide)
  rw [show 2 * (d : Int) % 2 = 0 by omega] at hmod
  have hdec : decide ((T.length : Int) = (C.length : Int) + 2 * (Q.length : Int)) = decide (2 * (d : Int) = 0) := by rw [decide_eq_decide]; omega
  rw [hdec] at hfl
  have hd0 : ¬ 2 * (d : Int) < 0 := by omega
  refine Tells.eq ?_
  simp only [F_law, m_law, runD]
  refine t_seq (e := [some (0, .lst (ns.map D.int)), some (0, .int v0), none, none, none]) (by simp -implicitDefEqProofs [c0]) ?_
  refine t_seq (e := [some (0, .lst (ns.map D.int)), some (0, .int v0), some (1, .lst (xs.map D.int)), none, none]) (by simp -implicitDefEqProofs [hx]) ?_
  refine t_seq (e := [some (0, .lst (ns.map D.int)), some (0, .int v0), some (1, .lst (xs.map D.int)), some (2, encD ds), none]) (by
    generalize xs.map D.int = X at *
    simp -implicitDefEqProofs [m0, hSe, hmade, i6]) ?_
  generalize encD (ngD ds) = D2 at *
  generalize encD ds = D1 at *
  generalize encD T = R at *
  generalize encD T2 = R2 at *
  generalize encM Q = P at *
  generalize (T.length : Int) = t at *
  generalize (C.length : Int) = c at *
  generalize (Q.length : Int) = q at *
  generalize 2 * (d : Int) = w at *
  refine t_seq (e := [some (0, .lst (ns.map D.int)), some (0, .int v0), some (1, .lst (xs.map D.int)), some (2, D1), some (0, .int w)]) (by
    generalize xs.map D.int = X at *
    simp -implicitDefEqProofs [l5, hp, i2, l2, mu, hr, i1, l1, hfew]) ?_
  generalize xs.map D.int = X at *
  refine t_seq (e := [some (0, .lst (ns.map D.int)), some (0, .int v0), some (1, .lst X), some (2, D1), some (0, .int w)]) (by simp -implicitDefEqProofs [hd0, hmod]) ?_
  refine t_seq (e := [some (0, .lst (ns.map D.int)), some (0, .int v0), some (1, .lst X), some (2, D1), some (0, .int w)]) (by simp -implicitDefEqProofs [htu, i5, hr2, i4, l4, hr, i1, l1]) ?_
  by_cases hw : w = 0
  · refine t_seqR (d := .bl true) (by simp -implicitDefEqProofs [hw, hfl]) (Tells.ok rfl)
  · refine t_seq (e := [some (0, .lst (ns.map D.int)), some (0, .int v0), some (1, .lst X), some (2, D1), some (0, .int w)]) (by simp -implicitDefEqProofs [hw]) ?_
    simp -implicitDefEqProofs [hw, hfl]
    exact Tells.ok rfl
end

def top (i : Nat) : Stmt := PySem.Challenge.pw_knotwise_k17_whole_regions_never_more.main.body.getD i (.Pass ⟨0, 0, 0, 0⟩)
open PyProof.Rows (envOfC)
structure Txt (mg : Str → Option Value) : Prop where
  b_enumerate : mg "enumerate" = none
  b_len : mg "len" = none
  b_list : mg "list" = none
  b_range : mg "range" = none
  b_sorted : mg "sorted" = none
  b_BARE : ∃ t, mg "BARE" = some (.int 2 t)
abbrev s__law_cell : Stmt := top 22
theorem sc__law_cell : FnScope ["_law_script", "_law_k"] ["_law_script", "_law_k"] (defScope s__law_cell) := ⟨rfl, rfl, rfl, by decide +kernel, rfl, by decide +kernel, by decide +kernel⟩
theorem ok__law_cell {P : Program} {w : World} {K : PySem.W.Frag} {mg : Str → Option Value} {base : Heap} (T : Txt mg) (A : At K mg "_law_cell" s__law_cell)  : Cal P w K mg base "_law_cell" 1 2 0 F__law_cell := by
  obtain ⟨f, fd, F, hm⟩ := A.ex
  refine ⟨f, fd, ["_law_script", "_law_k"], hm, F.kp, F.binds (fun _ _ _ _ _ _ us hl => match us, hl with | [_, _], _ => rfl), def_ok (m := m__law_cell) F sc__law_cell rfl rfl fun cdv A outer s H E hr => ?_⟩
  have nd := sc__law_cell.nd
  have hu := hr.units
  have hu1 : (A.deeper (envOfC "_law_cell" (defScope s__law_cell) s.heap.objs.size f cdv)).units + 1 < cLine := by omega
  have hu65 : (A.deeper (envOfC "_law_cell" (defScope s__law_cell) s.heap.objs.size f cdv)).units + 65 < cLine := by have := hr.un; omega
  exact (ss_cons (s_if (st_cmp (o_lt hu) (sb_var (pv 1)) (sb_c (sc_len (by rfl) T.b_len (sb_var (pv 0)))) (nomark _)) (ss_one (s_ret (se_c (k := 0) (sc_b (sb_ix (sb_var (pv 0)) (sb_var (pv 1)) (fun _ _ => rfl)))))) ss_nil) (ss_one (s_ret (se_c (k := 0) sc_int))))
abbrev s__law_made : Stmt := top 23
theorem sc__law_made : FnScope ["_law_cells", "_law_strings", "_law_rows", "_law_names", "_law_cell_here", "_law_name", "_law_rest", "_law_hand", "_law_way", "_law_row", "_law_at", "_law_k"] ["_law_cells", "_law_strings"] (defScope s__law_made) := ⟨rfl, rfl, rfl, by decide +kernel, rfl, by decide +kernel, by decide +kernel⟩
theorem ok__law_made {P : Program} {w : World} {K : PySem.W.Frag} {mg : Str → Option Value} {base : Heap} (T : Txt mg) (A : At K mg "_law_made" s__law_made)  : Cal P w K mg base "_law_made" 1 2 2 F__law_made := by
  obtain ⟨f, fd, F, hm⟩ := A.ex
  refine ⟨f, fd, ["_law_cells", "_law_strings"], hm, F.kp, F.binds (fun _ _ _ _ _ _ us hl => match us, hl with | [_, _], _ => rfl), def_ok (m := m__law_made) F sc__law_made rfl rfl fun cdv A outer s H E hr => ?_⟩
  have nd := sc__law_made.nd
  have hu := hr.units
  have hu1 : (A.deeper (envOfC "_law_made" (defScope s__law_made) s.heap.objs.size f cdv)).units + 1 < cLine := by omega
  have hu65 : (A.deeper (envOfC "_law_made" (defScope s__law_made) s.heap.objs.size f cdv)).units + 65 < cLine := by have := hr.un; omega
  exact (ss_cons (s_setLc [("_law_k", 11)] (by rfl) nd rfl rfl (sw_true rfl rfl rfl (by decide +kernel)) (blkOk_by (by rfl)) (by rfl) (si_range1 (by rfl) T.b_range (sb_var (pv 1))) (fun _ _ _ _ _ => (tg_name (i := 11) (pg_name nd rfl (.inl rfl)))) tok_name (by decide) (fun _ _ _ _ _ => spt_nil) (fun _ _ _ _ _ => (se_lst (sae_nil (k := 0))))) (ss_cons (s_set (i := 3) nd rfl (.inl rfl) (se_lst (sae_nil (k := 0)))) (ss_cons (s_for .never rfl (si_list (se_var (pv 0))) (tg_name (i := 4) (pg_name nd rfl (.inl rfl))) (ss_cons (s_set (i := 5) nd rfl (.inl rfl) (se_c (k := 0) (sc_op o_mod (sb_var (pv 4)) (sb_c sc_int)))) (ss_cons (s_while (n := 4096) .never (st_cmp (o_in hu65) (sb_var (pv 5)) (sb_var (pv 3)) (by rfl)) (ss_one (s_set (i := 5) nd rfl (.inl rfl) (se_c (k := 0) (sc_op o_mod (sb_c (sc_op o_add (sb_var (pv 5)) (sb_c sc_int))) (sb_c sc_int))))) (fg := [])) (ss_cons (s_set (i := 6) nd rfl (.inl rfl) (se_c (k := 0) (sc_op o_fdv (sb_var (pv 4)) (sb_c sc_int)))) (ss_cons (s_if (st_cmp (o_eq hu) (sb_c (sc_op o_mod (sb_var (pv 4)) (sb_c sc_int))) (sb_c sc_int) (nomark _)) (ss_one (s_set (i := 6) nd rfl (.inl rfl) (se_c (k := 0) (sc_op o_mod (sb_c (sc_op o_mul (sb_c (sc_op o_mod (sb_c (sc_op o_mul (sb_c (sc_op o_add (sb_var (pv 4)) (sb_c (sc_op o_mul (sb_c sc_int) (sb_c (sc_len (by rfl) T.b_len (sb_var (pv 3)))))))) (sb_c sc_int))) (sb_c sc_int))) (sb_c sc_int))) (sb_c sc_int))))) ss_nil) (ss_cons (s_append (j := 3) (pv 3) (se_c (k := 0) (sc_b (sb_var (pv 5))))) (ss_cons (s_set (i := 7) nd rfl (.inl rfl) (se_c (k := 0) (sc_op o_sub (sb_c sc_int) (sb_c (sc_op o_mul (sb_c sc_int) (sb_c (sc_op o_mod (sb_var (pv 6)) (sb_c sc_int)))))))) (ss_cons (s_set (i := 6) nd rfl (.inl rfl) (se_c (k := 0) (sc_op o_fdv (sb_var (pv 6)) (sb_c sc_int)))) (ss_one (s_for .never rfl (si_range1 (by rfl) T.b_range (sb_c sc_int)) (tg_name (i := 8) (pg_name nd rfl (.inl rfl))) (ss_of (κ := fun _ => 0) (W := fun _ _ _ _ => False) (ss_aliasK (j := 2) (i := 9) (k := 0) nd rfl (.inl rfl) (pv 2) (sb_c (sc_op o_mod (sb_var (pv 6)) (sb_var (pv 1)))) (fun _ _ => rfl) (by rfl) (sin_mid (s_setK (i := 6) nd rfl (.inl rfl) (by rfl) (sx_se (se_c (k := 0) (sc_op o_fdv (sb_var (pv 6)) (sb_var (pv 1)))))) (sin_mid (s_setK (i := 10) nd rfl (.inl rfl) (by rfl) (sx_se (se_c (k := 0) (sc_op o_mod (sb_var (pv 6)) (sb_c (sc_op o_add (sb_c (sc_len (by rfl) T.b_len (sb_var (pv 9)))) (sb_c sc_int))))))) (sin_mid (s_setK (i := 6) nd rfl (.inl rfl) (by rfl) (sx_se (se_c (k := 0) (sc_op o_fdv (sb_var (pv 6)) (sb_c (sc_op o_add (sb_c (sc_len (by rfl) T.b_len (sb_var (pv 9)))) (sb_c sc_int))))))) (sin_ins (j := 2) (i := 9) (k := 0) (pv 9) (sb_var (pv 10)) (sb_c (sc_tup (sae_cons (se_c (k := 0) (sc_op o_add (sb_var (pv 5)) (sb_c sc_int))) (sae_cons (se_c (k := 0) (sc_b (sb_var (pv 8)))) (sae_cons (se_c (k := 0) (sc_b (sb_var (pv 7)))) (sae_nil (k := 0))))))) (ss_k ss_nil))))))) (fg := [8, 9, 10])))))))))) (fg := [4, 5, 6, 7, 8, 9, 10])) (ss_one (s_ret (se_move (k := 2) (pv 2)))))))
abbrev s_next_of : Stmt := top 12
theorem sc_next_of : FnScope ["drawing", "behind", "row", "at", "passing", "follower"] ["drawing"] (defScope s_next_of) := ⟨rfl, rfl, rfl, by decide +kernel, rfl, by decide +kernel, by decide +kernel⟩
theorem ok_next_of {P : Program} {w : World} {K : PySem.W.Frag} {mg : Str → Option Value} {base : Heap} (T : Txt mg) (A : At K mg "next_of" s_next_of)  : Cal P w K mg base "next_of" 1 1 1 F_next_of := by
  obtain ⟨f, fd, F, hm⟩ := A.ex
  refine ⟨f, fd, ["drawing"], hm, F.kp, F.binds (fun _ _ _ _ _ _ us hl => match us, hl with | [_], _ => rfl), def_ok (m := m_next_of) F sc_next_of rfl rfl fun cdv A outer s H E hr => ?_⟩
  have nd := sc_next_of.nd
  have hu := hr.units
  have hu1 : (A.deeper (envOfC "next_of" (defScope s_next_of) s.heap.objs.size f cdv)).units + 1 < cLine := by omega
  have hu65 : (A.deeper (envOfC "next_of" (defScope s_next_of) s.heap.objs.size f cdv)).units + 65 < cLine := by have := hr.un; omega
  exact (ss_cons (s_set (i := 1) nd rfl (.inl rfl) (se_dnewT (k := 0))) (ss_cons (s_for .never rfl (si_list (se_var (pv 0))) (tg_name (i := 2) (pg_name nd rfl (.inl rfl))) (ss_one (s_for .never rfl (si_enum (by rfl) T.b_enumerate (se_var (pv 2))) (tg_tup rfl (tgs_cons (tg_name (i := 3) (pg_name nd rfl (.inl rfl))) (tgs_cons (tg_name (i := 4) (pg_name nd rfl (.inl rfl))) tgs_nil))) (ss_cons (s_set (i := 5) nd rfl (.inl rfl) (se_c (k := 0) (sc_b (sb_ix (sb_var (pv 2)) (sb_c (sc_op o_mod (sb_c (sc_op o_add (sb_var (pv 3)) (sb_c sc_int))) (sb_c (sc_len (by rfl) T.b_len (sb_var (pv 2)))))) (fun _ _ => rfl))))) (ss_one (s_dput (j := 1) hu1 (pv 1) (sb_c (sc_tup (sae_cons (se_c (k := 0) (sc_b (sb_ix (sb_var (pv 4)) (sb_c sc_int) (fun _ _ => rfl)))) (sae_cons (se_c (k := 0) (sc_b (sb_ix (sb_var (pv 4)) (sb_c sc_int) (fun _ _ => rfl)))) (sae_nil (k := 0)))))) (se_c (k := 0) (sc_tup (sae_cons (se_c (k := 0) (sc_b (sb_ix (sb_var (pv 5)) (sb_c sc_int) (fun _ _ => rfl)))) (sae_cons (se_c (k := 0) (sc_b (sb_ix (sb_var (pv 5)) (sb_c sc_int) (fun _ _ => rfl)))) (sae_nil (k := 0))))))))) (fg := [3, 4, 5]))) (fg := [2, 3, 4, 5])) (ss_one (s_ret (se_move (k := 1) (pv 1))))))
abbrev s_arrivals : Stmt := top 15
theorem sc_arrivals : FnScope ["drawing", "found", "spot", "after"] ["drawing"] (defScope s_arrivals) := ⟨rfl, rfl, rfl, by decide +kernel, rfl, by decide +kernel, by decide +kernel⟩
theorem ok_arrivals {P : Program} {w : World} {K : PySem.W.Frag} {mg : Str → Option Value} {base : Heap} (T : Txt mg) (A : At K mg "arrivals" s_arrivals) (C_next_of : Cal P w K mg base "next_of" 1 1 1 F_next_of) : Cal P w K mg base "arrivals" 2 1 1 F_arrivals := by
  obtain ⟨f, fd, F, hm⟩ := A.ex
  refine ⟨f, fd, ["drawing"], hm, F.kp, F.binds (fun _ _ _ _ _ _ us hl => match us, hl with | [_], _ => rfl), def_ok (m := m_arrivals) F sc_arrivals rfl rfl fun cdv A outer s H E hr => ?_⟩
  have nd := sc_arrivals.nd
  have hu := hr.units
  have hu1 : (A.deeper (envOfC "arrivals" (defScope s_arrivals) s.heap.objs.size f cdv)).units + 1 < cLine := by omega
  have hu65 : (A.deeper (envOfC "arrivals" (defScope s_arrivals) s.heap.objs.size f cdv)).units + 65 < cLine := by have := hr.un; omega
  exact (ss_cons (s_set (i := 1) nd rfl (.inl rfl) (se_dnewT (k := 0))) (ss_cons (s_forItemsT .never rfl (se_cal C_next_of (hr.mono (by decide)) (by rfl) (sab_cons (sb_var (pv 0)) sab_nil) (hl := (sab_len sab_len0))) (tg_tup rfl (tgs_cons (tg_name (i := 2) (pg_name nd rfl (.inl rfl))) (tgs_cons (tg_name (i := 3) (pg_name nd rfl (.inl rfl))) tgs_nil))) (ss_one (s_dput (j := 1) hu1 (pv 1) (sb_var (pv 3)) (se_c (k := 0) (sc_b (sb_var (pv 2)))))) (fg := [2, 3])) (ss_one (s_ret (se_move (k := 1) (pv 1))))))
abbrev s_hands_of : Stmt := top 6
theorem sc_hands_of : FnScope ["drawing", "hands", "row", "passing"] ["drawing"] (defScope s_hands_of) := ⟨rfl, rfl, rfl, by decide +kernel, rfl, by decide +kernel, by decide +kernel⟩
theorem ok_hands_of {P : Program} {w : World} {K : PySem.W.Frag} {mg : Str → Option Value} {base : Heap} (T : Txt mg) (A : At K mg "hands_of" s_hands_of)  : Cal P w K mg base "hands_of" 1 1 1 F_hands_of := by
  obtain ⟨f, fd, F, hm⟩ := A.ex
  refine ⟨f, fd, ["drawing"], hm, F.kp, F.binds (fun _ _ _ _ _ _ us hl => match us, hl with | [_], _ => rfl), def_ok (m := m_hands_of) F sc_hands_of rfl rfl fun cdv A outer s H E hr => ?_⟩
  have nd := sc_hands_of.nd
  have hu := hr.units
  have hu1 : (A.deeper (envOfC "hands_of" (defScope s_hands_of) s.heap.objs.size f cdv)).units + 1 < cLine := by omega
  have hu65 : (A.deeper (envOfC "hands_of" (defScope s_hands_of) s.heap.objs.size f cdv)).units + 65 < cLine := by have := hr.un; omega
  exact (ss_cons (s_set (i := 1) nd rfl (.inl rfl) (se_dnewK (k := 0))) (ss_cons (s_for .never rfl (si_list (se_var (pv 0))) (tg_name (i := 2) (pg_name nd rfl (.inl rfl))) (ss_one (s_for .never rfl (si_list (se_var (pv 2))) (tg_name (i := 3) (pg_name nd rfl (.inl rfl))) (ss_one (s_dput (j := 1) hu1 (pv 1) (sb_ix (sb_var (pv 3)) (sb_c sc_int) (fun _ _ => rfl)) (se_c (k := 0) (sc_b (sb_ix (sb_var (pv 3)) (sb_c sc_int) (fun _ _ => rfl)))))) (fg := [3]))) (fg := [2, 3])) (ss_one (s_ret (se_move (k := 1) (pv 1))))))
abbrev s_names_of : Stmt := top 7
theorem sc_names_of : FnScope ["drawing"] ["drawing"] (defScope s_names_of) := ⟨rfl, rfl, rfl, by decide +kernel, rfl, by decide +kernel, by decide +kernel⟩
theorem ok_names_of {P : Program} {w : World} {K : PySem.W.Frag} {mg : Str → Option Value} {base : Heap} (T : Txt mg) (A : At K mg "names_of" s_names_of) (C_hands_of : Cal P w K mg base "hands_of" 1 1 1 F_hands_of) : Cal P w K mg base "names_of" 2 1 1 F_names_of := by
  obtain ⟨f, fd, F, hm⟩ := A.ex
  refine ⟨f, fd, ["drawing"], hm, F.kp, F.binds (fun _ _ _ _ _ _ us hl => match us, hl with | [_], _ => rfl), def_ok (m := m_names_of) F sc_names_of rfl rfl fun cdv A outer s H E hr => ?_⟩
  have nd := sc_names_of.nd
  have hu := hr.units
  have hu1 : (A.deeper (envOfC "names_of" (defScope s_names_of) s.heap.objs.size f cdv)).units + 1 < cLine := by omega
  have hu65 : (A.deeper (envOfC "names_of" (defScope s_names_of) s.heap.objs.size f cdv)).units + 65 < cLine := by have := hr.un; omega
  exact (ss_one (s_ret (se_sortDI (k := 0) rfl (by rfl) T.b_sorted (sb_e (se_cal C_hands_of (hr.mono (by decide)) (by rfl) (sab_cons (sb_var (pv 0)) sab_nil) (hl := (sab_len sab_len0)))))))
abbrev s_grouped : Stmt := top 17
theorem sc_grouped : FnScope ["things", "pairs", "home", "thing", "one", "other", "first", "second", "groups", "group"] ["things", "pairs"] (defScope s_grouped) := ⟨rfl, rfl, rfl, by decide +kernel, rfl, by decide +kernel, by decide +kernel⟩
theorem ok_grouped {P : Program} {w : World} {K : PySem.W.Frag} {mg : Str → Option Value} {base : Heap} (T : Txt mg) (A : At K mg "grouped" s_grouped)  : Cal P w K mg base "grouped" 1 2 2 F_grouped := by
  obtain ⟨f, fd, F, hm⟩ := A.ex
  refine ⟨f, fd, ["things", "pairs"], hm, F.kp, F.binds (fun _ _ _ _ _ _ us hl => match us, hl with | [_, _], _ => rfl), def_ok (m := m_grouped) F sc_grouped rfl rfl fun cdv A outer s H E hr => ?_⟩
  have nd := sc_grouped.nd
  have hu := hr.units
  have hu1 : (A.deeper (envOfC "grouped" (defScope s_grouped) s.heap.objs.size f cdv)).units + 1 < cLine := by omega
  have hu65 : (A.deeper (envOfC "grouped" (defScope s_grouped) s.heap.objs.size f cdv)).units + 65 < cLine := by have := hr.un; omega
  exact (ss_cons (s_set (i := 2) nd rfl (.inl rfl) (se_dnewT (k := 0))) (ss_cons (s_for .never rfl (si_list (se_var (pv 0))) (tg_name (i := 3) (pg_name nd rfl (.inl rfl))) (ss_one (s_dput (j := 2) hu1 (pv 2) (sb_var (pv 3)) (se_c (k := 0) (sc_b (sb_var (pv 3)))))) (fg := [3])) (ss_cons (s_for .never rfl (si_list (se_var (pv 1))) (tg_tup rfl (tgs_cons (tg_name (i := 4) (pg_name nd rfl (.inl rfl))) (tgs_cons (tg_name (i := 5) (pg_name nd rfl (.inl rfl))) tgs_nil))) (ss_cons (s_set (i := 6) nd rfl (.inl rfl) (se_c (k := 0) (sc_b (sb_dget hu1 (sb_var (pv 2)) (sb_var (pv 4)) (fun _ _ => rfl))))) (ss_cons (s_set (i := 7) nd rfl (.inl rfl) (se_c (k := 0) (sc_b (sb_dget hu1 (sb_var (pv 2)) (sb_var (pv 5)) (fun _ _ => rfl))))) (ss_one (s_if (st_cmp (o_ne hu) (sb_var (pv 6)) (sb_var (pv 7)) (nomark _)) (ss_one (s_for .never rfl (si_list (se_var (pv 0))) (tg_name (i := 3) (pg_name nd rfl (.inl rfl))) (ss_one (s_if (st_cmp (o_eq hu) (sb_dget hu1 (sb_var (pv 2)) (sb_var (pv 3)) (fun _ _ => rfl)) (sb_var (pv 7)) (nomark _)) (ss_one (s_dput (j := 2) hu1 (pv 2) (sb_var (pv 3)) (se_c (k := 0) (sc_b (sb_var (pv 6)))))) ss_nil)) (fg := [3]))) ss_nil)))) (fg := [3, 4, 5, 6, 7])) (ss_cons (s_set (i := 8) nd rfl (.inl rfl) (se_dnewT (k := 1))) (ss_cons (s_for .never rfl (si_list (se_var (pv 0))) (tg_name (i := 3) (pg_name nd rfl (.inl rfl))) (ss_one (s_setdAppT (j := 8) hu1 (pv 8) (sb_dget hu1 (sb_var (pv 2)) (sb_var (pv 3)) (fun _ _ => rfl)) (sc_b (sb_var (pv 3))) ⟨by rfl, by rfl, by rfl, by rfl⟩)) (fg := [3])) (ss_one (s1_fz (i := 8) (s_ret (se_sortE (k := 1) hu65 (by rfl) T.b_sorted (se_lcVT [("group", 9)] rfl nd (blkOk_by (by rfl)) (by rfl) (pv 8) (fun _ _ _ _ _ => (tg_name (i := 9) (pg_name nd rfl (.inl rfl)))) tok_name (by decide) (fun _ _ _ _ _ => spt_nil) (fun _ _ _ _ _ => (se_sortB (k := 0) hu65 (by rfl) T.b_sorted (sb_var (pv 9))))))))))))))
abbrev s_spots_by_strings : Stmt := top 9
theorem sc_spots_by_strings : FnScope ["drawing", "found", "at", "row", "passing"] ["drawing"] (defScope s_spots_by_strings) := ⟨rfl, rfl, rfl, by decide +kernel, rfl, by decide +kernel, by decide +kernel⟩
theorem ok_spots_by_strings {P : Program} {w : World} {K : PySem.W.Frag} {mg : Str → Option Value} {base : Heap} (T : Txt mg) (A : At K mg "spots_by_strings" s_spots_by_strings)  : Cal P w K mg base "spots_by_strings" 1 1 1 F_spots_by_strings := by
  obtain ⟨f, fd, F, hm⟩ := A.ex
  refine ⟨f, fd, ["drawing"], hm, F.kp, F.binds (fun _ _ _ _ _ _ us hl => match us, hl with | [_], _ => rfl), def_ok (m := m_spots_by_strings) F sc_spots_by_strings rfl rfl fun cdv A outer s H E hr => ?_⟩
  have nd := sc_spots_by_strings.nd
  have hu := hr.units
  have hu1 : (A.deeper (envOfC "spots_by_strings" (defScope s_spots_by_strings) s.heap.objs.size f cdv)).units + 1 < cLine := by omega
  have hu65 : (A.deeper (envOfC "spots_by_strings" (defScope s_spots_by_strings) s.heap.objs.size f cdv)).units + 65 < cLine := by have := hr.un; omega
  exact (ss_cons (s_set (i := 1) nd rfl (.inl rfl) (se_dnewT (k := 0))) (ss_cons (s_for .never rfl (si_enum (by rfl) T.b_enumerate (se_var (pv 0))) (tg_tup rfl (tgs_cons (tg_name (i := 2) (pg_name nd rfl (.inl rfl))) (tgs_cons (tg_name (i := 3) (pg_name nd rfl (.inl rfl))) tgs_nil))) (ss_cons (s_if (st_not (st_tru (sb_var (pv 3)))) (ss_one (s_dput (j := 1) hu1 (pv 1) (sb_c (sc_tup (sae_cons (se_c (k := 0) (sc_b (sb_var (pv 2)))) (sae_cons (se_c (k := 0) (sc_globI (by rfl) T.b_BARE)) (sae_nil (k := 0)))))) (se_c (k := 0) (sc_b (sb_var (pv 2)))))) ss_nil) (ss_one (s_for .never rfl (si_list (se_var (pv 3))) (tg_name (i := 4) (pg_name nd rfl (.inl rfl))) (ss_one (s_dput (j := 1) hu1 (pv 1) (sb_c (sc_tup (sae_cons (se_c (k := 0) (sc_b (sb_ix (sb_var (pv 4)) (sb_c sc_int) (fun _ _ => rfl)))) (sae_cons (se_c (k := 0) (sc_b (sb_ix (sb_var (pv 4)) (sb_c sc_int) (fun _ _ => rfl)))) (sae_nil (k := 0)))))) (se_c (k := 0) (sc_b (sb_var (pv 2)))))) (fg := [4])))) (fg := [2, 3, 4])) (ss_one (s_ret (se_move (k := 1) (pv 1))))))
abbrev s_spots_of : Stmt := top 10
theorem sc_spots_of : FnScope ["drawing"] ["drawing"] (defScope s_spots_of) := ⟨rfl, rfl, rfl, by decide +kernel, rfl, by decide +kernel, by decide +kernel⟩
theorem ok_spots_of {P : Program} {w : World} {K : PySem.W.Frag} {mg : Str → Option Value} {base : Heap} (T : Txt mg) (A : At K mg "spots_of" s_spots_of) (C_spots_by_strings : Cal P w K mg base "spots_by_strings" 1 1 1 F_spots_by_strings) : Cal P w K mg base "spots_of" 2 1 1 F_spots_of := by
  obtain ⟨f, fd, F, hm⟩ := A.ex
  refine ⟨f, fd, ["drawing"], hm, F.kp, F.binds (fun _ _ _ _ _ _ us hl => match us, hl with | [_], _ => rfl), def_ok (m := m_spots_of) F sc_spots_of rfl rfl fun cdv A outer s H E hr => ?_⟩
  have nd := sc_spots_of.nd
  have hu := hr.units
  have hu1 : (A.deeper (envOfC "spots_of" (defScope s_spots_of) s.heap.objs.size f cdv)).units + 1 < cLine := by omega
  have hu65 : (A.deeper (envOfC "spots_of" (defScope s_spots_of) s.heap.objs.size f cdv)).units + 65 < cLine := by have := hr.un; omega
  exact (ss_one (s_ret (se_sortKeys (k := 0) rfl hu65 (by rfl) T.b_sorted (sb_e (se_cal C_spots_by_strings (hr.mono (by decide)) (by rfl) (sab_cons (sb_var (pv 0)) sab_nil) (hl := (sab_len sab_len0)))))))
abbrev s_sides_of : Stmt := top 14
theorem sc_sides_of : FnScope ["drawing", "found", "spot"] ["drawing"] (defScope s_sides_of) := ⟨rfl, rfl, rfl, by decide +kernel, rfl, by decide +kernel, by decide +kernel⟩
theorem ok_sides_of {P : Program} {w : World} {K : PySem.W.Frag} {mg : Str → Option Value} {base : Heap} (T : Txt mg) (A : At K mg "sides_of" s_sides_of) (C_spots_of : Cal P w K mg base "spots_of" 2 1 1 F_spots_of) : Cal P w K mg base "sides_of" 3 1 1 F_sides_of := by
  obtain ⟨f, fd, F, hm⟩ := A.ex
  refine ⟨f, fd, ["drawing"], hm, F.kp, F.binds (fun _ _ _ _ _ _ us hl => match us, hl with | [_], _ => rfl), def_ok (m := m_sides_of) F sc_sides_of rfl rfl fun cdv A outer s H E hr => ?_⟩
  have nd := sc_sides_of.nd
  have hu := hr.units
  have hu1 : (A.deeper (envOfC "sides_of" (defScope s_sides_of) s.heap.objs.size f cdv)).units + 1 < cLine := by omega
  have hu65 : (A.deeper (envOfC "sides_of" (defScope s_sides_of) s.heap.objs.size f cdv)).units + 65 < cLine := by have := hr.un; omega
  exact (ss_cons (s_set (i := 1) nd rfl (.inl rfl) (se_lst (sae_nil (k := 0)))) (ss_cons (s_for .never rfl (si_list (se_0 (se_cal C_spots_of (hr.mono (by decide)) (by rfl) (sab_cons (sb_var (pv 0)) sab_nil) (hl := (sab_len sab_len0))))) (tg_name (i := 2) (pg_name nd rfl (.inl rfl))) (ss_cons (s_append (j := 1) (pv 1) (se_c (k := 0) (sc_tup (sae_cons (se_c (k := 0) (sc_b (sb_ix (sb_var (pv 2)) (sb_c sc_int) (fun _ _ => rfl)))) (sae_cons (se_c (k := 0) (sc_b (sb_ix (sb_var (pv 2)) (sb_c sc_int) (fun _ _ => rfl)))) (sae_cons (se_c (k := 0) sc_int) (sae_nil (k := 0)))))))) (ss_one (s_append (j := 1) (pv 1) (se_c (k := 0) (sc_tup (sae_cons (se_c (k := 0) (sc_b (sb_ix (sb_var (pv 2)) (sb_c sc_int) (fun _ _ => rfl)))) (sae_cons (se_c (k := 0) (sc_b (sb_ix (sb_var (pv 2)) (sb_c sc_int) (fun _ _ => rfl)))) (sae_cons (se_c (k := 0) sc_int) (sae_nil (k := 0)))))))))) (fg := [2])) (ss_one (s_ret (se_sortB (k := 0) hu65 (by rfl) T.b_sorted (sb_var (pv 1)))))))
abbrev s_corners_at : Stmt := top 16
theorem sc_corners_at : FnScope ["name", "hand", "comes", "over", "under"] ["name", "hand", "comes"] (defScope s_corners_at) := ⟨rfl, rfl, rfl, by decide +kernel, rfl, by decide +kernel, by decide +kernel⟩
theorem ok_corners_at {P : Program} {w : World} {K : PySem.W.Frag} {mg : Str → Option Value} {base : Heap} (T : Txt mg) (A : At K mg "corners_at" s_corners_at)  : Cal P w K mg base "corners_at" 1 3 1 F_corners_at := by
  obtain ⟨f, fd, F, hm⟩ := A.ex
  refine ⟨f, fd, ["name", "hand", "comes"], hm, F.kp, F.binds (fun _ _ _ _ _ _ us hl => match us, hl with | [_, _, _], _ => rfl), def_ok (m := m_corners_at) F sc_corners_at rfl rfl fun cdv A outer s H E hr => ?_⟩
  have nd := sc_corners_at.nd
  have hu := hr.units
  have hu1 : (A.deeper (envOfC "corners_at" (defScope s_corners_at) s.heap.objs.size f cdv)).units + 1 < cLine := by omega
  have hu65 : (A.deeper (envOfC "corners_at" (defScope s_corners_at) s.heap.objs.size f cdv)).units + 65 < cLine := by have := hr.un; omega
  exact (ss_cons (s_set (i := 3) nd rfl (.inl rfl) (se_c (k := 0) (sc_b (sb_dget hu1 (sb_var (pv 2)) (sb_c (sc_tup (sae_cons (se_c (k := 0) (sc_b (sb_var (pv 0)))) (sae_cons (se_c (k := 0) sc_int) (sae_nil (k := 0)))))) (fun _ _ => rfl))))) (ss_cons (s_set (i := 4) nd rfl (.inl rfl) (se_c (k := 0) (sc_b (sb_dget hu1 (sb_var (pv 2)) (sb_c (sc_tup (sae_cons (se_c (k := 0) (sc_b (sb_var (pv 0)))) (sae_cons (se_c (k := 0) sc_int) (sae_nil (k := 0)))))) (fun _ _ => rfl))))) (ss_cons (s_if (st_cmp (o_eq hu) (sb_var (pv 1)) (sb_c sc_int) (nomark _)) (ss_one (s_ret (se_lst (sae_cons (se_c (k := 0) (sc_tup (sae_cons (se_c (k := 0) (sc_tup (sae_cons (se_c (k := 0) (sc_b (sb_ix (sb_var (pv 3)) (sb_c sc_int) (fun _ _ => rfl)))) (sae_cons (se_c (k := 0) (sc_b (sb_ix (sb_var (pv 3)) (sb_c sc_int) (fun _ _ => rfl)))) (sae_cons (se_c (k := 0) sc_int) (sae_nil (k := 0))))))) (sae_cons (se_c (k := 0) (sc_tup (sae_cons (se_c (k := 0) (sc_b (sb_ix (sb_var (pv 4)) (sb_c sc_int) (fun _ _ => rfl)))) (sae_cons (se_c (k := 0) (sc_b (sb_ix (sb_var (pv 4)) (sb_c sc_int) (fun _ _ => rfl)))) (sae_cons (se_c (k := 0) sc_int) (sae_nil (k := 0))))))) (sae_nil (k := 0)))))) (sae_cons (se_c (k := 0) (sc_tup (sae_cons (se_c (k := 0) (sc_tup (sae_cons (se_c (k := 0) (sc_b (sb_ix (sb_var (pv 4)) (sb_c sc_int) (fun _ _ => rfl)))) (sae_cons (se_c (k := 0) (sc_b (sb_ix (sb_var (pv 4)) (sb_c sc_int) (fun _ _ => rfl)))) (sae_cons (se_c (k := 0) sc_int) (sae_nil (k := 0))))))) (sae_cons (se_c (k := 0) (sc_tup (sae_cons (se_c (k := 0) (sc_b (sb_var (pv 0)))) (sae_cons (se_c (k := 0) sc_int) (sae_cons (se_c (k := 0) sc_int) (sae_nil (k := 0))))))) (sae_nil (k := 0)))))) (sae_cons (se_c (k := 0) (sc_tup (sae_cons (se_c (k := 0) (sc_tup (sae_cons (se_c (k := 0) (sc_b (sb_var (pv 0)))) (sae_cons (se_c (k := 0) sc_int) (sae_cons (se_c (k := 0) sc_int) (sae_nil (k := 0))))))) (sae_cons (se_c (k := 0) (sc_tup (sae_cons (se_c (k := 0) (sc_b (sb_var (pv 0)))) (sae_cons (se_c (k := 0) sc_int) (sae_cons (se_c (k := 0) sc_int) (sae_nil (k := 0))))))) (sae_nil (k := 0)))))) (sae_cons (se_c (k := 0) (sc_tup (sae_cons (se_c (k := 0) (sc_tup (sae_cons (se_c (k := 0) (sc_b (sb_var (pv 0)))) (sae_cons (se_c (k := 0) sc_int) (sae_cons (se_c (k := 0) sc_int) (sae_nil (k := 0))))))) (sae_cons (se_c (k := 0) (sc_tup (sae_cons (se_c (k := 0) (sc_b (sb_ix (sb_var (pv 3)) (sb_c sc_int) (fun _ _ => rfl)))) (sae_cons (se_c (k := 0) (sc_b (sb_ix (sb_var (pv 3)) (sb_c sc_int) (fun _ _ => rfl)))) (sae_cons (se_c (k := 0) sc_int) (sae_nil (k := 0))))))) (sae_nil (k := 0)))))) (sae_nil (k := 0))))))))) ss_nil) (ss_one (s_ret (se_lst (sae_cons (se_c (k := 0) (sc_tup (sae_cons (se_c (k := 0) (sc_tup (sae_cons (se_c (k := 0) (sc_b (sb_ix (sb_var (pv 4)) (sb_c sc_int) (fun _ _ => rfl)))) (sae_cons (se_c (k := 0) (sc_b (sb_ix (sb_var (pv 4)) (sb_c sc_int) (fun _ _ => rfl)))) (sae_cons (se_c (k := 0) sc_int) (sae_nil (k := 0))))))) (sae_cons (se_c (k := 0) (sc_tup (sae_cons (se_c (k := 0) (sc_b (sb_ix (sb_var (pv 3)) (sb_c sc_int) (fun _ _ => rfl)))) (sae_cons (se_c (k := 0) (sc_b (sb_ix (sb_var (pv 3)) (sb_c sc_int) (fun _ _ => rfl)))) (sae_cons (se_c (k := 0) sc_int) (sae_nil (k := 0))))))) (sae_nil (k := 0)))))) (sae_cons (se_c (k := 0) (sc_tup (sae_cons (se_c (k := 0) (sc_tup (sae_cons (se_c (k := 0) (sc_b (sb_ix (sb_var (pv 3)) (sb_c sc_int) (fun _ _ => rfl)))) (sae_cons (se_c (k := 0) (sc_b (sb_ix (sb_var (pv 3)) (sb_c sc_int) (fun _ _ => rfl)))) (sae_cons (se_c (k := 0) sc_int) (sae_nil (k := 0))))))) (sae_cons (se_c (k := 0) (sc_tup (sae_cons (se_c (k := 0) (sc_b (sb_var (pv 0)))) (sae_cons (se_c (k := 0) sc_int) (sae_cons (se_c (k := 0) sc_int) (sae_nil (k := 0))))))) (sae_nil (k := 0)))))) (sae_cons (se_c (k := 0) (sc_tup (sae_cons (se_c (k := 0) (sc_tup (sae_cons (se_c (k := 0) (sc_b (sb_var (pv 0)))) (sae_cons (se_c (k := 0) sc_int) (sae_cons (se_c (k := 0) sc_int) (sae_nil (k := 0))))))) (sae_cons (se_c (k := 0) (sc_tup (sae_cons (se_c (k := 0) (sc_b (sb_var (pv 0)))) (sae_cons (se_c (k := 0) sc_int) (sae_cons (se_c (k := 0) sc_int) (sae_nil (k := 0))))))) (sae_nil (k := 0)))))) (sae_cons (se_c (k := 0) (sc_tup (sae_cons (se_c (k := 0) (sc_tup (sae_cons (se_c (k := 0) (sc_b (sb_var (pv 0)))) (sae_cons (se_c (k := 0) sc_int) (sae_cons (se_c (k := 0) sc_int) (sae_nil (k := 0))))))) (sae_cons (se_c (k := 0) (sc_tup (sae_cons (se_c (k := 0) (sc_b (sb_ix (sb_var (pv 4)) (sb_c sc_int) (fun _ _ => rfl)))) (sae_cons (se_c (k := 0) (sc_b (sb_ix (sb_var (pv 4)) (sb_c sc_int) (fun _ _ => rfl)))) (sae_cons (se_c (k := 0) sc_int) (sae_nil (k := 0))))))) (sae_nil (k := 0)))))) (sae_nil (k := 0))))))))))))
abbrev s_hand_of : Stmt := top 8
theorem sc_hand_of : FnScope ["drawing", "name", "hands"] ["drawing", "name"] (defScope s_hand_of) := ⟨rfl, rfl, rfl, by decide +kernel, rfl, by decide +kernel, by decide +kernel⟩
theorem ok_hand_of {P : Program} {w : World} {K : PySem.W.Frag} {mg : Str → Option Value} {base : Heap} (T : Txt mg) (A : At K mg "hand_of" s_hand_of) (C_hands_of : Cal P w K mg base "hands_of" 1 1 1 F_hands_of) : Cal P w K mg base "hand_of" 2 2 0 F_hand_of := by
  obtain ⟨f, fd, F, hm⟩ := A.ex
  refine ⟨f, fd, ["drawing", "name"], hm, F.kp, F.binds (fun _ _ _ _ _ _ us hl => match us, hl with | [_, _], _ => rfl), def_ok (m := m_hand_of) F sc_hand_of rfl rfl fun cdv A outer s H E hr => ?_⟩
  have nd := sc_hand_of.nd
  have hu := hr.units
  have hu1 : (A.deeper (envOfC "hand_of" (defScope s_hand_of) s.heap.objs.size f cdv)).units + 1 < cLine := by omega
  have hu65 : (A.deeper (envOfC "hand_of" (defScope s_hand_of) s.heap.objs.size f cdv)).units + 65 < cLine := by have := hr.un; omega
  exact (ss_cons (s_set (i := 2) nd rfl (.inl rfl) (se_cal C_hands_of (hr.mono (by decide)) (by rfl) (sab_cons (sb_var (pv 0)) sab_nil) (hl := (sab_len sab_len0)))) (ss_cons (s_if (st_dnotin hu1 (sb_var (pv 1)) (sb_var (pv 2))) (ss_one s_no) ss_nil) (ss_one (s_ret (se_c (k := 0) (sc_b (sb_dget hu1 (sb_var (pv 2)) (sb_var (pv 1)) (fun _ _ => rfl))))))))
abbrev s_regions : Stmt := top 18
theorem sc_regions : FnScope ["drawing", "comes", "pairs", "name"] ["drawing"] (defScope s_regions) := ⟨rfl, rfl, rfl, by decide +kernel, rfl, by decide +kernel, by decide +kernel⟩
theorem ok_regions {P : Program} {w : World} {K : PySem.W.Frag} {mg : Str → Option Value} {base : Heap} (T : Txt mg) (A : At K mg "regions" s_regions) (C_arrivals : Cal P w K mg base "arrivals" 2 1 1 F_arrivals) (C_names_of : Cal P w K mg base "names_of" 2 1 1 F_names_of) (C_corners_at : Cal P w K mg base "corners_at" 1 3 1 F_corners_at) (C_hand_of : Cal P w K mg base "hand_of" 2 2 0 F_hand_of) (C_grouped : Cal P w K mg base "grouped" 1 2 2 F_grouped) (C_sides_of : Cal P w K mg base "sides_of" 3 1 1 F_sides_of) : Cal P w K mg base "regions" 4 1 2 F_regions := by
  obtain ⟨f, fd, F, hm⟩ := A.ex
  refine ⟨f, fd, ["drawing"], hm, F.kp, F.binds (fun _ _ _ _ _ _ us hl => match us, hl with | [_], _ => rfl), def_ok (m := m_regions) F sc_regions rfl rfl fun cdv A outer s H E hr => ?_⟩
  have nd := sc_regions.nd
  have hu := hr.units
  have hu1 : (A.deeper (envOfC "regions" (defScope s_regions) s.heap.objs.size f cdv)).units + 1 < cLine := by omega
  have hu65 : (A.deeper (envOfC "regions" (defScope s_regions) s.heap.objs.size f cdv)).units + 65 < cLine := by have := hr.un; omega
  exact (ss_cons (s_set (i := 1) nd rfl (.inl rfl) (se_cal C_arrivals (hr.mono (by decide)) (by rfl) (sab_cons (sb_var (pv 0)) sab_nil) (hl := (sab_len sab_len0)))) (ss_cons (s_set (i := 2) nd rfl (.inl rfl) (se_lst (sae_nil (k := 0)))) (ss_cons (s_for .never rfl (si_list (se_0 (se_cal C_names_of (hr.mono (by decide)) (by rfl) (sab_cons (sb_var (pv 0)) sab_nil) (hl := (sab_len sab_len0))))) (tg_name (i := 3) (pg_name nd rfl (.inl rfl))) (ss_one (s_extend (j := 2) (pv 2) (sl_imm (k := 0) (sb_e (se_cal C_corners_at (hr.mono (by decide)) (by rfl) (sab_cons (sb_var (pv 3)) (sab_cons (sb_e (se_cal C_hand_of (hr.mono (by decide)) (by rfl) (sab_cons (sb_var (pv 0)) (sab_cons (sb_var (pv 3)) sab_nil)) (hl := (sab_len (sab_len sab_len0))))) (sab_cons (sb_var (pv 1)) sab_nil))) (hl := (sab_len (sab_len (sab_len sab_len0))))))))) (fg := [3])) (ss_one (s_ret (se_cal C_grouped (hr.mono (by decide)) (by rfl) (sab_cons (sb_e (se_cal C_sides_of (hr.mono (by decide)) (by rfl) (sab_cons (sb_var (pv 0)) sab_nil) (hl := (sab_len sab_len0)))) (sab_cons (sb_var (pv 2)) sab_nil)) (hl := (sab_len (sab_len sab_len0)))))))))
abbrev s_grouped__2 : Stmt := top 17
theorem sc_grouped__2 : FnScope ["things", "pairs", "home", "thing", "one", "other", "first", "second", "groups", "group"] ["things", "pairs"] (defScope s_grouped__2) := ⟨rfl, rfl, rfl, by decide +kernel, rfl, by decide +kernel, by decide +kernel⟩
theorem ok_grouped__2 {P : Program} {w : World} {K : PySem.W.Frag} {mg : Str → Option Value} {base : Heap} (T : Txt mg) (A : At K mg "grouped" s_grouped__2)  : Cal P w K mg base "grouped" 1 2 2 F_grouped__2 := by
  obtain ⟨f, fd, F, hm⟩ := A.ex
  refine ⟨f, fd, ["things", "pairs"], hm, F.kp, F.binds (fun _ _ _ _ _ _ us hl => match us, hl with | [_, _], _ => rfl), def_ok (m := m_grouped__2) F sc_grouped__2 rfl rfl fun cdv A outer s H E hr => ?_⟩
  have nd := sc_grouped__2.nd
  have hu := hr.units
  have hu1 : (A.deeper (envOfC "grouped" (defScope s_grouped__2) s.heap.objs.size f cdv)).units + 1 < cLine := by omega
  have hu65 : (A.deeper (envOfC "grouped" (defScope s_grouped__2) s.heap.objs.size f cdv)).units + 65 < cLine := by have := hr.un; omega
  exact (ss_cons (s_set (i := 2) nd rfl (.inl rfl) (se_dnewK (k := 0))) (ss_cons (s_for .never rfl (si_list (se_var (pv 0))) (tg_name (i := 3) (pg_name nd rfl (.inl rfl))) (ss_one (s_dput (j := 2) hu1 (pv 2) (sb_var (pv 3)) (se_c (k := 0) (sc_b (sb_var (pv 3)))))) (fg := [3])) (ss_cons (s_for .never rfl (si_list (se_var (pv 1))) (tg_tup rfl (tgs_cons (tg_name (i := 4) (pg_name nd rfl (.inl rfl))) (tgs_cons (tg_name (i := 5) (pg_name nd rfl (.inl rfl))) tgs_nil))) (ss_cons (s_set (i := 6) nd rfl (.inl rfl) (se_c (k := 0) (sc_b (sb_dget hu1 (sb_var (pv 2)) (sb_var (pv 4)) (fun _ _ => rfl))))) (ss_cons (s_set (i := 7) nd rfl (.inl rfl) (se_c (k := 0) (sc_b (sb_dget hu1 (sb_var (pv 2)) (sb_var (pv 5)) (fun _ _ => rfl))))) (ss_one (s_if (st_cmp (o_ne hu) (sb_var (pv 6)) (sb_var (pv 7)) (nomark _)) (ss_one (s_for .never rfl (si_list (se_var (pv 0))) (tg_name (i := 3) (pg_name nd rfl (.inl rfl))) (ss_one (s_if (st_cmp (o_eq hu) (sb_dget hu1 (sb_var (pv 2)) (sb_var (pv 3)) (fun _ _ => rfl)) (sb_var (pv 7)) (nomark _)) (ss_one (s_dput (j := 2) hu1 (pv 2) (sb_var (pv 3)) (se_c (k := 0) (sc_b (sb_var (pv 6)))))) ss_nil)) (fg := [3]))) ss_nil)))) (fg := [3, 4, 5, 6, 7])) (ss_cons (s_set (i := 8) nd rfl (.inl rfl) (se_dnewK (k := 1))) (ss_cons (s_for .never rfl (si_list (se_var (pv 0))) (tg_name (i := 3) (pg_name nd rfl (.inl rfl))) (ss_one (s_setdApp (j := 8) (pv 8) (sb_dget hu1 (sb_var (pv 2)) (sb_var (pv 3)) (fun _ _ => rfl)) (sc_b (sb_var (pv 3))) ⟨by rfl, by rfl, by rfl, by rfl⟩)) (fg := [3])) (ss_one (s1_fz (i := 8) (s_ret (se_sortE (k := 1) hu65 (by rfl) T.b_sorted (se_lcV [("group", 9)] rfl nd (blkOk_by (by rfl)) (by rfl) (pv 8) (fun _ _ _ _ _ => (tg_name (i := 9) (pg_name nd rfl (.inl rfl)))) tok_name (by decide) (fun _ _ _ _ _ => spt_nil) (fun _ _ _ _ _ => (se_sortB (k := 0) hu65 (by rfl) T.b_sorted (sb_var (pv 9))))))))))))))
abbrev s_string_of : Stmt := top 11
theorem sc_string_of : FnScope ["drawing", "spot", "found"] ["drawing", "spot"] (defScope s_string_of) := ⟨rfl, rfl, rfl, by decide +kernel, rfl, by decide +kernel, by decide +kernel⟩
theorem ok_string_of {P : Program} {w : World} {K : PySem.W.Frag} {mg : Str → Option Value} {base : Heap} (T : Txt mg) (A : At K mg "string_of" s_string_of) (C_spots_by_strings : Cal P w K mg base "spots_by_strings" 1 1 1 F_spots_by_strings) : Cal P w K mg base "string_of" 2 2 0 F_string_of := by
  obtain ⟨f, fd, F, hm⟩ := A.ex
  refine ⟨f, fd, ["drawing", "spot"], hm, F.kp, F.binds (fun _ _ _ _ _ _ us hl => match us, hl with | [_, _], _ => rfl), def_ok (m := m_string_of) F sc_string_of rfl rfl fun cdv A outer s H E hr => ?_⟩
  have nd := sc_string_of.nd
  have hu := hr.units
  have hu1 : (A.deeper (envOfC "string_of" (defScope s_string_of) s.heap.objs.size f cdv)).units + 1 < cLine := by omega
  have hu65 : (A.deeper (envOfC "string_of" (defScope s_string_of) s.heap.objs.size f cdv)).units + 65 < cLine := by have := hr.un; omega
  exact (ss_cons (s_set (i := 2) nd rfl (.inl rfl) (se_cal C_spots_by_strings (hr.mono (by decide)) (by rfl) (sab_cons (sb_var (pv 0)) sab_nil) (hl := (sab_len sab_len0)))) (ss_cons (s_if (st_dnotin hu1 (sb_var (pv 1)) (sb_var (pv 2))) (ss_one s_no) ss_nil) (ss_one (s_ret (se_c (k := 0) (sc_b (sb_dget hu1 (sb_var (pv 2)) (sb_var (pv 1)) (fun _ _ => rfl))))))))
abbrev s_pieces : Stmt := top 19
theorem sc_pieces : FnScope ["drawing", "pairs", "name"] ["drawing"] (defScope s_pieces) := ⟨rfl, rfl, rfl, by decide +kernel, rfl, by decide +kernel, by decide +kernel⟩
theorem ok_pieces {P : Program} {w : World} {K : PySem.W.Frag} {mg : Str → Option Value} {base : Heap} (T : Txt mg) (A : At K mg "pieces" s_pieces) (C_names_of : Cal P w K mg base "names_of" 2 1 1 F_names_of) (C_string_of : Cal P w K mg base "string_of" 2 2 0 F_string_of) (C_grouped__2 : Cal P w K mg base "grouped" 1 2 2 F_grouped__2) : Cal P w K mg base "pieces" 3 1 2 F_pieces := by
  obtain ⟨f, fd, F, hm⟩ := A.ex
  refine ⟨f, fd, ["drawing"], hm, F.kp, F.binds (fun _ _ _ _ _ _ us hl => match us, hl with | [_], _ => rfl), def_ok (m := m_pieces) F sc_pieces rfl rfl fun cdv A outer s H E hr => ?_⟩
  have nd := sc_pieces.nd
  have hu := hr.units
  have hu1 : (A.deeper (envOfC "pieces" (defScope s_pieces) s.heap.objs.size f cdv)).units + 1 < cLine := by omega
  have hu65 : (A.deeper (envOfC "pieces" (defScope s_pieces) s.heap.objs.size f cdv)).units + 65 < cLine := by have := hr.un; omega
  exact (ss_cons (s_set (i := 1) nd rfl (.inl rfl) (se_lst (sae_nil (k := 0)))) (ss_cons (s_for .never rfl (si_list (se_0 (se_cal C_names_of (hr.mono (by decide)) (by rfl) (sab_cons (sb_var (pv 0)) sab_nil) (hl := (sab_len sab_len0))))) (tg_name (i := 2) (pg_name nd rfl (.inl rfl))) (ss_one (s_append (j := 1) (pv 1) (se_c (k := 0) (sc_tup (sae_cons (se_cal C_string_of (hr.mono (by decide)) (by rfl) (sab_cons (sb_var (pv 0)) (sab_cons (sb_c (sc_tup (sae_cons (se_c (k := 0) (sc_b (sb_var (pv 2)))) (sae_cons (se_c (k := 0) sc_int) (sae_nil (k := 0)))))) sab_nil)) (hl := (sab_len (sab_len sab_len0)))) (sae_cons (se_cal C_string_of (hr.mono (by decide)) (by rfl) (sab_cons (sb_var (pv 0)) (sab_cons (sb_c (sc_tup (sae_cons (se_c (k := 0) (sc_b (sb_var (pv 2)))) (sae_cons (se_c (k := 0) sc_int) (sae_nil (k := 0)))))) sab_nil)) (hl := (sab_len (sab_len sab_len0)))) (sae_nil (k := 0)))))))) (fg := [2])) (ss_one (s_ret (se_cal C_grouped__2 (hr.mono (by decide)) (by rfl) (sab_cons (sb_e (se_listRg (k := 0) rfl (by rfl) T.b_list (by rfl) T.b_range (sb_c (sc_len (by rfl) T.b_len (sb_var (pv 0)))))) (sab_cons (sb_var (pv 1)) sab_nil)) (hl := (sab_len (sab_len sab_len0))))))))
abbrev s_flat : Stmt := top 20
theorem sc_flat : FnScope ["drawing"] ["drawing"] (defScope s_flat) := ⟨rfl, rfl, rfl, by decide +kernel, rfl, by decide +kernel, by decide +kernel⟩
theorem ok_flat {P : Program} {w : World} {K : PySem.W.Frag} {mg : Str → Option Value} {base : Heap} (T : Txt mg) (A : At K mg "flat" s_flat) (C_regions : Cal P w K mg base "regions" 4 1 2 F_regions) (C_names_of : Cal P w K mg base "names_of" 2 1 1 F_names_of) (C_pieces : Cal P w K mg base "pieces" 3 1 2 F_pieces) : Cal P w K mg base "flat" 5 1 0 F_flat := by
  obtain ⟨f, fd, F, hm⟩ := A.ex
  refine ⟨f, fd, ["drawing"], hm, F.kp, F.binds (fun _ _ _ _ _ _ us hl => match us, hl with | [_], _ => rfl), def_ok (m := m_flat) F sc_flat rfl rfl fun cdv A outer s H E hr => ?_⟩
  have nd := sc_flat.nd
  have hu := hr.units
  have hu1 : (A.deeper (envOfC "flat" (defScope s_flat) s.heap.objs.size f cdv)).units + 1 < cLine := by omega
  have hu65 : (A.deeper (envOfC "flat" (defScope s_flat) s.heap.objs.size f cdv)).units + 65 < cLine := by have := hr.un; omega
  exact (ss_one (s_ret (se_c (k := 0) (sc_cmp (o_eq hu) (sb_c (sc_len (by rfl) T.b_len (sb_e (se_cal C_regions (hr.mono (by decide)) (by rfl) (sab_cons (sb_var (pv 0)) sab_nil) (hl := (sab_len sab_len0)))))) (sb_c (sc_op o_add (sb_c (sc_len (by rfl) T.b_len (sb_e (se_cal C_names_of (hr.mono (by decide)) (by rfl) (sab_cons (sb_var (pv 0)) sab_nil) (hl := (sab_len sab_len0)))))) (sb_c (sc_op o_mul (sb_c sc_int) (sb_c (sc_len (by rfl) T.b_len (sb_e (se_cal C_pieces (hr.mono (by decide)) (by rfl) (sab_cons (sb_var (pv 0)) sab_nil) (hl := (sab_len sab_len0)))))))))) (nomark _)))))
abbrev s__law_turned : Stmt := top 24
theorem sc__law_turned : FnScope ["_law_rows", "_law_found", "_law_row", "_law_name", "_law_way", "_law_hand"] ["_law_rows"] (defScope s__law_turned) := ⟨rfl, rfl, rfl, by decide +kernel, rfl, by decide +kernel, by decide +kernel⟩
theorem ok__law_turned {P : Program} {w : World} {K : PySem.W.Frag} {mg : Str → Option Value} {base : Heap} (T : Txt mg) (A : At K mg "_law_turned" s__law_turned)  : Cal P w K mg base "_law_turned" 1 1 2 F__law_turned := by
  obtain ⟨f, fd, F, hm⟩ := A.ex
  refine ⟨f, fd, ["_law_rows"], hm, F.kp, F.binds (fun _ _ _ _ _ _ us hl => match us, hl with | [_], _ => rfl), def_ok (m := m__law_turned) F sc__law_turned rfl rfl fun cdv A outer s H E hr => ?_⟩
  have nd := sc__law_turned.nd
  have hu := hr.units
  have hu1 : (A.deeper (envOfC "_law_turned" (defScope s__law_turned) s.heap.objs.size f cdv)).units + 1 < cLine := by omega
  have hu65 : (A.deeper (envOfC "_law_turned" (defScope s__law_turned) s.heap.objs.size f cdv)).units + 65 < cLine := by have := hr.un; omega
  exact (ss_cons (s_set (i := 1) nd rfl (.inl rfl) (se_lst (sae_nil (k := 1)))) (ss_cons (s_for .never rfl (si_list (se_var (pv 0))) (tg_name (i := 2) (pg_name nd rfl (.inl rfl))) (ss_one (s_append (j := 1) (pv 1) (se_lc [("_law_name", 3), ("_law_way", 4), ("_law_hand", 5)] (by rfl) nd (blkOk_by (by rfl)) (by rfl) (si_list (se_var (pv 2))) (fun _ _ _ _ _ => (tg_tup rfl (tgs_cons (tg_name (i := 3) (pg_name nd rfl (.inl rfl))) (tgs_cons (tg_name (i := 4) (pg_name nd rfl (.inl rfl))) (tgs_cons (tg_name (i := 5) (pg_name nd rfl (.inl rfl))) tgs_nil))))) (tok_tup (toks_cons tok_name (toks_cons tok_name (toks_cons tok_name toks_nil)))) (by decide) (fun _ _ _ _ _ => spt_nil) (fun _ _ _ _ _ => (se_c (k := 0) (sc_tup (sae_cons (se_c (k := 0) (sc_b (sb_var (pv 3)))) (sae_cons (se_c (k := 0) (sc_b (sb_var (pv 4)))) (sae_cons (se_c (k := 0) (sc_neg (sb_var (pv 5)))) (sae_nil (k := 0))))))))))) (fg := [2, 3, 4, 5])) (ss_one (s_ret (se_move (k := 2) (pv 1))))))
abbrev s_law : Stmt := top 25
theorem sc_law : FnScope ["_law_script", "_law_first", "_law_cells", "_law_rows", "_law_fewer"] ["_law_script"] (defScope s_law) := ⟨rfl, rfl, rfl, by decide +kernel, rfl, by decide +kernel, by decide +kernel⟩
theorem body_law {P : Program} {w : World} {K : PySem.W.Frag} {mg : Str → Option Value} {base : Heap} {f : Addr} {cdv : Value} {A : Around} {outer : List PySem.Env} {s : Shared} {H : Hp} {E : XK} (T : Txt mg) (C__law_cell : Cal P w K mg base "_law_cell" 1 2 0 F__law_cell) (C__law_made : Cal P w K mg base "_law_made" 1 2 2 F__law_made) (C_pieces : Cal P w K mg base "pieces" 3 1 2 F_pieces) (C_regions : Cal P w K mg base "regions" 4 1 2 F_regions) (C__law_turned : Cal P w K mg base "_law_turned" 1 1 2 F__law_turned) (C_flat : Cal P w K mg base "flat" 5 1 0 F_flat) (hr : Room 5 (A.deeper (envOfC "law" (defScope s_law) s.heap.objs.size f cdv))) : SS (cxOf CX0 P w K mg base ["_law_script", "_law_first", "_law_cells", "_law_rows", "_law_fewer"] "law" (defScope s_law) f cdv A outer s H E).nox 0 (defBody s_law) m_law := by
  have nd := sc_law.nd
  have hu := hr.units
  have hu1 : (A.deeper (envOfC "law" (defScope s_law) s.heap.objs.size f cdv)).units + 1 < cLine := by omega
  have hu65 : (A.deeper (envOfC "law" (defScope s_law) s.heap.objs.size f cdv)).units + 65 < cLine := by have := hr.un; omega
  exact (ss_cons (s_set (i := 1) nd rfl (.inl rfl) (se_cal C__law_cell (hr.mono (by decide)) (by rfl) (sab_cons (sb_var (pv 0)) (sab_cons (sb_c sc_int) sab_nil)) (hl := (sab_len (sab_len sab_len0))))) (ss_cons (s_set (i := 2) nd rfl (.inl rfl) (se_slice (sl_imm (k := 0) (sb_var (pv 0))) (so_some (sb_c sc_int)) (so_some (sb_c sc_int)))) (ss_cons (s_set (i := 3) nd rfl (.inl rfl) (se_cal C__law_made (hr.mono (by decide)) (by rfl) (sab_cons (sb_var (pv 2)) (sab_cons (sb_c (sc_op o_add (sb_c sc_int) (sb_c (sc_op o_mod (sb_var (pv 1)) (sb_c sc_int))))) sab_nil)) (hl := (sab_len (sab_len sab_len0))))) (ss_cons (s_set (i := 4) nd rfl (.inl rfl) (se_c (k := 0) (sc_op o_sub (sb_c (sc_op o_add (sb_c (sc_len (by rfl) T.b_len (sb_var (pv 2)))) (sb_c (sc_op o_mul (sb_c sc_int) (sb_c (sc_len (by rfl) T.b_len (sb_e (se_cal C_pieces (hr.mono (by decide)) (by rfl) (sab_cons (sb_var (pv 3)) sab_nil) (hl := (sab_len sab_len0)))))))))) (sb_c (sc_len (by rfl) T.b_len (sb_e (se_cal C_regions (hr.mono (by decide)) (by rfl) (sab_cons (sb_var (pv 3)) sab_nil) (hl := (sab_len sab_len0))))))))) (ss_cons (s_if (st_w (sw_or (st_cmp (o_lt hu) (sb_var (pv 4)) (sb_c sc_int) (nomark _)) (sw_or1 (st_cmp (o_ne hu) (sb_c (sc_op o_mod (sb_var (pv 4)) (sb_c sc_int))) (sb_c sc_int) (nomark _))))) (ss_one (s_ret (se_c (k := 0) sc_bl))) ss_nil) (ss_cons (s_if (st_cmp (o_ne hu) (sb_c (sc_len (by rfl) T.b_len (sb_e (se_cal C_regions (hr.mono (by decide)) (by rfl) (sab_cons (sb_e (se_cal C__law_turned (hr.mono (by decide)) (by rfl) (sab_cons (sb_var (pv 3)) sab_nil) (hl := (sab_len sab_len0)))) sab_nil) (hl := (sab_len sab_len0)))))) (sb_c (sc_len (by rfl) T.b_len (sb_e (se_cal C_regions (hr.mono (by decide)) (by rfl) (sab_cons (sb_var (pv 3)) sab_nil) (hl := (sab_len sab_len0)))))) (nomark _)) (ss_one (s_ret (se_c (k := 0) sc_bl))) ss_nil) (ss_cons (s_if (st_cmp (o_eq hu) (sb_var (pv 4)) (sb_c sc_int) (nomark _)) (ss_one (s_ret (se_c (k := 0) (sc_cmp o_isB (sb_e (se_cal C_flat (hr.mono (by decide)) (by rfl) (sab_cons (sb_var (pv 3)) sab_nil) (hl := (sab_len sab_len0)))) (sb_c sc_bl) (nomark _))))) ss_nil) (ss_one (s_ret (se_c (k := 0) (sc_cmp o_isB (sb_e (se_cal C_flat (hr.mono (by decide)) (by rfl) (sab_cons (sb_var (pv 3)) sab_nil) (hl := (sab_len sab_len0)))) (sb_c sc_bl) (nomark _))))))))))))
theorem all_mk {l : PySem.W.OpenLaw} {w : World} {K : PySem.W.Frag} {h : Heap} {mg : Str → Option Value} {fa : Addr} (X : K.In h) (G : h.Ns mainGlobals mg) (hfa : mg "law" = some (.ref fa))
    {f0 : Addr} {oc0 : Value} {od0 an0 : Option Addr} {sl0 : Array (Option Value)} {kV0 dc0 pm0 cd0 ct0 : Value}
    (a0 : PySem.W.nsIn K mainGlobals "_law_cell" = some (some (.ref f0))) (l0 : K.lookup f0 = some ⟨oc0, od0, .func (PySem.W.fnOf "_law_cell" "_law_cell" (defArgs s__law_cell) (defBody s__law_cell) (defScope s__law_cell) .none kV0 dc0 pm0 an0 cd0 ct0), sl0⟩) (c0 : PySem.W.codeIn K cd0 "_law_cell" = true) (k0 : PySem.W.keepIn K (.ref f0) = true)
    {f1 : Addr} {oc1 : Value} {od1 an1 : Option Addr} {sl1 : Array (Option Value)} {kV1 dc1 pm1 cd1 ct1 : Value}
    (a1 : PySem.W.nsIn K mainGlobals "_law_made" = some (some (.ref f1))) (l1 : K.lookup f1 = some ⟨oc1, od1, .func (PySem.W.fnOf "_law_made" "_law_made" (defArgs s__law_made) (defBody s__law_made) (defScope s__law_made) .none kV1 dc1 pm1 an1 cd1 ct1), sl1⟩) (c1 : PySem.W.codeIn K cd1 "_law_made" = true) (k1 : PySem.W.keepIn K (.ref f1) = true)
    {f2 : Addr} {oc2 : Value} {od2 an2 : Option Addr} {sl2 : Array (Option Value)} {kV2 dc2 pm2 cd2 ct2 : Value}
    (a2 : PySem.W.nsIn K mainGlobals "next_of" = some (some (.ref f2))) (l2 : K.lookup f2 = some ⟨oc2, od2, .func (PySem.W.fnOf "next_of" "next_of" (defArgs s_next_of) (defBody s_next_of) (defScope s_next_of) .none kV2 dc2 pm2 an2 cd2 ct2), sl2⟩) (c2 : PySem.W.codeIn K cd2 "next_of" = true) (k2 : PySem.W.keepIn K (.ref f2) = true)
    {f3 : Addr} {oc3 : Value} {od3 an3 : Option Addr} {sl3 : Array (Option Value)} {kV3 dc3 pm3 cd3 ct3 : Value}
    (a3 : PySem.W.nsIn K mainGlobals "arrivals" = some (some (.ref f3))) (l3 : K.lookup f3 = some ⟨oc3, od3, .func (PySem.W.fnOf "arrivals" "arrivals" (defArgs s_arrivals) (defBody s_arrivals) (defScope s_arrivals) .none kV3 dc3 pm3 an3 cd3 ct3), sl3⟩) (c3 : PySem.W.codeIn K cd3 "arrivals" = true) (k3 : PySem.W.keepIn K (.ref f3) = true)
    {f4 : Addr} {oc4 : Value} {od4 an4 : Option Addr} {sl4 : Array (Option Value)} {kV4 dc4 pm4 cd4 ct4 : Value}
    (a4 : PySem.W.nsIn K mainGlobals "hands_of" = some (some (.ref f4))) (l4 : K.lookup f4 = some ⟨oc4, od4, .func (PySem.W.fnOf "hands_of" "hands_of" (defArgs s_hands_of) (defBody s_hands_of) (defScope s_hands_of) .none kV4 dc4 pm4 an4 cd4 ct4), sl4⟩) (c4 : PySem.W.codeIn K cd4 "hands_of" = true) (k4 : PySem.W.keepIn K (.ref f4) = true)
    {f5 : Addr} {oc5 : Value} {od5 an5 : Option Addr} {sl5 : Array (Option Value)} {kV5 dc5 pm5 cd5 ct5 : Value}
    (a5 : PySem.W.nsIn K mainGlobals "names_of" = some (some (.ref f5))) (l5 : K.lookup f5 = some ⟨oc5, od5, .func (PySem.W.fnOf "names_of" "names_of" (defArgs s_names_of) (defBody s_names_of) (defScope s_names_of) .none kV5 dc5 pm5 an5 cd5 ct5), sl5⟩) (c5 : PySem.W.codeIn K cd5 "names_of" = true) (k5 : PySem.W.keepIn K (.ref f5) = true)
    {f6 : Addr} {oc6 : Value} {od6 an6 : Option Addr} {sl6 : Array (Option Value)} {kV6 dc6 pm6 cd6 ct6 : Value}
    (a6 : PySem.W.nsIn K mainGlobals "grouped" = some (some (.ref f6))) (l6 : K.lookup f6 = some ⟨oc6, od6, .func (PySem.W.fnOf "grouped" "grouped" (defArgs s_grouped) (defBody s_grouped) (defScope s_grouped) .none kV6 dc6 pm6 an6 cd6 ct6), sl6⟩) (c6 : PySem.W.codeIn K cd6 "grouped" = true) (k6 : PySem.W.keepIn K (.ref f6) = true)
    {f7 : Addr} {oc7 : Value} {od7 an7 : Option Addr} {sl7 : Array (Option Value)} {kV7 dc7 pm7 cd7 ct7 : Value}
    (a7 : PySem.W.nsIn K mainGlobals "spots_by_strings" = some (some (.ref f7))) (l7 : K.lookup f7 = some ⟨oc7, od7, .func (PySem.W.fnOf "spots_by_strings" "spots_by_strings" (defArgs s_spots_by_strings) (defBody s_spots_by_strings) (defScope s_spots_by_strings) .none kV7 dc7 pm7 an7 cd7 ct7), sl7⟩) (c7 : PySem.W.codeIn K cd7 "spots_by_strings" = true) (k7 : PySem.W.keepIn K (.ref f7) = true)
    {f8 : Addr} {oc8 : Value} {od8 an8 : Option Addr} {sl8 : Array (Option Value)} {kV8 dc8 pm8 cd8 ct8 : Value}
    (a8 : PySem.W.nsIn K mainGlobals "spots_of" = some (some (.ref f8))) (l8 : K.lookup f8 = some ⟨oc8, od8, .func (PySem.W.fnOf "spots_of" "spots_of" (defArgs s_spots_of) (defBody s_spots_of) (defScope s_spots_of) .none kV8 dc8 pm8 an8 cd8 ct8), sl8⟩) (c8 : PySem.W.codeIn K cd8 "spots_of" = true) (k8 : PySem.W.keepIn K (.ref f8) = true)
    {f9 : Addr} {oc9 : Value} {od9 an9 : Option Addr} {sl9 : Array (Option Value)} {kV9 dc9 pm9 cd9 ct9 : Value}
    (a9 : PySem.W.nsIn K mainGlobals "sides_of" = some (some (.ref f9))) (l9 : K.lookup f9 = some ⟨oc9, od9, .func (PySem.W.fnOf "sides_of" "sides_of" (defArgs s_sides_of) (defBody s_sides_of) (defScope s_sides_of) .none kV9 dc9 pm9 an9 cd9 ct9), sl9⟩) (c9 : PySem.W.codeIn K cd9 "sides_of" = true) (k9 : PySem.W.keepIn K (.ref f9) = true)
    {f10 : Addr} {oc10 : Value} {od10 an10 : Option Addr} {sl10 : Array (Option Value)} {kV10 dc10 pm10 cd10 ct10 : Value}
    (a10 : PySem.W.nsIn K mainGlobals "corners_at" = some (some (.ref f10))) (l10 : K.lookup f10 = some ⟨oc10, od10, .func (PySem.W.fnOf "corners_at" "corners_at" (defArgs s_corners_at) (defBody s_corners_at) (defScope s_corners_at) .none kV10 dc10 pm10 an10 cd10 ct10), sl10⟩) (c10 : PySem.W.codeIn K cd10 "corners_at" = true) (k10 : PySem.W.keepIn K (.ref f10) = true)
    {f11 : Addr} {oc11 : Value} {od11 an11 : Option Addr} {sl11 : Array (Option Value)} {kV11 dc11 pm11 cd11 ct11 : Value}
    (a11 : PySem.W.nsIn K mainGlobals "hand_of" = some (some (.ref f11))) (l11 : K.lookup f11 = some ⟨oc11, od11, .func (PySem.W.fnOf "hand_of" "hand_of" (defArgs s_hand_of) (defBody s_hand_of) (defScope s_hand_of) .none kV11 dc11 pm11 an11 cd11 ct11), sl11⟩) (c11 : PySem.W.codeIn K cd11 "hand_of" = true) (k11 : PySem.W.keepIn K (.ref f11) = true)
    {f12 : Addr} {oc12 : Value} {od12 an12 : Option Addr} {sl12 : Array (Option Value)} {kV12 dc12 pm12 cd12 ct12 : Value}
    (a12 : PySem.W.nsIn K mainGlobals "regions" = some (some (.ref f12))) (l12 : K.lookup f12 = some ⟨oc12, od12, .func (PySem.W.fnOf "regions" "regions" (defArgs s_regions) (defBody s_regions) (defScope s_regions) .none kV12 dc12 pm12 an12 cd12 ct12), sl12⟩) (c12 : PySem.W.codeIn K cd12 "regions" = true) (k12 : PySem.W.keepIn K (.ref f12) = true)
    {f13 : Addr} {oc13 : Value} {od13 an13 : Option Addr} {sl13 : Array (Option Value)} {kV13 dc13 pm13 cd13 ct13 : Value}
    (a13 : PySem.W.nsIn K mainGlobals "grouped" = some (some (.ref f13))) (l13 : K.lookup f13 = some ⟨oc13, od13, .func (PySem.W.fnOf "grouped" "grouped" (defArgs s_grouped__2) (defBody s_grouped__2) (defScope s_grouped__2) .none kV13 dc13 pm13 an13 cd13 ct13), sl13⟩) (c13 : PySem.W.codeIn K cd13 "grouped" = true) (k13 : PySem.W.keepIn K (.ref f13) = true)
    {f14 : Addr} {oc14 : Value} {od14 an14 : Option Addr} {sl14 : Array (Option Value)} {kV14 dc14 pm14 cd14 ct14 : Value}
    (a14 : PySem.W.nsIn K mainGlobals "string_of" = some (some (.ref f14))) (l14 : K.lookup f14 = some ⟨oc14, od14, .func (PySem.W.fnOf "string_of" "string_of" (defArgs s_string_of) (defBody s_string_of) (defScope s_string_of) .none kV14 dc14 pm14 an14 cd14 ct14), sl14⟩) (c14 : PySem.W.codeIn K cd14 "string_of" = true) (k14 : PySem.W.keepIn K (.ref f14) = true)
    {f15 : Addr} {oc15 : Value} {od15 an15 : Option Addr} {sl15 : Array (Option Value)} {kV15 dc15 pm15 cd15 ct15 : Value}
    (a15 : PySem.W.nsIn K mainGlobals "pieces" = some (some (.ref f15))) (l15 : K.lookup f15 = some ⟨oc15, od15, .func (PySem.W.fnOf "pieces" "pieces" (defArgs s_pieces) (defBody s_pieces) (defScope s_pieces) .none kV15 dc15 pm15 an15 cd15 ct15), sl15⟩) (c15 : PySem.W.codeIn K cd15 "pieces" = true) (k15 : PySem.W.keepIn K (.ref f15) = true)
    {f16 : Addr} {oc16 : Value} {od16 an16 : Option Addr} {sl16 : Array (Option Value)} {kV16 dc16 pm16 cd16 ct16 : Value}
    (a16 : PySem.W.nsIn K mainGlobals "flat" = some (some (.ref f16))) (l16 : K.lookup f16 = some ⟨oc16, od16, .func (PySem.W.fnOf "flat" "flat" (defArgs s_flat) (defBody s_flat) (defScope s_flat) .none kV16 dc16 pm16 an16 cd16 ct16), sl16⟩) (c16 : PySem.W.codeIn K cd16 "flat" = true) (k16 : PySem.W.keepIn K (.ref f16) = true)
    {f17 : Addr} {oc17 : Value} {od17 an17 : Option Addr} {sl17 : Array (Option Value)} {kV17 dc17 pm17 cd17 ct17 : Value}
    (a17 : PySem.W.nsIn K mainGlobals "_law_turned" = some (some (.ref f17))) (l17 : K.lookup f17 = some ⟨oc17, od17, .func (PySem.W.fnOf "_law_turned" "_law_turned" (defArgs s__law_turned) (defBody s__law_turned) (defScope s__law_turned) .none kV17 dc17 pm17 an17 cd17 ct17), sl17⟩) (c17 : PySem.W.codeIn K cd17 "_law_turned" = true) (k17 : PySem.W.keepIn K (.ref f17) = true)
    {f18 : Addr} {oc18 : Value} {od18 an18 : Option Addr} {sl18 : Array (Option Value)} {kV18 dc18 pm18 cd18 ct18 : Value}
    (a18 : PySem.W.nsIn K mainGlobals "law" = some (some (.ref f18))) (l18 : K.lookup f18 = some ⟨oc18, od18, .func (PySem.W.fnOf "law" "law" (defArgs s_law) (defBody s_law) (defScope s_law) .none kV18 dc18 pm18 an18 cd18 ct18), sl18⟩) (c18 : PySem.W.codeIn K cd18 "law" = true) (k18 : PySem.W.keepIn K (.ref f18) = true)
    (z_enumerate : PySem.W.nsIn K mainGlobals "enumerate" = some none)
    (z_len : PySem.W.nsIn K mainGlobals "len" = some none)
    (z_list : PySem.W.nsIn K mainGlobals "list" = some none)
    (z_range : PySem.W.nsIn K mainGlobals "range" = some none)
    (z_sorted : PySem.W.nsIn K mainGlobals "sorted" = some none)
    {tk_BARE : Tok} (z_BARE : PySem.W.nsIn K mainGlobals "BARE" = some (some (.int 2 tk_BARE)))
    : ∃ fd : FuncData, (∀ (s : Shared) (v : Value), BindsTo s fd ⟨[v], []⟩ [("_law_script", v)]) ∧ ∀ base : Heap, K.In base → base.Ns mainGlobals mg → FnOk l.prog w K mg base CX0 6 fa fd ["_law_script"] (spF 0 1 F_law) := by
  have e := hfa.symm.trans (PySem.W.mg_of X G a18)
  cases e
  have T : Txt mg := ⟨PySem.W.mg_none_of X G z_enumerate, PySem.W.mg_none_of X G z_len, PySem.W.mg_none_of X G z_list, PySem.W.mg_none_of X G z_range, PySem.W.mg_none_of X G z_sorted, ⟨_, PySem.W.mg_of X G z_BARE⟩⟩
  refine ⟨PySem.W.fnOf "law" "law" (defArgs s_law) (defBody s_law) (defScope s_law) .none kV18 dc18 pm18 an18 cd18 ct18, fun s v => .of_eq rfl, fun base _ _ => ?_⟩
  have C__law_cell := ok__law_cell (P := l.prog) (w := w) (base := base) T (At.mk' X G a0 l0 c0 k0)
  have C__law_made := ok__law_made (P := l.prog) (w := w) (base := base) T (At.mk' X G a1 l1 c1 k1)
  have C_next_of := ok_next_of (P := l.prog) (w := w) (base := base) T (At.mk' X G a2 l2 c2 k2)
  have C_arrivals := ok_arrivals (P := l.prog) (w := w) (base := base) T (At.mk' X G a3 l3 c3 k3) C_next_of
  have C_hands_of := ok_hands_of (P := l.prog) (w := w) (base := base) T (At.mk' X G a4 l4 c4 k4)
  have C_names_of := ok_names_of (P := l.prog) (w := w) (base := base) T (At.mk' X G a5 l5 c5 k5) C_hands_of
  have C_grouped := ok_grouped (P := l.prog) (w := w) (base := base) T (At.mk' X G a6 l6 c6 k6)
  have C_spots_by_strings := ok_spots_by_strings (P := l.prog) (w := w) (base := base) T (At.mk' X G a7 l7 c7 k7)
  have C_spots_of := ok_spots_of (P := l.prog) (w := w) (base := base) T (At.mk' X G a8 l8 c8 k8) C_spots_by_strings
  have C_sides_of := ok_sides_of (P := l.prog) (w := w) (base := base) T (At.mk' X G a9 l9 c9 k9) C_spots_of
  have C_corners_at := ok_corners_at (P := l.prog) (w := w) (base := base) T (At.mk' X G a10 l10 c10 k10)
  have C_hand_of := ok_hand_of (P := l.prog) (w := w) (base := base) T (At.mk' X G a11 l11 c11 k11) C_hands_of
  have C_regions := ok_regions (P := l.prog) (w := w) (base := base) T (At.mk' X G a12 l12 c12 k12) C_arrivals C_names_of C_corners_at C_hand_of C_grouped C_sides_of
  have C_grouped__2 := ok_grouped__2 (P := l.prog) (w := w) (base := base) T (At.mk' X G a13 l13 c13 k13)
  have C_string_of := ok_string_of (P := l.prog) (w := w) (base := base) T (At.mk' X G a14 l14 c14 k14) C_spots_by_strings
  have C_pieces := ok_pieces (P := l.prog) (w := w) (base := base) T (At.mk' X G a15 l15 c15 k15) C_names_of C_string_of C_grouped__2
  have C_flat := ok_flat (P := l.prog) (w := w) (base := base) T (At.mk' X G a16 l16 c16 k16) C_regions C_names_of C_pieces
  have C__law_turned := ok__law_turned (P := l.prog) (w := w) (base := base) T (At.mk' X G a17 l17 c17 k17)
  have A : At K mg "law" s_law := At.mk' X G a18 l18 c18 k18
  have F := fun_mk (st := s_law) l18 c18 k18
  refine def_ok (m := m_law) F sc_law rfl rfl fun cdv A outer s H E hr => ?_
  exact body_law T C__law_cell C__law_made C_pieces C_regions C__law_turned C_flat hr

end L_k17
open PySem PySem.W PyProof.Rows
set_option maxRecDepth 100000 in
set_option maxHeartbeats 0 in
theorem PySem.Challenge.cw_knotwise_k17_whole_regions_never_more_holds : PySem.Challenge.rw_knotwise_k17_whole_regions_never_more.Holds := by
  w_on; o_law; k_head; (case hw => w_witness2)
  k_fill
  refine Mir.walk_mir (l := PySem.Challenge.rw_knotwise_k17_whole_regions_never_more) (k := 6) (x := "_law_script") (F := L_k17.F_law) rfl rfl ⟨rfl, by decide, by decide⟩ (fun w h Y => PySem.W.kIn_of Y) (fun w => by first | rfl | decide +kernel) L_k17.law_true ?F
  case F =>
    intro w mg fa h KX G hmg
    refine' L_k17.all_mk KX G hmg ?a0 ?l0 ?c0 ?k0 ?a1 ?l1 ?c1 ?k1 ?a2 ?l2 ?c2 ?k2 ?a3 ?l3 ?c3 ?k3 ?a4 ?l4 ?c4 ?k4 ?a5 ?l5 ?c5 ?k5 ?a6 ?l6 ?c6 ?k6 ?a7 ?l7 ?c7 ?k7 ?a8 ?l8 ?c8 ?k8 ?a9 ?l9 ?c9 ?k9 ?a10 ?l10 ?c10 ?k10 ?a11 ?l11 ?c11 ?k11 ?a12 ?l12 ?c12 ?k12 ?a13 ?l13 ?c13 ?k13 ?a14 ?l14 ?c14 ?k14 ?a15 ?l15 ?c15 ?k15 ?a16 ?l16 ?c16 ?k16 ?a17 ?l17 ?c17 ?k17 ?a18 ?l18 ?c18 ?k18 ?z_enumerate ?z_len ?z_list ?z_range ?z_sorted ?z_BARE
    (case a0 => k_is)
    (case l0 => k_is)
    (case c0 => k_is)
    (case k0 => k_is)
    (case a1 => k_is)
    (case l1 => k_is)
    (case c1 => k_is)
    (case k1 => k_is)
    (case a2 => k_is)
    (case l2 => k_is)
    (case c2 => k_is)
    (case k2 => k_is)
    (case a3 => k_is)
    (case l3 => k_is)
    (case c3 => k_is)
    (case k3 => k_is)
    (case a4 => k_is)
    (case l4 => k_is)
    (case c4 => k_is)
    (case k4 => k_is)
    (case a5 => k_is)
    (case l5 => k_is)
    (case c5 => k_is)
    (case k5 => k_is)
    (case a6 => k_is)
    (case l6 => k_is)
    (case c6 => k_is)
    (case k6 => k_is)
    (case a7 => k_is)
    (case l7 => k_is)
    (case c7 => k_is)
    (case k7 => k_is)
    (case a8 => k_is)
    (case l8 => k_is)
    (case c8 => k_is)
    (case k8 => k_is)
    (case a9 => k_is)
    (case l9 => k_is)
    (case c9 => k_is)
    (case k9 => k_is)
    (case a10 => k_is)
    (case l10 => k_is)
    (case c10 => k_is)
    (case k10 => k_is)
    (case a11 => k_is)
    (case l11 => k_is)
    (case c11 => k_is)
    (case k11 => k_is)
    (case a12 => k_is)
    (case l12 => k_is)
    (case c12 => k_is)
    (case k12 => k_is)
    (case a13 => k_is)
    (case l13 => k_is)
    (case c13 => k_is)
    (case k13 => k_is)
    (case a14 => k_is)
    (case l14 => k_is)
    (case c14 => k_is)
    (case k14 => k_is)
    (case a15 => k_is)
    (case l15 => k_is)
    (case c15 => k_is)
    (case k15 => k_is)
    (case a16 => k_is)
    (case l16 => k_is)
    (case c16 => k_is)
    (case k16 => k_is)
    (case a17 => k_is)
    (case l17 => k_is)
    (case c17 => k_is)
    (case k17 => k_is)
    (case a18 => k_is)
    (case l18 => k_is)
    (case c18 => k_is)
    (case k18 => k_is)
    (case z_enumerate => k_is)
    (case z_len => k_is)
    (case z_list => k_is)
    (case z_range => k_is)
    (case z_sorted => k_is)
    (case z_BARE => k_is)
