import PyProof.Rows.All
import Wide.All
import OpenK.AllK
import Wide.FinOn
import HandS.ForMost
import HandS.Exc
import HandS.ExcOwn
import HandS.WordsExc
import HandS.Codes
import KE.KDictKeyed
import HandS.Wide
import HandS.TupAny
import HandS.Deep
import HandS.Style
import HandS.Flow
import HandS.IsInst
import HandS.NoneIn
import HandS.Walk
import HandS.CallSlots
import HandS.Defaults
import HandS.EndBits
import PyProof.StrOps2
import HandS.Head0
import HandS.Head1
import HandS.Head2
import HandS.HeadEnd
import HandS.HeadHook1
import HandS.HeadHook2
import HandS.ExcValue
import HandS.ExcIs
import HandS.TupLen
import KE.KExcIs
import PyProof.AutoSeq1
import PyProof.TupleOfSeq
import PyProof.DictMoreH
import HandS.SetKeys
import HandS.TupSets
import HandS.SortOrd
import PyProof.CollectStr
import KE.KDictSum
import PySem.Challenge.RW_letterwend_k92_rules_by_hand
set_option Elab.async false
set_option linter.all false
set_option maxRecDepth 100000
set_option maxHeartbeats 1000000
/-! DA: data without a heap, how a heap bears them, what a step may do -/
namespace DL
open PySem PySem.Spec L2
open PyProof.Rows hiding St

/-- frozen data; texts by their code points -/
inductive D where
  | non | bl (b : Bool) | int (i : Int) | str (s : List Nat)
  | tup (l : List D) | lst (l : List D) | dct (k : Bool) (l : List (D × D)) | ins (c : Nat) (l : List D)
  | exc (c : Nat) (l : List D) | fn (n : Nat)
/-- data of one's own: sh is frozen -/
inductive O where
  | sh (d : D) | lst (l : List O) | tup (l : List O) | dct (k : Bool) (l : List (D × O)) | ins (c : Nat) (l : List O)
/-- a slot -/
inductive Sl where
  | un | own (o : O) | lent (o : O) | bor (o : O)
abbrev En := List Sl
/-- what an expression hands: a thing of its own, or a look at a thing that stands in a slot -/
inductive R where
  | own (o : O) | bor (o : O)
/-- an exception: its class by number, its fields -/
structure Ex where
  c : Nat
  l : List D
inductive Res (α : Type) where
  | ok (a : α) | exc (x : Ex) (e : En) | stuck

/-- the classes by numbers, their fields -/
structure CC where
  K : PySem.W.Frag
  cls : Nat → Addr
  nms : Nat → List Str
  P : Program
  w : World

/-- a key by value -/
def kd : Key → D
  | .inl i => .int i
  | .inr s => .str s.cps.toList
mutual
/-- keys of any depth -/
def nkey : D → Option NestedKey
  | .non => some .none
  | .bl b => some (.num (if b then 1 else 0))
  | .int i => some (.num i)
  | .str s => some (.text (SX.S s))
  | .tup l => (nkeys l).map .tup
  | _ => none
def nkeys : List D → Option (List NestedKey)
  | [] => some []
  | d :: ds => match nkey d, nkeys ds with
    | some k, some ks => some (k :: ks)
    | _, _ => none
end
/-- a dict at a whose keys are tuples: the keys, where they stand, the values -/
abbrev NK := NestedKey × Addr × V
def DNat (P : Program) (w : World) (a : Addr) (kvs : List NK) (h : Heap) : Prop :=
  kvs.length ≤ sizeLine ∧ (a == sysModules) = false ∧ ∃ xs : List (NestedKey × Addr × Value), Paired (fun (p : NK) (q : NestedKey × Addr × Value) => p.1 = q.1 ∧ p.2.1 = q.2.1 ∧ RelV p.2.2 q.2.2) kvs xs ∧
    ∃ o es ep, h.get? a = some o ∧ o.ExactDict ∧ o.data = .dict es ep ∧ es.toList = xs.map (entryOfKey (nestedKind P w)) ∧ (xs.map (·.1)).Nodup
def DN (P : Program) (w : World) (a : Addr) (kvs : List NK) : HO := .ext (DNat P w a kvs)

/-- unlike keys, none too deep -/
structure NKok (kvs : List NK) : Prop where
  nd : (kvs.map (·.1)).Nodup
  dp : ∀ p ∈ kvs, p.1.depth ≤ 8
/-- an exception object of the class cls with the dict d, at a -/
def XO (cls : Value) (d : Option Addr) (a : Addr) : HO := .ext fun h => ∃ (oe : Obj) (vs : Array Value), h.get? a = some oe ∧ Zc cls d oe ∧ oe.data = .fields vs
def Le (F H : Hp) : Prop := ∀ a o, F a = some o → H a = some o
theorem Le.refl (F : Hp) : Le F F := fun _ _ h => h
theorem Le.trans {F G H : Hp} (a : Le F G) (b : Le G H) : Le F H := fun x o h => b x o (a x o h)
theorem Le.noneOf {F H : Hp} {a : Addr} (l : Le F H) (h : H a = none) : F a = none := by
  cases e : F a with
  | none => rfl
  | some o => rw [l a o e] at h; cases h
theorem Le.updN {F H : Hp} {a : Addr} {o : HO} (l : Le F H) (h : H a = none) : Le F (upd H a o) := fun b u e => by
  rw [upd_ne (ne_of_none (l b u e) h)]
  exact l b u e
theorem Le.upd_own {F H : Hp} {a : Addr} {o : HO} (l : Le F H) (h : F a = none) : Le F (upd H a o) := fun b u e => by
  rw [upd_ne (ne_of_none e h)]
  exact l b u e
theorem Le.upd2 {F H : Hp} {a : Addr} {o : HO} (l : Le F H) : Le (upd F a o) (upd H a o) := fun b u e => by
  by_cases hb : b = a
  · subst hb; rw [upd_same] at e ⊢; exact e
  · rw [upd_ne hb] at e ⊢; exact l b u e

section
variable (G : CC) (F : Hp)
mutual
/-- v is d, in the frozen part -/
inductive Rep : V → D → Prop
  | non : Rep .non .non
  | bl (b : Bool) : Rep (.bl b) (.bl b)
  | int (i : Int) : Rep (.int i) (.int i)
  | str (s : List Nat) : Rep (.str (SX.S s)) (.str s)
  | tup {a : Addr} {vs : List V} {ds : List D} : SqT G.K F a vs → Reps vs ds → Rep (.ref a) (.tup ds)
  | lst {a : Addr} {vs : List V} {ds : List D} : SqL G.K F a vs → Reps vs ds → Rep (.ref a) (.lst ds)
  | dct {a : Addr} {ob : Obj} {kvs : List (Key × V)} {ds : List (D × D)} : F a = some (.frz ob (.dK kvs)) → ds.map (·.1) = kvs.map (fun p => kd p.1) → Reps (kvs.map (·.2)) (ds.map (·.2)) → Rep (.ref a) (.dct false ds)
  | dcT {a : Addr} {ob : Obj} {kvs : List NK} {ds : List (D × D)} : F a = some (.frz ob (DN G.P G.w a kvs)) → nkeys (ds.map (·.1)) = some (kvs.map (·.1)) → NKok kvs → Reps (kvs.map (fun p => .ref p.2.1)) (ds.map (·.1)) → Reps (kvs.map (·.2.2)) (ds.map (·.2)) → Rep (.ref a) (.dct true ds)
  | ins {a dx : Addr} {fs : List (Str × V)} {c : Nat} {ds : List D} : F a = some (.ins (G.cls c) dx fs) → fs.map (·.1) = (G.nms c).take ds.length → Reps (fs.map (·.2)) ds → Rep (.ref a) (.ins c ds)
  | exc0 {a : Addr} {c : Nat} : F a = some (XO (.ref (G.cls c)) none a) → Rep (.ref a) (.exc c [])
  | exc {a dx : Addr} {c : Nat} {fs : List (Str × V)} {vs : List V} {ds : List D} : F a = some (XO (.ref (G.cls c)) (some dx) a) → F dx = some (.xd fs) → vs.length = (G.nms c).length → (∀ (i : Nat) (f : Str), (G.nms c)[i]? = some f → fs.lookup f = vs[i]?) → Reps vs ds → Rep (.ref a) (.exc c ds)
inductive Reps : List V → List D → Prop
  | nil : Reps [] []
  | cons {v : V} {d : D} {vs : List V} {ds : List D} : Rep v d → Reps vs ds → Reps (v :: vs) (d :: ds)
end
end
section
variable (G : CC) (F H : Hp)
mutual
/-- v is o: its own nodes stand in H at the places fp, all else is frozen -/
inductive Own : V → O → List Addr → Prop
  | sh {v : V} {d : D} : Rep G F v d → Own v (.sh d) []
  | lst {a : Addr} {vs : List V} {os : List O} {fp : List Addr} : H a = some (.lst vs) → Owns vs os fp → Own (.ref a) (.lst os) (a :: fp)
  | tup {a : Addr} {vs : List V} {os : List O} {fp : List Addr} : H a = some (.tup vs) → Owns vs os fp → Own (.ref a) (.tup os) (a :: fp)
  | dct {a : Addr} {kvs : List (Key × V)} {os : List (D × O)} {fp : List Addr} : H a = some (.dK kvs) → os.map (·.1) = kvs.map (fun p => kd p.1) → (kvs.map (·.1)).Nodup → Owns (kvs.map (·.2)) (os.map (·.2)) fp → Own (.ref a) (.dct false os) (a :: fp)
  | dcT {a : Addr} {kvs : List NK} {os : List (D × O)} {fp : List Addr} : H a = some (DN G.P G.w a kvs) → nkeys (os.map (·.1)) = some (kvs.map (·.1)) → NKok kvs → Reps G F (kvs.map (fun p => .ref p.2.1)) (os.map (·.1)) → Owns (kvs.map (·.2.2)) (os.map (·.2)) fp → Own (.ref a) (.dct true os) (a :: fp)
  | ins {a dx : Addr} {fs : List (Str × V)} {c : Nat} {os : List O} {fp : List Addr} : H a = some (.ins (G.cls c) dx fs) → fs.map (·.1) = (G.nms c).take os.length → Owns (fs.map (·.2)) os fp → Own (.ref a) (.ins c os) (a :: fp)
inductive Owns : List V → List O → List Addr → Prop
  | nil : Owns [] [] []
  | cons {v : V} {o : O} {vs : List V} {os : List O} {f fp : List Addr} : Own v o f → Owns vs os fp → Owns (v :: vs) (o :: os) (f ++ fp)
end
end

theorem SqL.le {K : PySem.W.Frag} {F H : Hp} {a : Addr} {xs : List V} (l : Le F H) (h : SqL K F a xs) : SqL K H a xs := by
  rcases h with (h | ⟨o, h⟩) | h
  · exact .inl (.inl (l _ _ h))
  · exact .inl (.inr ⟨o, l _ _ h⟩)
  · exact .inr h
theorem Rd.le {F H : Hp} {a : Addr} {u : HO} (l : Le F H) (h : Rd F a u) : Rd H a u := by
  rcases h with h | ⟨o, h⟩
  · exact .inl (l _ _ h)
  · exact .inr ⟨o, l _ _ h⟩
theorem SqT.le {K : PySem.W.Frag} {F H : Hp} {a : Addr} {xs : List V} (l : Le F H) (h : SqT K F a xs) : SqT K H a xs := by
  rcases h with (h | ⟨o, h⟩) | h
  · exact .inl (.inl (l _ _ h))
  · exact .inl (.inr ⟨o, l _ _ h⟩)
  · exact .inr h

section
variable {G : CC} {F F' H H' : Hp}
mutual
theorem Rep.le (l : Le F F') : ∀ {v : V} {d : D}, Rep G F v d → Rep G F' v d
  | _, _, .non => .non
  | _, _, .bl b => .bl b
  | _, _, .int i => .int i
  | _, _, .str s => .str s
  | _, _, .tup h r => .tup (SqT.le l h) (Reps.le l r)
  | _, _, .lst h r => .lst (SqL.le l h) (Reps.le l r)
  | _, _, .dct h e r => .dct (l _ _ h) e (Reps.le l r)
  | _, _, .dcT h e n k r => .dcT (l _ _ h) e n (Reps.le l k) (Reps.le l r)
  | _, _, .ins h e r => .ins (l _ _ h) e (Reps.le l r)
  | _, _, .exc0 h => .exc0 (l _ _ h)
  | _, _, .exc h h2 e k r => .exc (l _ _ h) (l _ _ h2) e k (Reps.le l r)
theorem Reps.le (l : Le F F') : ∀ {vs : List V} {ds : List D}, Reps G F vs ds → Reps G F' vs ds
  | _, _, .nil => .nil
  | _, _, .cons h r => .cons (Rep.le l h) (Reps.le l r)
end
mutual
theorem Own.le (l : Le F F') : ∀ {v : V} {o : O} {fp : List Addr}, (∀ a u, a ∈ fp → H a = some u → H' a = some u) → Own G F H v o fp → Own G F' H' v o fp
  | _, _, _, _, .sh r => .sh (r.le l)
  | _, _, _, k, .lst h r => .lst (k _ _ (List.mem_cons_self ..) h) (Owns.le l (fun a u m => k a u (List.mem_cons_of_mem _ m)) r)
  | _, _, _, k, .tup h r => .tup (k _ _ (List.mem_cons_self ..) h) (Owns.le l (fun a u m => k a u (List.mem_cons_of_mem _ m)) r)
  | _, _, _, k, .dct h e n r => .dct (k _ _ (List.mem_cons_self ..) h) e n (Owns.le l (fun a u m => k a u (List.mem_cons_of_mem _ m)) r)
  | _, _, _, k, .dcT h e n q r => .dcT (k _ _ (List.mem_cons_self ..) h) e n (Reps.le l q) (Owns.le l (fun a u m => k a u (List.mem_cons_of_mem _ m)) r)
  | _, _, _, k, .ins h e r => .ins (k _ _ (List.mem_cons_self ..) h) e (Owns.le l (fun a u m => k a u (List.mem_cons_of_mem _ m)) r)
theorem Owns.le (l : Le F F') : ∀ {vs : List V} {os : List O} {fp : List Addr}, (∀ a u, a ∈ fp → H a = some u → H' a = some u) → Owns G F H vs os fp → Owns G F' H' vs os fp
  | _, _, _, _, .nil => .nil
  | _, _, _, k, .cons h r => .cons (Own.le l (fun a u m => k a u (List.mem_append_left _ m)) h) (Owns.le l (fun a u m => k a u (List.mem_append_right _ m)) r)
end
mutual
theorem Own.dom : ∀ {v : V} {o : O} {fp : List Addr}, Own G F H v o fp → ∀ a ∈ fp, ∃ u, H a = some u
  | _, _, _, .sh r, _, m => nomatch m
  | _, _, _, .lst h r, a, m => by
    rcases List.mem_cons.mp m with e | m
    · exact e ▸ ⟨_, h⟩
    · exact Owns.dom r a m
  | _, _, _, .tup h r, a, m => by
    rcases List.mem_cons.mp m with e | m
    · exact e ▸ ⟨_, h⟩
    · exact Owns.dom r a m
  | _, _, _, .dct h e n r, a, m => by
    rcases List.mem_cons.mp m with e | m
    · exact e ▸ ⟨_, h⟩
    · exact Owns.dom r a m
  | _, _, _, .dcT h e n q r, a, m => by
    rcases List.mem_cons.mp m with e | m
    · exact e ▸ ⟨_, h⟩
    · exact Owns.dom r a m
  | _, _, _, .ins h e r, a, m => by
    rcases List.mem_cons.mp m with e | m
    · exact e ▸ ⟨_, h⟩
    · exact Owns.dom r a m
theorem Owns.dom : ∀ {vs : List V} {os : List O} {fp : List Addr}, Owns G F H vs os fp → ∀ a ∈ fp, ∃ u, H a = some u
  | _, _, _, .nil, _, m => nomatch m
  | _, _, _, .cons h r, a, m => by
    rcases List.mem_append.mp m with m | m
    · exact Own.dom h a m
    · exact Owns.dom r a m
end
theorem Reps.length : ∀ {vs : List V} {ds : List D}, Reps G F vs ds → vs.length = ds.length
  | _, _, .nil => rfl
  | _, _, .cons _ r => congrArg (· + 1) (Reps.length r)
theorem Owns.length : ∀ {vs : List V} {os : List O} {fp : List Addr}, Owns G F H vs os fp → vs.length = os.length
  | _, _, _, .nil => rfl
  | _, _, _, .cons _ r => congrArg (· + 1) (Owns.length r)
theorem Reps.get : ∀ {vs : List V} {ds : List D} {i : Nat} {d : D}, Reps G F vs ds → ds[i]? = some d → ∃ v, vs[i]? = some v ∧ Rep G F v d
  | _, _, _, _, .nil, e => by simp at e
  | _, _, 0, _, .cons h r, e => by simp at e; subst e; exact ⟨_, rfl, h⟩
  | _, _, i + 1, d, .cons _ r, e => by
    obtain ⟨v, h1, h2⟩ := Reps.get (i := i) (d := d) r (by simpa using e)
    exact ⟨v, by simpa using h1, h2⟩
theorem Reps.getV : ∀ {vs : List V} {ds : List D} {i : Nat} {v : V}, Reps G F vs ds → vs[i]? = some v → ∃ d, ds[i]? = some d ∧ Rep G F v d
  | _, _, _, _, .nil, e => by simp at e
  | _, _, 0, _, .cons h r, e => by simp at e; subst e; exact ⟨_, rfl, h⟩
  | _, _, i + 1, d, .cons _ r, e => by
    obtain ⟨v, h1, h2⟩ := Reps.getV (i := i) (v := d) r (by simpa using e)
    exact ⟨v, by simpa using h1, h2⟩
theorem Reps.append : ∀ {vs ws : List V} {ds es : List D}, Reps G F vs ds → Reps G F ws es → Reps G F (vs ++ ws) (ds ++ es)
  | _, _, _, _, .nil, s => s
  | _, _, _, _, .cons h r, s => .cons h (Reps.append r s)
theorem Reps.take : ∀ {vs : List V} {ds : List D} (n : Nat), Reps G F vs ds → Reps G F (vs.take n) (ds.take n)
  | _, _, 0, _ => .nil
  | _, _, _ + 1, .nil => .nil
  | _, _, n + 1, .cons h t => .cons h (Reps.take n t)
theorem Reps.drop : ∀ {vs : List V} {ds : List D} (n : Nat), Reps G F vs ds → Reps G F (vs.drop n) (ds.drop n)
  | _, _, 0, r => r
  | _, _, _ + 1, .nil => .nil
  | _, _, n + 1, .cons _ t => Reps.drop n t
theorem Reps.reverse {vs : List V} {ds : List D} (r : Reps G F vs ds) : Reps G F vs.reverse ds.reverse := by
  induction vs generalizing ds with
  | nil => cases r; exact .nil
  | cons v vs ih =>
    cases r with
    | cons h t =>
      rw [List.reverse_cons, List.reverse_cons]
      exact (ih t).append (.cons h .nil)
theorem Owns.append : ∀ {vs ws : List V} {os us : List O} {f g : List Addr}, Owns G F H vs os f → Owns G F H ws us g → Owns G F H (vs ++ ws) (os ++ us) (f ++ g)
  | _, _, _, _, _, _, .nil, s => s
  | _, _, _, _, _, _, .cons h r, s => by
    rw [List.append_assoc]
    exact .cons h (Owns.append r s)
theorem Owns.one {v : V} {o : O} {f : List Addr} (h : Own G F H v o f) : Owns G F H [v] [o] f := by
  have := Owns.cons h (Owns.nil (G := G) (F := F) (H := H))
  rwa [List.append_nil] at this
theorem Owns.of_sh : ∀ {vs : List V} {ds : List D}, Reps G F vs ds → Owns G F H vs (ds.map .sh) []
  | _, _, .nil => .nil
  | _, _, .cons h r => Owns.cons (f := []) (.sh h) (Owns.of_sh r)
theorem Owns.to_sh : ∀ {ds : List D} {vs : List V} {f : List Addr}, Owns G F H vs (ds.map .sh) f → Reps G F vs ds ∧ f = []
  | [], _, _, h => by cases h; exact ⟨.nil, rfl⟩
  | d :: ds, _, _, h => by
    cases h with
    | cons h r =>
      cases h with
      | sh h =>
        obtain ⟨q, e⟩ := Owns.to_sh r
        exact ⟨.cons h q, by rw [e]; rfl⟩
theorem Owns.get : ∀ {vs : List V} {os : List O} {fp : List Addr} {i : Nat} {o : O}, Owns G F H vs os fp → os[i]? = some o → ∃ v f, vs[i]? = some v ∧ Own G F H v o f ∧ f.Sublist fp
  | _, _, _, _, _, .nil, e => by simp at e
  | _, _, _, 0, _, .cons h r, e => by
    simp at e
    subst e
    exact ⟨_, _, rfl, h, List.sublist_append_left _ _⟩
  | _, _, _, i + 1, o, .cons _ r, e => by
    obtain ⟨v, f, h1, h2, h3⟩ := Owns.get (i := i) (o := o) r (by simpa using e)
    exact ⟨v, f, by simpa using h1, h2, h3.trans (List.sublist_append_right _ _)⟩
end

/-- a step: from F, H, own places fp to F', H', own places fp' -/
structure Nx (F F' H H' : Hp) (fp fp' : List Addr) : Prop where
  ff : Le F F'
  hh : ∀ a o, H a = some o → a ∉ fp → H' a = some o
  nw : ∀ a, F a = none → F' a ≠ none → H a = none ∨ a ∈ fp
  fr : ∀ a ∈ fp', a ∈ fp ∨ H a = none
  le : Le F' H'
section
variable {F F' F2 H H' H2 : Hp} {fp fp' fp2 f g : List Addr}
theorem Nx.refl (l : Le F H) : Nx F F H H fp fp := ⟨Le.refl F, fun _ _ h _ => h, fun _ h h' => (h' h).elim, fun _ h => .inl h, l⟩
theorem Nx.trans (x : Nx F F' H H' fp fp') (y : Nx F' F2 H' H2 fp' fp2) : Nx F F2 H H2 fp fp2 where
  ff := x.ff.trans y.ff
  hh := fun a o h n => y.hh a o (x.hh a o h n) fun m => by
    rcases x.fr a m with m | m
    · exact n m
    · rw [h] at m; cases m
  nw := fun a h h' => by
    by_cases e : F' a = none
    · rcases y.nw a e h' with q | q
      · by_cases n : a ∈ fp
        · exact .inr n
        · cases e2 : H a with
          | none => exact .inl rfl
          | some o => rw [x.hh a o e2 n] at q; cases q
      · exact (x.fr a q).symm
    · exact x.nw a h e
  fr := fun a m => by
    rcases y.fr a m with m | m
    · exact x.fr a m
    · by_cases n : a ∈ fp
      · exact .inl n
      · cases e2 : H a with
        | none => exact .inr rfl
        | some o => rw [x.hh a o e2 n] at m; cases m
  le := y.le
/-- a pure step leaves what is one's own aside -/
theorem Nx.wide (x : Nx F F' H H' [] f) (g : List Addr) : Nx F F' H H' g (g ++ f) where
  ff := x.ff
  hh := fun a o h _ => x.hh a o h (fun m => nomatch m)
  nw := fun a h h' => .inl ((x.nw a h h').resolve_right fun m => nomatch m)
  fr := fun a m => (List.mem_append.mp m).imp id fun m => (x.fr a m).resolve_left fun m => nomatch m
  le := x.le
theorem Nx.wide0 (x : Nx F F' H H' [] []) (g : List Addr) : Nx F F' H H' g g := by
  have := x.wide g
  rwa [List.append_nil] at this
theorem Nx.sub (x : Nx F F' H H' fp fp') (h : ∀ a ∈ g, a ∈ fp') : Nx F F' H H' fp g := ⟨x.ff, x.hh, x.nw, fun a m => x.fr a (h a m), x.le⟩
theorem Nx.drop (x : Nx F F' H H' fp fp') : Nx F F' H H' fp [] := x.sub fun _ m => nomatch m
theorem Nx.keep (x : Nx F F' H H' [] f) : ∀ a o, H a = some o → H' a = some o := fun a o h => x.hh a o h fun m => nomatch m
theorem Nx.keepLe (x : Nx F F' H H' [] f) {B : Hp} (l : Le B H) : Le B H' := fun a o h => x.keep a o (l a o h)
/-- a new frozen thing -/
theorem Nx.newF {p : Addr} {o : HO} (l : Le F H) (h : H p = none) : Nx F (upd F p o) H (upd H p o) [] [] where
  ff := fun a u e => by rw [upd_ne (ne_of_none e (l.noneOf h))]; exact e
  hh := fun a u e _ => by rw [upd_ne (ne_of_none e h)]; exact e
  nw := fun a h1 h2 => by
    by_cases e : a = p
    · exact .inl (e ▸ h)
    · rw [upd_ne e] at h2; exact (h2 h1).elim
  fr := fun _ m => nomatch m
  le := l.upd2
/-- a new thing of one's own -/
theorem Nx.newO {p : Addr} {o : HO} (l : Le F H) (h : H p = none) (f : List Addr) (hf : ∀ a ∈ f, H a = none ∨ a = p) : Nx F F H (upd H p o) [] f where
  ff := Le.refl F
  hh := fun a u e _ => by rw [upd_ne (ne_of_none e h)]; exact e
  nw := fun a h1 h2 => (h2 h1).elim
  fr := fun a m => .inr ((hf a m).elim id fun e => e ▸ h)
  le := l.updN h
end
end DL

set_option maxHeartbeats 1000000
/-! DB: a frame's state as data; what an expression, a test, a statement denotes -/
namespace DL
open PySem PySem.Spec L2
open PyProof.Rows hiding St

section
variable (G : CC) (F B H : Hp)
/-- the slots: L, lent things; σ, values; en, data; fp, own places -/
inductive Sls : St → St → En → List Addr → Prop
  | nil : Sls [] [] [] []
  | un {x : Option V} {L σ : St} {en : En} {fp : List Addr} : Sls L σ en fp → Sls (none :: L) (x :: σ) (.un :: en) fp
  | own {v : V} {o : O} {f : List Addr} {L σ : St} {en : En} {fp : List Addr} : Own G F H v o f → Sls L σ en fp → Sls (none :: L) (some v :: σ) (.own o :: en) (f ++ fp)
  | lent {v : V} {o : O} {f : List Addr} {L σ : St} {en : En} {fp : List Addr} : Own G F H v o f → Sls L σ en fp → Sls (some v :: L) (some v :: σ) (.lent o :: en) (f ++ fp)
  | bor {v : V} {o : O} {f : List Addr} {L σ : St} {en : En} {fp : List Addr} : Own G F B v o f → Sls L σ en fp → Sls (none :: L) (some v :: σ) (.bor o :: en) fp
structure SRep (L : St) (σ : St) (en : En) (fp : List Addr) : Prop where
  lf : Le F H
  lb : Le B H
  sl : Sls G F B H L σ en fp
  nd : fp.Nodup
  df : ∀ a ∈ fp, F a = none ∧ B a = none
end

section
variable {G : CC} {F F' B H H' : Hp} {L σ : St} {en : En} {fp f g : List Addr}
theorem Sls.le (l : Le F F') (k : ∀ a u, a ∈ fp → H a = some u → H' a = some u) (s : Sls G F B H L σ en fp) : Sls G F' B H' L σ en fp := by
  induction s with
  | nil => exact .nil
  | un _ ih => exact .un (ih k)
  | own h _ ih => exact .own (h.le l fun a u m => k a u (List.mem_append_left _ m)) (ih fun a u m => k a u (List.mem_append_right _ m))
  | lent h _ ih => exact .lent (h.le l fun a u m => k a u (List.mem_append_left _ m)) (ih fun a u m => k a u (List.mem_append_right _ m))
  | bor h _ ih => exact .bor (h.le l fun a u _ e => e) (ih k)
theorem Sls.dom (s : Sls G F B H L σ en fp) : ∀ a ∈ fp, ∃ u, H a = some u := by
  induction s with
  | nil => intro _ m; cases m
  | un _ ih => exact ih
  | own h _ ih => intro a m; exact (List.mem_append.mp m).elim (h.dom a) (ih a)
  | lent h _ ih => intro a m; exact (List.mem_append.mp m).elim (h.dom a) (ih a)
  | bor h _ ih => exact ih
theorem Sls.len (s : Sls G F B H L σ en fp) : σ.length = en.length ∧ L.length = en.length := by
  induction s with
  | nil => exact ⟨rfl, rfl⟩
  | un _ ih => exact ⟨congrArg (· + 1) ih.1, congrArg (· + 1) ih.2⟩
  | own _ _ ih => exact ⟨congrArg (· + 1) ih.1, congrArg (· + 1) ih.2⟩
  | lent _ _ ih => exact ⟨congrArg (· + 1) ih.1, congrArg (· + 1) ih.2⟩
  | bor _ _ ih => exact ⟨congrArg (· + 1) ih.1, congrArg (· + 1) ih.2⟩
theorem SRep.dom (s : SRep G F B H L σ en fp) : ∀ a ∈ fp, ∃ u, H a = some u := s.sl.dom
/-- a pure step keeps the state -/
theorem SRep.pure (s : SRep G F B H L σ en fp) (x : Nx F F' H H' [] f) : SRep G F' B H' L σ en fp where
  lf := x.le
  lb := x.keepLe s.lb
  sl := s.sl.le x.ff fun a u _ e => x.keep a u e
  nd := s.nd
  df := fun a m => by
    refine ⟨?_, (s.df a m).2⟩
    cases e : F' a with
    | none => rfl
    | some u =>
      obtain ⟨o, h⟩ := s.dom a m
      rcases x.nw a (s.df a m).1 (by rw [e]; exact fun z => by cases z) with q | q
      · rw [h] at q; cases q
      · cases q
/-- what is new is not among the places that stand -/
theorem SRep.apart (s : SRep G F B H L σ en fp) (x : Nx F F' H H' [] f) (nf : f.Nodup) : (fp ++ f).Nodup := by
  rw [List.nodup_append]
  refine ⟨s.nd, nf, fun a m b m' e => ?_⟩
  subst e
  obtain ⟨o, h⟩ := s.dom a m
  rcases x.fr a m' with q | q
  · cases q
  · rw [h] at q; cases q
theorem SRep.noB (s : SRep G F B H L σ en fp) {fp' : List Addr} (x : Nx F F' H H' fp fp') : ∀ a ∈ fp', B a = none := fun a m => by
  rcases x.fr a m with q | q
  · exact (s.df a q).2
  · exact s.lb.noneOf q
end

/-- what a slot shows -/
def Sl.look : Sl → Option R
  | .un => none
  | .own (.sh d) => some (.own (.sh d))
  | .own o => some (.bor o)
  | .lent (.sh d) => some (.own (.sh d))
  | .lent o => some (.bor o)
  | .bor (.sh d) => some (.own (.sh d))
  | .bor o => some (.bor o)
def mName (i : Nat) (en : En) : Res R := match en[i]? with
  | some s => match s.look with
    | some r => .ok r
    | none => .stuck
  | none => .stuck

section
variable {G : CC} {F F' B H H' : Hp} {L σ : St} {en : En} {fp f g : List Addr}
theorem Sls.get (lb : Le B H) (s : Sls G F B H L σ en fp) : ∀ {i : Nat} {r : R}, (en[i]?).bind Sl.look = some r → ∃ v, σ[i]? = some (some v) ∧
    ((∃ d, r = .own (.sh d) ∧ Rep G F v d) ∨ ∃ o f, r = .bor o ∧ Own G F H v o f) := by
  induction s with
  | nil => intro i r e; simp at e
  | un _ ih =>
    intro i r e
    cases i with
    | zero => simp [Sl.look] at e
    | succ i => exact ih (i := i) (by simpa using e)
  | @own v o f L σ en fp h _ ih =>
    intro i r e
    cases i with
    | zero =>
      refine ⟨v, rfl, ?_⟩
      cases o with
      | sh d =>
        simp [Sl.look] at e
        cases h with
        | sh h => exact .inl ⟨d, e.symm, h⟩
      | _ =>
        simp [Sl.look] at e
        exact .inr ⟨_, _, e.symm, h⟩
    | succ i => exact ih (i := i) (by simpa using e)
  | @lent v o f L σ en fp h _ ih =>
    intro i r e
    cases i with
    | zero =>
      refine ⟨v, rfl, ?_⟩
      cases o with
      | sh d =>
        simp [Sl.look] at e
        cases h with
        | sh h => exact .inl ⟨d, e.symm, h⟩
      | _ =>
        simp [Sl.look] at e
        exact .inr ⟨_, _, e.symm, h⟩
    | succ i => exact ih (i := i) (by simpa using e)
  | @bor v o f L σ en fp h _ ih =>
    intro i r e
    cases i with
    | zero =>
      refine ⟨v, rfl, ?_⟩
      cases o with
      | sh d =>
        simp [Sl.look] at e
        cases h with
        | sh h => exact .inl ⟨d, e.symm, h⟩
      | _ =>
        simp [Sl.look] at e
        exact .inr ⟨_, _, e.symm, h.le (Le.refl F) fun a u _ q => lb a u q⟩
    | succ i => exact ih (i := i) (by simpa using e)
end

/-! ### exceptions -/
def XRep (G : CC) (F : Hp) (x : Ex) (cls : Value) (d : Option Addr) : Prop :=
  cls = .ref (G.cls x.c) ∧ ((x.l = [] ∧ d = none) ∨ ∃ (dx : Addr) (fs : List (Str × V)) (vs : List V), d = some dx ∧ F dx = some (.xd fs) ∧ vs.length = (G.nms x.c).length ∧ (∀ (i : Nat) (f : Str), (G.nms x.c)[i]? = some f → fs.lookup f = vs[i]?) ∧ Reps G F vs x.l)
theorem XRep.le {G : CC} {F F' : Hp} {x : Ex} {cls : Value} {d : Option Addr} (l : Le F F') (h : XRep G F x cls d) : XRep G F' x cls d := by
  obtain ⟨h1, h2⟩ := h
  refine ⟨h1, h2.imp id ?_⟩
  rintro ⟨dx, fs, vs, e1, e2, e3, e4, e5⟩
  exact ⟨dx, fs, vs, e1, l _ _ e2, e3, e4, e5.le l⟩
/-- the exception as a value -/
theorem XRep.rep {G : CC} {F : Hp} {x : Ex} {cls : Value} {d : Option Addr} {a : Addr} (h : XRep G F x cls d) (e : F a = some (XO cls d a)) : Rep G F (.ref a) (.exc x.c x.l) := by
  obtain ⟨rfl, h2⟩ := h
  rcases h2 with ⟨h3, rfl⟩ | ⟨dx, fs, vs, rfl, e2, e3, e4, e5⟩
  · rw [h3]; exact .exc0 e
  · exact .exc e e2 e3 e4 e5

/-- v is what a pure expression hands -/
def PR (G : CC) (F F' H H' : Hp) (v : V) : R → Prop
  | .own o => ∃ f, Nx F F' H H' [] f ∧ Own G F' H' v o f ∧ f.Nodup ∧ ∀ a ∈ f, F' a = none
  | .bor o => ∃ f, Nx F F' H H' [] [] ∧ Own G F' H' v o f
def R.o : R → O
  | .own o => o
  | .bor o => o
/-- v is what an expression hands, the state en' behind it -/
def XR (G : CC) (B : Hp) (L : St) (F F' H H' : Hp) (σ : St) (fp : List Addr) (v : V) (o : O) (en' : En) : Prop :=
  ∃ fp' f, Nx F F' H H' fp (fp' ++ f) ∧ SRep G F' B H' L σ en' fp' ∧ Own G F' H' v o f ∧ (fp' ++ f).Nodup ∧ ∀ a ∈ f, F' a = none
/-- a state behind -/
def NR (G : CC) (B : Hp) (L : St) (F F' H H' : Hp) (σ : St) (fp : List Addr) (en' : En) : Prop :=
  ∃ fp', Nx F F' H H' fp fp' ∧ SRep G F' B H' L σ en' fp'

section
variable (G : CC) (W : WX)
def EPost (F B : Hp) (L : St) (H : Hp) (fp : List Addr) (x : Ex) (en' : En) : Prop :=
  ∀ cls d σ F' H', NR G B L F F' H H' σ fp en' → XRep G F' x cls d → W cls d σ H'
/-- behind a pure expression -/
def PPost (F B : Hp) (L : St) (H : Hp) (fp : List Addr) (Q : VK) : Res R → Prop
  | .ok r => ∀ v F' H', PR G F F' H H' v r → Q v H'
  | .exc x en' => EPost G W F B L H fp x en'
  | .stuck => False
def tD (m : En → Res R) : TE := fun σ H Q => ∃ F B L en fp, SRep G F B H L σ en fp ∧ PPost G W F B L H fp Q (m en)
/-- behind an expression that may change what is one's own -/
def XPost (F B : Hp) (L : St) (H : Hp) (σ : St) (fp : List Addr) (Q : VK) : Res (O × En) → Prop
  | .ok r => ∀ v F' H', XR G B L F F' H H' σ fp v r.1 r.2 → Q v H'
  | .exc x en' => EPost G W F B L H fp x en'
  | .stuck => False
def tX (m : En → Res (O × En)) : TE := fun σ H Q => ∃ F B L en fp, SRep G F B H L σ en fp ∧ XPost G W F B L H σ fp Q (m en)
/-- behind a pure test -/
def TPost (F B : Hp) (L : St) (H : Hp) (fp : List Addr) (Q : Bool → Hp → Prop) : Res Bool → Prop
  | .ok b => ∀ F' H', Nx F F' H H' [] [] → Q b H'
  | .exc x en' => EPost G W F B L H fp x en'
  | .stuck => False
def tT (m : En → Res Bool) : TT := fun σ H Q => ∃ F B L en fp, SRep G F B H L σ en fp ∧ TPost G W F B L H fp Q (m en)
/-- behind a test that may change what is one's own -/
def YPost (F B : Hp) (L : St) (H : Hp) (σ : St) (fp : List Addr) (Q : Bool → Hp → Prop) : Res (Bool × En) → Prop
  | .ok r => ∀ F' H', NR G B L F F' H H' σ fp r.2 → Q r.1 H'
  | .exc x en' => EPost G W F B L H fp x en'
  | .stuck => False
def tY (m : En → Res (Bool × En)) : TT := fun σ H Q => ∃ F B L en fp, SRep G F B H L σ en fp ∧ YPost G W F B L H σ fp Q (m en)
end

/-- how a statement ends -/
inductive SR where
  | nx (en : En) | rt (o : O) (en : En) | bk (en : En) | ct (en : En) | exc (x : Ex) (en : En) | stuck
section
variable (G : CC) (W : WX)
def NPost (F B : Hp) (L : St) (H : Hp) (fp : List Addr) (K : St → Hp → Prop) (en' : En) : Prop :=
  ∀ σ' F' H', NR G B L F F' H H' σ' fp en' → K σ' H'
def SPost (F B : Hp) (L : St) (H : Hp) (fp : List Addr) (D : Ends) : SR → Prop
  | .nx en' => NPost G F B L H fp D.nx en'
  | .bk en' => NPost G F B L H fp D.bk en'
  | .ct en' => NPost G F B L H fp D.ct en'
  | .rt o en' => ∀ v σ' F' H', XR G B L F F' H H' σ' fp v o en' → D.rt v H'
  | .exc x en' => EPost G W F B L H fp x en'
  | .stuck => False
def tS (m : En → SR) : TS := fun D σ H => ∃ F B L en fp, SRep G F B H L σ en fp ∧ SPost G W F B L H fp D (m en)
end

/-! ### weaker readings -/
theorem _root_.L2.PE.imp {X : Cx} {e : Expr} {t t' : TE} (h : PE X e t) (i : ∀ σ H Q, t' σ H Q → t σ H Q) : PE X e t' := ⟨fun pins s σ H Q I q => h.run pins s σ H Q I (i σ H Q q)⟩
theorem _root_.L2.PT.imp {X : Cx} {e : Expr} {t t' : TT} (h : PT X e t) (i : ∀ σ H Q, t' σ H Q → t σ H Q) : PT X e t' := ⟨fun pins s σ H Q I q => h.run pins s σ H Q I (i σ H Q q)⟩
theorem _root_.L2.PW.imp {X : Cx} {e : Expr} {t t' : TT} (h : PW X e t) (i : ∀ σ H Q, t' σ H Q → t σ H Q) : PW X e t' := ⟨fun wh pins s σ H Q I q => h.run wh pins s σ H Q I (i σ H Q q)⟩
theorem _root_.L2.PA.imp {X : Cx} {es : List Expr} {t t' : TA} (h : PA X es t) (i : ∀ σ H Q, t' σ H Q → t σ H Q) : PA X es t' := ⟨fun pos pins s σ H Q I q => h.run pos pins s σ H Q I (i σ H Q q)⟩
theorem _root_.L2.PS.imp {X : Cx} {st : Stmt} {t t' : TS} (h : PS X st t) (i : ∀ D σ H, t' D σ H → t D σ H) : PS X st t' := ⟨fun pins s σ H D I q => h.run pins s σ H D I (i D σ H q)⟩
theorem _root_.L2.PSs.imp {X : Cx} {st : List Stmt} {t t' : TS} (h : PSs X st t) (i : ∀ D σ H, t' D σ H → t D σ H) : PSs X st t' := ⟨fun pins s σ H D I q => h.run pins s σ H D I (i D σ H q)⟩
theorem _root_.L2.PG.imp {X : Cx} {e : Expr} {t t' : TG} (h : PG X e t) (i : ∀ v σ H Q, t' v σ H Q → t v σ H Q) : PG X e t' := ⟨fun pins s σ H v u Q I r q => h.run pins s σ H v u Q I r (i v σ H Q q)⟩

section
variable {G : CC} {W : WX} {F F' F2 B H H' H2 : Hp} {L σ σ' : St} {en en' : En} {fp fp' f g : List Addr} {v : V} {o : O} {r : R}
theorem PR.nx (h : PR G F F' H H' v r) : Nx F F' H H' [] [] := by
  cases r with
  | own o => obtain ⟨f, n, _⟩ := h; exact n.drop
  | bor o => obtain ⟨f, n, _⟩ := h; exact n
theorem PR.has (h : PR G F F' H H' v r) : ∃ f, Own G F' H' v r.o f := by
  cases r with
  | own o => obtain ⟨f, _, q, _⟩ := h; exact ⟨f, q⟩
  | bor o => obtain ⟨f, _, q⟩ := h; exact ⟨f, q⟩
theorem PR.after (n : Nx F F' H H' [] []) (h : PR G F' F2 H' H2 v r) : PR G F F2 H H2 v r := by
  cases r with
  | own o => obtain ⟨f, z, q⟩ := h; exact ⟨f, n.trans z, q⟩
  | bor o => obtain ⟨f, z, q⟩ := h; exact ⟨f, n.trans z, q⟩
theorem PR.sh {d : D} (l : Le F H) (h : Rep G F v d) : PR G F F H H v (.own (.sh d)) := ⟨[], Nx.refl l, .sh h, List.nodup_nil, fun _ m => nomatch m⟩
theorem NR.refl (s : SRep G F B H L σ en fp) : NR G B L F F H H σ fp en := ⟨fp, Nx.refl s.lf, s⟩
theorem NR.after (y : Nx F F' H H' fp fp') (h : NR G B L F' F2 H' H2 σ fp' en') : NR G B L F F2 H H2 σ fp en' := by
  obtain ⟨fp2, z, s⟩ := h
  exact ⟨fp2, y.trans z, s⟩
theorem XR.after (y : Nx F F' H H' fp fp') (h : XR G B L F' F2 H' H2 σ fp' v o en') : XR G B L F F2 H H2 σ fp v o en' := by
  obtain ⟨fp2, f, z, s⟩ := h
  exact ⟨fp2, f, y.trans z, s⟩
theorem XR.nr (h : XR G B L F F' H H' σ fp v o en') : NR G B L F F' H H' σ fp en' := by
  obtain ⟨fp2, f, z, s, _⟩ := h
  exact ⟨fp2, z.sub fun _ m => List.mem_append_left _ m, s⟩
/-- a pure expression's own thing, as an expression -/
theorem PR.toX (s : SRep G F B H L σ en fp) (h : PR G F F' H H' v (.own o)) : XR G B L F F' H H' σ fp v o en := by
  obtain ⟨f, n, q, nd, fr⟩ := h
  exact ⟨fp, f, n.wide fp, s.pure n, q, s.apart n nd, fr⟩
theorem Nx.toN (s : SRep G F B H L σ en fp) (n : Nx F F' H H' [] []) : NR G B L F F' H H' σ fp en := ⟨fp, n.wide0 fp, s.pure n⟩
theorem EPost.after {x : Ex} {en' : En} (y : Nx F F' H H' fp fp') (h : EPost G W F B L H fp x en') : EPost G W F' B L H' fp' x en' :=
  fun cls d σ F2 H2 n xr => h cls d σ F2 H2 (n.after y) xr
theorem NPost.after {K : St → Hp → Prop} {en' : En} (y : Nx F F' H H' fp fp') (h : NPost G F B L H fp K en') : NPost G F' B L H' fp' K en' :=
  fun σ' F2 H2 n => h σ' F2 H2 (n.after y)
theorem SPost.after {D : Ends} (y : Nx F F' H H' fp fp') : ∀ {r : SR}, SPost G W F B L H fp D r → SPost G W F' B L H' fp' D r
  | .nx _, h => NPost.after y h
  | .bk _, h => NPost.after y h
  | .ct _, h => NPost.after y h
  | .rt _ _, h => fun v σ' F2 H2 n => h v σ' F2 H2 (n.after y)
  | .exc _ _, h => EPost.after y h
  | .stuck, h => h
end
end DL

set_option maxHeartbeats 1000000
/-! DC: names, constants, operators, tests -/
namespace DL
open PySem PySem.Spec L2
open PyProof.Rows hiding St

/-! ### names, constants -/
section
variable {X : Cx} {G : CC} {W : WX} {pos : Pos}
theorem dp_name (i : Nat) {x : Str} (hN : X.N[i]? = some x := by rfl) (hv : Vis X.env.scope x := by first | exact Or.inl rfl | exact Or.inr (Or.inl rfl) | exact Or.inr (Or.inr rfl)) (hd : (x == ("__debug__" : Str)) = false := by decide)
    (hcd : (x == ("__classdict__" : Str)) = false := by decide) : PE X (.Name x pos) (tD G W (mName i)) := (pe_var hN hv hd hcd).imp fun σ H Q h => by
  obtain ⟨F, B, L, en, fp, s, p⟩ := h
  unfold mName at p
  cases e : en[i]? with
  | none => rw [e] at p; exact p.elim
  | some z =>
    rw [e] at p
    cases e2 : z.look with
    | none => simp only [e2] at p; exact p.elim
    | some r =>
      simp only [e2] at p
      obtain ⟨v, hv, q⟩ := s.sl.get s.lb (i := i) (r := r) (by rw [e]; exact e2)
      refine ⟨v, hv, p v F H ?_⟩
      rcases q with ⟨d, rfl, q⟩ | ⟨o, f, rfl, q⟩
      · exact .sh s.lf q
      · exact ⟨f, Nx.refl s.lf, q⟩
def mC (d : D) (_ : En) : Res R := .ok (.own (.sh d))
theorem tC_D {v : V} {d : D} (h : ∀ F, Rep G F v d) {σ : St} {H : Hp} {Q : VK} (p : tD G W (mC d) σ H Q) : tC v σ H Q := by
  obtain ⟨F, B, L, en, fp, s, p⟩ := p
  exact p v F H (.sh s.lf (h F))
theorem dp_int {i j} : PE X (.Constant (.int i) j pos) (tD G W (mC (.int i))) := pe_int.imp fun _ _ _ => tC_D fun _ => .int i
theorem dp_bl {b j} : PE X (.Constant (.bool b) j pos) (tD G W (mC (.bl b))) := pe_bl.imp fun _ _ _ => tC_D fun _ => .bl b
theorem dp_non {j} : PE X (.Constant .none j pos) (tD G W (mC .non)) := pe_non.imp fun _ _ _ => tC_D fun _ => .non
theorem dp_str (l : List Nat) {x : Str} {j} (h : x = SX.S l := by rfl) : PE X (.Constant (.str x) j pos) (tD G W (mC (.str l))) := by
  subst h
  exact pe_str.imp fun _ _ _ => tC_D fun _ => .str l
/-- a module's constant -/
structure Kst (G : CC) (mg : Str → Option Value) (x : Str) (d : D) : Prop where
  ex : ∃ v u, mg x = some u ∧ RelV v u ∧ ∀ F, Rep G F v d
theorem dp_glob {x : Str} {d : D} (hm : Kst G X.mg x d) (hg : Gl X x := by rfl) (hd : (x == ("__debug__" : Str)) = false := by decide) : PE X (.Name x pos) (tD G W (mC d)) := by
  obtain ⟨v, u, h, r, q⟩ := hm.ex
  exact (pe_glob hg h r hd).imp fun _ _ _ => tC_D q
end

/-! ### what an operator makes of data -/
def VPost (G : CC) (F H : Hp) (Q : VK) : Option R → Prop
  | some r => ∀ v F' H', PR G F F' H H' v r → Q v H'
  | none => False
def OpD (G : CC) (r : R2) (m : O → O → Option R) : Prop :=
  ∀ F H x y a b f g Q, Le F H → Own G F H x a f → Own G F H y b g → VPost G F H Q (m a b) → r x y H Q
def UnD (G : CC) (r : V → Hp → VK → Prop) (m : O → Option R) : Prop :=
  ∀ F H x a f Q, Le F H → Own G F H x a f → VPost G F H Q (m a) → r x H Q
def Res.bnd {α β : Type} : Res α → (α → Res β) → Res β
  | .ok a, k => k a
  | .exc x e, _ => .exc x e
  | .stuck, _ => .stuck
def Res.of {α : Type} : Option α → Res α
  | some a => .ok a
  | none => .stuck
def mOp (m : O → O → Option R) (ma mb : En → Res R) (en : En) : Res R := (ma en).bnd fun a => (mb en).bnd fun b => .of (m a.o b.o)
def mUn (m : O → Option R) (ma : En → Res R) (en : En) : Res R := (ma en).bnd fun a => .of (m a.o)

section
variable {G : CC} {W : WX} {σ : St} {H : Hp} {Q : VK} {K : PySem.W.Frag}
/-- two pure parts in a row -/
theorem two {ma mb : En → Res R} {k : R → R → Res R} {T : V → V → Hp → Prop} (h : tD G W (fun en => (ma en).bnd fun a => (mb en).bnd fun b => k a b) σ H Q)
    (hk : ∀ F H' x y a b f g, Le F H' → Own G F H' x a.o f → Own G F H' y b.o g → (∀ (F₀ B L fp H₀) (en : En), SRep G F₀ B H₀ L σ en fp → Nx F₀ F H₀ H' [] [] → PPost G W F₀ B L H₀ fp Q (k a b) → T x y H')) :
    tD G W ma σ H fun x H1 => tD G W mb σ H1 fun y H2 => T x y H2 := by
  obtain ⟨F, B, L, en, fp, s, p⟩ := h
  refine ⟨F, B, L, en, fp, s, ?_⟩
  replace p : PPost G W F B L H fp Q ((ma en).bnd fun a => (mb en).bnd fun b => k a b) := p
  cases ea : ma en with
  | stuck => rw [ea] at p; exact p.elim
  | exc x e => rw [ea] at p; exact p
  | ok a =>
    rw [ea] at p
    intro x F1 H1 r1
    refine ⟨F1, B, L, en, fp, s.pure r1.nx, ?_⟩
    have p' : PPost G W F B L H fp Q ((mb en).bnd fun b => k a b) := p
    cases eb : mb en with
    | stuck => rw [eb] at p'; exact p'.elim
    | exc x e => rw [eb] at p'; exact EPost.after (r1.nx.wide0 fp) p'
    | ok b =>
      rw [eb] at p'
      intro y F2 H2 r2
      obtain ⟨f, q1⟩ := r1.has
      obtain ⟨g, q2⟩ := r2.has
      exact hk F2 H2 x y a b f g r2.nx.le (q1.le r2.nx.ff fun c u _ e => r2.nx.keep c u e) q2 F B L fp H en s (r1.nx.trans r2.nx) p'
theorem tOp_D {r : R2} {m : O → O → Option R} (hd : OpD G r m) {ma mb : En → Res R} (h : tD G W (mOp m ma mb) σ H Q) : tOp r (tD G W ma) (tD G W mb) σ H Q :=
  two (T := fun x y H2 => r x y H2 Q) h fun F H' x y a b f g l q1 q2 F₀ B L fp H₀ en s n p => by
    refine hd F H' x y _ _ f g Q l q1 q2 ?_
    cases e : m a.o b.o with
    | none => rw [e] at p; exact p.elim
    | some z => rw [e] at p; exact fun v F3 H3 r3 => p v F3 H3 (r3.after n)
theorem tUn_D {r : V → Hp → VK → Prop} {m : O → Option R} (hd : UnD G r m) {ma : En → Res R} (h : tD G W (mUn m ma) σ H Q) : tUn r (tD G W ma) σ H Q := by
  obtain ⟨F, B, L, en, fp, s, p⟩ := h
  refine ⟨F, B, L, en, fp, s, ?_⟩
  unfold mUn at p
  cases ea : ma en with
  | stuck => rw [ea] at p; exact p.elim
  | exc x e => rw [ea] at p; exact p
  | ok a =>
    rw [ea] at p
    intro x F1 H1 r1
    obtain ⟨f, q1⟩ := r1.has
    refine hd F1 H1 x _ f Q r1.nx.le q1 ?_
    have p' : PPost G W F B L H fp Q (.of (m a.o)) := p
    cases e : m a.o with
    | none => rw [e] at p'; exact p'.elim
    | some z => rw [e] at p'; exact fun v F3 H3 r3 => p' v F3 H3 (r3.after r1.nx)
end
section
variable {X : Cx} {G : CC} {W : WX} {pos : Pos} {a b c : Expr} {ma mb mc : En → Res R}
theorem dp_op {op : Operator} {r : R2} {m : O → O → Option R} (ho : OpR X (binaryOp op) r) (hd : OpD G r m) (ha : PE X a (tD G W ma)) (hb : PE X b (tD G W mb)) : PE X (.BinOp a op b pos) (tD G W (mOp m ma mb)) :=
  (pe_op ho ha hb).imp fun _ _ _ h => tOp_D hd h
theorem dp_un {op : UnaryOp} {r : V → Hp → VK → Prop} {m : O → Option R} (ho : UnR X (unaryOp op) r) (hd : UnD G r m) (ha : PE X a (tD G W ma)) : PE X (.UnaryOp op a pos) (tD G W (mUn m ma)) :=
  (pe_un ho ha).imp fun _ _ _ h => tUn_D hd h
theorem dp_cmp {op : CmpOp} {r : R2} {m : O → O → Option R} (ho : OpR X (compareOp op) r) (hd : OpD G r m) (ha : PE X a (tD G W ma)) (hb : PE X b (tD G W mb)) (hm : behindInMarks op b = false) : PE X (.Compare a [op] [b] pos) (tD G W (mOp m ma mb)) :=
  (pe_cmpR ho ha hb hm).imp fun _ _ _ h => tOp_D hd h
end

/-! ### truth -/
def ownBl (b : Bool) : R := .own (.sh (.bl b))
def R.bl? : R → Option Bool
  | .own (.sh (.bl b)) => some b
  | _ => none
/-- a pure expression whose value is a truth, as a test -/
def mTst (m : En → Res R) (en : En) : Res Bool := (m en).bnd fun r => .of r.bl?
theorem PR.blV {G : CC} {F F' H H' : Hp} {v : V} {b : Bool} (h : PR G F F' H H' v (ownBl b)) : v = .bl b := by
  obtain ⟨f, _, q, _⟩ := h
  cases q with
  | sh q => cases q; rfl
section
variable {G : CC} {W : WX} {σ : St} {H : Hp} {Q : Bool → Hp → Prop} {X : Cx} {pos : Pos} {a b c : Expr} {m ma mb mc : En → Res R}
theorem tTest_D (h : tT G W (mTst m) σ H Q) : tTest (tD G W m) σ H Q := by
  obtain ⟨F, B, L, en, fp, s, p⟩ := h
  refine ⟨F, B, L, en, fp, s, ?_⟩
  unfold mTst at p
  cases e : m en with
  | stuck => rw [e] at p; exact p.elim
  | exc x e' => rw [e] at p; exact p
  | ok r =>
    rw [e] at p
    have p' : TPost G W F B L H fp Q (.of r.bl?) := p
    intro v F1 H1 r1
    cases r with
    | bor o => exact p'.elim
    | own o =>
      cases o with
      | sh d =>
        cases d with
        | bl k => exact ⟨k, r1.blV, p' F1 H1 r1.nx⟩
        | _ => exact p'.elim
      | _ => exact p'.elim
theorem dt_cmp {op : CmpOp} {r : R2} {m : O → O → Option R} (ho : OpR X (compareOp op) r) (hd : OpD G r m) (ha : PE X a (tD G W ma)) (hb : PE X b (tD G W mb)) (hm : behindInMarks op b = false) : PT X (.Compare a [op] [b] pos) (tT G W (mTst (mOp m ma mb))) :=
  (pt_cmpR ho ha hb hm).imp fun _ _ _ h => by
    obtain z := tTest_D h
    obtain ⟨F, B, L, en, fp, s, p⟩ := z
    exact tOp_D hd ⟨F, B, L, en, fp, s, p⟩
theorem dt_val (ha : PE X a (tD G W ma)) (he : ∀ whole, isTrue a X.env whole = (do let v ← whole; standAt a.pos; holding [v] (truthy v)) := by intro _; rfl) : PT X a (tT G W (mTst ma)) :=
  (pt_val ha he).imp fun _ _ _ h => tTest_D h
def mAnd (ma mb : En → Res Bool) (en : En) : Res Bool := (ma en).bnd fun a => if a then mb en else .ok false
def mOr (ma mb : En → Res Bool) (en : En) : Res Bool := (ma en).bnd fun a => if a then .ok true else mb en
def mNot (ma : En → Res Bool) (en : En) : Res Bool := (ma en).bnd fun a => .ok (!a)
variable {na nb : En → Res Bool} {rest : List Expr}
theorem TPost.after {F F' B H H' : Hp} {L : St} {fp : List Addr} {r : Res Bool} (n : Nx F F' H H' [] []) (h : TPost G W F B L H fp Q r) : TPost G W F' B L H' fp Q r := by
  cases r with
  | ok b => exact fun F2 H2 z => h F2 H2 (n.trans z)
  | exc x e => exact EPost.after (n.wide0 fp) h
  | stuck => exact h
theorem PPost.after {F F' B H H' : Hp} {L : St} {fp : List Addr} {r : Res R} {Q : VK} (n : Nx F F' H H' [] []) (h : PPost G W F B L H fp Q r) : PPost G W F' B L H' fp Q r := by
  cases r with
  | ok b => exact fun v F2 H2 z => h v F2 H2 (z.after n)
  | exc x e => exact EPost.after (n.wide0 fp) h
  | stuck => exact h
theorem dt_and (ha : PT X a (tT G W na)) (hb : PW X (.BoolOp .And (b :: rest) pos) (tT G W nb)) : PW X (.BoolOp .And (a :: b :: rest) pos) (tT G W (mAnd na nb)) :=
  (pw_and ha hb).imp fun σ H Q h => by
    obtain ⟨F, B, L, en, fp, s, p⟩ := h
    refine ⟨F, B, L, en, fp, s, ?_⟩
    unfold mAnd at p
    cases e : na en with
    | stuck => rw [e] at p; exact p.elim
    | exc x e' => rw [e] at p; exact p
    | ok k =>
      rw [e] at p
      intro F1 H1 n
      cases k with
      | true => exact ⟨F1, B, L, en, fp, s.pure n, TPost.after n p⟩
      | false => exact p F1 H1 n
theorem dt_or (ha : PT X a (tT G W na)) (hb : PW X (.BoolOp .Or (b :: rest) pos) (tT G W nb)) : PW X (.BoolOp .Or (a :: b :: rest) pos) (tT G W (mOr na nb)) :=
  (pw_or ha hb).imp fun σ H Q h => by
    obtain ⟨F, B, L, en, fp, s, p⟩ := h
    refine ⟨F, B, L, en, fp, s, ?_⟩
    unfold mOr at p
    cases e : na en with
    | stuck => rw [e] at p; exact p.elim
    | exc x e' => rw [e] at p; exact p
    | ok k =>
      rw [e] at p
      intro F1 H1 n
      cases k with
      | true => exact p F1 H1 n
      | false => exact ⟨F1, B, L, en, fp, s.pure n, TPost.after n p⟩
theorem dt_not (ha : PT X a (tT G W na)) : PT X (.UnaryOp .Not a pos) (tT G W (mNot na)) :=
  (pt_not ha).imp fun σ H Q h => by
    obtain ⟨F, B, L, en, fp, s, p⟩ := h
    refine ⟨F, B, L, en, fp, s, ?_⟩
    unfold mNot at p
    cases e : na en with
    | stuck => rw [e] at p; exact p.elim
    | exc x e' => rw [e] at p; exact p
    | ok k => rw [e] at p; exact p
/-- and, or, not as values -/
def mAndV (ma mb : En → Res R) (en : En) : Res R := (ma en).bnd fun a => match a.bl? with | some true => mb en | some false => .ok (ownBl false) | none => .stuck
def mOrV (ma mb : En → Res R) (en : En) : Res R := (ma en).bnd fun a => match a.bl? with | some true => .ok (ownBl true) | some false => mb en | none => .stuck
def mNotV (ma : En → Res R) (en : En) : Res R := (ma en).bnd fun a => match a.bl? with | some k => .ok (ownBl (!k)) | none => .stuck
theorem R.bl?_eq {r : R} {k : Bool} (h : r.bl? = some k) : r = ownBl k := by
  cases r with
  | bor o => cases h
  | own o =>
    cases o with
    | sh d =>
      cases d with
      | bl b => cases h; rfl
      | _ => cases h
    | _ => cases h
theorem dp_and (ha : PE X a (tD G W ma)) (hb : PE X (.BoolOp .And (b :: rest) pos) (tD G W mb)) : PE X (.BoolOp .And (a :: b :: rest) pos) (tD G W (mAndV ma mb)) :=
  (pe_and ha hb).imp fun σ H Q h => by
    obtain ⟨F, B, L, en, fp, s, p⟩ := h
    refine ⟨F, B, L, en, fp, s, ?_⟩
    unfold mAndV at p
    cases e : ma en with
    | stuck => rw [e] at p; exact p.elim
    | exc x e' => rw [e] at p; exact p
    | ok r =>
      rw [e] at p
      intro v F1 H1 r1
      cases e2 : r.bl? with
      | none => simp only [Res.bnd, e2] at p; exact p.elim
      | some k =>
        simp only [Res.bnd, e2] at p
        rw [R.bl?_eq e2] at r1
        refine ⟨k, r1.blV, ?_⟩
        cases k with
        | true => exact ⟨F1, B, L, en, fp, s.pure r1.nx, PPost.after r1.nx p⟩
        | false => exact p _ F1 H1 (PR.after r1.nx (PR.sh r1.nx.le (.bl false)))
theorem dp_or (ha : PE X a (tD G W ma)) (hb : PE X (.BoolOp .Or (b :: rest) pos) (tD G W mb)) : PE X (.BoolOp .Or (a :: b :: rest) pos) (tD G W (mOrV ma mb)) :=
  (pe_or ha hb).imp fun σ H Q h => by
    obtain ⟨F, B, L, en, fp, s, p⟩ := h
    refine ⟨F, B, L, en, fp, s, ?_⟩
    unfold mOrV at p
    cases e : ma en with
    | stuck => rw [e] at p; exact p.elim
    | exc x e' => rw [e] at p; exact p
    | ok r =>
      rw [e] at p
      intro v F1 H1 r1
      cases e2 : r.bl? with
      | none => simp only [Res.bnd, e2] at p; exact p.elim
      | some k =>
        simp only [Res.bnd, e2] at p
        rw [R.bl?_eq e2] at r1
        refine ⟨k, r1.blV, ?_⟩
        cases k with
        | true => exact p _ F1 H1 (PR.after r1.nx (PR.sh r1.nx.le (.bl true)))
        | false => exact ⟨F1, B, L, en, fp, s.pure r1.nx, PPost.after r1.nx p⟩
theorem dp_not (ha : PE X a (tD G W ma)) : PE X (.UnaryOp .Not a pos) (tD G W (mNotV ma)) :=
  (pe_not ha).imp fun σ H Q h => by
    obtain ⟨F, B, L, en, fp, s, p⟩ := h
    refine ⟨F, B, L, en, fp, s, ?_⟩
    unfold mNotV at p
    cases e : ma en with
    | stuck => rw [e] at p; exact p.elim
    | exc x e' => rw [e] at p; exact p
    | ok r =>
      rw [e] at p
      intro v F1 H1 r1
      cases e2 : r.bl? with
      | none => simp only [Res.bnd, e2] at p; exact p.elim
      | some k =>
        simp only [Res.bnd, e2] at p
        rw [R.bl?_eq e2] at r1
        exact ⟨k, r1.blV, p _ F1 H1 (PR.after r1.nx (PR.sh r1.nx.le (.bl (!k))))⟩
/-- a if t else b -/
def mIf (t : En → Res Bool) (ma mb : En → Res R) (en : En) : Res R := (t en).bnd fun k => if k then ma en else mb en
theorem dp_if (hc : PT X c (tT G W na)) (ha : PE X a (tD G W ma)) (hb : PE X b (tD G W mb)) : PE X (.IfExp c a b pos) (tD G W (mIf na ma mb)) :=
  (pe_ifExp hc ha hb).imp fun σ H Q h => by
    obtain ⟨F, B, L, en, fp, s, p⟩ := h
    refine ⟨F, B, L, en, fp, s, ?_⟩
    unfold mIf at p
    cases e : na en with
    | stuck => rw [e] at p; exact p.elim
    | exc x e' => rw [e] at p; exact p
    | ok k =>
      rw [e] at p
      intro F1 H1 n
      cases k with
      | true => exact ⟨F1, B, L, en, fp, s.pure n, PPost.after n p⟩
      | false => exact ⟨F1, B, L, en, fp, s.pure n, PPost.after n p⟩
/-- a chain a op b op' c -/
def mChain (m m' : O → O → Option R) (ma mb mc : En → Res R) (en : En) : Res R :=
  (ma en).bnd fun a => (mb en).bnd fun b => (Res.of (m a.o b.o)).bnd fun z => match z.bl? with
    | some true => (mc en).bnd fun c => .of (m' b.o c.o)
    | some false => .ok (ownBl false)
    | none => .stuck
theorem tChain_D {r r' : R2} {m m' : O → O → Option R} (hd : OpD G r m) (hd' : OpD G r' m') {σ : St} {H : Hp} {Q : VK} (h : tD G W (mChain m m' ma mb mc) σ H Q) : tChain r r' (tD G W ma) (tD G W mb) (tD G W mc) σ H Q := by
  obtain ⟨F, B, L, en, fp, s, p⟩ := h
  refine ⟨F, B, L, en, fp, s, ?_⟩
  unfold mChain at p
  cases ea : ma en with
  | stuck => rw [ea] at p; exact p.elim
  | exc x e => rw [ea] at p; exact p
  | ok a =>
    rw [ea] at p
    intro x F1 H1 r1
    refine ⟨F1, B, L, en, fp, s.pure r1.nx, ?_⟩
    simp only [Res.bnd] at p
    cases eb : mb en with
    | stuck => rw [eb] at p; exact p.elim
    | exc x e => rw [eb] at p; exact EPost.after (r1.nx.wide0 fp) p
    | ok b =>
      rw [eb] at p
      simp only [Res.bnd] at p
      intro y F2 H2 r2
      obtain ⟨f, q1⟩ := r1.has
      obtain ⟨g, q2⟩ := r2.has
      refine hd F2 H2 x y _ _ f g _ r2.nx.le (q1.le r2.nx.ff fun c u _ e => r2.nx.keep c u e) q2 ?_
      cases e : m a.o b.o with
      | none => rw [e] at p; exact p.elim
      | some z =>
        rw [e] at p
        simp only [Res.of, Res.bnd] at p
        intro v F3 H3 r3
        cases e2 : z.bl? with
        | none => simp only [e2] at p; exact p.elim
        | some k =>
          simp only [e2] at p
          rw [R.bl?_eq e2] at r3
          have n3 := (r1.nx.trans r2.nx).trans r3.nx
          refine ⟨k, r3.blV, ?_⟩
          cases k with
          | false => exact p _ F3 H3 (PR.after n3 (PR.sh r3.nx.le (.bl false)))
          | true =>
            rw [if_pos rfl]
            refine ⟨F3, B, L, en, fp, s.pure n3, ?_⟩
            simp only at p
            cases ec : mc en with
            | stuck => rw [ec] at p; exact p.elim
            | exc x e => rw [ec] at p; exact EPost.after (n3.wide0 fp) p
            | ok c =>
              rw [ec] at p
              intro w F4 H4 r4
              obtain ⟨g4, q4⟩ := r4.has
              have n34 := r3.nx.trans r4.nx
              refine hd' F4 H4 y w _ _ g g4 Q r4.nx.le (q2.le n34.ff fun c u _ e => n34.keep c u e) q4 ?_
              have p' : PPost G W F B L H fp Q (.of (m' b.o c.o)) := p
              cases e5 : m' b.o c.o with
              | none => rw [e5] at p'; exact p'.elim
              | some z5 => rw [e5] at p'; exact fun v F5 H5 r5 => p' v F5 H5 (r5.after (n3.trans r4.nx))
theorem dp_chain {op op' : CmpOp} {r r' : R2} {m m' : O → O → Option R} (ho : OpR X (compareOp op) r) (ho' : OpR X (compareOp op') r') (hd : OpD G r m) (hd' : OpD G r' m') (ha : PE X a (tD G W ma)) (hb : PE X b (tD G W mb)) (hc : PE X c (tD G W mc))
    (h1 : lastMarks [op, op'] [b, c] = false := by with_unfolding_all rfl) : PE X (.Compare a [op, op'] [b, c] pos) (tD G W (mChain m m' ma mb mc)) :=
  (pe_chain ho ho' ha hb hc h1).imp fun _ _ _ h => tChain_D hd hd' h
theorem dt_chain {op op' : CmpOp} {r r' : R2} {m m' : O → O → Option R} (ho : OpR X (compareOp op) r) (ho' : OpR X (compareOp op') r') (hd : OpD G r m) (hd' : OpD G r' m') (ha : PE X a (tD G W ma)) (hb : PE X b (tD G W mb)) (hc : PE X c (tD G W mc))
    (h1 : lastMarks [op, op'] [b, c] = false := by with_unfolding_all rfl) : PT X (.Compare a [op, op'] [b, c] pos) (tT G W (mTst (mChain m m' ma mb mc))) :=
  (pt_chain ho ho' ha hb hc h1).imp fun _ _ _ h => by
    obtain ⟨F, B, L, en, fp, s, p⟩ := tTest_D h
    exact tChain_D hd hd' ⟨F, B, L, en, fp, s, p⟩
end
end DL

set_option maxHeartbeats 1000000
/-! LK: dicts are locked where they are frozen -/
namespace DL
open PySem PySem.Spec L2
open PyProof.Rows hiding St
def Lk (H H2 : Hp) (as : List Addr) : Prop := (∀ a, a ∉ as → H2 a = H a) ∧ ∀ a ∈ as, ∃ u od, H a = some u ∧ H2 a = some (.frz od u)
def Lkb (H : Hp) (as : List Addr) : Prop := as.Nodup ∧ ∀ a ∈ as, ∃ u, H a = some u ∧ Mut (some u)
/-- P, once some things are locked -/
def LkG (P : Hp → Prop) (H : Hp) : Prop := ∃ as, Lkb H as ∧ ∀ H2, Lk H H2 as → P H2
theorem Lk.nil {H H2 : Hp} (l : Lk H H2 []) : H2 = H := funext fun a => l.1 a (fun m => nomatch m)
theorem LkG.of {P : Hp → Prop} {H : Hp} (h : P H) : LkG P H := ⟨[], ⟨List.nodup_nil, fun _ m => nomatch m⟩, fun _ l => by rw [l.nil]; exact h⟩
theorem LkG.imp {P Q : Hp → Prop} {H : Hp} (h : LkG P H) (k : ∀ H2, P H2 → Q H2) : LkG Q H := by
  obtain ⟨as, b, h⟩ := h
  exact ⟨as, b, fun H2 l => k H2 (h H2 l)⟩
section
variable {X : Cx} {pins : List (Addr × Obj)} {σ : St} {s : Shared}
theorem inv_locks : ∀ (as : List Addr) (H : Hp), Inv X pins σ H s → Lkb H as → ∃ H2, Lk H H2 as ∧ Inv X pins σ H2 s
  | [], H, I, _ => ⟨H, ⟨fun _ _ => rfl, fun _ m => nomatch m⟩, I⟩
  | a :: as, H, I, h => by
    obtain ⟨nd, h⟩ := h
    obtain ⟨na, nd⟩ := List.nodup_cons.mp nd
    obtain ⟨u, hu, mu⟩ := h a (List.mem_cons_self ..)
    obtain ⟨od, I1⟩ := I.lock hu mu
    have ne : ∀ b ∈ as, b ≠ a := fun b m e => na (e ▸ m)
    obtain ⟨H2, ⟨l1, l2⟩, I2⟩ := inv_locks as _ I1 ⟨nd, fun b m => by rw [upd_ne (ne b m)]; exact h b (List.mem_cons_of_mem _ m)⟩
    refine ⟨H2, ⟨fun b hb => ?_, fun b hb => ?_⟩, I2⟩
    · rw [List.mem_cons, not_or] at hb
      rw [l1 b hb.2, upd_ne hb.1]
    · by_cases e : b = a
      · subst e
        exact ⟨u, od, hu, by rw [l1 b na, upd_same]⟩
      · obtain ⟨w, od', h1, h2⟩ := l2 b ((List.mem_cons.mp hb).resolve_left e)
        rw [upd_ne e] at h1
        exact ⟨w, od', h1, h2⟩
theorem LkG.run {P : Hp → Prop} {H : Hp} (h : LkG P H) (I : Inv X pins σ H s) : ∃ H2, Inv X pins σ H2 s ∧ P H2 := by
  obtain ⟨as, b, h⟩ := h
  obtain ⟨H2, l, I2⟩ := inv_locks as H I b
  exact ⟨H2, I2, h H2 l⟩
end
def lkE (D : Ends) : Ends := ⟨fun σ H => LkG (D.nx σ) H, fun v H => LkG (D.rt v) H, fun σ H => LkG (D.bk σ) H, fun σ H => LkG (D.ct σ) H⟩
section
variable {X : Cx}
theorem pe_lk {e : Expr} {t : TE} (h : PE X e t) : PE X e (fun σ H Q => t σ H fun v H1 => LkG (Q v) H1) := ⟨fun pins s σ H Q I q => thn (h.run pins s σ H _ I q) fun u s1 z => by
  obtain ⟨v, H1, I1, r, g⟩ := z
  obtain ⟨H2, I2, q⟩ := g.run I1
  exact ⟨v, H2, I2, r, q⟩⟩
theorem ps_lk {st : Stmt} {t : TS} (h : PS X st t) : PS X st (fun D σ H => t (lkE D) σ H) := ⟨fun pins s σ H D I q => thn (h.run pins s σ H _ I q) fun f s1 z => by
  cases f with
  | next => obtain ⟨σ', H', I2, g⟩ := z; obtain ⟨H2, I3, q⟩ := LkG.run g I2; exact ⟨σ', H2, I3, q⟩
  | brk => obtain ⟨σ', H', I2, g⟩ := z; obtain ⟨H2, I3, q⟩ := LkG.run g I2; exact ⟨σ', H2, I3, q⟩
  | cont => obtain ⟨σ', H', I2, g⟩ := z; obtain ⟨H2, I3, q⟩ := LkG.run g I2; exact ⟨σ', H2, I3, q⟩
  | ret v => obtain ⟨x, σ', H', I2, r, g⟩ := z; obtain ⟨H2, I3, q⟩ := LkG.run g I2; exact ⟨x, σ', H2, I3, r, q⟩⟩
theorem ps_pre {st : Stmt} {t : TS} (h : PS X st t) : PS X st (fun D σ H => LkG (fun H2 => t D σ H2) H) := ⟨fun pins s σ H D I g => by
  obtain ⟨H2, I2, q⟩ := g.run I
  exact h.run pins s σ H2 D I2 q⟩
theorem pss_pre {ss : List Stmt} {t : TS} (h : PSs X ss t) : PSs X ss (fun D σ H => LkG (fun H2 => t D σ H2) H) := ⟨fun pins s σ H D I g => by
  obtain ⟨H2, I2, q⟩ := g.run I
  exact h.run pins s σ H2 D I2 q⟩
end
/-- the nodes of one's own that are dicts -/
def isDn : HO → Bool
  | .dK _ => true
  | .ext _ => true
  | _ => false
def dnodes (H : Hp) (f : List Addr) : List Addr := f.filter fun a => match H a with
  | some o => isDn o
  | none => false
theorem dnodes_in {H : Hp} {f : List Addr} {a : Addr} (h : a ∈ dnodes H f) : a ∈ f ∧ ∃ u, H a = some u ∧ isDn u = true := by
  unfold dnodes at h
  rw [List.mem_filter] at h
  obtain ⟨h1, h2⟩ := h
  refine ⟨h1, ?_⟩
  cases e : H a with
  | none => simp only [e] at h2; cases h2
  | some o => simp only [e] at h2; exact ⟨o, rfl, h2⟩
theorem dnodes_of {H : Hp} {f : List Addr} {a : Addr} {u : HO} (m : a ∈ f) (h : H a = some u) (d : isDn u = true) : a ∈ dnodes H f := by
  unfold dnodes
  rw [List.mem_filter]
  exact ⟨m, by simp only [h]; exact d⟩
theorem isDn_mut {u : HO} (h : isDn u = true) : Mut (some u) := by
  cases u <;> first | exact True.intro | cases h
theorem dnodes_b {H : Hp} {f : List Addr} (nd : f.Nodup) : Lkb H (dnodes H f) := ⟨nd.filter _, fun a m => by
  obtain ⟨_, u, h, d⟩ := dnodes_in m
  exact ⟨u, h, isDn_mut d⟩⟩
def frz (F H : Hp) (f : List Addr) : Hp := fun a => if a ∈ f then H a else F a
theorem frz_in {F H : Hp} {f : List Addr} {a : Addr} (h : a ∈ f) : frz F H f a = H a := if_pos h
theorem frz_out {F H : Hp} {f : List Addr} {a : Addr} (h : a ∉ f) : frz F H f a = F a := if_neg h
theorem frz_ge {F H : Hp} {f : List Addr} (d : ∀ a ∈ f, F a = none) : Le F (frz F H f) := fun a o h => by
  rw [frz_out fun m => by rw [d a m] at h; cases h]; exact h
section
variable {F H H2 : Hp} {f : List Addr}
theorem Lk.out (l : Lk H H2 (dnodes H f)) {a : Addr} (h : a ∉ f) : H2 a = H a := l.1 a fun m => h (dnodes_in m).1
theorem Lk.le (l : Lk H H2 (dnodes H f)) {B : Hp} (h : Le B H) (d : ∀ a ∈ f, B a = none) : Le B H2 := fun a o e => by
  rw [l.out fun m => by rw [d a m] at e; cases e]
  exact h a o e
theorem Lk.frz_le (l : Lk H H2 (dnodes H f)) (h : Le F H) (d : ∀ a ∈ f, F a = none) : Le (frz F H2 f) H2 := fun a o e => by
  by_cases m : a ∈ f
  · rw [frz_in m] at e; exact e
  · rw [frz_out m] at e
    rw [l.out m]
    exact h a o e
/-- what the frozen part says of the places f -/
theorem Lk.node (l : Lk H H2 (dnodes H f)) : ∀ a ∈ f, ∀ u, H a = some u → (isDn u = false → frz F H2 f a = some u) ∧ (isDn u = true → ∃ od, frz F H2 f a = some (.frz od u)) := fun a m u h => by
  rw [frz_in m]
  refine ⟨fun d => ?_, fun d => ?_⟩
  · rw [l.1 a fun m' => by
      obtain ⟨_, w, h', d'⟩ := dnodes_in m'
      rw [h] at h'; cases h'
      rw [d] at d'; cases d']
    exact h
  · obtain ⟨w, od, h1, h2⟩ := l.2 a (dnodes_of m h d)
    rw [h] at h1; cases h1
    exact ⟨od, h2⟩
end
end DL

set_option maxHeartbeats 1000000
/-! DD: operators on data -/
namespace DL
open PySem PySem.Spec L2
open PyProof.Rows hiding St

/-! ### looks at data -/
mutual
/-- frozen -/
def O.fz : O → D
  | .sh d => d
  | .lst l => .lst (O.fzs l)
  | .tup l => .tup (O.fzs l)
  | .dct k l => .dct k (O.fzd l)
  | .ins c l => .ins c (O.fzs l)
def O.fzs : List O → List D
  | [] => []
  | o :: os => o.fz :: O.fzs os
def O.fzd : List (D × O) → List (D × D)
  | [] => []
  | (k, o) :: os => (k, o.fz) :: O.fzd os
end
theorem O.fzs_map (l : List O) : O.fzs l = l.map O.fz := by
  induction l with
  | nil => rfl
  | cons o os ih => simp [O.fzs, ih]
theorem O.fzd_1 (l : List (D × O)) : (O.fzd l).map (·.1) = l.map (·.1) := by
  induction l with
  | nil => rfl
  | cons o os ih => obtain ⟨k, o⟩ := o; simp only [O.fzd, List.map_cons, ih]
theorem O.fzd_2 (l : List (D × O)) : (O.fzd l).map (·.2) = O.fzs (l.map (·.2)) := by
  induction l with
  | nil => rfl
  | cons o os ih => obtain ⟨k, o⟩ := o; simp only [O.fzd, O.fzs, List.map_cons, ih]
/-- all frozen -/
def shs : List O → Option (List D)
  | [] => some []
  | .sh d :: os => (shs os).map (d :: ·)
  | _ => none
theorem shs_eq : ∀ {os : List O} {ds : List D}, shs os = some ds → os = ds.map .sh
  | [], ds, h => by cases h; rfl
  | .sh d :: os, ds, h => by
    simp only [shs, Option.map_eq_some_iff] at h
    obtain ⟨r, h, rfl⟩ := h
    rw [shs_eq h]
    rfl
  | .lst _ :: _, _, h => by cases h
  | .tup _ :: _, _, h => by cases h
  | .dct _ _ :: _, _, h => by cases h
  | .ins _ _ :: _, _, h => by cases h
@[simp] theorem shs_map (ds : List D) : shs (ds.map .sh) = some ds := by
  induction ds with
  | nil => rfl
  | cons d ds ih => simp [shs, ih]
/-- a list's items, a tuple's, all frozen -/
def O.lst? : O → Option (List D)
  | .sh (.lst l) => some l
  | .lst os => shs os
  | _ => none
def O.tup? : O → Option (List D)
  | .sh (.tup l) => some l
  | .tup os => shs os
  | _ => none
def O.seq? (o : O) : Option (List D) := match o.lst? with
  | some l => some l
  | none => o.tup?
section
variable {G : CC} {F H : Hp} {v : V} {o : O} {f : List Addr}
theorem Own.lstOf (l : Le F H) (h : Own G F H v o f) {ds : List D} (e : o.lst? = some ds) : ∃ a vs, v = .ref a ∧ SqL G.K H a vs ∧ Reps G F vs ds := by
  cases h with
  | sh r =>
    cases r with
    | lst s r => cases e; exact ⟨_, _, rfl, SqL.le l s, r⟩
    | _ => cases e
  | lst ha r =>
    rw [shs_eq e] at r
    exact ⟨_, _, rfl, SqL.of ha, r.to_sh.1⟩
  | _ => cases e
theorem Own.tupOf (l : Le F H) (h : Own G F H v o f) {ds : List D} (e : o.tup? = some ds) : ∃ a vs, v = .ref a ∧ SqT G.K H a vs ∧ Reps G F vs ds := by
  cases h with
  | sh r =>
    cases r with
    | tup s r => cases e; exact ⟨_, _, rfl, SqT.le l s, r⟩
    | _ => cases e
  | tup ha r =>
    rw [shs_eq e] at r
    exact ⟨_, _, rfl, .of ha, r.to_sh.1⟩
  | _ => cases e
theorem Own.intV {i : Int} (h : Own G F H v (.sh (.int i)) f) : v = .int i := by
  cases h with
  | sh h => cases h; rfl
theorem Own.strV {s : List Nat} (h : Own G F H v (.sh (.str s)) f) : v = .str (SX.S s) := by
  cases h with
  | sh h => cases h; rfl
theorem Own.blV {b : Bool} (h : Own G F H v (.sh (.bl b)) f) : v = .bl b := by
  cases h with
  | sh h => cases h; rfl
theorem Own.nonV (h : Own G F H v (.sh .non) f) : v = .non := by
  cases h with
  | sh h => cases h; rfl
theorem Own.repOf {d : D} (h : Own G F H v (.sh d) f) : Rep G F v d := by
  cases h with
  | sh h => exact h
end

/-! ### results -/
def rSh (d : D) : Option R := some (.own (.sh d))
def rInt (i : Int) : Option R := rSh (.int i)
def rBl (b : Bool) : Option R := rSh (.bl b)
/-- a new list of frozen things -/
def rLst (l : List D) : Option R := some (.own (.lst (l.map .sh)))
section
variable {G : CC} {F H : Hp} {Q : VK}
theorem vp_sh {d : D} {v : V} (l : Le F H) (r : Rep G F v d) (p : VPost G F H Q (rSh d)) : Q v H := p v F H (.sh l r)
theorem vp_lst {vs : List V} {ds : List D} {p : Addr} (l : Le F H) (hp : H p = none) (r : Reps G F vs ds) (q : VPost G F H Q (rLst ds)) : Q (.ref p) (upd H p (.lst vs)) :=
  q _ F _ ⟨[p], Nx.newO l hp [p] (fun a m => .inr (by simpa using m)), .lst upd_same (Owns.of_sh r), by simp, fun a m => by
    have e : a = p := by simpa using m
    rw [e]; exact l.noneOf hp⟩
/-- a new frozen tuple -/
theorem vp_tup {vs : List V} {ds : List D} {p : Addr} (l : Le F H) (hp : H p = none) (r : Reps G F vs ds) (q : VPost G F H Q (rSh (.tup ds))) : Q (.ref p) (upd H p (.tup vs)) := by
  have n := Nx.newF (F := F) (o := .tup vs) l hp
  exact q _ (upd F p (.tup vs)) _ ⟨[], n, .sh (.tup (.of upd_same) (r.le n.ff)), List.nodup_nil, fun _ m => nomatch m⟩
end

/-! ### alternatives -/
def orR (m m' : O → O → Option R) (a b : O) : Option R := match m a b with
  | some r => some r
  | none => m' a b
theorem OpD.or {G : CC} {r r' : R2} {m m' : O → O → Option R} (h : OpD G r m) (h' : OpD G r' m') : OpD G (fun x y H Q => r x y H Q ∨ r' x y H Q) (orR m m') := by
  intro F H x y a b f g Q l ha hb p
  unfold orR at p
  cases e : m a b with
  | some z => rw [e] at p; exact .inl (h F H x y a b f g Q l ha hb (by rw [e]; exact p))
  | none => rw [e] at p; exact .inr (h' F H x y a b f g Q l ha hb p)
def O.int? : O → Option Int
  | .sh (.int i) => some i
  | _ => none
def O.str? : O → Option (List Nat)
  | .sh (.str s) => some s
  | _ => none
def O.bl? : O → Option Bool
  | .sh (.bl b) => some b
  | _ => none
theorem O.int?_eq {o : O} {i : Int} (h : o.int? = some i) : o = .sh (.int i) := by
  cases o with
  | sh d =>
    cases d with
    | int j => cases h; rfl
    | _ => cases h
  | _ => cases h
theorem O.str?_eq {o : O} {i : List Nat} (h : o.str? = some i) : o = .sh (.str i) := by
  cases o with
  | sh d =>
    cases d with
    | str j => cases h; rfl
    | _ => cases h
  | _ => cases h
theorem O.bl?_eq {o : O} {i : Bool} (h : o.bl? = some i) : o = .sh (.bl i) := by
  cases o with
  | sh d =>
    cases d with
    | bl j => cases h; rfl
    | _ => cases h
  | _ => cases h
/-- two ints, under a condition -/
def opI (C : Int → Int → Bool) (g : Int → Int → D) (a b : O) : Option R := match a.int?, b.int? with
  | some i, some j => if C i j then rSh (g i j) else none
  | _, _ => none
theorem opI_ok {G : CC} {C : Int → Int → Bool} {P : Int → Int → Prop} {g : Int → Int → D} {gv : Int → Int → V} (hC : ∀ i j, C i j = true → P i j) (hg : ∀ F i j, Rep G F (gv i j) (g i j)) : OpD G (rI P gv) (opI C g) := by
  intro F H x y a b f g' Q l ha hb p
  unfold opI at p
  cases e1 : a.int? with
  | none => simp only [e1] at p; exact p.elim
  | some i =>
    cases e2 : b.int? with
    | none => simp only [e1, e2] at p; exact p.elim
    | some j =>
      simp only [e1, e2] at p
      rw [O.int?_eq e1] at ha
      rw [O.int?_eq e2] at hb
      split at p
      · rename_i hc
        exact ⟨i, j, ha.intV, hb.intV, hC i j hc, vp_sh l (hg F i j) p⟩
      · exact p.elim
theorem opI0_ok {G : CC} {g : Int → Int → D} {gv : Int → Int → V} (hg : ∀ F i j, Rep G F (gv i j) (g i j)) : OpD G (rI0 gv) (opI (fun _ _ => true) g) := by
  intro F H x y a b f g' Q l ha hb p
  obtain ⟨i, j, e1, e2, _, q⟩ := opI_ok (G := G) (C := fun _ _ => true) (P := fun _ _ => True) (fun _ _ _ => trivial) hg F H x y a b f g' Q l ha hb p
  exact ⟨i, j, e1, e2, q⟩

/-! ### + -/
def ML : Nat := 16777216
theorem ML_eq : (ML : Nat) = sizeLine := by rw [sizeLine_eq]; rfl
def addS (a b : O) : Option R := match a.str?, b.str? with
  | some s, some t => if s.length + t.length ≤ ML then rSh (.str (s ++ t)) else none
  | _, _ => none
def addL (a b : O) : Option R := match a.lst?, b.lst? with
  | some x, some y => if x.length + y.length ≤ ML then rLst (x ++ y) else none
  | _, _ => none
def D.tup? : D → Option (List D)
  | .tup l => some l
  | _ => none
def O.sh? : O → Option D
  | .sh d => some d
  | _ => none
theorem O.sh?_eq {o : O} {d : D} (h : o.sh? = some d) : o = .sh d := by
  cases o with
  | sh e => cases h; rfl
  | _ => cases h
theorem D.tup?_eq {d : D} {l : List D} (h : d.tup? = some l) : d = .tup l := by
  cases d with
  | tup e => cases h; rfl
  | _ => cases h
def O.ftup? (o : O) : Option (List D) := o.sh?.bind D.tup?
theorem O.ftup?_eq {o : O} {l : List D} (h : o.ftup? = some l) : o = .sh (.tup l) := by
  unfold O.ftup? at h
  cases e : o.sh? with
  | none => rw [e] at h; cases h
  | some d =>
    rw [e] at h
    rw [O.sh?_eq e, D.tup?_eq (show d.tup? = some l from h)]
def addT (a b : O) : Option R := match a.ftup?, b.ftup? with
  | some x, some y => if x.length + y.length ≤ ML then rSh (.tup (x ++ y)) else none
  | _, _ => none
def addO : O → O → Option R := orR (opI (fun _ _ => true) fun i j => .int (i + j)) (orR addS (orR addL addT))
/-- list + list -/
def rCatL (K : PySem.W.Frag) : R2 := fun x y H Q => ∃ l b xs zs, x = .ref l ∧ y = .ref b ∧ SqL K H l xs ∧ SqL K H b zs ∧ xs.length + zs.length ≤ sizeLine ∧ ∀ p, H p = none → Q (.ref p) (upd H p (.lst (xs ++ zs)))
theorem op_catL {X : Cx} : OpR X (binaryOp .Add) (rCatL X.K) := by
  intro pins s σ H x y v u Q I rx ry h
  obtain ⟨l, b, xs, zs, rfl, rfl, hH, hB, hz, q⟩ := h
  cases rx
  cases ry
  obtain ⟨its, r, ⟨⟨cls, dd, data, sl⟩, n, e, hc, hdd, hd⟩, _⟩ := I.list hH
  obtain ⟨its2, r2, ⟨⟨cls2, dd2, data2, sl2⟩, n2, e2, hc2, hdd2, hd2⟩, _⟩ := I.list hB
  simp only at hc hd hc2 hd2
  subst hc hd hc2 hd2
  have h1 := r.length
  have h2 := r2.length
  have ea : its.toArray ++ its2.toArray = (its ++ its2).toArray := by simp
  refine concat_meets ⟨_, e, rfl⟩ ⟨_, e2, rfl⟩ noFill_list_add seq_list_add PySem.F.slot_list_add PySem.F.entry_list_add (PySem.F.args_list_add_2 _ _) (PyProof.Rows.list_addW l b its.toArray its2.toArray n n2 dd dd2 sl sl2 (by rw [List.size_toArray, List.size_toArray]; omega)) ⟨e, e2, ?_⟩
  rw [ea]
  exact ⟨.ref _, _, I.lnew (t' := s.toks) (r.append r2) (by rw [List.length_append]; omega), rfl, q _ I.fresh⟩
def rAddS : R2 := fun x y H Q => ∃ i j, x = .str i ∧ y = .str j ∧ i.length + j.length ≤ sizeLine ∧ Q (.str (i ++ j)) H
abbrev rAddO (K : PySem.W.Frag) : R2 := fun x y H Q => rI0 (fun i j => .int (i + j)) x y H Q ∨ rAddS x y H Q ∨ rCatL K x y H Q ∨ rCatA K x y H Q
theorem op_addO {X : Cx} : OpR X (binaryOp .Add) (rAddO X.K) := op_add.or (OpR.or (r := rAddS) op_add_str (op_catL.or op_catA))
theorem addS_ok {G : CC} : OpD G rAddS addS := by
  intro F H x y a b f g Q l ha hb p
  unfold addS at p
  cases e1 : a.str? with
  | none => simp only [e1] at p; exact p.elim
  | some s =>
    cases e2 : b.str? with
    | none => simp only [e1, e2] at p; exact p.elim
    | some t =>
      simp only [e1, e2] at p
      rw [O.str?_eq e1] at ha
      rw [O.str?_eq e2] at hb
      split at p
      · rename_i hz
        refine ⟨_, _, ha.strV, hb.strV, by rw [SX.S_len, SX.S_len, ← ML_eq]; exact hz, ?_⟩
        rw [SX.S_cat]
        exact vp_sh l (.str _) p
      · exact p.elim
theorem addL_ok {G : CC} : OpD G (rCatL G.K) addL := by
  intro F H x y a b f g Q l ha hb p
  unfold addL at p
  cases e1 : a.lst? with
  | none => simp only [e1] at p; exact p.elim
  | some s =>
    cases e2 : b.lst? with
    | none => simp only [e1, e2] at p; exact p.elim
    | some t =>
      simp only [e1, e2] at p
      split at p
      · rename_i hz
        obtain ⟨a1, vs, rfl, s1, r1⟩ := ha.lstOf l e1
        obtain ⟨a2, ws, rfl, s2, r2⟩ := hb.lstOf l e2
        exact ⟨a1, a2, vs, ws, rfl, rfl, s1, s2, by rw [r1.length, r2.length, ← ML_eq]; exact hz, fun p' hp => vp_lst l hp (r1.append r2) p⟩
      · exact p.elim
theorem addT_ok {G : CC} : OpD G (rCatA G.K) addT := by
  intro F H x y a b f g Q l ha hb p
  unfold addT at p
  cases e1 : a.ftup? with
  | none => simp only [e1] at p; exact p.elim
  | some s =>
    cases e2 : b.ftup? with
    | none => simp only [e1, e2] at p; exact p.elim
    | some t =>
      simp only [e1, e2] at p
      rw [O.ftup?_eq e1] at ha
      rw [O.ftup?_eq e2] at hb
      have ra0 := ha.repOf
      have rb0 := hb.repOf
      split at p
      · rename_i hz
        obtain ⟨a1, vs, rfl, s1, r1⟩ := ha.tupOf l rfl
        obtain ⟨a2, ws, rfl, s2, r2⟩ := hb.tupOf l rfl
        refine ⟨a1, a2, vs, ws, rfl, rfl, s1, s2, by rw [r1.length, r2.length, ← ML_eq]; exact hz, fun e => ?_, fun _ e => ?_, fun _ _ p' hp => vp_tup l hp (r1.append r2) p⟩
        · subst e
          cases r1
          exact vp_sh l rb0 p
        · subst e
          cases r2
          rw [List.append_nil] at p
          exact vp_sh l ra0 p
      · exact p.elim
theorem addO_ok {G : CC} : OpD G (rAddO G.K) addO := (opI0_ok fun _ _ _ => .int _).or (addS_ok.or (addL_ok.or addT_ok))

/-! ### the other numbers' operators -/
def subO : O → O → Option R := opI (fun _ _ => true) fun i j => .int (i - j)
theorem subO_ok {G : CC} : OpD G (rI0 fun i j => .int (i - j)) subO := opI0_ok fun _ _ _ => .int _
/-- |i| < n, by a look that never unfolds n beside an open i -/
def lim (n : Nat) (i : Int) : Bool := Nat.ble (i.natAbs + 1) n
theorem lim_iff {n : Nat} {i : Int} : lim n i = true ↔ i.natAbs < n := by
  unfold lim
  exact ⟨fun h => Nat.le_of_ble_eq_true h, fun h => Nat.ble_eq_true_of_le h⟩
def W64 (i : Int) : Bool := lim (2 ^ 64) i
theorem W64_iff {i : Int} : W64 i = true ↔ -(2 ^ 64) < i ∧ i < 2 ^ 64 := by
  unfold W64
  rw [lim_iff]
  omega
def mulO0 : O → O → Option R := opI (fun i j => W64 i || W64 j) fun i j => .int (i * j)
theorem mulO0_ok {G : CC} : OpD G (rI CMul fun i j => .int (i * j)) mulO0 := opI_ok (fun i j h => by
  rw [Bool.or_eq_true, W64_iff, W64_iff] at h
  exact h) fun _ _ _ => .int _
def modO : O → O → Option R := opI (fun _ j => decide (0 < j)) fun i j => .int (i % j)
theorem modO_ok {G : CC} : OpD G (rI (fun _ j => 0 < j) fun i j => .int (i % j)) modO := opI_ok (fun i j h => by simpa using h) fun _ _ _ => .int _
/-- a divisor below 2 ^ 9000 -/
def fdivO : O → O → Option R := opI (fun _ j => decide (0 < j) && decide (j.natAbs.log2 < 9000)) fun i j => .int (i / j)
theorem fdivO_ok {G : CC} : OpD G (rI CDivW fun i j => .int (i / j)) fdivO := opI_ok (fun i j h => by
  simpa [CDivW] using h) fun _ _ _ => .int _
def powO : O → O → Option R := opI (fun i j => decide (0 ≤ j) && (lim 1000001 j && lim (2 ^ 64) i)) fun i j => .int (i ^ j.toNat)
theorem powO_ok {G : CC} : OpD G (rI CPow fun i j => .int (i ^ j.toNat)) powO := opI_ok (fun i j h => by
  simp only [Bool.and_eq_true, decide_eq_true_eq, lim_iff] at h
  exact ⟨h.1, by omega, h.2.2⟩) fun _ _ _ => .int _
def shlO : O → O → Option R := opI (fun i j => decide (0 ≤ j) && (lim 1000001 j && lim (2 ^ 64) i)) fun i j => .int (i * 2 ^ j.toNat)
theorem shlO_ok {G : CC} : OpD G (rI CPow fun i j => .int (i * 2 ^ j.toNat)) shlO := opI_ok (fun i j h => by
  simp only [Bool.and_eq_true, decide_eq_true_eq, lim_iff] at h
  exact ⟨h.1, by omega, h.2.2⟩) fun _ _ _ => .int _
def negO (a : O) : Option R := match a.int? with
  | some i => rInt (-i)
  | none => none
theorem negO_ok {G : CC} : UnD G (rU fun i => .int (-i)) negO := by
  intro F H x a f Q l ha p
  unfold negO at p
  cases e1 : a.int? with
  | none => simp only [e1] at p; exact p.elim
  | some i =>
    simp only [e1] at p
    rw [O.int?_eq e1] at ha
    exact ⟨i, ha.intV, vp_sh l (.int _) p⟩

/-! ### order of ints and texts -/
/-- of two texts: the list of code points -/
def opS (g : List Nat → List Nat → Bool) (a b : O) : Option R := match a.str?, b.str? with
  | some s, some t => rBl (g s t)
  | _, _ => none
def rS (g : List Nat → List Nat → Bool) : R2 := fun x y H Q => ∃ i j, x = .str i ∧ y = .str j ∧ Q (.bl (g i.cps.toList j.cps.toList)) H
theorem opS_ok {G : CC} {g : List Nat → List Nat → Bool} : OpD G (rS g) (opS g) := by
  intro F H x y a b f g' Q l ha hb p
  unfold opS at p
  cases e1 : a.str? with
  | none => simp only [e1] at p; exact p.elim
  | some s =>
    cases e2 : b.str? with
    | none => simp only [e1, e2] at p; exact p.elim
    | some t =>
      simp only [e1, e2] at p
      rw [O.str?_eq e1] at ha
      rw [O.str?_eq e2] at hb
      exact ⟨_, _, ha.strV, hb.strV, vp_sh l (.bl _) p⟩
def ltO : O → O → Option R := orR (opI (fun _ _ => true) fun i j => .bl (decide (i < j))) (opS fun s t => decide (s < t))
abbrev rLtO : R2 := fun x y H Q => rI0 (fun i j => .bl (decide (i < j))) x y H Q ∨ rS (fun s t => decide (s < t)) x y H Q
theorem op_ltO {X : Cx} : OpR X (compareOp .Lt) rLtO := op_lt.or (r' := rS fun s t => decide (s < t)) op_lt_str
theorem ltO_ok {G : CC} : OpD G rLtO ltO := (opI0_ok fun _ _ _ => .bl _).or opS_ok
def leO : O → O → Option R := opI (fun _ _ => true) fun i j => .bl (decide (i ≤ j))
theorem leO_ok {G : CC} : OpD G (rI0 fun i j => .bl (decide (i ≤ j))) leO := opI0_ok fun _ _ _ => .bl _
def gtO : O → O → Option R := opI (fun _ _ => true) fun i j => .bl (decide (j < i))
theorem gtO_ok {G : CC} : OpD G (rI0 fun i j => .bl (decide (j < i))) gtO := opI0_ok fun _ _ _ => .bl _
def geO : O → O → Option R := opI (fun _ _ => true) fun i j => .bl (decide (j ≤ i))
theorem geO_ok {G : CC} : OpD G (rI0 fun i j => .bl (decide (j ≤ i))) geO := opI0_ok fun _ _ _ => .bl _
end DL

set_option maxHeartbeats 1000000
/-! DE: equality, is, in -/
namespace DL
open PySem PySem.Spec L2
open PyProof.Rows hiding St

/-! ### == -/
mutual
def D.py : D → PyData
  | .bl b => .bool b
  | .int i => .int i
  | .str s => .str (SX.S s)
  | .tup l => .tuple (D.pys l)
  | .lst l => .list (D.pys l)
  | _ => .none
def D.pys : List D → List PyData
  | [] => []
  | d :: ds => d.py :: D.pys ds
end
mutual
def deq : D → D → Bool
  | .non, .non => true
  | .bl a, .bl b => a == b
  | .bl a, .int j => (if a then 1 else 0) == j
  | .int i, .bl b => i == (if b then 1 else 0)
  | .int i, .int j => i == j
  | .str a, .str b => a == b
  | .tup a, .tup b => deqs a b
  | .lst a, .lst b => deqs a b
  | _, _ => false
def deqs : List D → List D → Bool
  | [], [] => true
  | x :: xs, y :: ys => deq x y && deqs xs ys
  | _, _ => false
end
/-- plain data of such a depth at most -/
def pl : Nat → D → Bool
  | _, .non => true
  | _, .bl _ => true
  | _, .int _ => true
  | _, .str s => s.all (· < 0x110000)
  | n + 1, .tup l => l.all (pl n)
  | n + 1, .lst l => l.all (pl n)
  | _, _ => false
theorem D.pys_map (l : List D) : D.pys l = l.map D.py := by
  induction l with
  | nil => rfl
  | cons o os ih => simp [D.pys, ih]
theorem strOk_S (s : List Nat) : PyData.strOk (SX.S s) = s.all (· < 0x110000) := by
  show (s.toArray).all _ = _
  simp
mutual
theorem pl_can : ∀ (n : Nat) (d : D), pl n d = true → d.py.canLay0 = true ∧ d.py.depth ≤ n
  | n, .non, _ => by simp [D.py, PyData.canLay0, PyData.depth]
  | n, .bl _, _ => by simp [D.py, PyData.canLay0, PyData.depth]
  | n, .int _, _ => by simp [D.py, PyData.canLay0, PyData.depth]
  | n, .str s, h => by
    have h' : PyData.strOk (SX.S s) = true := by rw [strOk_S]; simpa [pl] using h
    simp [D.py, PyData.canLay0, PyData.depth, h']
  | n + 1, .tup l, h => by
    obtain ⟨a, b⟩ := pls_can n l (by simpa [pl] using h)
    simp only [D.py, PyData.canLay0, PyData.depth]
    exact ⟨a, by omega⟩
  | n + 1, .lst l, h => by
    obtain ⟨a, b⟩ := pls_can n l (by simpa [pl] using h)
    simp only [D.py, PyData.canLay0, PyData.depth]
    exact ⟨a, by omega⟩
  | 0, .tup _, h => by cases h
  | 0, .lst _, h => by cases h
  | 0, .dct _ _, h => by cases h
  | 0, .ins _ _, h => by cases h
  | 0, .exc _ _, h => by cases h
  | 0, .fn _, h => by cases h
  | n + 1, .dct _ _, h => by cases h
  | n + 1, .ins _ _, h => by cases h
  | n + 1, .exc _ _, h => by cases h
  | n + 1, .fn _, h => by cases h
theorem pls_can : ∀ (n : Nat) (l : List D), (∀ d ∈ l, pl n d = true) → PyData.canLayAll0 (D.pys l) = true ∧ PyData.depthAll (D.pys l) ≤ n
  | n, [], _ => by simp [D.pys, PyData.canLayAll0, PyData.depthAll]
  | n, d :: ds, h => by
    obtain ⟨a, b⟩ := pl_can n d (h d (List.mem_cons_self ..))
    obtain ⟨a', b'⟩ := pls_can n ds fun d m => h d (List.mem_cons_of_mem _ m)
    simp only [D.pys, PyData.canLayAll0, PyData.depthAll, a, a', Bool.and_self, true_and]
    omega
end
theorem pl_shaped {d : D} (h : pl 60 d = true) : SeqAt.shaped d.py = true := by
  obtain ⟨a, b⟩ := pl_can 60 d h
  unfold SeqAt.shaped
  rw [a, Bool.true_and]
  exact decide_eq_true (by omega)
mutual
theorem deq_py : ∀ (n m : Nat) (a b : D), pl n a = true → pl m b = true → PyData.eqv a.py b.py = deq a b
  | n, m, .non, b, _, h => by cases b <;> first | rfl | (cases m <;> cases h)
  | n, m, .bl _, b, _, h => by cases b <;> first | rfl | (cases m <;> cases h)
  | n, m, .int _, b, _, h => by cases b <;> first | rfl | (cases m <;> cases h)
  | n, m, .str s, b, _, h => by
    cases b <;> first
      | rfl
      | (cases m <;> cases h)
      | (simp only [D.py, PyData.eqv, deq]; exact SX.S_beq _ _)
  | n + 1, m, .tup l, b, g, h => by
    cases b with
    | tup k =>
      cases m with
      | zero => cases h
      | succ m =>
        simp only [D.py, PyData.eqv, deq]
        exact deqs_py n m l k (by simpa [pl] using g) (by simpa [pl] using h)
    | _ => first | rfl | (cases m <;> cases h)
  | n + 1, m, .lst l, b, g, h => by
    cases b with
    | lst k =>
      cases m with
      | zero => cases h
      | succ m =>
        simp only [D.py, PyData.eqv, deq]
        exact deqs_py n m l k (by simpa [pl] using g) (by simpa [pl] using h)
    | _ => first | rfl | (cases m <;> cases h)
  | 0, _, .tup _, _, h, _ => by cases h
  | 0, _, .lst _, _, h, _ => by cases h
  | 0, _, .dct _ _, _, h, _ => by cases h
  | 0, _, .ins _ _, _, h, _ => by cases h
  | 0, _, .exc _ _, _, h, _ => by cases h
  | 0, _, .fn _, _, h, _ => by cases h
  | n + 1, _, .dct _ _, _, h, _ => by cases h
  | n + 1, _, .ins _ _, _, h, _ => by cases h
  | n + 1, _, .exc _ _, _, h, _ => by cases h
  | n + 1, _, .fn _, _, h, _ => by cases h
theorem deqs_py : ∀ (n m : Nat) (l k : List D), (∀ d ∈ l, pl n d = true) → (∀ d ∈ k, pl m d = true) → PyData.eqvAll (D.pys l) (D.pys k) = deqs l k
  | n, m, [], [], _, _ => by simp [D.pys, PyData.eqvAll, deqs]
  | n, m, [], _ :: _, _, _ => by simp [D.pys, PyData.eqvAll, deqs]
  | n, m, _ :: _, [], _, _ => by simp [D.pys, PyData.eqvAll, deqs]
  | n, m, a :: l, b :: k, g, h => by
    simp only [D.pys, PyData.eqvAll, deqs]
    rw [deq_py n m a b (g a (List.mem_cons_self ..)) (h b (List.mem_cons_self ..)), deqs_py n m l k (fun d q => g d (List.mem_cons_of_mem _ q)) fun d q => h d (List.mem_cons_of_mem _ q)]
end
section
variable {G : CC} {F H : Hp}
mutual
theorem Rep.dp (l : Le F H) : ∀ (n : Nat) {v : V} {d : D}, Rep G F v d → pl n d = true → Dp G.K H v d.py
  | _, _, _, .non, _ => .non
  | _, _, _, .bl b, _ => .bl b
  | _, _, _, .int i, _ => .int i
  | _, _, _, .str s, _ => .str _
  | 0, _, _, .tup _ _, h => by cases h
  | 0, _, _, .lst _ _, h => by cases h
  | 0, _, _, .ins _ _ _, h => by cases h
  | 0, _, _, .dct _ _ _, h => by cases h
  | 0, _, _, .exc0 _, h => by cases h
  | 0, _, _, .exc _ _ _ _ _, h => by cases h
  | 0, _, _, .dcT _ _ _ _ _, h => by cases h
  | n + 1, _, _, .tup s r, h => .tup (SqT.le l s) (Reps.dp l n r (by simpa [pl] using h))
  | n + 1, _, _, .lst s r, h => .lst (SqL.le l s) (Reps.dp l n r (by simpa [pl] using h))
  | n + 1, _, _, .ins _ _ _, h => by cases h
  | n + 1, _, _, .dct _ _ _, h => by cases h
  | n + 1, _, _, .exc0 _, h => by cases h
  | n + 1, _, _, .exc _ _ _ _ _, h => by cases h
  | n + 1, _, _, .dcT _ _ _ _ _, h => by cases h
theorem Reps.dp (l : Le F H) : ∀ (n : Nat) {vs : List V} {ds : List D}, Reps G F vs ds → (∀ d ∈ ds, pl n d = true) → DpAll G.K H vs (D.pys ds)
  | _, _, _, .nil, _ => .nil
  | n, _, _, .cons h r, k => .cons (Rep.dp l n h (k _ (List.mem_cons_self ..))) (Reps.dp l n r fun d q => k d (List.mem_cons_of_mem _ q))
end
mutual
theorem Own.dp (l : Le F H) : ∀ (n : Nat) {v : V} {o : O} {f : List Addr}, Own G F H v o f → pl n o.fz = true → Dp G.K H v o.fz.py
  | n, _, _, _, .sh r, h => Rep.dp l n r h
  | n + 1, _, _, _, .lst ha r, h => by
    simp only [O.fz, D.py]
    exact .lst (.of ha) (Owns.dp l n r (by simpa [O.fz, pl] using h))
  | n + 1, _, _, _, .tup ha r, h => by
    simp only [O.fz, D.py]
    exact .tup (.of ha) (Owns.dp l n r (by simpa [O.fz, pl] using h))
  | 0, _, _, _, .lst _ _, h => by cases h
  | 0, _, _, _, .tup _ _, h => by cases h
  | 0, _, _, _, .ins _ _ _, h => by cases h
  | 0, _, _, _, .dct _ _ _ _, h => by cases h
  | 0, _, _, _, .dcT _ _ _ _ _, h => by cases h
  | n + 1, _, _, _, .ins _ _ _, h => by cases h
  | n + 1, _, _, _, .dct _ _ _ _, h => by cases h
  | n + 1, _, _, _, .dcT _ _ _ _ _, h => by cases h
theorem Owns.dp (l : Le F H) : ∀ (n : Nat) {vs : List V} {os : List O} {f : List Addr}, Owns G F H vs os f → (∀ d ∈ O.fzs os, pl n d = true) → DpAll G.K H vs (D.pys (O.fzs os))
  | _, _, _, _, .nil, _ => .nil
  | n, _, _, _, .cons h r, k => .cons (Own.dp l n h (k _ (by simp [O.fzs]))) (Owns.dp l n r fun d q => k d (by simp [O.fzs, q]))
end
end
/-- scalars that == tells apart at once -/
def scD : D → D → Bool
  | .non, .non => true | .non, .int _ => true | .int _, .non => true | .non, .bl _ => true | .bl _, .non => true | .non, .str _ => true | .str _, .non => true
  | .int _, .int _ => true | .bl _, .bl _ => true | .str _, .str _ => true
  | .int _, .str _ => true | .str _, .int _ => true | .bl _, .str _ => true | .str _, .bl _ => true
  | _, _ => false
def eqSc (neg : Bool) (a b : O) : Option R := match a.sh?, b.sh? with
  | some x, some y => if scD x y then rBl (if neg then !deq x y else deq x y) else none
  | _, _ => none
def eqDp (neg : Bool) (a b : O) : Option R := if pl 60 a.fz && pl 60 b.fz then rBl (if neg then !deq a.fz b.fz else deq a.fz b.fz) else none
def eqO : O → O → Option R := orR (eqSc false) (eqDp false)
def neO : O → O → Option R := orR (eqSc true) (eqDp true)
theorem scD_V {G : CC} {F : Hp} {x y : D} {v w : V} (h : scD x y = true) (rx : Rep G F v x) (ry : Rep G F w y) : scal v w = true ∧ decide (v = w) = deq x y := by
  cases rx <;> cases ry <;> first | (cases h; done) | refine ⟨rfl, ?_⟩ <;> simp [deq]
  all_goals first
    | rfl
    | exact (Bool.beq_eq_decide_eq ..).symm
theorem eqSc_ok {G : CC} : OpD G rEq (eqSc false) := by
  intro F H x y a b f g Q l ha hb p
  unfold eqSc at p
  cases e1 : a.sh? with
  | none => simp only [e1] at p; exact p.elim
  | some s =>
    cases e2 : b.sh? with
    | none => simp only [e1, e2] at p; exact p.elim
    | some t =>
      simp only [e1, e2] at p
      rw [O.sh?_eq e1] at ha
      rw [O.sh?_eq e2] at hb
      split at p
      · rename_i h
        obtain ⟨h1, h2⟩ := scD_V h ha.repOf hb.repOf
        refine ⟨h1, ?_⟩
        rw [h2]
        exact vp_sh l (.bl _) p
      · exact p.elim
theorem neSc_ok {G : CC} : OpD G rNe (eqSc true) := by
  intro F H x y a b f g Q l ha hb p
  unfold eqSc at p
  cases e1 : a.sh? with
  | none => simp only [e1] at p; exact p.elim
  | some s =>
    cases e2 : b.sh? with
    | none => simp only [e1, e2] at p; exact p.elim
    | some t =>
      simp only [e1, e2] at p
      rw [O.sh?_eq e1] at ha
      rw [O.sh?_eq e2] at hb
      split at p
      · rename_i h
        obtain ⟨h1, h2⟩ := scD_V h ha.repOf hb.repOf
        refine ⟨h1, ?_⟩
        rw [h2]
        exact vp_sh l (.bl _) p
      · exact p.elim
theorem eqDp_ok {G : CC} : OpD G (rEqD G.K) (eqDp false) := by
  intro F H x y a b f g Q l ha hb p
  unfold eqDp at p
  split at p
  · rename_i h
    simp only [Bool.and_eq_true] at h
    refine ⟨_, _, ha.dp l 60 h.1, hb.dp l 60 h.2, pl_shaped h.1, pl_shaped h.2, ?_⟩
    rw [deq_py 60 60 _ _ h.1 h.2]
    exact vp_sh l (.bl _) p
  · exact p.elim
theorem neDp_ok {G : CC} : OpD G (rNeD G.K) (eqDp true) := by
  intro F H x y a b f g Q l ha hb p
  unfold eqDp at p
  split at p
  · rename_i h
    simp only [Bool.and_eq_true] at h
    refine ⟨_, _, ha.dp l 60 h.1, hb.dp l 60 h.2, pl_shaped h.1, pl_shaped h.2, ?_⟩
    rw [deq_py 60 60 _ _ h.1 h.2]
    exact vp_sh l (.bl _) p
  · exact p.elim
abbrev rEqO (K : PySem.W.Frag) : R2 := fun x y H Q => rEq x y H Q ∨ rEqD K x y H Q
abbrev rNeO (K : PySem.W.Frag) : R2 := fun x y H Q => rNe x y H Q ∨ rNeD K x y H Q
theorem op_eqO {X : Cx} {k : Nat} (hr : Room k X.A) : OpR X (compareOp .Eq) (rEqO X.K) := op_eq.or (op_eqD hr.units)
theorem op_neO {X : Cx} {k : Nat} (hr : Room k X.A) : OpR X (compareOp .NotEq) (rNeO X.K) := op_ne.or (op_neD hr.units)
theorem eqO_ok {G : CC} : OpD G (rEqO G.K) eqO := eqSc_ok.or eqDp_ok
theorem neO_ok {G : CC} : OpD G (rNeO G.K) neO := neSc_ok.or neDp_ok

/-! ### is -/
def O.isNon : O → Bool
  | .sh .non => true
  | _ => false
def isO (neg : Bool) (a b : O) : Option R := match b with
  | .sh .non => rBl (if neg then !a.isNon else a.isNon)
  | .sh (.bl k) => match a.bl? with
    | some j => rBl (if neg then !(j == k) else j == k)
    | none => rBl neg
  | _ => none
def vIs (x y : V) : Bool := decide (x = y)
def rIsO (neg : Bool) : R2 := fun x y H Q => (y = .non ∨ ∃ k, y = .bl k) ∧ Q (.bl (if neg then !decide (x = y) else decide (x = y))) H
theorem relV_bl {x : V} {v : Value} {k : Bool} (r : RelV x v) : (v == Value.bool k) = decide (x = .bl k) := by
  cases x with
  | bl b =>
    cases (show v = Value.bool b from r)
    cases b <;> cases k <;> rfl
  | non => cases r; rfl
  | int _ => obtain ⟨t, rfl⟩ := r; rfl
  | str _ => obtain ⟨t, rfl⟩ := r; rfl
  | byt _ => obtain ⟨t, rfl⟩ := r; rfl
  | flt _ => obtain ⟨t, rfl⟩ := r; rfl
  | ref _ => cases r; rfl
  | ty _ => cases r; rfl
theorem op_isO {X : Cx} : OpR X (compareOp .Is) (rIsO false) := by
  intro pins s σ H x y v u Q I rx ry h
  obtain ⟨h, q⟩ := h
  rcases h with rfl | ⟨k, rfl⟩
  · cases ry
    exact is_none_gen ⟨.bl _, H, I, by rw [rx.none_iff]; rfl, q⟩
  · cases (show u = Value.bool k from ry)
    have hp : plainIs v (.bool k) = true := by cases x <;> first | (cases rx; rfl) | (obtain ⟨t, rfl⟩ := rx; rfl)
    exact wpAny_is_plain hp ⟨.bl _, H, I, by rw [relV_bl rx]; rfl, q⟩
theorem op_isNotO {X : Cx} : OpR X (compareOp .IsNot) (rIsO true) := by
  intro pins s σ H x y v u Q I rx ry h
  obtain ⟨h, q⟩ := h
  rcases h with rfl | ⟨k, rfl⟩
  · cases ry
    exact isnot_none_gen ⟨.bl _, H, I, by rw [rx.none_iff]; rfl, q⟩
  · cases (show u = Value.bool k from ry)
    have hp : plainIs v (.bool k) = true := by cases x <;> first | (cases rx; rfl) | (obtain ⟨t, rfl⟩ := rx; rfl)
    exact wpAny_isNot_plain hp ⟨.bl _, H, I, by rw [relV_bl rx]; rfl, q⟩
theorem isO_ok {G : CC} {neg : Bool} : OpD G (rIsO neg) (isO neg) := by
  intro F H x y a b f g Q l ha hb p
  cases b with
  | sh d =>
    cases d with
    | non =>
      refine ⟨.inl hb.nonV, ?_⟩
      have e : decide (x = y) = a.isNon := by
        rw [hb.nonV]
        cases ha with
        | sh r => cases r <;> rfl
        | _ => rfl
      rw [e]
      exact vp_sh l (.bl _) p
    | bl k =>
      refine ⟨.inr ⟨k, hb.blV⟩, ?_⟩
      rw [hb.blV]
      simp only [isO] at p
      cases ha with
      | sh r =>
        cases r with
        | bl j =>
          have e : decide (V.bl j = V.bl k) = (j == k) := dec_bl
          rw [e]
          exact vp_sh l (.bl _) p
        | _ =>
          cases neg <;> exact vp_sh l (.bl _) p
      | _ => cases neg <;> exact vp_sh l (.bl _) p
    | _ => exact p.elim
  | _ => exact p.elim

/-! ### in -/
/-- one sign in a text -/
def inS (neg : Bool) (a b : O) : Option R := match a.str?, b.str? with
  | some [c], some t => rBl (if neg then !decide (c ∈ t) else decide (c ∈ t))
  | _, _ => none
/-- in a list of plain data -/
def inL (neg : Bool) (a b : O) : Option R := match b.lst? with
  | some l => if pl 60 a.fz && pl 60 (.lst l) then rBl (if neg then !(l.any fun z => deq z a.fz) else l.any fun z => deq z a.fz) else none
  | none => none
def flatD : D → Bool
  | .non => true | .bl _ => true | .int _ => true | .str _ => true | _ => false
/-- in a tuple of flat data -/
def inT (neg : Bool) (a b : O) : Option R := match a.sh?, b.tup? with
  | some d, some l => if flatD d && l.all flatD then rBl (if neg then !(l.any fun z => deq z d) else l.any fun z => deq z d) else none
  | _, _ => none
def rInS (neg : Bool) : R2 := fun x y H Q => ∃ (c : Nat) (z : Str), x = .str ⟨#[c]⟩ ∧ y = .str z ∧ Q (.bl (if neg then !decide (c ∈ z.cps.toList) else decide (c ∈ z.cps.toList))) H
def rInDD (K : PySem.W.Frag) (neg : Bool) : R2 := fun x y H Q => ∃ d ds, Dp K H x d ∧ Dp K H y (.list ds) ∧ SeqAt.shaped d = true ∧ SeqAt.shaped (.list ds) = true ∧ Q (.bl (if neg then !(ds.any fun z => PyData.eqv z d) else ds.any fun z => PyData.eqv z d)) H
theorem any_py : ∀ {l : List D} {d : D}, (∀ z ∈ l, pl 59 z = true) → pl 60 d = true → ((D.pys l).any fun z => PyData.eqv z d.py) = l.any fun z => deq z d
  | [], _, _, _ => rfl
  | a :: l, d, h, hd => by
    simp only [D.pys, List.any_cons]
    rw [deq_py 59 60 a d (h a (List.mem_cons_self ..)) hd, any_py (fun z m => h z (List.mem_cons_of_mem _ m)) hd]
theorem inS_ok {G : CC} {neg : Bool} : OpD G (rInS neg) (inS neg) := by
  intro F H x y a b f g Q l ha hb p
  unfold inS at p
  split at p
  · rename_i c t e1 e2
    rw [O.str?_eq e1] at ha
    rw [O.str?_eq e2] at hb
    exact ⟨c, _, ha.strV, hb.strV, vp_sh l (.bl _) p⟩
  · exact p.elim
theorem inL_ok {G : CC} {neg : Bool} : OpD G (rInDD G.K neg) (inL neg) := by
  intro F H x y a b f g Q l ha hb p
  unfold inL at p
  split at p
  · rename_i ds e1
    split at p
    · rename_i h
      simp only [Bool.and_eq_true] at h
      obtain ⟨a1, vs, rfl, s1, r1⟩ := hb.lstOf l e1
      have hall : ∀ z ∈ ds, pl 59 z = true := by simpa [pl] using h.2
      refine ⟨_, _, ha.dp l 60 h.1, .lst s1 (Reps.dp l 59 r1 hall), pl_shaped h.1, pl_shaped (d := .lst ds) h.2, ?_⟩
      rw [any_py hall h.1]
      exact vp_sh l (.bl _) p
    · exact p.elim
  · exact p.elim
theorem flat_V {G : CC} {F : Hp} {d : D} {v : V} (r : Rep G F v d) (h : flatD d = true) : flatV v = true := by
  cases r <;> first | rfl | cases h
theorem flat_eqV {G : CC} {F : Hp} {d e : D} {v w : V} (r : Rep G F v d) (h : flatD d = true) (r' : Rep G F w e) (h' : flatD e = true) : eqV v w = deq d e := by
  cases r <;> first | (cases h; done) | skip
  all_goals (cases r' <;> first | rfl | (cases h'; done) | exact SX.S_beq _ _)
theorem flat_any {G : CC} {F : Hp} {d : D} {v : V} (r : Rep G F v d) (h : flatD d = true) : ∀ {vs : List V} {ds : List D}, Reps G F vs ds → ds.all flatD = true → vs.all flatV = true ∧ inV v vs = ds.any fun z => deq z d
  | _, _, .nil, _ => ⟨rfl, rfl⟩
  | _, _, .cons r1 rs, k => by
    rw [List.all_cons, Bool.and_eq_true] at k
    obtain ⟨i1, i2⟩ := flat_any r h rs k.2
    refine ⟨by rw [List.all_cons, flat_V r1 k.1, i1]; rfl, ?_⟩
    unfold inV at i2 ⊢
    rw [List.any_cons, List.any_cons, i2, flat_eqV r1 k.1 r h]
theorem inT_ok {G : CC} {neg : Bool} : OpD G (rIn G.K neg) (inT neg) := by
  intro F H x y a b f g Q l ha hb p
  unfold inT at p
  split at p
  · rename_i d ds e1 e2
    split at p
    · rename_i h
      simp only [Bool.and_eq_true] at h
      rw [O.sh?_eq e1] at ha
      obtain ⟨a1, vs, rfl, s1, r1⟩ := hb.tupOf l e2
      obtain ⟨i1, i2⟩ := flat_any ha.repOf h.1 r1 h.2
      refine ⟨a1, vs, rfl, .inr s1, flat_V ha.repOf h.1, i1, ?_⟩
      rw [i2]
      exact vp_sh l (.bl _) p
    · exact p.elim
  · exact p.elim
def inO (neg : Bool) : O → O → Option R := orR (inS neg) (orR (inT neg) (inL neg))
abbrev rInO (K : PySem.W.Frag) (neg : Bool) : R2 := fun x y H Q => rInS neg x y H Q ∨ rIn K neg x y H Q ∨ rInDD K neg x y H Q
theorem inO_ok {G : CC} {neg : Bool} : OpD G (rInO G.K neg) (inO neg) := inS_ok.or (inT_ok.or inL_ok)
theorem op_inO {X : Cx} {k : Nat} (hr : Room k X.A) : OpR X (compareOp .In) (rInO X.K false) := (show OpR X (compareOp .In) (rInS false) from op_in_sign).or (op_in_seq.or (show OpR X (compareOp .In) (rInDD X.K false) from op_inD (by have := hr.un; omega)))
theorem op_notInO {X : Cx} {k : Nat} (hr : Room k X.A) : OpR X (compareOp .NotIn) (rInO X.K true) := (show OpR X (compareOp .NotIn) (rInS true) from op_notIn_sign).or (op_notIn_seq.or (show OpR X (compareOp .NotIn) (rInDD X.K true) from op_notInD (by have := hr.un; omega)))
end DL

set_option maxHeartbeats 1000000
/-! DF: subscripts, slices, displays, arguments, calls of built-ins -/
namespace DL
open PySem PySem.Spec L2
open PyProof.Rows hiding St

def R.at (o : O) : R := match o with
  | .sh d => .own (.sh d)
  | o => .bor o
def O.items : O → Option (List O)
  | .lst os => some os
  | .tup os => some os
  | .sh (.lst l) => some (l.map .sh)
  | .sh (.tup l) => some (l.map .sh)
  | _ => none
section
variable {G : CC} {F H : Hp} {v : V} {o : O} {f : List Addr} {Q : VK}
theorem Own.itemsOf (l : Le F H) (h : Own G F H v o f) {os : List O} (e : o.items = some os) : ∃ a vs g, v = .ref a ∧ (SqL G.K H a vs ∨ SqT G.K H a vs) ∧ Owns G F H vs os g := by
  cases h with
  | sh r =>
    cases r with
    | lst s r => cases e; exact ⟨_, _, _, rfl, .inl (SqL.le l s), Owns.of_sh r⟩
    | tup s r => cases e; exact ⟨_, _, _, rfl, .inr (SqT.le l s), Owns.of_sh r⟩
    | _ => cases e
  | lst ha r => cases e; exact ⟨_, _, _, rfl, .inl (.of ha), r⟩
  | tup ha r => cases e; exact ⟨_, _, _, rfl, .inr (.of ha), r⟩
  | _ => cases e
theorem PR.look (l : Le F H) (h : Own G F H v o f) : PR G F F H H v (R.at o) := by
  cases o with
  | sh d => exact .sh l h.repOf
  | _ => exact ⟨f, Nx.refl l, h⟩
theorem vp_look (l : Le F H) (h : Own G F H v o f) (p : VPost G F H Q (some (R.at o))) : Q v H := p v F H (.look l h)
end

/-! ### subscripts -/
def ixS (a b : O) : Option R := match a.str?, b.int? with
  | some s, some i => if s.length ≤ ML then (atI s i).bind fun c => rSh (.str [c]) else none
  | _, _ => none
def ixQ (a b : O) : Option R := match a.items, b.int? with
  | some os, some i => (atI os i).map R.at
  | _, _ => none
def ixO : O → O → Option R := orR ixQ ixS
def rIxQ (K : PySem.W.Frag) : R2 := fun x y H Q => rIxL K x y H Q ∨ rIxT K x y H Q
theorem Owns.atI {G : CC} {F H : Hp} {vs : List V} {os : List O} {g : List Addr} {i : Int} {o : O} (h : Owns G F H vs os g) (e : L2.atI os i = some o) : ∃ v f, L2.atI vs i = some v ∧ Own G F H v o f := by
  unfold L2.atI at e ⊢
  rw [h.length]
  cases e1 : ixN os.length i with
  | none => rw [e1] at e; cases e
  | some j =>
    rw [e1] at e
    obtain ⟨v, f, h1, h2, _⟩ := h.get (show os[j]? = some o from e)
    exact ⟨v, f, h1, h2⟩
theorem ixQ_ok {G : CC} : OpD G (rIxQ G.K) ixQ := by
  intro F H x y a b f g Q l ha hb p
  unfold ixQ at p
  split at p
  · rename_i os i e1 e2
    rw [O.int?_eq e2] at hb
    obtain ⟨a1, vs, g1, rfl, s, r⟩ := ha.itemsOf l e1
    cases e : atI os i with
    | none => rw [e] at p; exact p.elim
    | some o =>
      rw [e] at p
      obtain ⟨v, f', h1, h2⟩ := r.atI e
      rcases s with s | s
      · exact .inl ⟨a1, vs, i, v, rfl, hb.intV, s, h1, vp_look l h2 p⟩
      · exact .inr ⟨a1, vs, i, v, rfl, hb.intV, s, h1, vp_look l h2 p⟩
  · exact p.elim
theorem ixS_ok {G : CC} : OpD G rIxS ixS := by
  intro F H x y a b f g Q l ha hb p
  unfold ixS at p
  split at p
  · rename_i s i e1 e2
    rw [O.str?_eq e1] at ha
    rw [O.int?_eq e2] at hb
    split at p
    · rename_i hz
      cases e : atI s i with
      | none => rw [e] at p; exact p.elim
      | some c =>
        rw [e] at p
        exact ⟨_, i, c, ha.strV, hb.intV, by rw [SX.S_len, ← ML_eq]; exact hz, e, vp_sh l (.str [c]) p⟩
    · exact p.elim
  · exact p.elim
abbrev rIxO (K : PySem.W.Frag) : R2 := fun x y H Q => rIxQ K x y H Q ∨ rIxS x y H Q
theorem ix_O {X : Cx} : IxR X (rIxO X.K) := IxR.or (r := rIxQ X.K) (ix_list.or ix_tup) ix_str
theorem ixO_ok {G : CC} : OpD G (rIxO G.K) ixO := ixQ_ok.or ixS_ok
theorem dp_ix {X : Cx} {G : CC} {W : WX} {a b : Expr} {pos : Pos} {ma mb : En → Res R} {r : R2} {m : O → O → Option R} (hi : IxR X r) (hd : OpD G r m) (ha : PE X a (tD G W ma)) (hb : PE X b (tD G W mb)) (hs : PlainIx b := by exact fun _ _ => rfl) :
    PE X (.Subscript a b pos) (tD G W (mOp m ma mb)) := (pe_ix hi ha hb hs).imp fun _ _ _ h => tOp_D hd h

/-! ### slices -/
def cutD {α : Type} (xs : List α) (lo hi : Option Int) : List α := (xs.drop (HT.sIx xs.length 0 lo)).take (HT.sIx xs.length xs.length hi - HT.sIx xs.length 0 lo)
theorem Reps.cut {G : CC} {F : Hp} {vs : List V} {ds : List D} (r : Reps G F vs ds) (lo hi : Option Int) : Reps G F (cutV vs lo hi) (cutD ds lo hi) := by
  unfold cutV cutD
  rw [r.length]
  exact (r.drop _).take _
def SlD (G : CC) (r : V → Option Int → Option Int → Hp → VK → Prop) (m : O → Option Int → Option Int → Option R) : Prop :=
  ∀ F H x a f lo hi Q, Le F H → Own G F H x a f → VPost G F H Q (m a lo hi) → r x lo hi H Q
def slL (a : O) (lo hi : Option Int) : Option R := match a.lst? with
  | some l => rLst (cutD l lo hi)
  | none => none
def slT (a : O) (lo hi : Option Int) : Option R := match a.ftup? with
  | some l => rSh (.tup (cutD l lo hi))
  | none => none
def slS (a : O) (lo hi : Option Int) : Option R := match a.str? with
  | some s => if s.length ≤ ML then rSh (.str (cutD s lo hi)) else none
  | none => none
def slO (a : O) (lo hi : Option Int) : Option R := match slS a lo hi with
  | some r => some r
  | none => match slL a lo hi with
    | some r => some r
    | none => slT a lo hi
theorem cut_all {α : Type} {xs : List α} {lo hi : Option Int} (h : HT.sIx xs.length 0 lo = 0 ∧ HT.sIx xs.length xs.length hi = xs.length) : cutD xs lo hi = xs := by
  unfold cutD
  rw [h.1, h.2, List.drop_zero, Nat.sub_zero, List.take_length]
abbrev rSlO (K : PySem.W.Frag) : V → Option Int → Option Int → Hp → VK → Prop := fun x lo hi H Q => rSlS x lo hi H Q ∨ rSlL K x lo hi H Q ∨ rSlA K x lo hi H Q
theorem sl_O {X : Cx} : SlR X (rSlO X.K) := sl_str.or (sl_list.or sl_tupA)
theorem slO_ok {G : CC} : SlD G (rSlO G.K) slO := by
  intro F H x a f lo hi Q l ha p
  unfold slO at p
  cases e : slS a lo hi with
  | some r =>
    rw [e] at p
    left
    unfold slS at e
    split at e
    · rename_i s e1
      split at e
      · rename_i hz
        rw [O.str?_eq e1] at ha
        refine ⟨_, ha.strV, by rw [SX.S_len, ← ML_eq]; exact hz, ?_⟩
        rw [← e] at p
        have q : cutS (SX.S s) lo hi = SX.S (cutD s lo hi) := by
          unfold cutS cutD
          rw [SX.S_len]
        rw [q]
        exact vp_sh l (.str _) p
      · cases e
    · cases e
  | none =>
    simp only [e] at p
    right
    cases e2 : slL a lo hi with
    | some r =>
      simp only [e2] at p
      left
      unfold slL at e2
      split at e2
      · rename_i ds e1
        obtain ⟨a1, vs, rfl, s, r1⟩ := ha.lstOf l e1
        rw [← e2] at p
        exact ⟨a1, vs, rfl, s, fun q hq => vp_lst l hq (r1.cut lo hi) p⟩
      · cases e2
    | none =>
      simp only [e2] at p
      right
      unfold slT at p
      split at p
      · rename_i ds e1
        rw [O.ftup?_eq e1] at ha
        have r0 := ha.repOf
        obtain ⟨a1, vs, rfl, s, r1⟩ := ha.tupOf l rfl
        refine ⟨a1, vs, rfl, s, fun h => ?_, fun _ q hq => vp_tup l hq (r1.cut lo hi) p⟩
        rw [r1.length] at h
        rw [cut_all h] at p
        exact vp_sh l r0 p
      · exact p.elim
/-- a part of a slice -/
def mPart (m : Option (En → Res R)) (en : En) : Res (Option Int) := match m with
  | none => .ok none
  | some m => (m en).bnd fun r => match r.o.int? with | some i => .ok (some i) | none => .stuck
def PtPost (G : CC) (W : WX) (F B : Hp) (L : St) (H : Hp) (fp : List Addr) (Q : Option Int → Hp → Prop) : Res (Option Int) → Prop
  | .ok r => ∀ F' H', Nx F F' H H' [] [] → Q r H'
  | .exc x en' => EPost G W F B L H fp x en'
  | .stuck => False
def tPt (G : CC) (W : WX) (m : En → Res (Option Int)) : TO := fun σ H Q => ∃ F B L en fp, SRep G F B H L σ en fp ∧ PtPost G W F B L H fp Q (m en)
section
variable {X : Cx} {G : CC} {W : WX} {pos p2 : Pos} {a b : Expr} {lo hi : Option Expr}
theorem dp_pNone : PO X none (tPt G W (mPart none)) := ⟨fun pins s σ H Q I h => po_none.run pins s σ H Q I (by
  obtain ⟨F, B, L, en, fp, s, p⟩ := h
  exact p F H (Nx.refl s.lf))⟩
theorem dp_pSome {m : En → Res R} (h : PE X a (tD G W m)) : PO X (some a) (tPt G W (mPart (some m))) := ⟨fun pins s σ H Q I q => (po_some h).run pins s σ H Q I (by
  obtain ⟨F, B, L, en, fp, s, p⟩ := q
  refine ⟨F, B, L, en, fp, s, ?_⟩
  have p' : PtPost G W F B L H fp Q ((m en).bnd fun r => match r.o.int? with | some i => .ok (some i) | none => .stuck) := p
  cases e : m en with
  | stuck => rw [e] at p'; exact p'.elim
  | exc x e' => rw [e] at p'; exact p'
  | ok r =>
    rw [e] at p'
    intro v F1 H1 r1
    obtain ⟨f, q1⟩ := r1.has
    simp only [Res.bnd] at p'
    cases e2 : r.o.int? with
    | none => simp only [e2] at p'; exact p'.elim
    | some i =>
      simp only [e2] at p'
      rw [O.int?_eq e2] at q1
      exact ⟨i, q1.intV, p' F1 H1 r1.nx⟩)⟩
def mSl (m : O → Option Int → Option Int → Option R) (ma : En → Res R) (l u : En → Res (Option Int)) (en : En) : Res R :=
  (ma en).bnd fun a => (l en).bnd fun i => (u en).bnd fun j => .of (m a.o i j)
theorem dp_sl {r : V → Option Int → Option Int → Hp → VK → Prop} {m : O → Option Int → Option Int → Option R} {ma : En → Res R} {l u : En → Res (Option Int)} (hr : SlR X r) (hd : SlD G r m) (ha : PE X a (tD G W ma)) (hl : PO X lo (tPt G W l)) (hu : PO X hi (tPt G W u)) :
    PE X (.Subscript a (.Slice lo hi none p2) pos) (tD G W (mSl m ma l u)) := (pe_slice hr ha hl hu).imp fun σ H Q h => by
  obtain ⟨F, B, L, en, fp, s, p⟩ := h
  refine ⟨F, B, L, en, fp, s, ?_⟩
  unfold mSl at p
  cases ea : ma en with
  | stuck => rw [ea] at p; exact p.elim
  | exc x e => rw [ea] at p; exact p
  | ok a =>
    rw [ea] at p
    intro x F1 H1 r1
    refine ⟨F1, B, L, en, fp, s.pure r1.nx, ?_⟩
    simp only [Res.bnd] at p
    cases el : l en with
    | stuck => rw [el] at p; exact p.elim
    | exc x e => rw [el] at p; exact EPost.after (r1.nx.wide0 fp) p
    | ok i =>
      rw [el] at p
      simp only [Res.bnd] at p
      intro F2 H2 n2
      refine ⟨F2, B, L, en, fp, s.pure (r1.nx.trans n2), ?_⟩
      cases eu : u en with
      | stuck => rw [eu] at p; exact p.elim
      | exc x e => rw [eu] at p; exact EPost.after ((r1.nx.trans n2).wide0 fp) p
      | ok j =>
        rw [eu] at p
        simp only [Res.bnd] at p
        intro F3 H3 n3
        obtain ⟨f, q1⟩ := r1.has
        have n23 := n2.trans n3
        refine hd F3 H3 x _ f i j Q n3.le (q1.le n23.ff fun c u _ e => n23.keep c u e) ?_
        cases e : m a.o i j with
        | none => rw [e] at p; exact p.elim
        | some z => rw [e] at p; exact fun v F4 H4 r4 => p v F4 H4 (r4.after (r1.nx.trans n23))
/-- xs[::-1] -/
def revO (a : O) : Option R := match a.lst? with
  | some l => rLst l.reverse
  | none => none
theorem revO_ok : UnD G (fun x H Q => ∃ a xs, x = .ref a ∧ SqL G.K H a xs ∧ ∀ p, H p = none → Q (.ref p) (upd H p (.lst xs.reverse))) revO := by
  intro F H x a f Q l ha p
  unfold revO at p
  split at p
  · rename_i ds e
    obtain ⟨a1, vs, rfl, s, r1⟩ := ha.lstOf l e
    exact ⟨a1, vs, rfl, s, fun q hq => vp_lst l hq r1.reverse p⟩
  · exact p.elim
theorem dp_rev {ma : En → Res R} {k : Nat} {p1 p3 p4 : Pos} (hK : G.K = X.K) (ha : PE X a (tD G W ma)) : PE X (.Subscript a (.Slice none none (some (.UnaryOp .USub (.Constant (.int 1) k p1) p3)) p4) pos) (tD G W (mUn revO ma)) :=
  (pe_revL ha).imp fun _ _ _ h => by
    have := tUn_D (revO_ok (G := G)) h
    rw [hK] at this
    exact this
end

/-! ### arguments -/
section
variable (G : CC) (F H : Hp)
/-- what pure arguments hand -/
inductive Rws : List V → List R → List Addr → Prop
  | nil : Rws [] [] []
  | own {v : V} {o : O} {f : List Addr} {vs : List V} {rs : List R} {fp : List Addr} : Own G F H v o f → Rws vs rs fp → Rws (v :: vs) (.own o :: rs) (f ++ fp)
  | bor {v : V} {o : O} {f : List Addr} {vs : List V} {rs : List R} {fp : List Addr} : Own G F H v o f → Rws vs rs fp → Rws (v :: vs) (.bor o :: rs) fp
/-- things that are looked at -/
inductive Vws : List V → List O → Prop
  | nil : Vws [] []
  | cons {v : V} {o : O} {f : List Addr} {vs : List V} {os : List O} : Own G F H v o f → Vws vs os → Vws (v :: vs) (o :: os)
end
section
variable {G : CC} {F F' H H' : Hp} {vs : List V} {rs : List R} {fp : List Addr}
theorem Rws.vws (h : Rws G F H vs rs fp) : Vws G F H vs (rs.map R.o) := by
  induction h with
  | nil => exact .nil
  | own h _ ih => exact .cons h ih
  | bor h _ ih => exact .cons h ih
theorem Rws.len (h : Rws G F H vs rs fp) : vs.length = rs.length := by
  induction h with
  | nil => rfl
  | own h _ ih => exact congrArg (· + 1) ih
  | bor h _ ih => exact congrArg (· + 1) ih
/-- all things of one's own -/
def owns : List R → Option (List O)
  | [] => some []
  | .own o :: rs => (owns rs).map (o :: ·)
  | .bor _ :: _ => none
theorem Rws.owns (h : Rws G F H vs rs fp) : ∀ {os : List O}, DL.owns rs = some os → Owns G F H vs os fp := by
  induction h with
  | nil => intro os e; cases e; exact .nil
  | own h _ ih =>
    intro os e
    simp only [DL.owns, Option.map_eq_some_iff] at e
    obtain ⟨os', e, rfl⟩ := e
    exact .cons h (ih e)
  | bor h _ ih => intro os e; cases e
end
def AR (G : CC) (F F' H H' : Hp) (vs : List V) (rs : List R) : Prop := ∃ fp, Nx F F' H H' [] fp ∧ Rws G F' H' vs rs fp ∧ fp.Nodup ∧ ∀ a ∈ fp, F' a = none
section
variable (G : CC) (W : WX)
def APost (F B : Hp) (L : St) (H : Hp) (fp : List Addr) (Q : List V → Hp → Prop) : Res (List R) → Prop
  | .ok r => ∀ v F' H', AR G F F' H H' v r → Q v H'
  | .exc x en' => EPost G W F B L H fp x en'
  | .stuck => False
def tA (m : En → Res (List R)) : TA := fun σ H Q => ∃ F B L en fp, SRep G F B H L σ en fp ∧ APost G W F B L H fp Q (m en)
end
section
variable {X : Cx} {G : CC} {W : WX} {pos : Pos} {e : Expr} {es : List Expr} {F F' F2 H H' H2 : Hp} {vs : List V} {rs : List R}
theorem AR.nx (h : AR G F F' H H' vs rs) : Nx F F' H H' [] [] := by
  obtain ⟨fp, n, _⟩ := h
  exact n.drop
theorem AR.after (n : Nx F F' H H' [] []) (h : AR G F' F2 H' H2 vs rs) : AR G F F2 H H2 vs rs := by
  obtain ⟨f, z, q⟩ := h
  exact ⟨f, n.trans z, q⟩
/-- the first, then the others -/
theorem AR.cons {v : V} {r : R} (a : PR G F F' H H' v r) (b : AR G F' F2 H' H2 vs rs) : AR G F F2 H H2 (v :: vs) (r :: rs) := by
  obtain ⟨fp, n2, q2, nd2, fr2⟩ := b
  cases r with
  | bor o =>
    obtain ⟨f, n1, q1⟩ := a
    exact ⟨fp, n1.trans n2, .bor (q1.le n2.ff fun c u _ e => n2.keep c u e) q2, nd2, fr2⟩
  | own o =>
    obtain ⟨f, n1, q1, nd1, fr1⟩ := a
    have dom := q1.dom
    refine ⟨f ++ fp, n1.trans (n2.wide f), .own (q1.le n2.ff fun c u _ e => n2.keep c u e) q2, ?_, fun c m => ?_⟩
    · rw [List.nodup_append]
      refine ⟨nd1, nd2, fun c m d m' e => ?_⟩
      subst e
      obtain ⟨u, h⟩ := dom c m
      rcases n2.fr c m' with q | q
      · cases q
      · rw [h] at q; cases q
    · rcases List.mem_append.mp m with m | m
      · cases e : F2 c with
        | none => rfl
        | some u =>
          obtain ⟨w, h⟩ := dom c m
          rcases n2.nw c (fr1 c m) (by rw [e]; exact fun z => by cases z) with q | q
          · rw [h] at q; cases q
          · cases q
      · exact fr2 c m
def mNil (_ : En) : Res (List R) := .ok []
def mCons (m : En → Res R) (ms : En → Res (List R)) (en : En) : Res (List R) := (m en).bnd fun r => (ms en).bnd fun rs => .ok (r :: rs)
theorem da_nil : PA X [] (tA G W mNil) := pa_nil.imp fun σ H Q h => by
  obtain ⟨F, B, L, en, fp, s, p⟩ := h
  exact p [] F H ⟨[], Nx.refl s.lf, .nil, List.nodup_nil, fun _ m => nomatch m⟩
theorem da_cons {m : En → Res R} {ms : En → Res (List R)} (h : PE X e (tD G W m)) (hs : PA X es (tA G W ms)) (he : starEach (e :: es) X.env = (false, eval e X.env) :: starEach es X.env := by rfl) : PA X (e :: es) (tA G W (mCons m ms)) :=
  (pa_cons h hs he).imp fun σ H Q h => by
    obtain ⟨F, B, L, en, fp, s, p⟩ := h
    refine ⟨F, B, L, en, fp, s, ?_⟩
    unfold mCons at p
    cases ea : m en with
    | stuck => rw [ea] at p; exact p.elim
    | exc x e => rw [ea] at p; exact p
    | ok a =>
      rw [ea] at p
      intro x F1 H1 r1
      refine ⟨F1, B, L, en, fp, s.pure r1.nx, ?_⟩
      simp only [Res.bnd] at p
      cases el : ms en with
      | stuck => rw [el] at p; exact p.elim
      | exc x e => rw [el] at p; exact EPost.after (r1.nx.wide0 fp) p
      | ok rs =>
        rw [el] at p
        simp only [Res.bnd] at p
        intro vs F2 H2 r2
        exact p (x :: vs) F2 H2 (AR.cons r1 r2)

/-! ### displays -/
def mLst (m : En → Res (List R)) (en : En) : Res R := (m en).bnd fun rs => match owns rs with
  | some os => if os.length ≤ ML then .ok (.own (.lst os)) else .stuck
  | none => .stuck
def mTup (m : En → Res (List R)) (en : En) : Res R := (m en).bnd fun rs => match owns rs with
  | some os => if os.length ≤ ML then (match shs os with | some ds => .ok (.own (.sh (.tup ds))) | none => .ok (.own (.tup os))) else .stuck
  | none => .stuck
/-- the places of a new thing of one's own and of its parts -/
theorem PR.newO {p : Addr} {u : HO} {o : O} {fp : List Addr} (n : Nx F F' H H' [] fp) (nd : fp.Nodup) (fr : ∀ a ∈ fp, F' a = none) (hp : H' p = none) (dom : ∀ a ∈ fp, ∃ u, H' a = some u) (q : Own G F' (upd H' p u) (.ref p) o (p :: fp)) : PR G F F' H (upd H' p u) (.ref p) (.own o) := by
  refine ⟨p :: fp, n.trans (Nx.mk (Le.refl F') (fun a u e m => ?_) (fun a h h' => (h' h).elim) (fun a m => ?_) (n.le.updN hp)), q, ?_, ?_⟩
  · rw [upd_ne (ne_of_none e hp)]; exact e
  · rcases List.mem_cons.mp m with e | m
    · exact .inr (e ▸ hp)
    · exact .inl m
  · rw [List.nodup_cons]
    refine ⟨fun m => ?_, nd⟩
    obtain ⟨u, h⟩ := dom p m
    rw [hp] at h; cases h
  · intro a m
    rcases List.mem_cons.mp m with e | m
    · rw [e]; exact n.le.noneOf hp
    · exact fr a m
theorem dp_lst {ms : En → Res (List R)} (h : PA X es (tA G W ms)) : PE X (.List es pos) (tD G W (mLst ms)) := (pe_lst h).imp fun σ H Q h => by
  obtain ⟨F, B, L, en, fp, s, p⟩ := h
  refine ⟨F, B, L, en, fp, s, ?_⟩
  unfold mLst at p
  cases ea : ms en with
  | stuck => rw [ea] at p; exact p.elim
  | exc x e => rw [ea] at p; exact p
  | ok rs =>
    rw [ea] at p
    simp only [Res.bnd] at p
    intro vs F1 H1 r1
    cases e : owns rs with
    | none => simp only [e] at p; exact p.elim
    | some os =>
      simp only [e] at p
      split at p
      · rename_i hz
        obtain ⟨f1, n1, q1, nd, fr⟩ := r1
        have q2 := q1.owns e
        refine ⟨by rw [q2.length, ← ML_eq]; exact hz, fun a hp => p _ F1 _ (.newO n1 nd fr hp q2.dom (.lst upd_same ?_))⟩
        exact q2.le (Le.refl F1) fun c u m e => by rw [upd_ne (ne_of_none e hp)]; exact e
      · exact p.elim
theorem dp_tup {ms : En → Res (List R)} {x1} (h : PA X es (tA G W ms)) : PE X (.Tuple es x1 pos) (tD G W (mTup ms)) := (pe_tup h).imp fun σ H Q h => by
  obtain ⟨F, B, L, en, fp, s, p⟩ := h
  refine ⟨F, B, L, en, fp, s, ?_⟩
  unfold mTup at p
  cases ea : ms en with
  | stuck => rw [ea] at p; exact p.elim
  | exc x e => rw [ea] at p; exact p
  | ok rs =>
    rw [ea] at p
    simp only [Res.bnd] at p
    intro vs F1 H1 r1
    cases e : owns rs with
    | none => simp only [e] at p; exact p.elim
    | some os =>
      simp only [e] at p
      split at p
      · rename_i hz
        obtain ⟨f1, n1, q1, nd, fr⟩ := r1
        have q2 := q1.owns e
        refine ⟨by rw [q2.length, ← ML_eq]; exact hz, fun a hp => ?_⟩
        cases e3 : shs os with
        | some ds =>
          simp only [e3] at p
          rw [shs_eq e3] at q2
          obtain ⟨q3, _⟩ := q2.to_sh
          have n := Nx.newF (F := F1) (o := .tup vs) n1.le hp
          exact p _ (upd F1 a (.tup vs)) _ ⟨[], n1.drop.trans n, .sh (.tup (.of upd_same) (q3.le n.ff)), List.nodup_nil, fun _ m => nomatch m⟩
        | none =>
          simp only [e3] at p
          exact p _ F1 _ (.newO n1 nd fr hp q2.dom (.tup upd_same (q2.le (Le.refl F1) fun c u m e => by rw [upd_ne (ne_of_none e hp)]; exact e)))
      · exact p.elim

/-! ### calls of built-ins -/
def CallD (G : CC) (r : List V → Hp → VK → Prop) (m : List O → Option R) : Prop :=
  ∀ F H vs os Q, Le F H → Vws G F H vs os → VPost G F H Q (m os) → r vs H Q
def mCall (m : List O → Option R) (ms : En → Res (List R)) (en : En) : Res R := (ms en).bnd fun rs => .of (m (rs.map R.o))
theorem tCB_D {r : List V → Hp → VK → Prop} {m : List O → Option R} (hd : CallD G r m) {ms : En → Res (List R)} {σ : St} {Q : VK} (h : tD G W (mCall m ms) σ H Q) : tCB r (tA G W ms) σ H Q := by
  obtain ⟨F, B, L, en, fp, s, p⟩ := h
  refine ⟨F, B, L, en, fp, s, ?_⟩
  unfold mCall at p
  cases ea : ms en with
  | stuck => rw [ea] at p; exact p.elim
  | exc x e => rw [ea] at p; exact p
  | ok rs =>
    rw [ea] at p
    simp only [Res.bnd] at p
    intro vs F1 H1 r1
    have n1 := r1.nx
    obtain ⟨f1, _, q1, _⟩ := r1
    refine hd F1 H1 vs _ Q n1.le q1.vws ?_
    cases e : m (rs.map R.o) with
    | none => rw [e] at p; exact p.elim
    | some z => rw [e] at p; exact fun v F3 H3 r3 => p v F3 H3 (r3.after n1)
theorem dp_callB {x : Str} {ids : String} {r : List V → Hp → VK → Prop} {m : List O → Option R} {ms : En → Res (List R)} {p : Pos} (hc : CallR X (.builtin ids) r) (hd : CallD G r m) (hm : X.mg x = none) (hv : bootBuiltins x = some (.builtin ids)) (ha : PA X (e :: es) (tA G W ms))
    (hg : Gl X x := by rfl) (hn : x ≠ "__name__" := by decide) (hdb : (x == ("__debug__" : Str)) = false := by decide) (he : starEach (e :: es) X.env = (false, eval e X.env) :: starEach es X.env := by rfl) (hpl : (backTo pos (starEach es X.env)).any (·.1) = false := by rfl) : PE X (.Call (.Name x p) (e :: es) [] pos) (tD G W (mCall m ms)) :=
  (pe_callB hc hg hm hv ha hn hdb he hpl).imp fun _ _ _ h => tCB_D hd h
theorem dp_callT {x : Str} {T : String} {r : List V → Hp → VK → Prop} {m : List O → Option R} {ms : En → Res (List R)} {p : Pos} (hc : CallR X (.type T) r) (hd : CallD G r m) (hm : X.mg x = none) (hv : bootBuiltins x = some (.type T)) (ha : PA X (e :: es) (tA G W ms))
    (hg : Gl X x := by rfl) (hn : x ≠ "__name__" := by decide) (hdb : (x == ("__debug__" : Str)) = false := by decide) (he : starEach (e :: es) X.env = (false, eval e X.env) :: starEach es X.env := by rfl) (hpl : (backTo pos (starEach es X.env)).any (·.1) = false := by rfl) : PE X (.Call (.Name x p) (e :: es) [] pos) (tD G W (mCall m ms)) :=
  (pe_callTy hc hg hm hv ha hn hdb he hpl).imp fun _ _ _ h => tCB_D hd h
end
end DL

set_option maxHeartbeats 1000000
/-! DG: some built-ins -/
namespace DL
open PySem PySem.Spec L2
open PyProof.Rows hiding St

def dbls : List D → Option (List Bool)
  | [] => some []
  | .bl b :: ds => (dbls ds).map (b :: ·)
  | _ :: _ => none
def dints : List D → Option (List Int)
  | [] => some []
  | .int b :: ds => (dints ds).map (b :: ·)
  | _ :: _ => none
def dstrs : List D → Option (List (List Nat))
  | [] => some []
  | .str b :: ds => (dstrs ds).map (b :: ·)
  | _ :: _ => none
@[simp] theorem bls_map (l : List Bool) : dbls (l.map .bl) = some l := by
  induction l with
  | nil => rfl
  | cons a l ih => simp [dbls, ih]
@[simp] theorem ints_map (l : List Int) : dints (l.map .int) = some l := by
  induction l with
  | nil => rfl
  | cons a l ih => simp [dints, ih]
@[simp] theorem strs_map (l : List (List Nat)) : dstrs (l.map .str) = some l := by
  induction l with
  | nil => rfl
  | cons a l ih => simp [dstrs, ih]
section
variable {G : CC} {F H : Hp}
theorem Reps.dbls : ∀ {vs : List V} {ds : List D} {bs : List Bool}, Reps G F vs ds → DL.dbls ds = some bs → vs = bs.map V.bl
  | _, _, _, .nil, e => by cases e; rfl
  | _, _, _, .cons h r, e => by
    cases h with
    | bl b =>
      simp only [DL.dbls, Option.map_eq_some_iff] at e
      obtain ⟨bs', e, rfl⟩ := e
      rw [Reps.dbls r e]
      rfl
    | _ => cases e
theorem Reps.dints : ∀ {vs : List V} {ds : List D} {bs : List Int}, Reps G F vs ds → DL.dints ds = some bs → vs = bs.map V.int
  | _, _, _, .nil, e => by cases e; rfl
  | _, _, _, .cons h r, e => by
    cases h with
    | int b =>
      simp only [DL.dints, Option.map_eq_some_iff] at e
      obtain ⟨bs', e, rfl⟩ := e
      rw [Reps.dints r e]
      rfl
    | _ => cases e
theorem Reps.dstrs : ∀ {vs : List V} {ds : List D} {bs : List (List Nat)}, Reps G F vs ds → DL.dstrs ds = some bs → vs = (bs.map SX.S).map V.str
  | _, _, _, .nil, e => by cases e; rfl
  | _, _, _, .cons h r, e => by
    cases h with
    | str b =>
      simp only [DL.dstrs, Option.map_eq_some_iff] at e
      obtain ⟨bs', e, rfl⟩ := e
      rw [Reps.dstrs r e]
      rfl
    | _ => cases e
end
/-- alternatives -/
def orC (m m' : List O → Option R) (os : List O) : Option R := match m os with
  | some r => some r
  | none => m' os
theorem CallD.or {G : CC} {r r' : List V → Hp → VK → Prop} {m m' : List O → Option R} (h : CallD G r m) (h' : CallD G r' m') : CallD G (fun xs H Q => r xs H Q ∨ r' xs H Q) (orC m m') := by
  intro F H vs os Q l ha p
  unfold orC at p
  cases e : m os with
  | some z => rw [e] at p; exact .inl (h F H vs os Q l ha (by rw [e]; exact p))
  | none => rw [e] at p; exact .inr (h' F H vs os Q l ha p)

/-! ### of one argument, of two -/
def fn1 (m : O → Option R) : List O → Option R
  | [o] => m o
  | _ => none
def fn2 (m : O → O → Option R) : List O → Option R
  | [o, u] => m o u
  | _ => none
theorem fn1_ok {G : CC} {r : List V → Hp → VK → Prop} {m : O → Option R} (h : ∀ F H v o f Q, Le F H → Own G F H v o f → VPost G F H Q (m o) → r [v] H Q) : CallD G r (fn1 m) := by
  intro F H vs os Q l ha p
  cases ha with
  | nil => exact p.elim
  | cons a r =>
    cases r with
    | nil => exact h F H _ _ _ Q l a p
    | cons _ _ => exact p.elim
theorem fn2_ok {G : CC} {r : List V → Hp → VK → Prop} {m : O → O → Option R} (h : ∀ F H v w o u f g Q, Le F H → Own G F H v o f → Own G F H w u g → VPost G F H Q (m o u) → r [v, w] H Q) : CallD G r (fn2 m) := by
  intro F H vs os Q l ha p
  cases ha with
  | nil => exact p.elim
  | cons a r =>
    cases r with
    | nil => exact p.elim
    | cons b r =>
      cases r with
      | nil => exact h F H _ _ _ _ _ _ Q l a b p
      | cons _ _ => exact p.elim

/-! ### len -/
def lenQ (o : O) : Option R := match o.items with
  | some os => rInt os.length
  | none => match o.str? with
    | some s => if s.length ≤ ML then rInt s.length else none
    | none => none
def rLen (K : PySem.W.Frag) : List V → Hp → VK → Prop := fun xs H Q => ∃ x n, xs = [x] ∧ LenV K x H n ∧ Q (.int n) H
theorem lenQ_ok {G : CC} : CallD G (rLen G.K) (fn1 lenQ) := fn1_ok fun F H v o f Q l ha p => by
  unfold lenQ at p
  split at p
  · rename_i os e
    obtain ⟨a, vs, g, rfl, s, r⟩ := ha.itemsOf l e
    rw [← r.length] at p
    exact ⟨_, vs.length, rfl, s.imp (fun s => ⟨vs, s, rfl⟩) fun s => ⟨vs, s, rfl⟩, vp_sh l (.int _) p⟩
  · split at p
    · rename_i s e
      rw [O.str?_eq e] at ha
      split at p
      · rename_i hz
        exact ⟨_, s.length, rfl, by rw [ha.strV]; exact ⟨by rw [SX.S_len, ← ML_eq]; exact hz, (SX.S_len s).symm⟩, vp_sh l (.int _) p⟩
      · exact p.elim
    · exact p.elim

/-! ### all, any, sum -/
def allO (o : O) : Option R := match o.lst?.bind dbls with
  | some bs => rBl (bs.all id)
  | none => none
def anyO (o : O) : Option R := match o.lst?.bind dbls with
  | some bs => rBl (bs.any id)
  | none => none
def sumO (o : O) : Option R := match o.lst?.bind dints with
  | some bs => rInt bs.sum
  | none => none
theorem bind_some {α β : Type} {o : Option α} {k : α → Option β} {b : β} (h : o.bind k = some b) : ∃ a, o = some a ∧ k a = some b := by
  cases o with
  | none => cases h
  | some a => exact ⟨a, rfl, h⟩
theorem allO_ok {G : CC} : CallD G (rAll G.K) (fn1 allO) := fn1_ok fun F H v o f Q l ha p => by
  unfold allO at p
  split at p
  · rename_i bs e2
    obtain ⟨ds, e, e2⟩ := bind_some e2
    obtain ⟨a, vs, rfl, s, r⟩ := ha.lstOf l e
    exact ⟨a, bs, rfl, (by rw [← r.dbls e2]; exact s), vp_sh l (.bl _) p⟩
  · exact p.elim
theorem anyO_ok {G : CC} : CallD G (rAny G.K) (fn1 anyO) := fn1_ok fun F H v o f Q l ha p => by
  unfold anyO at p
  split at p
  · rename_i bs e2
    obtain ⟨ds, e, e2⟩ := bind_some e2
    obtain ⟨a, vs, rfl, s, r⟩ := ha.lstOf l e
    exact ⟨a, bs, rfl, (by rw [← r.dbls e2]; exact s), vp_sh l (.bl _) p⟩
  · exact p.elim
theorem sumO_ok {G : CC} : CallD G (rSum G.K) (fn1 sumO) := fn1_ok fun F H v o f Q l ha p => by
  unfold sumO at p
  split at p
  · rename_i bs e2
    obtain ⟨ds, e, e2⟩ := bind_some e2
    obtain ⟨a, vs, rfl, s, r⟩ := ha.lstOf l e
    exact ⟨a, bs, rfl, (by rw [← r.dints e2]; exact s), vp_sh l (.int _) p⟩
  · exact p.elim

/-! ### dints -/
def callI2 (g : Int → Int → Int) (a b : O) : Option R := match a.int?, b.int? with
  | some i, some j => rInt (g i j)
  | _, _ => none
theorem callI2_ok {G : CC} {g : Int → Int → Int} : CallD G (fun xs H Q => ∃ i j, xs = [.int i, .int j] ∧ Q (.int (g i j)) H) (fn2 (callI2 g)) := fn2_ok fun F H v w a b f f' Q l ha hb p => by
  unfold callI2 at p
  split at p
  · rename_i i j e1 e2
    rw [O.int?_eq e1] at ha
    rw [O.int?_eq e2] at hb
    exact ⟨i, j, by rw [ha.intV, hb.intV], vp_sh l (.int _) p⟩
  · exact p.elim
def maxO : O → O → Option R := callI2 fun i j => if j > i then j else i
def minO : O → O → Option R := callI2 fun i j => if j < i then j else i
theorem maxO_ok {G : CC} : CallD G (fun xs H Q => ∃ i j, xs = [.int i, .int j] ∧ Q (.int (if j > i then j else i)) H) (fn2 maxO) := callI2_ok
theorem minO_ok {G : CC} : CallD G (fun xs H Q => ∃ i j, xs = [.int i, .int j] ∧ Q (.int (if j < i then j else i)) H) (fn2 minO) := callI2_ok
def absO (a : O) : Option R := match a.int? with
  | some i => rInt (if i < 0 then -i else i)
  | none => none
theorem absO_ok {G : CC} : CallD G (fun xs H Q => ∃ i, xs = [.int i] ∧ Q (.int (if i < 0 then -i else i)) H) (fn1 absO) := fn1_ok fun F H v o f Q l ha p => by
  unfold absO at p
  split at p
  · rename_i i e1
    rw [O.int?_eq e1] at ha
    exact ⟨i, by rw [ha.intV], vp_sh l (.int _) p⟩
  · exact p.elim
/-- int(i), int(truth) -/
def intO (a : O) : Option R := match a.int? with
  | some i => rInt i
  | none => match a.bl? with
    | some b => rInt (if b then 1 else 0)
    | none => none
theorem intO_ok {G : CC} : CallD G (fun xs H Q => (∃ i, xs = [.int i] ∧ Q (.int i) H) ∨ ∃ k, xs = [.bl k] ∧ Q (.int (if k then 1 else 0)) H) (fn1 intO) := fn1_ok fun F H v o f Q l ha p => by
  unfold intO at p
  split at p
  · rename_i i e1
    rw [O.int?_eq e1] at ha
    exact .inl ⟨_, by rw [ha.intV], vp_sh l (.int _) p⟩
  · split at p
    · rename_i i e1
      rw [O.bl?_eq e1] at ha
      exact .inr ⟨_, by rw [ha.blV], vp_sh l (.int _) p⟩
    · exact p.elim

/-! ### list(..), tuple(..) -/
def listO (o : O) : Option R := match o.seq? with
  | some l => rLst l
  | none => none
theorem Own.seqOf {G : CC} {F H : Hp} {v : V} {o : O} {f : List Addr} (l : Le F H) (h : Own G F H v o f) {ds : List D} (e : o.seq? = some ds) : ∃ a vs, v = .ref a ∧ (SqL G.K H a vs ∨ SqT G.K H a vs) ∧ Reps G F vs ds := by
  unfold O.seq? at e
  split at e
  · rename_i l' e1
    cases e
    obtain ⟨a, vs, h1, h2, h3⟩ := h.lstOf l e1
    exact ⟨a, vs, h1, .inl h2, h3⟩
  · obtain ⟨a, vs, h1, h2, h3⟩ := h.tupOf l e
    exact ⟨a, vs, h1, .inr h2, h3⟩
theorem listO_ok {G : CC} : CallD G (fun xs H Q => ∃ p ys, xs = [.ref p] ∧ (SqL G.K H p ys ∨ SqT G.K H p ys) ∧ ∀ l, H l = none → Q (.ref l) (upd H l (.lst ys))) (fn1 listO) := fn1_ok fun F H v o f Q l ha p => by
  unfold listO at p
  split at p
  · rename_i ds e1
    obtain ⟨a, vs, rfl, s, r⟩ := ha.seqOf l e1
    exact ⟨a, vs, rfl, s, fun q hq => vp_lst l hq r p⟩
  · exact p.elim
def tupleO (o : O) : Option R := match o.lst? with
  | some l => rSh (.tup l)
  | none => match o.ftup? with
    | some l => rSh (.tup l)
    | none => none
theorem tupleO_ok {G : CC} : CallD G (fun xs H Q => ∃ p ys, xs = [.ref p] ∧ ((SqL G.K H p ys ∧ ∀ l, H l = none → Q (.ref l) (upd H l (.tup ys))) ∨ (SqT G.K H p ys ∧ Q (.ref p) H))) (fn1 tupleO) := fn1_ok fun F H v o f Q l ha p => by
  unfold tupleO at p
  split at p
  · rename_i ds e1
    obtain ⟨a, vs, rfl, s, r⟩ := ha.lstOf l e1
    exact ⟨a, vs, rfl, .inl ⟨s, fun q hq => vp_tup l hq r p⟩⟩
  · split at p
    · rename_i ds e1
      rw [O.ftup?_eq e1] at ha
      have r0 := ha.repOf
      obtain ⟨a, vs, rfl, s, r⟩ := ha.tupOf l rfl
      exact ⟨a, vs, rfl, .inr ⟨s, vp_sh l r0 p⟩⟩
    · exact p.elim

end DL

set_option maxHeartbeats 1000000
/-! DH: freezing, moving, statements -/
namespace DL
open PySem PySem.Spec L2
open PyProof.Rows hiding St

/-! ### freezing -/
section
variable {G : CC} {F F' H : Hp}
mutual
theorem Own.frozen (l : Le F F') : ∀ {v : V} {o : O} {f : List Addr}, (∀ a ∈ f, ∀ u, H a = some u → (isDn u = false → F' a = some u) ∧ (isDn u = true → ∃ od, F' a = some (.frz od u))) → Own G F H v o f → Rep G F' v o.fz
  | _, _, _, _, .sh r => r.le l
  | _, _, _, k, .lst h r => by
    simp only [O.fz]
    exact .lst (SqL.of ((k _ (List.mem_cons_self ..) _ h).1 rfl)) (Owns.frozen l (fun a m => k a (List.mem_cons_of_mem _ m)) r)
  | _, _, _, k, .tup h r => by
    simp only [O.fz]
    exact .tup (.of ((k _ (List.mem_cons_self ..) _ h).1 rfl)) (Owns.frozen l (fun a m => k a (List.mem_cons_of_mem _ m)) r)
  | _, _, _, k, .dct h e n r => by
    simp only [O.fz]
    obtain ⟨od, h'⟩ := (k _ (List.mem_cons_self ..) _ h).2 rfl
    exact .dct h' (by rw [O.fzd_1]; exact e) (by rw [O.fzd_2]; exact Owns.frozen l (fun a m => k a (List.mem_cons_of_mem _ m)) r)
  | _, _, _, k, .dcT h e n q r => by
    simp only [O.fz]
    obtain ⟨od, h'⟩ := (k _ (List.mem_cons_self ..) _ h).2 rfl
    exact .dcT h' (by rw [O.fzd_1]; exact e) n (by rw [O.fzd_1]; exact q.le l) (by rw [O.fzd_2]; exact Owns.frozen l (fun a m => k a (List.mem_cons_of_mem _ m)) r)
  | _, _, _, k, .ins h e r => by
    simp only [O.fz]
    exact .ins ((k _ (List.mem_cons_self ..) _ h).1 rfl) (by rw [O.fzs_map, List.length_map]; exact e) (Owns.frozen l (fun a m => k a (List.mem_cons_of_mem _ m)) r)
theorem Owns.frozen (l : Le F F') : ∀ {vs : List V} {os : List O} {f : List Addr}, (∀ a ∈ f, ∀ u, H a = some u → (isDn u = false → F' a = some u) ∧ (isDn u = true → ∃ od, F' a = some (.frz od u))) → Owns G F H vs os f → Reps G F' vs (O.fzs os)
  | _, _, _, _, .nil => .nil
  | _, _, _, k, .cons h r => .cons (Own.frozen l (fun a m => k a (List.mem_append_left _ m)) h) (Owns.frozen l (fun a m => k a (List.mem_append_right _ m)) r)
end
end

/-! ### slots -/
def Sl.lent? : Sl → Bool
  | .lent _ => true
  | _ => false
section
variable {G : CC} {F F' B H H' : Hp} {L σ : St} {en : En} {fp f g : List Addr} {v : V} {o : O}
/-- a slot is stored -/
theorem Sls.put (s : Sls G F B H L σ en fp) (q : Own G F H v o f) : ∀ {i : Nat} {z : Sl}, en[i]? = some z → z.lent? = false → ∃ fp', Sls G F B H L (σ.set i (some v)) (en.set i (.own o)) fp' ∧ (∀ a ∈ fp', a ∈ fp ++ f) ∧ ((fp ++ f).Nodup → fp'.Nodup) := by
  induction s with
  | nil => intro i z e; simp at e
  | un s ih =>
    intro i z e h
    cases i with
    | zero =>
      refine ⟨f ++ _, .own q s, fun a m => ?_, fun n => ?_⟩
      · exact (List.mem_append.mp m).elim (fun m => List.mem_append_right _ m) fun m => List.mem_append_left _ m
      · exact (List.perm_append_comm.nodup_iff).mp n
    | succ i =>
      obtain ⟨fp', h1, h2, h3⟩ := ih (i := i) (z := z) (by simpa using e) h
      exact ⟨fp', .un h1, h2, h3⟩
  | @own v0 o0 f0 L σ en fp q0 s ih =>
    intro i z e h
    cases i with
    | zero =>
      refine ⟨f ++ _, .own q s, fun a m => ?_, fun n => ?_⟩
      · exact (List.mem_append.mp m).elim (fun m => List.mem_append_right _ m) fun m => List.mem_append_left _ (List.mem_append_right _ m)
      · rw [List.append_assoc] at n
        exact (List.perm_append_comm.nodup_iff).mp ((List.nodup_append.mp n).2.1)
    | succ i =>
      obtain ⟨fp', h1, h2, h3⟩ := ih (i := i) (z := z) (by simpa using e) h
      refine ⟨f0 ++ fp', .own q0 h1, fun a m => ?_, fun n => ?_⟩
      · rw [List.append_assoc]
        exact (List.mem_append.mp m).elim (fun m => List.mem_append_left _ m) fun m => List.mem_append_right _ (h2 a m)
      · rw [List.append_assoc] at n
        obtain ⟨n1, n2, n3⟩ := List.nodup_append.mp n
        exact List.nodup_append.mpr ⟨n1, h3 n2, fun a ha b hb => n3 a ha b (h2 b hb)⟩
  | @lent v0 o0 f0 L σ en fp q0 s ih =>
    intro i z e h
    cases i with
    | zero => simp at e; subst e; cases h
    | succ i =>
      obtain ⟨fp', h1, h2, h3⟩ := ih (i := i) (z := z) (by simpa using e) h
      refine ⟨f0 ++ fp', .lent q0 h1, fun a m => ?_, fun n => ?_⟩
      · rw [List.append_assoc]
        exact (List.mem_append.mp m).elim (fun m => List.mem_append_left _ m) fun m => List.mem_append_right _ (h2 a m)
      · rw [List.append_assoc] at n
        obtain ⟨n1, n2, n3⟩ := List.nodup_append.mp n
        exact List.nodup_append.mpr ⟨n1, h3 n2, fun a ha b hb => n3 a ha b (h2 b hb)⟩
  | @bor v0 o0 f0 L σ en fp q0 s ih =>
    intro i z e h
    cases i with
    | zero =>
      refine ⟨f ++ _, .own q s, fun a m => ?_, fun n => ?_⟩
      · exact (List.mem_append.mp m).elim (fun m => List.mem_append_right _ m) fun m => List.mem_append_left _ m
      · exact (List.perm_append_comm.nodup_iff).mp n
    | succ i =>
      obtain ⟨fp', h1, h2, h3⟩ := ih (i := i) (z := z) (by simpa using e) h
      exact ⟨fp', .bor q0 h1, h2, h3⟩
/-- a slot is forgotten: its thing, the others -/
theorem Sls.take (s : Sls G F B H L σ en fp) : ∀ {i : Nat} {o : O}, en[i]? = some (.own o) → ∃ v f fp', σ[i]? = some (some v) ∧ Own G F H v o f ∧ Sls G F B H L σ (en.set i .un) fp' ∧ (fp' ++ f).Perm fp := by
  induction s with
  | nil => intro i o e; simp at e
  | un s ih =>
    intro i o e
    cases i with
    | zero => simp at e
    | succ i =>
      obtain ⟨v, f, fp', h1, h2, h3, h4⟩ := ih (i := i) (o := o) (by simpa using e)
      exact ⟨v, f, fp', h1, h2, .un h3, h4⟩
  | @own v0 o0 f0 L σ en fp q0 s ih =>
    intro i o e
    cases i with
    | zero =>
      simp at e
      subst e
      exact ⟨v0, f0, fp, rfl, q0, .un s, List.perm_append_comm⟩
    | succ i =>
      obtain ⟨v, f, fp', h1, h2, h3, h4⟩ := ih (i := i) (o := o) (by simpa using e)
      exact ⟨v, f, f0 ++ fp', h1, h2, .own q0 h3, by rw [List.append_assoc]; exact List.Perm.append_left f0 h4⟩
  | @lent v0 o0 f0 L σ en fp q0 s ih =>
    intro i o e
    cases i with
    | zero => simp at e
    | succ i =>
      obtain ⟨v, f, fp', h1, h2, h3, h4⟩ := ih (i := i) (o := o) (by simpa using e)
      exact ⟨v, f, f0 ++ fp', h1, h2, .lent q0 h3, by rw [List.append_assoc]; exact List.Perm.append_left f0 h4⟩
  | @bor v0 o0 f0 L σ en fp q0 s ih =>
    intro i o e
    cases i with
    | zero => simp at e
    | succ i =>
      obtain ⟨v, f, fp', h1, h2, h3, h4⟩ := ih (i := i) (o := o) (by simpa using e)
      exact ⟨v, f, fp', h1, h2, .bor q0 h3, h4⟩
theorem SRep.put (s : SRep G F B H L σ en fp) (q : Own G F H v o f) (nd : (fp ++ f).Nodup) (df : ∀ a ∈ f, F a = none ∧ B a = none) {i : Nat} {z : Sl} (e : en[i]? = some z) (h : z.lent? = false) :
    ∃ fp', SRep G F B H L (σ.set i (some v)) (en.set i (.own o)) fp' ∧ ∀ a ∈ fp', a ∈ fp ++ f := by
  obtain ⟨fp', h1, h2, h3⟩ := s.sl.put q e h
  exact ⟨fp', ⟨s.lf, s.lb, h1, h3 nd, fun a m => (List.mem_append.mp (h2 a m)).elim (s.df a) (df a)⟩, h2⟩
theorem SRep.take (s : SRep G F B H L σ en fp) {i : Nat} {o : O} (e : en[i]? = some (.own o)) : ∃ v f fp', σ[i]? = some (some v) ∧ Own G F H v o f ∧ SRep G F B H L σ (en.set i .un) fp' ∧ (fp' ++ f).Perm fp := by
  obtain ⟨v, f, fp', h1, h2, h3, h4⟩ := s.sl.take e
  have n := (h4.nodup_iff).mpr s.nd
  exact ⟨v, f, fp', h1, h2, ⟨s.lf, s.lb, h3, (List.nodup_append.mp n).1, fun a m => s.df a (h4.mem_iff.mp (List.mem_append_left _ m))⟩, h4⟩
/-- what is stored behind an expression -/
theorem XR.put {F₀ H₀ : Hp} {fp₀ : List Addr} (lb : Le B H₀) (df : ∀ a ∈ fp₀, B a = none) (h : XR G B L F₀ F H₀ H σ fp₀ v o en) {i : Nat} {z : Sl} (e : en[i]? = some z) (hz : z.lent? = false) : NR G B L F₀ F H₀ H (σ.set i (some v)) fp₀ (en.set i (.own o)) := by
  obtain ⟨fp', f, n, s, q, nd, fr⟩ := h
  obtain ⟨fp2, s2, m2⟩ := s.put q nd (fun a m => ⟨fr a m, by
    rcases n.fr a (List.mem_append_right _ m) with x | x
    · exact df a x
    · exact lb.noneOf x⟩) e hz
  exact ⟨fp2, n.sub m2, s2⟩
end

/-! ### expressions whose things are one's own -/
def mLift (m : En → Res R) (en : En) : Res (O × En) := (m en).bnd fun r => match r with
  | .own o => .ok (o, en)
  | .bor _ => .stuck
/-- the thing of a slot, moved out of it -/
def mMove (i : Nat) (en : En) : Res (O × En) := match en[i]? with
  | some (.own (.sh d)) => .ok (.sh d, en)
  | some (.own o) => .ok (o, en.set i .un)
  | some s => match s.look with
    | some (.own o) => .ok (o, en)
    | _ => .stuck
  | none => .stuck
/-- what can be frozen at once -/
def O.nodct : O → Bool
  | .sh _ => true
  | .lst l => l.attach.all fun ⟨o, _⟩ => o.nodct
  | .tup l => l.attach.all fun ⟨o, _⟩ => o.nodct
  | .dct _ _ => false
  | .ins _ l => l.attach.all fun ⟨o, _⟩ => o.nodct
/-- the thing of a slot, frozen and shared -/
def mShare (i : Nat) (en : En) : Res (O × En) := match en[i]? with
  | some (.own (.sh d)) => .ok (.sh d, en)
  | some (.own o) => .ok (.sh o.fz, en.set i (.own (.sh o.fz)))
  | some s => match s.look with
    | some (.own o) => .ok (o, en)
    | _ => .stuck
  | none => .stuck
section
variable {X : Cx} {G : CC} {W : WX} {pos : Pos} {e : Expr} {m : En → Res R}
theorem tLift_D {σ : St} {H : Hp} {Q : VK} (h : tX G W (mLift m) σ H Q) : tD G W m σ H Q := by
  obtain ⟨F, B, L, en, fp, s, p⟩ := h
  refine ⟨F, B, L, en, fp, s, ?_⟩
  unfold mLift at p
  cases ea : m en with
  | stuck => rw [ea] at p; exact p.elim
  | exc x e => rw [ea] at p; exact p
  | ok r =>
    rw [ea] at p
    simp only [Res.bnd] at p
    cases r with
    | bor o => exact p.elim
    | own o => exact fun v F1 H1 r1 => p v F1 H1 (r1.toX s)
theorem dx_of (h : PE X e (tD G W m)) : PE X e (tX G W (mLift m)) := h.imp fun _ _ _ h => tLift_D h
theorem look_ok {F B H : Hp} {L σ : St} {en : En} {fp : List Addr} (s : SRep G F B H L σ en fp) {i : Nat} {z : Sl} {o : O} (e : en[i]? = some z) (h : z.look = some (.own o)) : ∃ v d, σ[i]? = some (some v) ∧ o = .sh d ∧ Rep G F v d := by
  obtain ⟨v, hv, q⟩ := s.sl.get s.lb (i := i) (r := .own o) (by rw [e]; exact h)
  rcases q with ⟨d, e, q⟩ | ⟨_, _, e, _⟩
  · cases e; exact ⟨v, d, hv, rfl, q⟩
  · cases e
theorem XR.shared {F B H : Hp} {L σ : St} {en : En} {fp : List Addr} {v : V} {d : D} (s : SRep G F B H L σ en fp) (r : Rep G F v d) : XR G B L F F H H σ fp v (.sh d) en :=
  ⟨fp, [], by rw [List.append_nil]; exact Nx.refl s.lf, s, .sh r, by rw [List.append_nil]; exact s.nd, fun _ m => nomatch m⟩
theorem dx_move (i : Nat) {x : Str} (hN : X.N[i]? = some x := by rfl) (hv : Vis X.env.scope x := by first | exact Or.inl rfl | exact Or.inr (Or.inl rfl) | exact Or.inr (Or.inr rfl)) (hd : (x == ("__debug__" : Str)) = false := by decide)
    (hcd : (x == ("__classdict__" : Str)) = false := by decide) : PE X (.Name x pos) (tX G W (mMove i)) := (pe_var hN hv hd hcd).imp fun σ H Q h => by
  obtain ⟨F, B, L, en, fp, s, p⟩ := h
  unfold mMove at p
  have gen : ∀ z, en[i]? = some z → XPost G W F B L H σ fp Q (match z.look with | some (.own o) => .ok (o, en) | _ => .stuck) → tVar i σ H Q := fun z e p => by
    cases e2 : z.look with
    | none => simp only [e2] at p; exact p.elim
    | some r =>
      cases r with
      | bor o => simp only [e2] at p; exact p.elim
      | own o =>
        simp only [e2] at p
        obtain ⟨v, d, hv, rfl, r⟩ := look_ok s e e2
        exact ⟨v, hv, p v F H (.shared s r)⟩
  cases e : en[i]? with
  | none => simp only [e] at p; exact p.elim
  | some z =>
    simp only [e] at p
    cases z with
    | own o =>
      obtain ⟨v, f, fp', hv, q, s', pm⟩ := s.take e
      cases o with
      | sh d =>
        refine ⟨v, hv, p v F H (.shared s q.repOf)⟩
      | _ =>
        refine ⟨v, hv, p v F H ⟨fp', f, (Nx.refl s.lf).sub fun a m => pm.mem_iff.mp m, s', q, (pm.nodup_iff).mpr s.nd, fun a m => (s.df a (pm.mem_iff.mp (List.mem_append_right _ m))).1⟩⟩
    | un => exact gen _ e p
    | lent o => exact gen _ e p
    | bor o => exact gen _ e p
theorem set_set_en (en : En) (i : Nat) (a b : Sl) : (en.set i a).set i b = en.set i b := by simp
theorem share_reads {i : Nat} {σ : St} {H : Hp} {Q : VK} (h : tX G W (mShare i) σ H Q) : tVar i σ H fun v H1 => LkG (Q v) H1 := by
  obtain ⟨F, B, L, en, fp, s, p⟩ := h
  unfold mShare at p
  have gen : ∀ z, en[i]? = some z → XPost G W F B L H σ fp Q (match z.look with | some (.own o) => .ok (o, en) | _ => .stuck) → tVar i σ H fun v H1 => LkG (Q v) H1 := fun z e p => by
    cases e2 : z.look with
    | none => simp only [e2] at p; exact p.elim
    | some r =>
      cases r with
      | bor o => simp only [e2] at p; exact p.elim
      | own o =>
        simp only [e2] at p
        obtain ⟨v, d, hv, rfl, r⟩ := look_ok s e e2
        exact ⟨v, hv, .of (p v F H (.shared s r))⟩
  have fz : ∀ o, en[i]? = some (.own o) → XPost G W F B L H σ fp Q (.ok (.sh o.fz, en.set i (.own (.sh o.fz)))) → tVar i σ H fun v H1 => LkG (Q v) H1 := fun o e p => by
    obtain ⟨v, f, fp', hv, q, s', pm⟩ := s.take e
    have df : ∀ a ∈ f, F a = none := fun a m => (s.df a (pm.mem_iff.mp (List.mem_append_right _ m))).1
    have db : ∀ a ∈ f, B a = none := fun a m => (s.df a (pm.mem_iff.mp (List.mem_append_right _ m))).2
    have nd := (pm.nodup_iff).mpr s.nd
    obtain ⟨n1, n2, n3⟩ := List.nodup_append.mp nd
    refine ⟨v, hv, dnodes H f, dnodes_b n2, fun H2 lk => ?_⟩
    have l := frz_ge (H := H2) df
    have rep := q.frozen l lk.node
    have out : ∀ a ∈ fp', a ∉ f := fun a m m' => n3 a m a m' rfl
    have le2 := lk.frz_le s.lf df
    have s2 : SRep G (frz F H2 f) B H2 L σ (en.set i .un) fp' := ⟨le2, lk.le s.lb db, s'.sl.le l fun a _ m h => by rw [lk.out (out a m)]; exact h, s'.nd, fun a m => ⟨by rw [frz_out (out a m)]; exact (s'.df a m).1, (s'.df a m).2⟩⟩
    have hi : i < en.length := (List.getElem?_eq_some_iff.mp e).1
    obtain ⟨fp3, s3, m3⟩ := s2.put (Own.sh rep) (by rw [List.append_nil]; exact n1) (fun _ m => nomatch m) (i := i) (z := .un) (by rw [List.getElem?_set_self hi]) rfl
    rw [set_set_en] at s3
    have hσ : σ.set i (some v) = σ := by
      apply List.ext_getElem?
      intro j
      by_cases hj : i = j
      · subst hj
        have : i < σ.length := (List.getElem?_eq_some_iff.mp hv).1
        rw [List.getElem?_set_self this, hv]
      · rw [List.getElem?_set_ne hj]
    rw [hσ] at s3
    refine p v (frz F H2 f) H2 ⟨fp3, [], ?_, s3, .sh rep, by rw [List.append_nil]; exact s3.nd, fun _ m => nomatch m⟩
    rw [List.append_nil]
    refine ⟨l, fun a o h m => ?_, fun a h h' => .inr ?_, fun a m => .inl ?_, le2⟩
    · rw [lk.out fun m' => m (pm.mem_iff.mp (List.mem_append_right _ m'))]; exact h
    · by_cases m : a ∈ f
      · exact pm.mem_iff.mp (List.mem_append_right _ m)
      · rw [frz_out m] at h'; exact (h' h).elim
    · have := m3 a m
      rw [List.append_nil] at this
      exact pm.mem_iff.mp (List.mem_append_left _ this)
  cases e : en[i]? with
  | none => simp only [e] at p; exact p.elim
  | some z =>
    simp only [e] at p
    cases z with
    | own o =>
      cases o with
      | sh d =>
        obtain ⟨v, f, fp', hv, q, s', pm⟩ := s.take e
        exact ⟨v, hv, .of (p v F H (.shared s q.repOf))⟩
      | lst l => exact fz _ e p
      | tup l => exact fz _ e p
      | dct k l => exact fz _ e p
      | ins c l => exact fz _ e p
    | un => exact gen _ e p
    | lent o => exact gen _ e p
    | bor o => exact gen _ e p
theorem dx_share (i : Nat) {x : Str} (hN : X.N[i]? = some x := by rfl) (hv : Vis X.env.scope x := by first | exact Or.inl rfl | exact Or.inr (Or.inl rfl) | exact Or.inr (Or.inr rfl)) (hd : (x == ("__debug__" : Str)) = false := by decide)
    (hcd : (x == ("__classdict__" : Str)) = false := by decide) : PE X (.Name x pos) (tX G W (mShare i)) := (pe_lk (pe_var hN hv hd hcd)).imp fun σ H Q h => share_reads h
end

/-! ### statements -/
def SR.of {α : Type} : Res α → (α → SR) → SR
  | .ok a, k => k a
  | .exc x e, _ => .exc x e
  | .stuck, _ => .stuck
def Sl.free? (z : Option Sl) : Bool := match z with
  | some z => !z.lent?
  | none => false
/-- name = e -/
def mSet (i : Nat) (m : En → Res (O × En)) (en : En) : SR := .of (m en) fun r => if Sl.free? r.2[i]? then .nx (r.2.set i (.own r.1)) else .stuck
def mRet (m : En → Res (O × En)) (en : En) : SR := .of (m en) fun r => .rt r.1 r.2
def mRetN (en : En) : SR := .rt (.sh .non) en
def mDrop (m : En → Res (O × En)) (en : En) : SR := .of (m en) fun r => .nx r.2
def mIfS (n : En → Res Bool) (a b : En → SR) (en : En) : SR := .of (n en) fun k => if k then a en else b en
def mIfY (n : En → Res (Bool × En)) (a b : En → SR) (en : En) : SR := .of (n en) fun r => if r.1 then a r.2 else b r.2
def mNx (en : En) : SR := .nx en
def mBk (en : En) : SR := .bk en
def mCt (en : En) : SR := .ct en
def mSeq (a b : En → SR) (en : En) : SR := match a en with
  | .nx en' => b en'
  | r => r
section
variable {X : Cx} {G : CC} {W : WX} {pos : Pos} {e c : Expr} {m : En → Res (O × En)} {a b : List Stmt} {st : Stmt} {rest : List Stmt} {ma mb : En → SR}
theorem Sl.free_ok {z : Option Sl} (h : Sl.free? z = true) : ∃ y, z = some y ∧ y.lent? = false := by
  cases z with
  | none => cases h
  | some y => exact ⟨y, rfl, by simpa [Sl.free?] using h⟩
theorem tSet_D {i : Nat} {D : Ends} {σ : St} {H : Hp} (h : tS G W (mSet i m) D σ H) : tX G W m σ H (fun x H1 => D.nx (σ.set i (some x)) H1) := by
  obtain ⟨F, B, L, en, fp, s, p⟩ := h
  refine ⟨F, B, L, en, fp, s, ?_⟩
  unfold mSet at p
  cases ea : m en with
  | stuck => rw [ea] at p; exact p.elim
  | exc x e => rw [ea] at p; exact p
  | ok r =>
    rw [ea] at p
    simp only [SR.of] at p
    intro v F1 H1 r1
    split at p
    · rename_i hz
      obtain ⟨z, e1, e2⟩ := Sl.free_ok hz
      exact p _ F1 H1 (r1.put s.lb (fun a m => (s.df a m).2) e1 e2)
    · exact p.elim
theorem ds_set (i : Nat) {x : Str} {pos' : Pos} (he : PE X e (tX G W m)) (hN : X.N.Nodup) (hi : X.N[i]? = some x := by rfl) (hx : Loc X.env.scope x := by first | exact Or.inl rfl | exact Or.inr rfl) (hs : swapsWith e (some (.Name x pos')) pos.line X.env = pure false := by rfl)
    (hf : X.fn x = true ∨ X.env.scope.names.lookup x = some .local := by first | exact .inl rfl | exact .inr rfl) : PS X (.Assign [.Name x pos'] e pos) (tS G W (mSet i m)) := (ps_set hN hi hx he hs hf).imp fun _ _ _ h => tSet_D h
theorem ds_ret (he : PE X e (tX G W m)) : PS X (.Return (some e) pos) (tS G W (mRet m)) := (ps_ret he).imp fun D σ H h => by
  obtain ⟨F, B, L, en, fp, s, p⟩ := h
  refine ⟨F, B, L, en, fp, s, ?_⟩
  unfold mRet at p
  cases ea : m en with
  | stuck => rw [ea] at p; exact p.elim
  | exc x e => rw [ea] at p; exact p
  | ok r =>
    rw [ea] at p
    exact fun v F1 H1 r1 => p v σ F1 H1 r1
theorem ds_retN : PS X (.Return none pos) (tS G W mRetN) := ps_retN.imp fun D σ H h => by
  obtain ⟨F, B, L, en, fp, s, p⟩ := h
  exact p .non σ F H (.shared s .non)
theorem ds_expr (he : PE X e (tX G W m)) (hs : swapsWith e none pos.line X.env = pure false := by rfl) : PS X (.Expr e pos) (tS G W (mDrop m)) := (ps_expr he hs).imp fun D σ H h => by
  obtain ⟨F, B, L, en, fp, s, p⟩ := h
  refine ⟨F, B, L, en, fp, s, ?_⟩
  unfold mDrop at p
  cases ea : m en with
  | stuck => rw [ea] at p; exact p.elim
  | exc x e => rw [ea] at p; exact p
  | ok r =>
    rw [ea] at p
    exact fun v F1 H1 r1 => p σ F1 H1 r1.nr
theorem ds_if {n : En → Res Bool} (hc : PT X c (tT G W n)) (ha : PSs X a (tS G W ma)) (hb : PSs X b (tS G W mb)) : PS X (.If c a b pos) (tS G W (mIfS n ma mb)) := (ps_if hc ha hb).imp fun D σ H h => by
  obtain ⟨F, B, L, en, fp, s, p⟩ := h
  refine ⟨F, B, L, en, fp, s, ?_⟩
  unfold mIfS at p
  cases ea : n en with
  | stuck => rw [ea] at p; exact p.elim
  | exc x e => rw [ea] at p; exact p
  | ok k =>
    rw [ea] at p
    simp only [SR.of] at p
    intro F1 H1 n1
    cases k with
    | true => exact ⟨F1, B, L, en, fp, s.pure n1, SPost.after (n1.wide0 fp) p⟩
    | false => exact ⟨F1, B, L, en, fp, s.pure n1, SPost.after (n1.wide0 fp) p⟩
theorem ds_ifY {n : En → Res (Bool × En)} (hc : PT X c (tY G W n)) (ha : PSs X a (tS G W ma)) (hb : PSs X b (tS G W mb)) : PS X (.If c a b pos) (tS G W (mIfY n ma mb)) := (ps_if hc ha hb).imp fun D σ H h => by
  obtain ⟨F, B, L, en, fp, s, p⟩ := h
  refine ⟨F, B, L, en, fp, s, ?_⟩
  unfold mIfY at p
  cases ea : n en with
  | stuck => rw [ea] at p; exact p.elim
  | exc x e => rw [ea] at p; exact p
  | ok r =>
    obtain ⟨k, en'⟩ := r
    rw [ea] at p
    simp only [SR.of] at p
    intro F1 H1 n1
    obtain ⟨fp', n1, s'⟩ := n1
    cases k with
    | true => exact ⟨F1, B, L, en', fp', s', SPost.after n1 p⟩
    | false => exact ⟨F1, B, L, en', fp', s', SPost.after n1 p⟩
theorem dss_nil : PSs X [] (tS G W mNx) := pss_nil.imp fun D σ H h => by
  obtain ⟨F, B, L, en, fp, s, p⟩ := h
  exact p σ F H (.refl s)
theorem ds_pass : PS X (.Pass pos) (tS G W mNx) := ps_pass.imp fun D σ H h => by
  obtain ⟨F, B, L, en, fp, s, p⟩ := h
  exact p σ F H (.refl s)
theorem ds_break : PS X (.Break pos) (tS G W mBk) := ps_break.imp fun D σ H h => by
  obtain ⟨F, B, L, en, fp, s, p⟩ := h
  exact p σ F H (.refl s)
theorem ds_continue : PS X (.Continue pos) (tS G W mCt) := ps_continue.imp fun D σ H h => by
  obtain ⟨F, B, L, en, fp, s, p⟩ := h
  exact p σ F H (.refl s)
theorem dss_one (h : PS X st (tS G W ma)) : PSs X [st] (tS G W ma) := pss_one h
theorem dss_cons (h1 : PS X st (tS G W ma)) (h2 : PSs X rest (tS G W mb)) : PSs X (st :: rest) (tS G W (mSeq ma mb)) := (pss_cons h1 h2).imp fun D σ H h => by
  obtain ⟨F, B, L, en, fp, s, p⟩ := h
  refine ⟨F, B, L, en, fp, s, ?_⟩
  unfold mSeq at p
  cases ea : ma en with
  | nx en' =>
    rw [ea] at p
    intro σ1 F1 H1 n1
    obtain ⟨fp', n1, s'⟩ := n1
    exact ⟨F1, B, L, en', fp', s', SPost.after n1 p⟩
  | rt o en' => rw [ea] at p; exact p
  | bk en' => rw [ea] at p; exact p
  | ct en' => rw [ea] at p; exact p
  | exc x en' => rw [ea] at p; exact p
  | stuck => rw [ea] at p; exact p.elim
end
end DL

set_option maxHeartbeats 1000000
/-! KW: walks over a locked dict's keys, of either kind -/
namespace DL
open PySem PySem.Spec L2
open PyProof.Rows hiding St
/-- the keys of the locked dict at d whose keys are tuples -/
def Itkn (P : Program) (w : World) (d : Addr) (o : Obj) (kvs : List NK) : It :=
  ⟨fun i H => H d = some (.frz o (DN P w d kvs)) ∧ i < kvs.length, fun i H x H' => H' = H ∧ ∃ p : NK, kvs[i]? = some p ∧ x = .ref p.2.1, fun i H => H d = some (.frz o (DN P w d kvs)) ∧ kvs.length ≤ i⟩
section
variable {X : Cx} {pins : List (Addr × Obj)} {σ : St} {H : Hp} {s : Shared} {d : Addr} {o : Obj} {kvs : List NK}
theorem frzN {P : Program} {w : World} (I : Inv X pins σ H s) (h : H d = some (.frz o (DN P w d kvs))) :
    (d == sysModules) = false ∧ s.heap.get? d = some o ∧ o.ExactDict ∧ ∃ (es : Array DictEntry) (ep : Nat), o.data = .dict es ep ∧ es.size = kvs.length ∧
      ∀ (i : Nat) (p : NK), kvs[i]? = some p → ∃ (en : DictEntry), es[i]? = some en ∧ en.key = .ref p.2.1 := by
  obtain ⟨hd, x, _⟩ := I.hok d _ h
  obtain ⟨z, y, xs, r, o', es, ep, e, h2, h3, h4, h5⟩ := (show DNat P w d kvs s.heap from x)
  rw [hd] at e
  cases e
  refine ⟨y, hd, h2, es, ep, h3, ?_, fun i p e => ?_⟩
  · have l1 := congrArg List.length h4
    have l2 : kvs.length = xs.length := Paired.length r
    simp only [Array.length_toList, List.length_map] at l1
    omega
  · have get : ∀ {l : List NK} {m : List (NestedKey × Addr × Value)} {i : Nat}, Paired (fun (p : NK) (q : NestedKey × Addr × Value) => p.1 = q.1 ∧ p.2.1 = q.2.1 ∧ RelV p.2.2 q.2.2) l m → l[i]? = some p → ∃ q, m[i]? = some q ∧ p.2.1 = q.2.1 := by
      intro l m i q
      induction q generalizing i with
      | nil => intro e; simp at e
      | cons h t ih =>
        intro e
        cases i with
        | zero => simp at e; subst e; exact ⟨_, rfl, h.2.1⟩
        | succ i => exact ih (i := i) (by simpa using e)
    obtain ⟨q, e1, e2⟩ := get r e
    refine ⟨entryOfKey (nestedKind P w) q, ?_, by unfold entryOfKey; rw [e2]⟩
    rw [← Array.getElem?_toList, h4, List.getElem?_map, e1]
    rfl
end
section
variable {P P' : Program} {w w' : World} {K : PySem.W.Frag} {tg : Expr} {d : Addr} {o : Obj} {es : Array DictEntry} {ep : Nat}
theorem turn_keysN {kvs : List NK} (it : Addr) (hod : o.data = .dict es ep) : Turn P w K tg (Itkn P' w' d o kvs) [it] it (fun i h => h.IsKeyIter it d i kvs.length ep) where
  mem := by simp
  obj := fun i h st b hb => by
    have e : b = it := by simpa using hb
    subst e
    obtain ⟨oi, e, c, dd⟩ := st
    exact ⟨oi, e, fun v z => by rw [dd] at z; cases z⟩
  keep := fun i h h' st k => st.at fun oi e => k it (by simp) oi e
  item := by
    intro X hP hw hK hc i pins s σ H E I hf st hg
    subst hP hw hK
    obtain ⟨hd, hi⟩ := hg
    obtain ⟨f0, f1, f2, f3, f4, f5⟩ := hf it (by simp)
    obtain ⟨hs, hgd, hx, es', ep', hdt, hsz, ent⟩ := frzN I hd
    obtain ⟨rfl, rfl⟩ := dict_ep hod hdt
    obtain ⟨p, hkv⟩ : ∃ p, kvs[i]? = some p := ⟨kvs[i], List.getElem?_eq_getElem hi⟩
    obtain ⟨en, hen, hkey⟩ := ent i p hkv
    refine next_key_item st hgd hdt hsz hen fun h' st' sb => ?_
    have I1 : Inv X pins σ H { s with heap := h' } := I.turned (t' := s.toks) (fun b ob hb e => (sb.2 b hb).trans e) f0 f1 f3 f4 f5
    obtain ⟨oi, e, c, dd⟩ := id st'
    exact ⟨en.key, rfl, go_of (s := { s with heap := h' }) e c dd (by decide) ⟨.ref p.2.1, H, I1, hkey, ⟨rfl, p, hkv, rfl⟩, st', fun b hb => (hf b hb).1⟩⟩
  done := by
    intro X hP hw hK hc i pins s σ H E I hf st hg
    subst hP hw hK
    obtain ⟨hd, hi⟩ := hg
    obtain ⟨f0, f1, f2, f3, f4, f5⟩ := hf it (by simp)
    obtain ⟨hs, hgd, hx, es', ep', hdt, hsz, ent⟩ := frzN I hd
    obtain ⟨rfl, rfl⟩ := dict_ep hod hdt
    exact next_key_end (I.ok.hd hc) st hgd hdt hsz hi fun h' eb => ⟨rfl, I.turned (t' := s.toks) (fun b ob hb e => eb b ob hb e) f0 f1 f3 f4 f5⟩
  self := fun A i s Q E st h => by
    refine wpAny_pyIter_slot st.typeIs PySem.F.slot_dict_keyiterator_iter (wpAny_call_entry PySem.F.slot_dict_keyiterator_iter st.typeIs PySem.F.entry_dict_keyiterator_iter ?_ (PySem.F.args_dict_keyiterator_iter_1 _))
    show wpAny _ _ (ret (.ref it)) _ _ s
    exact wpAny_pure ⟨_, rfl, "dict_keyiterator", _, st.typeIs, PySem.F.slot_dict_keyiterator_next.lookup, h⟩
end
def iKeysN (P : Program) (w : World) (td : TE) : TI := fun σ H R => td σ H fun x H1 => ∃ d o, x = .ref d ∧ ((∃ kvs, H1 d = some (.frz o (.dK kvs)) ∧ R (Itk d o kvs) H1) ∨ ∃ kvs, H1 d = some (.frz o (DN P w d kvs)) ∧ R (Itkn P w d o kvs) H1)
theorem pi_keysN {X : Cx} {P : Program} {w : World} {tg e : Expr} {td : TE} (he : PE X e td) : PI X tg e (iKeysN P w td) := by
  refine ⟨fun pins s σ H R I h => ?_⟩
  refine thn (he.run pins s σ H _ I h) fun u s1 ⟨x, H1, I1, rx, d, o, ex, q⟩ => ?_
  subst ex
  obtain rfl : u = Value.ref d := rx
  rcases q with ⟨kvs, hd, q⟩ | ⟨kvs, hd, q⟩
  · obtain ⟨hs, hgd, hx, es, ep, vs, hdt, hsz, kv, hm⟩ := I1.frzK hd
    refine iter_keys hs hgd hx hdt (pi_one (tk := s1.toks) I1 _ (turn_keys _ hdt) ⟨_, Heap.get?_push_size _ rfl, rfl, ?_⟩ q)
    rw [hsz] <;> rfl
  · obtain ⟨hs, hgd, hx, es, ep, hdt, hsz, ent⟩ := frzN I1 hd
    refine iter_keys hs hgd hx hdt (pi_one (tk := s1.toks) I1 _ (turn_keysN _ hdt) ⟨_, Heap.get?_push_size _ rfl, rfl, ?_⟩ q)
    rw [hsz] <;> rfl
end DL

set_option maxHeartbeats 1000000
/-! DI: targets, loops -/
namespace DL
open PySem PySem.Spec L2
open PyProof.Rows hiding St

/-! ### slots forgotten -/
def wipe1 (en : En) (i : Nat) : En := match en[i]? with
  | some (.lent _) => en
  | _ => en.set i .un
def wipeE (en : En) : List Nat → En
  | [] => en
  | i :: is => wipe1 (wipeE en is) i
section
variable {G : CC} {F F' B H H' : Hp} {L σ : St} {en : En} {fp f g : List Addr} {v : V} {o : O}
theorem Sls.forget (s : Sls G F B H L σ en fp) : ∀ {i : Nat} (x : Option V), (∀ o, en[i]? ≠ some (.lent o)) → ∃ fp', Sls G F B H L (σ.set i x) (en.set i .un) fp' ∧ fp'.Sublist fp := by
  induction s with
  | nil => intro i x h; exact ⟨[], .nil, List.Sublist.refl _⟩
  | un s ih =>
    intro i x h
    cases i with
    | zero => exact ⟨_, .un s, List.Sublist.refl _⟩
    | succ i =>
      obtain ⟨fp', h1, h2⟩ := ih (i := i) x (fun o e => h o (by simpa using e))
      exact ⟨fp', .un h1, h2⟩
  | @own v0 o0 f0 L σ en fp q0 s ih =>
    intro i x h
    cases i with
    | zero => exact ⟨_, .un s, List.sublist_append_right _ _⟩
    | succ i =>
      obtain ⟨fp', h1, h2⟩ := ih (i := i) x (fun o e => h o (by simpa using e))
      exact ⟨f0 ++ fp', .own q0 h1, List.Sublist.append_left h2 f0⟩
  | @lent v0 o0 f0 L σ en fp q0 s ih =>
    intro i x h
    cases i with
    | zero => exact absurd rfl (h o0)
    | succ i =>
      obtain ⟨fp', h1, h2⟩ := ih (i := i) x (fun o e => h o (by simpa using e))
      exact ⟨f0 ++ fp', .lent q0 h1, List.Sublist.append_left h2 f0⟩
  | @bor v0 o0 f0 L σ en fp q0 s ih =>
    intro i x h
    cases i with
    | zero => exact ⟨_, .un s, List.Sublist.refl _⟩
    | succ i =>
      obtain ⟨fp', h1, h2⟩ := ih (i := i) x (fun o e => h o (by simpa using e))
      exact ⟨fp', .bor q0 h1, h2⟩
theorem SRep.sub (s : SRep G F B H L σ en fp) {σ' : St} {en' : En} {fp' : List Addr} (h : Sls G F B H L σ' en' fp') (sb : fp'.Sublist fp) : SRep G F B H L σ' en' fp' :=
  ⟨s.lf, s.lb, h, s.nd.sublist sb, fun a m => s.df a (sb.mem m)⟩
theorem SRep.wipe1 (s : SRep G F B H L σ en fp) (i : Nat) : ∃ fp', SRep G F B H L σ (wipe1 en i) fp' ∧ fp'.Sublist fp := by
  unfold DL.wipe1
  have gen : (∀ o, en[i]? ≠ some (.lent o)) → ∃ fp', SRep G F B H L σ (en.set i .un) fp' ∧ fp'.Sublist fp := fun h => by
    by_cases hi : i < σ.length
    · obtain ⟨fp', h1, h2⟩ := s.sl.forget (i := i) σ[i] h
      rw [List.set_getElem_self] at h1
      exact ⟨fp', s.sub h1 h2, h2⟩
    · have e : en.set i .un = en := List.set_eq_of_length_le (by have := s.sl.len.1; omega)
      rw [e]
      exact ⟨fp, s, List.Sublist.refl _⟩
  split
  · exact ⟨fp, s, List.Sublist.refl _⟩
  · rename_i h
    exact gen fun o e => h o e
theorem SRep.wipe (s : SRep G F B H L σ en fp) : ∀ is : List Nat, ∃ fp', SRep G F B H L σ (wipeE en is) fp' ∧ fp'.Sublist fp
  | [] => ⟨fp, s, List.Sublist.refl _⟩
  | i :: is => by
    obtain ⟨fp1, h1, h2⟩ := s.wipe is
    obtain ⟨fp2, h3, h4⟩ := h1.wipe1 i
    exact ⟨fp2, h3, h4.trans h2⟩
theorem NR.wipe (h : NR G B L F F' H H' σ fp en) (is : List Nat) : NR G B L F F' H H' σ fp (wipeE en is) := by
  obtain ⟨fp', n, s⟩ := h
  obtain ⟨fp2, s2, sb⟩ := s.wipe is
  exact ⟨fp2, n.sub fun a m => sb.mem m, s2⟩
end

/-! ### targets -/
/-- the slots but those at is are as they were -/
def OutEq (is : List Nat) (σ σ' : St) : Prop := σ'.length = σ.length ∧ ∀ j, j ∉ is → σ'[j]? = σ[j]?
section
variable (G : CC)
def GPost (is : List Nat) (F B H : Hp) (L σ : St) (fp : List Addr) (Q : St → Hp → Prop) : Option En → Prop
  | some en' => ∀ σ' fp', (∀ a ∈ fp', a ∈ fp) → OutEq is σ σ' → SRep G F B H L σ' en' fp' → Q σ' H
  | none => False
def tG (is : List Nat) (g : O → En → Option En) : TG := fun v σ H Q => ∃ F B L en fp o f, SRep G F B H L σ en fp ∧ Own G F H v o f ∧ (fp ++ f).Nodup ∧ (∀ a ∈ f, F a = none ∧ B a = none) ∧
  GPost G is F B H L σ (fp ++ f) Q (g o en)
def tGs (is : List Nat) (g : List O → En → Option En) : TGs := fun vs σ H Q => ∃ F B L en fp os f, SRep G F B H L σ en fp ∧ Owns G F H vs os f ∧ (fp ++ f).Nodup ∧ (∀ a ∈ f, F a = none ∧ B a = none) ∧
  GPost G is F B H L σ (fp ++ f) Q (g os en)
end
def gNm (i : Nat) (o : O) (en : En) : Option En := if Sl.free? en[i]? then some (en.set i (.own o)) else none
def gNl (os : List O) (en : En) : Option En := match os with
  | [] => some en
  | _ => none
def gCn (g : O → En → Option En) (gs : List O → En → Option En) (os : List O) (en : En) : Option En := match os with
  | o :: os => (g o en).bind (gs os)
  | [] => none
def gTp (n : Nat) (gs : List O → En → Option En) (o : O) (en : En) : Option En := match o with
  | .sh (.tup l) => if l.length = n then gs (l.map .sh) en else none
  | .sh (.lst l) => if l.length = n then gs (l.map .sh) en else none
  | .tup l => if l.length = n then gs l en else none
  | .lst l => if l.length = n then gs l en else none
  | _ => none
theorem _root_.L2.PG.or {X : Cx} {e : Expr} {t t' : TG} (h : PG X e t) (h' : PG X e t') : PG X e (fun v σ H Q => t v σ H Q ∨ t' v σ H Q) := ⟨fun pins s σ H v u Q I r q => q.elim (h.run pins s σ H v u Q I r) (h'.run pins s σ H v u Q I r)⟩
section
variable {X : Cx} {G : CC} {W : WX} {pos : Pos} {e : Expr} {es : List Expr} {g : O → En → Option En} {gs : List O → En → Option En} {is js : List Nat}
theorem dg_name (i : Nat) {x : Str} (hN : X.N.Nodup) (hi : X.N[i]? = some x := by rfl) (hx : Loc X.env.scope x := by first | exact Or.inl rfl | exact Or.inr rfl) (hf : X.fn x = true ∨ X.env.scope.names.lookup x = some .local := by first | exact .inl rfl | exact .inr rfl) :
    PG X (.Name x pos) (tG G [i] (gNm i)) := (pg_name hN hi hx hf).imp fun v σ H Q h => by
  obtain ⟨F, B, L, en, fp, o, f, s, q, nd, df, p⟩ := h
  unfold gNm at p
  split at p
  · rename_i hz
    obtain ⟨z, e1, e2⟩ := Sl.free_ok hz
    obtain ⟨fp2, s2, m2⟩ := s.put q nd df e1 e2
    exact p _ fp2 m2 ⟨List.length_set, fun j hj => List.getElem?_set_ne (fun e => hj (by simp [e]))⟩ s2
  · exact p.elim
theorem dgs_nil : PGs X [] (tGs G [] gNl) := ⟨fun pins s σ H vs us Q I r h => pgs_nil.run pins s σ H vs us Q I r (by
  obtain ⟨F, B, L, en, fp, os, f, s, q, nd, df, p⟩ := h
  cases q with
  | nil => exact ⟨rfl, p σ fp (fun a m => List.mem_append_left _ m) ⟨rfl, fun _ _ => rfl⟩ s⟩
  | cons _ _ => exact p.elim)⟩
theorem dgs_cons (h1 : PG X e (tG G is g)) (h2 : PGs X es (tGs G js gs)) (hs : (assignEach (e :: es) X.env).map (·.2) = assign e X.env :: (assignEach es X.env).map (·.2) := by rfl) : PGs X (e :: es) (tGs G (is ++ js) (gCn g gs)) :=
  ⟨fun pins s σ H vs us Q I r h => (pgs_cons h1 h2 hs).run pins s σ H vs us Q I r (by
    obtain ⟨F, B, L, en, fp, os, f, s, q, nd, df, p⟩ := h
    cases q with
    | nil => exact p.elim
    | @cons v o vs os f1 f2 q1 q2 =>
      rw [← List.append_assoc] at nd
      obtain ⟨nd1, nd2, nd3⟩ := List.nodup_append.mp nd
      refine ⟨v, vs, rfl, F, B, L, en, fp, o, f1, s, q1, nd1, fun a m => df a (List.mem_append_left _ m), ?_⟩
      unfold gCn at p
      cases e1 : g o en with
      | none => simp only [e1] at p; exact p.elim
      | some en1 =>
        simp only [e1, Option.bind_some] at p
        intro σ1 fp1 m1 oe1 s1
        refine ⟨F, B, L, en1, fp1, os, f2, s1, q2, ?_, fun a m => df a (List.mem_append_right _ m), ?_⟩
        · exact List.nodup_append.mpr ⟨s1.nd, nd2, fun a m b m' e => nd3 a (m1 a m) b m' e⟩
        · cases e2 : gs os en1 with
          | none => rw [e2] at p; exact p.elim
          | some en2 =>
            rw [e2] at p
            intro σ2 fp2 m2 oe2 s2
            refine p σ2 fp2 (fun a m => ?_) ⟨oe2.1.trans oe1.1, fun j hj => ?_⟩ s2
            · rw [← List.append_assoc]
              exact (List.mem_append.mp (m2 a m)).elim (fun m => List.mem_append_left _ (m1 a m)) fun m => List.mem_append_right _ m
            · rw [List.mem_append, not_or] at hj
              exact (oe2.2 j hj.2).trans (oe1.2 j hj.1))⟩
theorem dg_tup {n : Nat} {k : Nat} (hc : X.calm = true) (h : PGs X es (tGs G is gs)) (hK : G.K = X.K := by rfl)
    (hn : (assignEach es X.env).length = n := by rfl) (hst : (assignEach es X.env).findIdx? (·.1) = none := by rfl) : PG X (.Tuple es k pos) (tG G is (gTp n gs)) :=
  ((pg_tup hc h hn hst).or (pg_unl hc h hn hst)).imp fun v σ H Q h => by
    obtain ⟨F, B, L, en, fp, o, f, s, q, nd, df, p⟩ := h
    unfold gTp at p
    have two : ∀ {a : Addr} {f' : List Addr} {vs : List V} {l : List O}, Owns G F H vs l f' → (fp ++ a :: f').Nodup → (∀ b ∈ a :: f', F b = none ∧ B b = none) → (match gs l en with
        | some en' => ∀ σ' fp', (∀ b ∈ fp', b ∈ fp ++ a :: f') → OutEq is σ σ' → SRep G F B H L σ' en' fp' → Q σ' H
        | none => False) → tGs G is gs vs σ H Q := fun {a f' vs l} r nd df p => by
      have sb : f'.Sublist (a :: f') := List.sublist_cons_self _ _
      refine ⟨F, B, L, en, fp, _, f', s, r, nd.sublist (List.Sublist.append_left sb fp), fun a m => df a (List.mem_cons_of_mem _ m), ?_⟩
      cases e : gs l en with
      | none => rw [e] at p; exact p.elim
      | some en' =>
        rw [e] at p
        exact fun σ' fp' m oe s' => p σ' fp' (fun b mb => (List.Sublist.append_left sb fp).mem (m b mb)) oe s'
    cases q with
    | sh r =>
      cases r with
      | tup s1 r1 =>
        rename_i a vs l
        simp only at p
        split at p
        · rename_i hl
          exact .inl ⟨a, vs, rfl, hK ▸ SqT.le s.lf s1, by rw [r1.length, hl], F, B, L, en, fp, _, [], s, Owns.of_sh r1, nd, df, p⟩
        · exact p.elim
      | lst s1 r1 =>
        rename_i a vs l
        simp only at p
        split at p
        · rename_i hl
          exact .inr ⟨a, vs, rfl, hK ▸ SqL.le s.lf s1, by rw [r1.length, hl], F, B, L, en, fp, _, [], s, Owns.of_sh r1, nd, df, p⟩
        · exact p.elim
      | _ => exact p.elim
    | tup ha r =>
      rename_i a vs l f'
      simp only at p
      split at p
      · rename_i hl
        refine .inl ⟨a, vs, rfl, hK ▸ SqT.of ha, by rw [r.length, hl], two r nd df ?_⟩
        cases e : gs l en with
        | none => rw [e] at p; exact p
        | some en' => rw [e] at p; exact p
      · exact p.elim
    | lst ha r =>
      rename_i a vs l f'
      simp only at p
      split at p
      · rename_i hl
        refine .inr ⟨a, vs, rfl, hK ▸ SqL.of ha, by rw [r.length, hl], two r nd df ?_⟩
        cases e : gs l en with
        | none => rw [e] at p; exact p
        | some en' => rw [e] at p; exact p
      · exact p.elim
    | _ => exact p.elim
/-- target = e -/
def mAsg (g : O → En → Option En) (m : En → Res (O × En)) (en : En) : SR := .of (m en) fun r => match g r.1 r.2 with
  | some en' => .nx en'
  | none => .stuck
theorem ds_asg {tg : Expr} {m : En → Res (O × En)} (he : PE X e (tX G W m)) (hg : PG X tg (tG G is g)) (hs : swapsWithSole [tg] e pos.line X.env = pure false := by rfl) (hw : swappedStores [tg] e X.env = pure none := by rfl)
    (h1 : (assignEach [tg] X.env).map (·.2) = [assign tg X.env] := by rfl) : PS X (.Assign [tg] e pos) (tS G W (mAsg g m)) := (ps_asg he hg hs hw h1).imp fun D σ H h => by
  obtain ⟨F, B, L, en, fp, s, p⟩ := h
  refine ⟨F, B, L, en, fp, s, ?_⟩
  unfold mAsg at p
  cases ea : m en with
  | stuck => rw [ea] at p; exact p.elim
  | exc x e => rw [ea] at p; exact p
  | ok r =>
    rw [ea] at p
    simp only [SR.of] at p
    intro v F1 H1 r1
    obtain ⟨fp1, f1, n1, s1, q1, nd1, fr1⟩ := r1
    refine ⟨F1, B, L, r.2, fp1, r.1, f1, s1, q1, nd1, fun a m => ⟨fr1 a m, s.noB n1 a (List.mem_append_right _ m)⟩, ?_⟩
    cases e2 : g r.1 r.2 with
    | none => simp only [e2] at p; exact p.elim
    | some en' =>
      simp only [e2] at p
      exact fun σ2 fp2 m2 _ s2 => p σ2 F1 H1 ⟨fp2, n1.sub m2, s2⟩
end

/-! ### what is walked -/
/-- J walks ds while what is frozen and lent stands -/
def IW (G : CC) (F B : Hp) (J : It) (ds : List D) : Prop := ∀ F' H', Le F F' → Le F' H' → Le B H' →
  (∀ i d, ds[i]? = some d → J.go i H' ∧ ∀ x H2, J.yld i H' x H2 → ∃ F2, Nx F' F2 H' H2 [] [] ∧ Rep G F2 x d) ∧ J.stop ds.length H'
section
variable (G : CC) (W : WX)
def IPost (F B : Hp) (L : St) (H : Hp) (σ : St) (fp : List Addr) (R : It → Hp → Prop) : Res (List D × En) → Prop
  | .ok r => ∀ J F' H', NR G B L F F' H H' σ fp r.2 → IW G F' B J r.1 → R J H'
  | .exc x en' => EPost G W F B L H fp x en'
  | .stuck => False
def tI (m : En → Res (List D × En)) : TI := fun σ H R => ∃ F B L en fp, SRep G F B H L σ en fp ∧ IPost G W F B L H σ fp R (m en)
end
theorem _root_.L2.PI.imp {X : Cx} {tg e : Expr} {t t' : TI} (h : PI X tg e t) (i : ∀ σ H Q, t' σ H Q → t σ H Q) : PI X tg e t' := ⟨fun pins s σ H Q I q => h.run pins s σ H Q I (i σ H Q q)⟩
section
variable {G : CC} {F B H : Hp} {a : Addr} {vs : List V} {ds : List D}
theorem iw_list (h : SqL G.K F a vs ∨ SqL G.K B a vs) (r : Reps G F vs ds) : IW G F B (Itl G.K a) ds := fun F' H' lf le lb => by
  have q : SqL G.K H' a vs := h.elim (fun h => SqL.le le (SqL.le lf h)) fun h => SqL.le lb h
  refine ⟨fun i d e => ?_, ⟨vs, q, by rw [r.length]; exact Nat.le_refl _⟩⟩
  obtain ⟨v, hv, rv⟩ := r.get e
  refine ⟨⟨vs, v, q, hv⟩, fun x H2 y => ⟨F', ?_, ?_⟩⟩
  · obtain ⟨rfl, _⟩ := y
    exact Nx.refl le
  · obtain ⟨_, y⟩ := y
    have := y vs q
    rw [hv] at this
    cases this
    exact rv.le lf
theorem iw_tup (h : SqT G.K F a vs ∨ SqT G.K B a vs) (r : Reps G F vs ds) : IW G F B (Itt G.K a) ds := fun F' H' lf le lb => by
  have q : SqT G.K H' a vs := h.elim (fun h => SqT.le le (SqT.le lf h)) fun h => SqT.le lb h
  refine ⟨fun i d e => ?_, ⟨vs, q, by rw [r.length]; exact Nat.le_refl _⟩⟩
  obtain ⟨v, hv, rv⟩ := r.get e
  refine ⟨⟨vs, v, q, hv⟩, fun x H2 y => ⟨F', ?_, ?_⟩⟩
  · obtain ⟨rfl, _⟩ := y
    exact Nx.refl le
  · obtain ⟨_, y⟩ := y
    have := y vs q
    rw [hv] at this
    cases this
    exact rv.le lf
def chars (s : List Nat) : List D := s.map fun c => .str [c]
theorem iw_str {s : List Nat} : IW G F B (Its (SX.S s)) (chars s) := fun F' H' lf le lb => by
  have w := walk_str (z := SX.S s)
  have hl : (chars s).length = (SX.S s).cps.size := by simp [chars]
  refine ⟨fun i d e => ?_, by rw [hl]; exact w.stops H' trivial⟩
  have hi : i < (SX.S s).cps.size := by rw [← hl]; exact (List.getElem?_eq_some_iff.mp e).1
  refine ⟨w.goes i H' hi trivial, fun x H2 y => ⟨F', ?_, ?_⟩⟩
  · obtain ⟨rfl, _⟩ := w.yields i H' x H2 hi trivial y
    exact Nx.refl le
  · obtain ⟨_, c, h1, h2⟩ := w.yields i H' x H2 hi trivial y
    have h1' : s[i]? = some c := by simpa using h1
    have h3 : (chars s)[i]? = some (.str [c]) := by simp [chars, h1']
    rw [h3] at e
    cases e
    rw [h2]
    exact .str [c]
def rangeD (lo : Int) (n : Nat) : List D := (List.range n).map fun (i : Nat) => D.int (lo + (i : Int))
theorem iw_range {lo : Int} {n : Nat} : IW G F B (Itr lo n) (rangeD lo n) := fun F' H' lf le lb => by
  refine ⟨fun i d e => ?_, by simp [rangeD, Itr]⟩
  have hi : i < n := by
    have := (List.getElem?_eq_some_iff.mp e).1
    simpa [rangeD] using this
  have h3 : (rangeD lo n)[i]? = some (.int (lo + i)) := by simp [rangeD, hi]
  rw [h3] at e
  cases e
  refine ⟨hi, fun x H2 y => ?_⟩
  obtain ⟨rfl, rfl⟩ := y
  exact ⟨F', Nx.refl le, .int _⟩
end

section
variable {G : CC} {F B H : Hp} {a : Addr} {o : Obj} {ds : List (D × D)}
theorem iw_keysK {kvs : List (Key × V)} (h : F a = some (.frz o (.dK kvs))) (e : ds.map (·.1) = kvs.map (fun p => kd p.1)) : IW G F B (Itk a o kvs) (ds.map (·.1)) := fun F' H' lf le _ => by
  have h' := le _ _ (lf _ _ h)
  have hl : (ds.map (·.1)).length = kvs.length := by rw [e, List.length_map]
  refine ⟨fun i d hd => ?_, h', by rw [hl]; exact Nat.le_refl _⟩
  rw [e, List.getElem?_map] at hd
  cases hk : kvs[i]? with
  | none => rw [hk] at hd; cases hd
  | some p =>
    rw [hk] at hd
    cases hd
    refine ⟨⟨h', (List.getElem?_eq_some_iff.mp hk).1⟩, fun x H2 y => ?_⟩
    obtain ⟨rfl, k, v, e1, rfl⟩ := y
    rw [hk] at e1
    cases e1
    refine ⟨F', Nx.refl le, ?_⟩
    cases k with
    | inl i => exact .int i
    | inr s =>
      have := Rep.str (G := G) (F := F') s.cps.toList
      rwa [SX.S_tl] at this
theorem iw_keysN {P : Program} {w : World} {kvs : List NK} (h : F a = some (.frz o (DN P w a kvs))) (e : Reps G F (kvs.map fun p => .ref p.2.1) (ds.map (·.1))) : IW G F B (Itkn P w a o kvs) (ds.map (·.1)) := fun F' H' lf le _ => by
  have h' := le _ _ (lf _ _ h)
  have hl := e.length
  rw [List.length_map] at hl
  refine ⟨fun i d hd => ?_, h', by rw [← hl]; exact Nat.le_refl _⟩
  obtain ⟨v, h1, h2⟩ := e.get hd
  rw [List.getElem?_map] at h1
  cases hk : kvs[i]? with
  | none => rw [hk] at h1; cases h1
  | some p =>
    rw [hk] at h1
    cases h1
    refine ⟨⟨h', (List.getElem?_eq_some_iff.mp hk).1⟩, fun x H2 y => ?_⟩
    obtain ⟨rfl, p', e1, rfl⟩ := y
    rw [hk] at e1
    cases e1
    exact ⟨F', Nx.refl le, h2.le lf⟩
end
theorem _root_.L2.PI.or {X : Cx} {tg e : Expr} {t t' : TI} (h : PI X tg e t) (h' : PI X tg e t') : PI X tg e (fun σ H R => t σ H R ∨ t' σ H R) := ⟨fun pins s σ H Q I q => q.elim (h.run pins s σ H Q I) (h'.run pins s σ H Q I)⟩
def D.seqI : D → Option (List D)
  | .lst l => some l
  | .tup l => some l
  | .str s => some (chars s)
  | .dct _ l => some (l.map (·.1))
  | _ => none
section
variable {G : CC} {F F' B H H' : Hp} {L σ : St} {en en' : En} {fp : List Addr} {v : V} {o : O}
theorem XR.freeze (h : XR G B L F F' H H' σ fp v o en') (db : ∀ a ∈ fp, B a = none) (lb : Le B H) : LkG (fun H2 => ∃ F2, NR G B L F F2 H H2 σ fp en' ∧ Rep G F2 v o.fz) H' := by
  obtain ⟨fp', f, n, s, q, nd, fr⟩ := h
  obtain ⟨n1, n2, n3⟩ := List.nodup_append.mp nd
  have dbf : ∀ a ∈ f, B a = none := fun a m => by
    rcases n.fr a (List.mem_append_right _ m) with h | h
    · exact db a h
    · exact lb.noneOf h
  refine ⟨dnodes H' f, dnodes_b n2, fun H2 lk => ?_⟩
  have l := frz_ge (H := H2) fr
  have rep := q.frozen l lk.node
  have out : ∀ a ∈ fp', a ∉ f := fun a m m' => n3 a m a m' rfl
  have le2 := lk.frz_le s.lf fr
  refine ⟨frz F' H2 f, ⟨fp', ⟨n.ff.trans l, fun a u e m => ?_, fun a h h' => ?_, fun a m => n.fr a (List.mem_append_left _ m), le2⟩, ⟨le2, lk.le s.lb dbf, s.sl.le l fun a _ m h => by rw [lk.out (out a m)]; exact h, s.nd, fun a m => ⟨by rw [frz_out (out a m)]; exact (s.df a m).1, (s.df a m).2⟩⟩⟩, rep⟩
  · have e' := n.hh a u e m
    rw [lk.out fun m' => ?_]
    · exact e'
    · rcases n.fr a (List.mem_append_right _ m') with h | h
      · exact m h
      · rw [h] at e; cases e
  · by_cases m : a ∈ f
    · exact (n.fr a (List.mem_append_right _ m)).symm
    · rw [frz_out m] at h'
      exact n.nw a h h'
/-- an expression's thing, frozen -/
def mFzX (m : En → Res (O × En)) (en : En) : Res (O × En) := (m en).bnd fun r => .ok (.sh r.1.fz, r.2)
theorem dx_fzX {X : Cx} {W : WX} {e : Expr} {m : En → Res (O × En)} (h : PE X e (tX G W m)) : PE X e (tX G W (mFzX m)) := (pe_lk h).imp fun σ H Q h => by
  obtain ⟨F, B, L, en, fp, s, p⟩ := h
  refine ⟨F, B, L, en, fp, s, ?_⟩
  unfold mFzX at p
  cases ea : m en with
  | stuck => rw [ea] at p; exact p.elim
  | exc x e => rw [ea] at p; exact p
  | ok r =>
    rw [ea] at p
    simp only [Res.bnd] at p
    intro v F1 H1 r1
    exact (r1.freeze (fun a m => (s.df a m).2) s.lb).imp fun H2 z => by
      obtain ⟨F2, ⟨fp2, n2, s2⟩, rep⟩ := z
      exact p v F2 H2 ⟨fp2, [], by rw [List.append_nil]; exact n2, s2, .sh rep, by rw [List.append_nil]; exact s2.nd, fun _ m => nomatch m⟩
/-- the walk over a frozen thing -/
theorem iw_of {K : PySem.W.Frag} (hK : G.K = K) {d : D} {ds : List D} (l : Le F H) (r : Rep G F v d) (e : d.seqI = some ds) {R : It → Hp → Prop} (p : ∀ J, IW G F B J ds → R J H) :
    (∃ l, d = .lst l ∧ ∃ a, v = .ref a ∧ (∃ xs, SqL K H a xs) ∧ R (Itl K a) H) ∨ (∃ l, d = .tup l ∧ ∃ a, v = .ref a ∧ (∃ xs, SqT K H a xs) ∧ R (Itt K a) H) ∨ (∃ s, d = .str s ∧ ∃ x, v = .str x ∧ R (Its x) H) ∨
    ∃ b l, d = .dct b l ∧ ∃ a o, v = .ref a ∧ ((∃ kvs, H a = some (.frz o (.dK kvs)) ∧ R (Itk a o kvs) H) ∨ ∃ kvs, H a = some (.frz o (DN G.P G.w a kvs)) ∧ R (Itkn G.P G.w a o kvs) H) := by
  subst hK
  cases r with
  | lst s r => cases e; exact .inl ⟨_, rfl, _, rfl, ⟨_, SqL.le l s⟩, p _ (iw_list (.inl s) r)⟩
  | tup s r => cases e; exact .inr (.inl ⟨_, rfl, _, rfl, ⟨_, SqT.le l s⟩, p _ (iw_tup (.inl s) r)⟩)
  | str s => cases e; exact .inr (.inr (.inl ⟨_, rfl, _, rfl, p _ iw_str⟩))
  | dct h1 h2 h3 => cases e; exact .inr (.inr (.inr ⟨_, _, rfl, _, _, rfl, .inl ⟨_, l _ _ h1, p _ (iw_keysK h1 h2)⟩⟩))
  | dcT h1 h2 n h0 h3 => cases e; exact .inr (.inr (.inr ⟨_, _, rfl, _, _, rfl, .inr ⟨_, l _ _ h1, p _ (iw_keysN h1 h0)⟩⟩))
  | _ => cases e
end
/-- what an expression hands is walked -/
def mItV (m : En → Res (O × En)) (en : En) : Res (List D × En) := (m en).bnd fun r => match r.1.fz.seqI with
  | some ds => .ok (ds, r.2)
  | none => .stuck
def mItN (i : Nat) (en : En) : Res (List D × En) := match en[i]? with
  | some (.bor o) => match o.seq? with
    | some ds => .ok (ds, en)
    | none => match o.str? with
      | some s => .ok (chars s, en)
      | none => .stuck
  | _ => mItV (mShare i) en
section
variable {X : Cx} {G : CC} {W : WX} {tg e : Expr} {m : En → Res (O × En)} {pos : Pos}
theorem D.kind {d : D} {ds : List D} (e : d.seqI = some ds) : (∃ l, d = .lst l) ∨ (∃ l, d = .tup l) ∨ (∃ s, d = .str s) ∨ ∃ b l, d = .dct b l := by
  cases d with
  | lst l => exact .inl ⟨l, rfl⟩
  | tup l => exact .inr (.inl ⟨l, rfl⟩)
  | str s => exact .inr (.inr (.inl ⟨s, rfl⟩))
  | dct b l => exact .inr (.inr (.inr ⟨b, l, rfl⟩))
  | _ => cases e
theorem tItV {T : TE} {σ : St} {H : Hp} {R : It → Hp → Prop} (hK : G.K = X.K) (ht : ∀ Q, tX G W (mFzX m) σ H Q → T σ H Q) (h : tI G W (mItV m) σ H R) : iList X.K T σ H R ∨ iTup X.K T σ H R ∨ iStr T σ H R ∨ iKeysN G.P G.w T σ H R := by
  obtain ⟨F, B, L, en, fp, s, p⟩ := h
  unfold mItV at p
  cases ea : m en with
  | stuck => rw [ea] at p; exact p.elim
  | exc x e => rw [ea] at p; exact .inl (ht _ ⟨F, B, L, en, fp, s, by unfold mFzX; rw [ea]; exact p⟩)
  | ok r =>
    rw [ea] at p
    simp only [Res.bnd] at p
    cases e2 : r.1.fz.seqI with
    | none => simp only [e2] at p; exact p.elim
    | some ds =>
      simp only [e2] at p
      have key : ∀ v F1 H1, XR G B L F F1 H H1 σ fp v (.sh r.1.fz) r.2 → (∃ l, r.1.fz = .lst l ∧ ∃ a, v = .ref a ∧ (∃ xs, SqL X.K H1 a xs) ∧ R (Itl X.K a) H1) ∨ (∃ l, r.1.fz = .tup l ∧ ∃ a, v = .ref a ∧ (∃ xs, SqT X.K H1 a xs) ∧ R (Itt X.K a) H1) ∨ (∃ s, r.1.fz = .str s ∧ ∃ x, v = .str x ∧ R (Its x) H1) ∨
          ∃ b l, r.1.fz = .dct b l ∧ ∃ a o, v = .ref a ∧ ((∃ kvs, H1 a = some (.frz o (.dK kvs)) ∧ R (Itk a o kvs) H1) ∨ ∃ kvs, H1 a = some (.frz o (DN G.P G.w a kvs)) ∧ R (Itkn G.P G.w a o kvs) H1) := fun v F1 H1 r1 => by
        have n2 := r1.nr
        obtain ⟨_, _, n, _, q, _⟩ := r1
        exact iw_of (B := B) hK n.le q.repOf e2 (R := R) fun J w => p J F1 H1 n2 w
      rcases D.kind e2 with ⟨l, hl⟩ | ⟨l, hl⟩ | ⟨l, hl⟩ | ⟨b, l, hl⟩
      · refine .inl (ht _ ⟨F, B, L, en, fp, s, ?_⟩)
        unfold mFzX
        rw [ea]
        intro v F1 H1 r1
        rcases key v F1 H1 r1 with ⟨_, _, q⟩ | ⟨_, h, _⟩ | ⟨_, h, _⟩ | ⟨_, _, h, _⟩
        · exact q
        · rw [hl] at h; cases h
        · rw [hl] at h; cases h
        · rw [hl] at h; cases h
      · refine .inr (.inl (ht _ ⟨F, B, L, en, fp, s, ?_⟩))
        unfold mFzX
        rw [ea]
        intro v F1 H1 r1
        rcases key v F1 H1 r1 with ⟨_, h, _⟩ | ⟨_, _, q⟩ | ⟨_, h, _⟩ | ⟨_, _, h, _⟩
        · rw [hl] at h; cases h
        · exact q
        · rw [hl] at h; cases h
        · rw [hl] at h; cases h
      · refine .inr (.inr (.inl (ht _ ⟨F, B, L, en, fp, s, ?_⟩)))
        unfold mFzX
        rw [ea]
        intro v F1 H1 r1
        rcases key v F1 H1 r1 with ⟨_, h, _⟩ | ⟨_, h, _⟩ | ⟨_, _, q⟩ | ⟨_, _, h, _⟩
        · rw [hl] at h; cases h
        · rw [hl] at h; cases h
        · exact q
        · rw [hl] at h; cases h
      · refine .inr (.inr (.inr (ht _ ⟨F, B, L, en, fp, s, ?_⟩)))
        unfold mFzX
        rw [ea]
        intro v F1 H1 r1
        rcases key v F1 H1 r1 with ⟨_, h, _⟩ | ⟨_, h, _⟩ | ⟨_, h, _⟩ | ⟨_, _, _, q⟩
        · rw [hl] at h; cases h
        · rw [hl] at h; cases h
        · rw [hl] at h; cases h
        · exact q
theorem di_val (he : PE X e (tX G W m)) (hK : G.K = X.K := by rfl) : PI X tg e (tI G W (mItV m)) :=
  ((pi_list (dx_fzX he)).or ((pi_tup (dx_fzX he)).or ((pi_str (dx_fzX he)).or (pi_keysN (dx_fzX he))))).imp fun σ H R h => tItV hK (fun _ q => q) h
/-- a slot whose thing is lent by the caller: it stands in B -/
theorem Sls.getB {F B H : Hp} {L σ : St} {en : En} {fp : List Addr} (s : Sls G F B H L σ en fp) : ∀ {i : Nat} {o : O}, en[i]? = some (.bor o) → ∃ v f, σ[i]? = some (some v) ∧ Own G F B v o f := by
  induction s with
  | nil => intro i o e; simp at e
  | un _ ih =>
    intro i o e
    cases i with
    | zero => simp at e
    | succ i => exact ih (i := i) (by simpa using e)
  | own _ _ ih =>
    intro i o e
    cases i with
    | zero => simp at e
    | succ i => exact ih (i := i) (by simpa using e)
  | lent _ _ ih =>
    intro i o e
    cases i with
    | zero => simp at e
    | succ i => exact ih (i := i) (by simpa using e)
  | @bor v0 o0 f0 L σ en fp h _ ih =>
    intro i o e
    cases i with
    | zero => simp at e; subst e; exact ⟨v0, f0, rfl, h⟩
    | succ i => exact ih (i := i) (by simpa using e)
theorem Rd.or_le {F B : Hp} {a : Addr} {u : HO} (h : Rd B a u) : Rd F a u ∨ Rd B a u := .inr h
theorem Own.seqB {F B : Hp} {v : V} {o : O} {f : List Addr} {ds : List D} (h : Own G F B v o f) (e : o.seq? = some ds) :
    ∃ a vs, v = .ref a ∧ Reps G F vs ds ∧ ((SqL G.K F a vs ∨ SqL G.K B a vs) ∨ (SqT G.K F a vs ∨ SqT G.K B a vs)) := by
  unfold O.seq? at e
  cases h with
  | sh r =>
    cases r with
    | lst s r => cases e; exact ⟨_, _, rfl, r, .inl (.inl s)⟩
    | tup s r => cases e; exact ⟨_, _, rfl, r, .inr (.inl s)⟩
    | _ => cases e
  | lst ha r =>
    rename_i a vs os fp
    simp only [O.lst?] at e
    cases e2 : shs os with
    | none => rw [e2] at e; cases e
    | some ds' =>
      rw [e2] at e
      cases e
      rw [shs_eq e2] at r
      exact ⟨_, _, rfl, r.to_sh.1, .inl (.inr (SqL.of ha))⟩
  | tup ha r =>
    rename_i a vs os fp
    simp only [O.lst?, O.tup?] at e
    rw [shs_eq e] at r
    exact ⟨_, _, rfl, r.to_sh.1, .inr (.inr (.of ha))⟩
  | ins _ _ _ => cases e
  | dct _ _ _ _ => cases e
  | dcT _ _ _ _ _ => cases e
theorem di_name (i : Nat) {x : Str} (hN : X.N[i]? = some x := by rfl) (hv : Vis X.env.scope x := by first | exact Or.inl rfl | exact Or.inr (Or.inl rfl) | exact Or.inr (Or.inr rfl)) (hd : (x == ("__debug__" : Str)) = false := by decide)
    (hcd : (x == ("__classdict__" : Str)) = false := by decide) (hK : G.K = X.K := by rfl) : PI X tg (.Name x pos) (tI G W (mItN i)) := by
  have pe : PE X (.Name x pos) (tVar i) := pe_var hN hv hd hcd
  have pe' : PE X (.Name x pos) (tX G W (mFzX (mShare i))) := dx_fzX (dx_share i hN hv hd hcd)
  refine (((pi_list pe).or ((pi_tup pe).or (pi_str pe))).or ((pi_list pe').or ((pi_tup pe').or ((pi_str pe').or (pi_keysN (P := G.P) (w := G.w) pe'))))).imp fun σ H R h => ?_
  obtain ⟨F, B, L, en, fp, s, p⟩ := h
  unfold mItN at p
  have other : IPost G W F B L H σ fp R (mItV (mShare i) en) → (iList X.K (tVar i) σ H R ∨ iTup X.K (tVar i) σ H R ∨ iStr (tVar i) σ H R) ∨ iList X.K (tX G W (mFzX (mShare i))) σ H R ∨ iTup X.K (tX G W (mFzX (mShare i))) σ H R ∨ iStr (tX G W (mFzX (mShare i))) σ H R ∨ iKeysN G.P G.w (tX G W (mFzX (mShare i))) σ H R := fun p => Or.inr (tItV (W := W) (m := mShare i) hK (T := tX G W (mFzX (mShare i))) (fun Q q => q) ⟨F, B, L, en, fp, s, p⟩)
  cases e : en[i]? with
  | none => simp only [e] at p; exact other p
  | some z =>
    cases z with
    | bor o =>
      simp only [e] at p
      obtain ⟨v, f, hσ, q⟩ := s.sl.getB e
      cases e2 : o.seq? with
      | some ds =>
        simp only [e2] at p
        obtain ⟨a, vs, rfl, r, w⟩ := q.seqB e2
        rw [← hK]
        rcases w with w | w
        · exact .inl (.inl ⟨_, hσ, a, rfl, ⟨vs, w.elim (SqL.le s.lf) (SqL.le s.lb)⟩, p _ F H (.refl s) (iw_list w r)⟩)
        · exact .inl (.inr (.inl ⟨_, hσ, a, rfl, ⟨vs, w.elim (SqT.le s.lf) (SqT.le s.lb)⟩, p _ F H (.refl s) (iw_tup w r)⟩))
      | none =>
        simp only [e2] at p
        cases e3 : o.str? with
        | none => simp only [e3] at p; exact p.elim
        | some t =>
          simp only [e3] at p
          rw [O.str?_eq e3] at q
          exact .inl (.inr (.inr ⟨_, hσ, _, q.strV, p _ F H (.refl s) iw_str⟩))
    | un => simp only [e] at p; exact other p
    | own _ => simp only [e] at p; exact other p
    | lent _ => simp only [e] at p; exact other p
end
end DL

set_option maxHeartbeats 1000000
/-! DJ: for, while, comprehensions -/
namespace DL
open PySem PySem.Spec L2
open PyProof.Rows hiding St

/-! ### range -/
section
variable {X : Cx} {G : CC} {W : WX} {tg a b : Expr} {ma mb : En → Res R} {pos p : Pos}
/-- a bound of a range -/
def okR (j : Int) : Bool := lim (2 ^ 62) j
theorem okR_lt {j : Int} (h : okR j = true) : -(2 ^ 62) ≤ j ∧ j < 2 ^ 62 := by
  have := lim_iff.mp h
  omega
theorem okR_of {j : Int} (h1 : -1000000000 ≤ j) (h2 : j ≤ 1000000000) : okR j = true := lim_iff.mpr (by omega)
def mRng1 (ma : En → Res R) (en : En) : Res (List D × En) := (ma en).bnd fun r => match r.o.int? with
  | some j => if okR j then .ok (rangeD 0 j.toNat, en) else .stuck
  | none => .stuck
def mRng2 (ma mb : En → Res R) (en : En) : Res (List D × En) := (ma en).bnd fun r => (mb en).bnd fun q => match r.o.int?, q.o.int? with
  | some i, some j => if okR i && okR j then .ok (rangeD i (j - i).toNat, en) else .stuck
  | _, _ => .stuck
theorem di_range1 (hm : X.mg "range" = none) (ha : PE X a (tD G W ma)) (hg : Gl X "range" := by rfl) (hs : starEach [a] X.env = [(false, eval a X.env)] := by rfl) : PI X tg (.Call (.Name "range" p) [a] [] pos) (tI G W (mRng1 ma)) :=
  (pi_range1 hg hm (pa_cons ha pa_nil hs) hs).imp fun σ H R h => by
    obtain ⟨F, B, L, en, fp, s, p⟩ := h
    refine ⟨F, B, L, en, fp, s, ?_⟩
    unfold mRng1 at p
    cases ea : ma en with
    | stuck => rw [ea] at p; exact p.elim
    | exc x e => rw [ea] at p; exact p
    | ok r =>
      rw [ea] at p
      simp only [Res.bnd] at p
      intro v F1 H1 r1
      obtain ⟨f, q⟩ := r1.has
      cases e : r.o.int? with
      | none => simp only [e] at p; exact p.elim
      | some j =>
        simp only [e] at p
        split at p
        · rename_i hj
          rw [O.int?_eq e] at q
          exact ⟨j, by rw [q.intV], (okR_lt hj).1, (okR_lt hj).2, p _ F1 H1 (r1.nx.toN s) iw_range⟩
        · exact p.elim
theorem di_range2 (hm : X.mg "range" = none) (ha : PE X a (tD G W ma)) (hb : PE X b (tD G W mb)) (hg : Gl X "range" := by rfl) (hs : starEach [a, b] X.env = [(false, eval a X.env), (false, eval b X.env)] := by rfl) (hs2 : starEach [b] X.env = [(false, eval b X.env)] := by rfl) :
    PI X tg (.Call (.Name "range" p) [a, b] [] pos) (tI G W (mRng2 ma mb)) :=
  (pi_range2 hg hm (pa_cons ha (pa_cons hb pa_nil hs2) (by rw [hs, hs2])) hs hs2).imp fun σ H R h => by
    obtain ⟨F, B, L, en, fp, s, p⟩ := h
    refine ⟨F, B, L, en, fp, s, ?_⟩
    unfold mRng2 at p
    cases ea : ma en with
    | stuck => rw [ea] at p; exact p.elim
    | exc x e => rw [ea] at p; exact p
    | ok r =>
      rw [ea] at p
      simp only [Res.bnd] at p
      intro v F1 H1 r1
      refine ⟨F1, B, L, en, fp, s.pure r1.nx, ?_⟩
      cases eb : mb en with
      | stuck => rw [eb] at p; exact p.elim
      | exc x e => rw [eb] at p; exact EPost.after (r1.nx.wide0 fp) p
      | ok q =>
        rw [eb] at p
        simp only at p
        intro w F2 H2 r2
        obtain ⟨f, q1⟩ := r1.has
        obtain ⟨g, q2⟩ := r2.has
        cases e : r.o.int? with
        | none => simp only [e] at p; exact p.elim
        | some i =>
          cases e' : q.o.int? with
          | none => simp only [e, e'] at p; exact p.elim
          | some j =>
            simp only [e, e'] at p
            split at p
            · rename_i hj
              rw [O.int?_eq e] at q1
              rw [O.int?_eq e'] at q2
              exact ⟨i, j, by rw [q1.intV, q2.intV], ⟨(okR_lt (Bool.and_eq_true_iff.mp hj).1).1, (okR_lt (Bool.and_eq_true_iff.mp hj).1).2, (okR_lt (Bool.and_eq_true_iff.mp hj).2).1, (okR_lt (Bool.and_eq_true_iff.mp hj).2).2⟩, p _ F2 H2 ((r1.nx.trans r2.nx).toN s) iw_range⟩
            · exact p.elim
end

/-! ### for -/
def forL (g : O → En → Option En) (body : En → SR) (dead : List Nat) : List D → En → SR
  | [], en => .nx en
  | d :: ds, en => match g (.sh d) en with
    | none => .stuck
    | some en1 => match body en1 with
      | .nx en' => forL g body dead ds (wipeE en' dead)
      | .ct en' => forL g body dead ds (wipeE en' dead)
      | .bk en' => .nx (wipeE en' dead)
      | r => r
def mFor (it : En → Res (List D × En)) (g : O → En → Option En) (dead : List Nat) (body : En → SR) (en : En) : SR := .of (it en) fun r => forL g body dead r.1 (wipeE r.2 dead)
section
variable {X : Cx} {G : CC} {W : WX} {tg iter : Expr} {body : List Stmt} {pos : Pos} {mi : En → Res (List D × En)} {g : O → En → Option En} {mb : En → SR} {is : List Nat}
theorem NR.nx {B : Hp} {L σ : St} {F F' H H' : Hp} {fp : List Addr} {en : En} (h : NR G B L F F' H H' σ fp en) : ∃ fp', Nx F F' H H' fp fp' ∧ SRep G F' B H' L σ en fp' := h
theorem ds_for (dead : List Nat) (hp : PassesOwn (model X.prog X.w) X.A X.env X.xe) (hi : PI X tg iter (tI G W mi)) (hg : PG X tg (tG G is g)) (hb : PSs X body (tS G W mb)) (hc : X.calm = true := by rfl)
    (hs : ∀ x, foldedSetIterable iter X.env x = pure x := by intro _; rfl) : PS X (.For tg iter body [] pos) (tS G W (mFor mi g dead mb)) := (ps_for hp hc hi hg hb hs).imp fun D σ H h => by
  obtain ⟨F, B, L, en, fp, s, p⟩ := h
  refine ⟨F, B, L, en, fp, s, ?_⟩
  unfold mFor at p
  cases ea : mi en with
  | stuck => rw [ea] at p; exact p.elim
  | exc x e => rw [ea] at p; exact p
  | ok r =>
    obtain ⟨ds, en0⟩ := r
    rw [ea] at p
    simp only [SR.of] at p
    intro J F1 H1 n1 iw
    have n1' := n1.wipe dead
    refine ⟨fun i m σ' H' => m = ds.length - i ∧ i ≤ ds.length ∧ ∃ F' fp' en', SRep G F' B H' L σ' en' fp' ∧ Le F1 F' ∧ SPost G W F' B L H' fp' D (forL g mb dead (ds.drop i) en'), ⟨ds.length, by omega, Nat.zero_le _, ?_⟩, ?_⟩
    · obtain ⟨fp1, n, s1⟩ := n1'
      exact ⟨F1, fp1, _, s1, Le.refl F1, by rw [List.drop_zero]; exact SPost.after n p⟩
    · rintro i m σ' H' ⟨rfl, hi, F', fp', en', s', lf, p'⟩
      obtain ⟨w1, w2⟩ := iw F' H' lf s'.lf s'.lb
      by_cases hlt : i < ds.length
      · right
        have hd : ds[i]? = some ds[i] := List.getElem?_eq_getElem hlt
        obtain ⟨go, yl⟩ := w1 i _ hd
        rw [List.drop_eq_getElem_cons hlt] at p'
        refine ⟨go, fun σ2 H2 => i + 1 ≤ ds.length ∧ ∃ F2 fp2 en2, SRep G F2 B H2 L σ2 en2 fp2 ∧ Le F1 F2 ∧ SPost G W F2 B L H2 fp2 D (forL g mb dead (ds.drop (i + 1)) (wipeE en2 dead)), fun σ2 H2 q => ?_, fun x H2 y => ?_⟩
        · obtain ⟨h1, F2, fp2, en2, s2, l2, p2⟩ := q
          obtain ⟨fp3, s3, sb⟩ := s2.wipe dead
          exact ⟨ds.length - (i + 1), by omega, rfl, h1, F2, fp3, _, s3, l2, SPost.after ((Nx.refl s2.lf).sub fun a m => sb.mem m) p2⟩
        · obtain ⟨F2, n2, rep⟩ := yl x H2 y
          have s2 := s'.pure n2
          refine ⟨F2, B, L, en', fp', .sh ds[i], [], s2, .sh rep, by rw [List.append_nil]; exact s2.nd, fun _ m => (nomatch m), ?_⟩
          unfold forL at p'
          cases eg : g (.sh ds[i]) en' with
          | none => simp only [eg] at p'; exact p'.elim
          | some en1 =>
            simp only [eg] at p' ⊢
            intro σ3 fp3 m3 _ s3
            rw [List.append_nil] at m3
            have n23 : Nx F' F2 H' H2 fp' fp3 := (n2.wide0 fp').sub m3
            refine ⟨F2, B, L, en1, fp3, s3, ?_⟩
            have goon : ∀ en4, SPost G W F' B L H' fp' D (forL g mb dead (ds.drop (i + 1)) (wipeE en4 dead)) → NPost G F2 B L H2 fp3 (fun σ2 H2 => i + 1 ≤ ds.length ∧ ∃ F2 fp2 en2, SRep G F2 B H2 L σ2 en2 fp2 ∧ Le F1 F2 ∧ SPost G W F2 B L H2 fp2 D (forL g mb dead (ds.drop (i + 1)) (wipeE en2 dead))) en4 := fun en4 p4 σ4 F4 H4 n4 => by
              obtain ⟨fp4, n4, s4⟩ := n4
              exact ⟨hlt, F4, fp4, en4, s4, lf.trans (n23.trans n4).ff, SPost.after (n23.trans n4) p4⟩
            cases eb : mb en1 with
            | nx en4 => rw [eb] at p'; exact goon en4 p'
            | ct en4 => rw [eb] at p'; exact goon en4 p'
            | bk en4 => rw [eb] at p'; exact fun σ4 F4 H4 n4 => p' σ4 F4 H4 ((n4.wipe dead).after n23)
            | rt o en4 => rw [eb] at p'; exact fun v σ4 F4 H4 n4 => p' v σ4 F4 H4 (n4.after n23)
            | exc x en4 => rw [eb] at p'; exact EPost.after n23 p'
            | stuck => rw [eb] at p'; exact p'.elim
      · left
        have e : i = ds.length := by omega
        subst e
        refine ⟨w2, ?_⟩
        rw [List.drop_length] at p'
        exact p' σ' F' H' (.refl s')
end

/-! ### while -/
def whileL (t : En → Res Bool) (body : En → SR) (dead : List Nat) : Nat → En → SR
  | 0, _ => .stuck
  | n + 1, en => .of (t en) fun k => if k then (match body en with
      | .nx en' => whileL t body dead n (wipeE en' dead)
      | .ct en' => whileL t body dead n (wipeE en' dead)
      | .bk en' => .nx (wipeE en' dead)
      | r => r) else .nx en
def mWhile (fuel : En → Nat) (t : En → Res Bool) (dead : List Nat) (body : En → SR) (en : En) : SR := whileL t body dead (fuel en) (wipeE en dead)
section
variable {X : Cx} {G : CC} {W : WX} {c : Expr} {body : List Stmt} {pos : Pos} {t : En → Res Bool} {mb : En → SR}
theorem ds_while (fuel : En → Nat) (dead : List Nat) (hp : PassesOwn (model X.prog X.w) X.A X.env X.xe) (hc : PT X c (tT G W t)) (hb : PSs X body (tS G W mb)) : PS X (.While c body [] pos) (tS G W (mWhile fuel t dead mb)) := (ps_while hp hc hb).imp fun D σ H h => by
  obtain ⟨F, B, L, en, fp, s, p⟩ := h
  unfold mWhile at p
  refine ⟨fun m σ' H' => ∃ F' fp' en', SRep G F' B H' L σ' en' fp' ∧ SPost G W F' B L H' fp' D (whileL t mb dead m en'), ⟨fuel en, ?_⟩, ?_⟩
  · obtain ⟨fp2, s2, sb⟩ := s.wipe dead
    exact ⟨F, fp2, _, s2, SPost.after ((Nx.refl s.lf).sub fun a m => sb.mem m) p⟩
  · rintro m σ' H' ⟨F', fp', en', s', p'⟩
    cases m with
    | zero => exact p'.elim
    | succ m =>
      unfold whileL at p'
      refine ⟨F', B, L, en', fp', s', ?_⟩
      cases et : t en' with
      | stuck => rw [et] at p'; exact p'.elim
      | exc x e => rw [et] at p'; exact p'
      | ok k =>
        rw [et] at p'
        simp only [SR.of] at p'
        intro F1 H1 n1
        cases k with
        | false =>
          rw [if_neg Bool.false_ne_true]
          exact p' σ' F1 H1 (n1.toN s')
        | true =>
          rw [if_pos rfl]
          simp only [if_true] at p'
          refine ⟨fun σ2 H2 => ∃ F2 fp2 en2, SRep G F2 B H2 L σ2 en2 fp2 ∧ SPost G W F2 B L H2 fp2 D (whileL t mb dead m (wipeE en2 dead)), fun σ2 H2 q => ?_, F1, B, L, en', fp', s'.pure n1, ?_⟩
          · obtain ⟨F2, fp2, en2, s2, p2⟩ := q
            obtain ⟨fp3, s3, sb⟩ := s2.wipe dead
            exact ⟨m, Nat.lt_succ_self m, F2, fp3, _, s3, SPost.after ((Nx.refl s2.lf).sub fun a m => sb.mem m) p2⟩
          · have n1w := n1.wide0 fp'
            have goon : ∀ en4, SPost G W F' B L H' fp' D (whileL t mb dead m (wipeE en4 dead)) → NPost G F1 B L H1 fp' (fun σ2 H2 => ∃ F2 fp2 en2, SRep G F2 B H2 L σ2 en2 fp2 ∧ SPost G W F2 B L H2 fp2 D (whileL t mb dead m (wipeE en2 dead))) en4 := fun en4 p4 σ4 F4 H4 n4 => by
              obtain ⟨fp4, n4, s4⟩ := n4
              exact ⟨F4, fp4, en4, s4, SPost.after (n1w.trans n4) p4⟩
            cases eb : mb en' with
            | nx en4 => rw [eb] at p'; exact goon en4 p'
            | ct en4 => rw [eb] at p'; exact goon en4 p'
            | bk en4 => rw [eb] at p'; exact fun σ4 F4 H4 n4 => p' σ4 F4 H4 ((n4.wipe dead).after n1w)
            | rt o en4 => rw [eb] at p'; exact fun v σ4 F4 H4 n4 => p' v σ4 F4 H4 (n4.after n1w)
            | exc x en4 => rw [eb] at p'; exact EPost.after n1w p'
            | stuck => rw [eb] at p'; exact p'.elim
end

/-! ### comprehensions -/
abbrev W0 : WX := fun _ _ _ _ => False
/-- [elt for target in .. if ..], pure parts -/
def lcL (g : O → En → Option En) (t : En → Res Bool) (elt : En → Res R) (en : En) : List D → Option (List O)
  | [] => some []
  | d :: ds => match g (.sh d) en with
    | none => none
    | some en1 => match t en1 with
      | .ok true => match elt en1 with
        | .ok (.own o) => (lcL g t elt en ds).map (o :: ·)
        | _ => none
      | .ok false => lcL g t elt en ds
      | _ => none
/-- a pure source of a comprehension -/
def JPost (G : CC) (W : WX) (F B : Hp) (L : St) (H : Hp) (fp : List Addr) (R : It → Hp → Prop) : Res (List D) → Prop
  | .ok r => ∀ J F' H', Nx F F' H H' [] [] → IW G F' H' J r → R J H'
  | .exc x en' => EPost G W F B L H fp x en'
  | .stuck => False
def tJ (G : CC) (W : WX) (m : En → Res (List D)) : TI := fun σ H R => ∃ F B L en fp, SRep G F B H L σ en fp ∧ JPost G W F B L H fp R (m en)
def mLc (it : En → Res (List D)) (vs : List Nat) (g : O → En → Option En) (t : En → Res Bool) (elt : En → Res R) (en : En) : Res R := (it en).bnd fun ds => if vs.all fun i => Sl.free? en[i]? then (match lcL g t elt (wipeE en vs) ds with
    | some os => if os.length ≤ ML then .ok (.own (.lst os)) else .stuck
    | none => .stuck) else .stuck
def mYes (_ : En) : Res Bool := .ok true
theorem wipe_get {σ : St} : ∀ {vs : List Nat} {i : Nat}, i ∉ vs → (wipe σ vs)[i]? = σ[i]?
  | [], _, _ => rfl
  | v :: vs, i, h => by
    unfold wipe
    rw [List.mem_cons, not_or] at h
    rw [List.getElem?_set_ne (Ne.symm h.1)]
    exact wipe_get h.2
theorem wipe_in {σ : St} : ∀ {vs : List Nat} {i : Nat}, i ∈ vs → i < σ.length → (wipe σ vs)[i]? = some none
  | v :: vs, i, h, hl => by
    unfold wipe
    by_cases e : v = i
    · subst e
      rw [List.getElem?_set_self (by rw [wipe_length]; exact hl)]
    · rw [List.getElem?_set_ne e]
      exact wipe_in ((List.mem_cons.mp h).resolve_left (Ne.symm e)) hl
theorem wipe_out_eq {σ σ' : St} {is vs : List Nat} (h : OutEq is (wipe σ vs) σ') (hs : ∀ i ∈ is, i ∈ vs) : wipe σ' vs = wipe σ vs := by
  have hl : σ'.length = σ.length := by rw [h.1, wipe_length]
  apply List.ext_getElem?
  intro j
  by_cases m : j ∈ vs
  · by_cases hj : j < σ.length
    · rw [wipe_in m hj, wipe_in m (by omega)]
    · rw [List.getElem?_eq_none (by rw [wipe_length]; omega), List.getElem?_eq_none (by rw [wipe_length]; omega)]
  · rw [wipe_get m, h.2 j fun q => m (hs j q)]
section
variable {G : CC} {F B H : Hp} {L σ : St} {en : En} {fp : List Addr}
theorem wipe1_get {en : En} {i j : Nat} (h : Sl.free? en[j]? = true) : Sl.free? (wipe1 en i)[j]? = true := by
  unfold wipe1
  split
  · exact h
  · by_cases e : i = j
    · subst e
      obtain ⟨y, h1, _⟩ := Sl.free_ok h
      rw [List.getElem?_set_self (List.getElem?_eq_some_iff.mp h1).1]
      rfl
    · rw [List.getElem?_set_ne e]; exact h
theorem wipeE_get {en : En} {j : Nat} (h : Sl.free? en[j]? = true) : ∀ is : List Nat, Sl.free? (wipeE en is)[j]? = true
  | [] => h
  | _ :: is => wipe1_get (wipeE_get h is)
theorem SRep.wipes (s : SRep G F B H L σ en fp) : ∀ {vs : List Nat}, (vs.all fun i => Sl.free? en[i]?) = true → ∃ fp', SRep G F B H L (L2.wipe σ vs) (wipeE en vs) fp' ∧ fp'.Sublist fp
  | [], _ => ⟨fp, s, List.Sublist.refl _⟩
  | v :: vs, h => by
    rw [List.all_cons, Bool.and_eq_true] at h
    obtain ⟨fp1, s1, sb1⟩ := s.wipes h.2
    have hf := wipeE_get h.1 vs
    obtain ⟨y, h1, h2⟩ := Sl.free_ok hf
    have nl : ∀ o, (wipeE en vs)[v]? ≠ some (.lent o) := fun o e => by
      rw [h1] at e
      cases e
      cases h2
    obtain ⟨fp2, q, sb2⟩ := s1.sl.forget (i := v) none nl
    refine ⟨fp2, ?_, sb2.trans sb1⟩
    have e : wipeE en (v :: vs) = (wipeE en vs).set v .un := by
      show DL.wipe1 (wipeE en vs) v = _
      unfold DL.wipe1
      split
      · rename_i o e
        exact absurd e (nl o)
      · rfl
    rw [e]
    exact s1.sub q sb2
end
section
variable {X : Cx} {G : CC} {W : WX} {c : Expr}
theorem dts_nil : PTs X [] (tT G W mYes) := ⟨fun pins s σ H Q I h => pts_nil.run pins s σ H Q I (by
  obtain ⟨F, B, L, en, fp, s, p⟩ := h
  exact p F H (Nx.refl s.lf))⟩
theorem dts_one {t : En → Res Bool} (h : PT X c (tT G W t)) : PTs X [c] (tT G W t) := pts_one h
end
section
variable {X : Cx} {G : CC} {W : WX} {elt tg iter : Expr} {ifs : List Expr} {scope : Scope} {own : List (Str × Nat)} {pos : Pos} {mi : En → Res (List D)} {g : O → En → Option En} {t : En → Res Bool} {me : En → Res R} {is : List Nat}
theorem PR.addLast {F1 F' F2 H1 H' H2 : Hp} {D : Addr} {os : List O} {y : V} {o : O} (a : PR G F1 F' H1 H' (.ref D) (.own (.lst os))) (n : Nx F' F2 H' H2 [] []) {F3 H3 : Hp} (b : PR G F2 F3 H2 H3 y (.own o)) (hz : os.length < ML) :
    ∃ acc, H3 D = some (.lst acc) ∧ acc.length < sizeLine ∧ PR G F1 F3 H1 (upd H3 D (.lst (acc ++ [y]))) (.ref D) (.own (.lst (os ++ [o]))) := by
  obtain ⟨fd, n1, q1, nd1, fr1⟩ := a
  obtain ⟨f5, n5, q5, nd5, fr5⟩ := b
  have n2 : Nx F' F3 H' H3 [] f5 := n.trans n5
  have dom1 := q1.dom
  cases q1 with
  | @lst _ acc _ f hD r =>
    have hD3 : H3 D = some (.lst acc) := n2.keep D _ hD
    have out5 : ∀ a ∈ D :: f, a ∉ f5 := fun a m m' => by
      obtain ⟨u, h⟩ := dom1 a m
      rcases n2.fr a m' with x | x
      · cases x
      · rw [h] at x; cases x
    have frD : ∀ a ∈ D :: f, F3 a = none := fun a m => by
      cases e : F3 a with
      | none => rfl
      | some u =>
        obtain ⟨w, h⟩ := dom1 a m
        rcases n2.nw a (fr1 a m) (by rw [e]; exact fun z => by cases z) with x | x
        · rw [h] at x; cases x
        · cases x
    refine ⟨acc, hD3, by rw [r.length, ← ML_eq]; exact hz, D :: (f ++ f5), ⟨n1.ff.trans n2.ff, fun a u e _ => ?_, fun a h h' => ?_, fun a m => ?_, ?_⟩, .lst upd_same ?_, ?_, fun a m => ?_⟩
    · have hne : a ≠ D := fun z => by
        subst z
        rcases n1.fr a (List.mem_cons_self ..) with x | x
        · cases x
        · rw [e] at x; cases x
      rw [upd_ne hne]
      exact n2.keep a u (n1.keep a u e)
    · exact ((n1.drop).trans n2.drop).nw a h h'
    · have m' : a ∈ (D :: f) ++ f5 := m
      rcases List.mem_append.mp m' with m | m
      · exact n1.fr a m
      · rcases n2.fr a m with x | x
        · cases x
        · right
          cases e : H1 a with
          | none => rfl
          | some u => rw [n1.keep a u e] at x; cases x
    · intro a u e
      have hne : a ≠ D := fun z => by
        subst z
        rw [frD a (List.mem_cons_self ..)] at e; cases e
      rw [upd_ne hne]
      exact n2.le a u e
    · have nDf : D ∉ f := (List.nodup_cons.mp nd1).1
      have nD5 : D ∉ f5 := out5 D (List.mem_cons_self ..)
      refine Owns.append (r.le n2.ff fun a u m e => ?_) (.one (q5.le (Le.refl F3) fun a u m e => ?_))
      · rw [upd_ne (show a ≠ D from fun z => nDf (by rw [← z]; exact m))]
        exact n2.keep a u e
      · rw [upd_ne (show a ≠ D from fun z => nD5 (by rw [← z]; exact m))]
        exact e
    · have : ((D :: f) ++ f5).Nodup := List.nodup_append.mpr ⟨nd1, nd5, fun a m b m' e => out5 a m (e ▸ m')⟩
      exact this
    · have m' : a ∈ (D :: f) ++ f5 := m
      exact (List.mem_append.mp m').elim (frD a) (fr5 a)
theorem lcL_cons {en : En} {d : D} {ds : List D} {os : List O} (h : lcL g t me en (d :: ds) = some os) : ∃ en1, g (.sh d) en = some en1 ∧ ((t en1 = .ok false ∧ lcL g t me en ds = some os) ∨ ∃ o os', t en1 = .ok true ∧ me en1 = .ok (.own o) ∧ lcL g t me en ds = some os' ∧ os = o :: os') := by
  unfold lcL at h
  cases eg : g (.sh d) en with
  | none => simp only [eg] at h; cases h
  | some en1 =>
    simp only [eg] at h
    refine ⟨en1, rfl, ?_⟩
    cases et : t en1 with
    | stuck => simp only [et] at h; cases h
    | exc _ _ => simp only [et] at h; cases h
    | ok k =>
      cases k with
      | false => simp only [et] at h; exact .inl ⟨rfl, h⟩
      | true =>
        simp only [et] at h
        cases ee : me en1 with
        | stuck => simp only [ee] at h; cases h
        | exc _ _ => simp only [ee] at h; cases h
        | ok r =>
          cases r with
          | bor o => simp only [ee] at h; cases h
          | own o =>
            simp only [ee, Option.map_eq_some_iff] at h
            obtain ⟨os', h1, h2⟩ := h
            exact .inr ⟨o, os', rfl, rfl, h1, h2.symm⟩
theorem tLc_D {vs : List Nat} {σ : St} {H : Hp} {Q : VK} (hin : ∀ i ∈ is, i ∈ vs) (h : tD G W (mLc mi vs g t me) σ H Q) : tLc (tJ G W mi) (tG G is g) (tT G W0 t) (tD G W0 me) vs σ H Q := by
  obtain ⟨F, B, L, en, fp, s, p⟩ := h
  refine ⟨F, B, L, en, fp, s, ?_⟩
  unfold mLc at p
  cases ea : mi en with
  | stuck => rw [ea] at p; exact p.elim
  | exc x e => rw [ea] at p; exact p
  | ok ds =>
    rw [ea] at p
    simp only [Res.bnd] at p
    split at p
    · rename_i hfree
      intro J F1 H1 n1 iw D hD
      cases el : lcL g t me (wipeE en (vs)) ds with
      | none => simp only [el] at p; exact p.elim
      | some os =>
        simp only [el] at p
        split at p
        · rename_i hz
          have s1 := s.pure n1
          obtain ⟨fpw, sw, _⟩ := s1.wipes hfree
          have init : PR G F1 F1 H1 (upd H1 D (.lst [])) (.ref D) (.own (.lst [])) := ⟨[D], Nx.newO n1.le hD [D] (fun a m => .inr (by simpa using m)), .lst upd_same .nil, by simp, fun a m => by
            have e : a = D := by simpa using m
            rw [e]; exact n1.le.noneOf hD⟩
          refine ⟨fun i m H' => m = ds.length - i ∧ i ≤ ds.length ∧ ∃ F' o1 o2, PR G F1 F' H1 H' (.ref D) (.own (.lst o1)) ∧ os = o1 ++ o2 ∧ lcL g t me (wipeE en (vs)) (ds.drop i) = some o2, ⟨ds.length, by omega, Nat.zero_le _, F1, [], os, init, rfl, by rw [List.drop_zero]; exact el⟩, ?_⟩
          rintro i m H' ⟨rfl, hi', F', o1, o2, pr, eo, e2⟩
          have nx := pr.nx
          obtain ⟨w1, w2⟩ := iw F' H' nx.ff nx.le fun a u e => nx.keep a u e
          by_cases hlt : i < ds.length
          · right
            have hd : ds[i]? = some ds[i] := List.getElem?_eq_getElem hlt
            obtain ⟨go, yl⟩ := w1 i _ hd
            rw [List.drop_eq_getElem_cons hlt] at e2
            obtain ⟨en1, eg, alt⟩ := lcL_cons e2
            refine ⟨go, fun H2 => ∃ F2 o1 o2, PR G F1 F2 H1 H2 (.ref D) (.own (.lst o1)) ∧ os = o1 ++ o2 ∧ lcL g t me (wipeE en (vs)) (ds.drop (i + 1)) = some o2, fun H2 q => ⟨ds.length - (i + 1), by omega, rfl, by omega, q⟩, fun x H2 y => ?_⟩
            obtain ⟨F2, n2, rep⟩ := yl x H2 y
            have s2 := sw.pure (nx.trans n2)
            refine ⟨F2, B, L, wipeE en (vs), fpw, .sh ds[i], [], s2, .sh rep, by rw [List.append_nil]; exact s2.nd, fun _ m => (nomatch m), ?_⟩
            rw [eg]
            intro σ3 fp3 m3 oe s3
            refine ⟨wipe_out_eq oe hin, F2, B, L, en1, fp3, s3, ?_⟩
            rcases alt with ⟨et, e3⟩ | ⟨o, os', et, ee, e3, e4⟩
            · rw [et]
              intro F4 H4 n4
              rw [if_neg Bool.false_ne_true]
              refine ⟨F4, o1, o2, ?_, eo, e3⟩
              obtain ⟨fd, a1, a2, a3, a4⟩ := pr
              have n24 := n2.trans n4
              refine ⟨fd, ?_, a2.le n24.ff fun c u _ e => n24.keep c u e, a3, fun c m => ?_⟩
              · have := a1.trans (n24.wide0 fd)
                exact this
              · cases e : F4 c with
                | none => rfl
                | some u =>
                  obtain ⟨w, h⟩ := a2.dom c m
                  rcases n24.nw c (a4 c m) (by rw [e]; exact fun z => by cases z) with x | x
                  · rw [h] at x; cases x
                  · cases x
            · rw [et]
              intro F4 H4 n4
              rw [if_pos rfl]
              refine ⟨F4, B, L, en1, fp3, s3.pure n4, ?_⟩
              rw [ee]
              intro y F5 H5 r5
              obtain ⟨acc, h1, h2, h3⟩ := pr.addLast (n2.trans n4) r5 (by rw [eo, List.length_append, e4, List.length_cons] at hz; omega)
              exact ⟨acc, h1, h2, F5, o1 ++ [o], os', h3, by rw [eo, e4, List.append_assoc]; rfl, e3⟩
          · left
            have e : i = ds.length := by omega
            subst e
            refine ⟨w2, ?_⟩
            rw [List.drop_length] at e2
            cases e2
            rw [List.append_nil] at eo
            subst eo
            exact p _ F' H' (PR.after n1 pr)
        · exact p.elim
    · exact p.elim
theorem dp_lc (hN : X.N.Nodup) (hi : PI X tg iter (tJ G W mi)) (ok : BlkOk X.N X.env.scope scope own)
    (hg : ∀ (s : Shared) (H : Hp) (C : Addr) (cl : List (Str × Addr)) (fp : List Addr), PG (X.blk s H scope (compEnvC scope cl C X.env) fp) tg (tG G is g))
    (ht : ∀ (s : Shared) (H : Hp) (C : Addr) (cl : List (Str × Addr)) (fp : List Addr), PTs (X.blk s H scope (compEnvC scope cl C X.env) fp) ifs (tT G W0 t))
    (he : ∀ (s : Shared) (H : Hp) (C : Addr) (cl : List (Str × Addr)) (fp : List Addr), PE (X.blk s H scope (compEnvC scope cl C X.env) fp) elt (tD G W0 me))
    (hin : ∀ i ∈ is, i ∈ own.map (·.2) := by decide) (hc : X.calm = true := by rfl) (hs : ∀ x, foldedSetIterable iter X.env x = pure x := by intro _; rfl) :
    PE X (.ListComp elt [⟨tg, iter, ifs, 0⟩] scope pos) (tD G W (mLc mi (own.map (·.2)) g t me)) := (pe_lc hc hN hi ok hg ht he hs).imp fun _ _ _ h => tLc_D hin h
theorem ds_setLc (i : Nat) {y : Str} {py spos : Pos} (hN : X.N.Nodup) (hi : PI X tg iter (tJ G W mi)) (ok : BlkOk X.N X.env.scope scope own)
    (hg : ∀ (s : Shared) (H : Hp) (C : Addr) (cl : List (Str × Addr)) (fp : List Addr), PG (X.blk s H scope (compEnvC scope cl C X.env) fp) tg (tG G is g))
    (ht : ∀ (s : Shared) (H : Hp) (C : Addr) (cl : List (Str × Addr)) (fp : List Addr), PTs (X.blk s H scope (compEnvC scope cl C X.env) fp) ifs (tT G W0 t))
    (he : ∀ (s : Shared) (H : Hp) (C : Addr) (cl : List (Str × Addr)) (fp : List Addr), PE (X.blk s H scope (compEnvC scope cl C X.env) fp) elt (tD G W0 me))
    (hin : ∀ i ∈ is, i ∈ own.map (·.2) := by decide) (hy : X.N[i]? = some y := by rfl) (hyl : X.env.scope.names.lookup y = some .local := by rfl)
    (hsw : swapsWith (.ListComp elt [⟨tg, iter, ifs, 0⟩] scope pos) (some (.Name y py)) spos.line X.env = pure true := by exact sw_true rfl rfl rfl (by decide +kernel)) (hc : X.calm = true := by rfl) (hs : ∀ x, foldedSetIterable iter X.env x = pure x := by intro _; rfl) :
    PS X (.Assign [.Name y py] (.ListComp elt [⟨tg, iter, ifs, 0⟩] scope pos) spos) (tS G W (mSet i (mLift (mLc mi (own.map (·.2)) g t me)))) :=
  (ps_setLc hc hN hy hyl hsw hi ok hg ht he hs).imp fun D σ H h => tLc_D (Q := fun x H1 => D.nx (σ.set i (some x)) H1) hin (tLift_D (tSet_D h))
end

/-! ### pure sources -/
def mJRng1 (ma : En → Res R) (en : En) : Res (List D) := (ma en).bnd fun r => match r.o.int? with
  | some j => if okR j then .ok (rangeD 0 j.toNat) else .stuck
  | none => .stuck
/-- what stands, walked where nothing changes -/
def mJ (m : En → Res R) (en : En) : Res (List D) := (m en).bnd fun r => match r with
  | .own o => (match o.fz.seqI with | some ds => .ok ds | none => .stuck)
  | .bor o => (match o.seq? with | some ds => .ok ds | none => .stuck)
section
variable {X : Cx} {G : CC} {W : WX} {tg a e : Expr} {ma m : En → Res R} {pos p : Pos}
theorem dj_range1 (hm : X.mg "range" = none) (ha : PE X a (tD G W ma)) (hg : Gl X "range" := by rfl) (hs : starEach [a] X.env = [(false, eval a X.env)] := by rfl) : PI X tg (.Call (.Name "range" p) [a] [] pos) (tJ G W (mJRng1 ma)) :=
  (pi_range1 hg hm (pa_cons ha pa_nil hs) hs).imp fun σ H R h => by
    obtain ⟨F, B, L, en, fp, s, p⟩ := h
    refine ⟨F, B, L, en, fp, s, ?_⟩
    unfold mJRng1 at p
    cases ea : ma en with
    | stuck => rw [ea] at p; exact p.elim
    | exc x e => rw [ea] at p; exact p
    | ok r =>
      rw [ea] at p
      simp only [Res.bnd] at p
      intro v F1 H1 r1
      obtain ⟨f, q⟩ := r1.has
      cases e : r.o.int? with
      | none => simp only [e] at p; exact p.elim
      | some j =>
        simp only [e] at p
        split at p
        · rename_i hj
          rw [O.int?_eq e] at q
          exact ⟨j, by rw [q.intV], (okR_lt hj).1, (okR_lt hj).2, p _ F1 H1 r1.nx iw_range⟩
        · exact p.elim
theorem PR.freeze {F F' H H' : Hp} {v : V} {o : O} (h : PR G F F' H H' v (.own o)) : LkG (fun H2 => ∃ F2, Nx F F2 H H2 [] [] ∧ Rep G F2 v o.fz) H' := by
  obtain ⟨f, n, q, nd, fr⟩ := h
  refine ⟨dnodes H' f, dnodes_b nd, fun H2 lk => ?_⟩
  have l := frz_ge (H := H2) fr
  have rep := q.frozen l lk.node
  refine ⟨frz F' H2 f, ⟨n.ff.trans l, fun a u e _ => ?_, fun a h h' => ?_, fun a m => (nomatch m), lk.frz_le n.le fr⟩, rep⟩
  · rw [lk.out fun m => ?_]
    · exact n.keep a u e
    · rcases n.fr a m with h | h
      · cases h
      · rw [h] at e; cases e
  · by_cases m : a ∈ f
    · exact .inl ((n.fr a m).resolve_left fun m => nomatch m)
    · rw [frz_out m] at h'
      exact n.nw a h h'
/-- a thing of one's own, frozen -/
def mFzO (m : En → Res R) (en : En) : Res R := (m en).bnd fun r => match r with
  | .own o => .ok (.own (.sh o.fz))
  | .bor o => .ok (.bor o)
theorem dp_fzO {X : Cx} {W : WX} {e : Expr} {m : En → Res R} (h : PE X e (tD G W m)) : PE X e (tD G W (mFzO m)) := (pe_lk h).imp fun σ H Q h => by
  obtain ⟨F, B, L, en, fp, s, p⟩ := h
  refine ⟨F, B, L, en, fp, s, ?_⟩
  unfold mFzO at p
  cases ea : m en with
  | stuck => rw [ea] at p; exact p.elim
  | exc x e => rw [ea] at p; exact p
  | ok r =>
    rw [ea] at p
    simp only [Res.bnd] at p
    cases r with
    | bor o => exact fun v F1 H1 r1 => .of (p v F1 H1 r1)
    | own o =>
      intro v F1 H1 r1
      exact r1.freeze.imp fun H2 z => by
        obtain ⟨F2, n2, rep⟩ := z
        exact p v F2 H2 ⟨[], n2, .sh rep, List.nodup_nil, fun _ m => nomatch m⟩
theorem tJ_D {K : PySem.W.Frag} (hK : G.K = K) {σ : St} {H : Hp} {R : It → Hp → Prop} (h : tJ G W (mJ m) σ H R) : iList K (tD G W (mFzO m)) σ H R ∨ iTup K (tD G W (mFzO m)) σ H R ∨ iStr (tD G W (mFzO m)) σ H R ∨ iKeysN G.P G.w (tD G W (mFzO m)) σ H R := by
  obtain ⟨F, B, L, en, fp, s, p⟩ := h
  unfold mJ at p
  cases ea : m en with
  | stuck => rw [ea] at p; exact p.elim
  | exc x e => rw [ea] at p; exact .inl ⟨F, B, L, en, fp, s, by unfold mFzO; rw [ea]; exact p⟩
  | ok r =>
    rw [ea] at p
    simp only [Res.bnd] at p
    cases r with
    | own o =>
      simp only at p
      cases e2 : o.fz.seqI with
      | none => simp only [e2] at p; exact p.elim
      | some ds =>
        simp only [e2] at p
        have key : ∀ v F1 H1, PR G F F1 H H1 v (.own (.sh o.fz)) → (∃ l, o.fz = .lst l ∧ ∃ a, v = .ref a ∧ (∃ xs, SqL K H1 a xs) ∧ R (Itl K a) H1) ∨ (∃ l, o.fz = .tup l ∧ ∃ a, v = .ref a ∧ (∃ xs, SqT K H1 a xs) ∧ R (Itt K a) H1) ∨ (∃ s, o.fz = .str s ∧ ∃ x, v = .str x ∧ R (Its x) H1) ∨
            ∃ b l, o.fz = .dct b l ∧ ∃ a u, v = .ref a ∧ ((∃ kvs, H1 a = some (.frz u (.dK kvs)) ∧ R (Itk a u kvs) H1) ∨ ∃ kvs, H1 a = some (.frz u (DN G.P G.w a kvs)) ∧ R (Itkn G.P G.w a u kvs) H1) := fun v F1 H1 r1 => by
          have n2 := r1.nx
          obtain ⟨_, n, q, _⟩ := r1
          exact iw_of (B := H1) hK n2.le q.repOf e2 (R := R) fun J w => p J F1 H1 n2 w
        rcases D.kind e2 with ⟨l, hl⟩ | ⟨l, hl⟩ | ⟨l, hl⟩ | ⟨b, l, hl⟩
        · refine .inl ⟨F, B, L, en, fp, s, ?_⟩
          unfold mFzO
          rw [ea]
          intro v F1 H1 r1
          rcases key v F1 H1 r1 with ⟨_, _, q⟩ | ⟨_, h, _⟩ | ⟨_, h, _⟩ | ⟨_, _, h, _⟩
          · exact q
          · rw [hl] at h; cases h
          · rw [hl] at h; cases h
          · rw [hl] at h; cases h
        · refine .inr (.inl ⟨F, B, L, en, fp, s, ?_⟩)
          unfold mFzO
          rw [ea]
          intro v F1 H1 r1
          rcases key v F1 H1 r1 with ⟨_, h, _⟩ | ⟨_, _, q⟩ | ⟨_, h, _⟩ | ⟨_, _, h, _⟩
          · rw [hl] at h; cases h
          · exact q
          · rw [hl] at h; cases h
          · rw [hl] at h; cases h
        · refine .inr (.inr (.inl ⟨F, B, L, en, fp, s, ?_⟩))
          unfold mFzO
          rw [ea]
          intro v F1 H1 r1
          rcases key v F1 H1 r1 with ⟨_, h, _⟩ | ⟨_, h, _⟩ | ⟨_, _, q⟩ | ⟨_, _, h, _⟩
          · rw [hl] at h; cases h
          · rw [hl] at h; cases h
          · exact q
          · rw [hl] at h; cases h
        · refine .inr (.inr (.inr ⟨F, B, L, en, fp, s, ?_⟩))
          unfold mFzO
          rw [ea]
          intro v F1 H1 r1
          rcases key v F1 H1 r1 with ⟨_, h, _⟩ | ⟨_, h, _⟩ | ⟨_, h, _⟩ | ⟨_, _, _, q⟩
          · rw [hl] at h; cases h
          · rw [hl] at h; cases h
          · rw [hl] at h; cases h
          · exact q
    | bor o =>
      simp only at p
      cases e2 : o.seq? with
      | none => simp only [e2] at p; exact p.elim
      | some ds =>
        simp only [e2] at p
        subst hK
        unfold O.seq? at e2
        cases e3 : o.lst? with
        | some l =>
          rw [e3] at e2
          cases e2
          refine .inl ⟨F, B, L, en, fp, s, ?_⟩
          unfold mFzO
          rw [ea]
          intro v F1 H1 r1
          obtain ⟨f, n, q⟩ := r1
          obtain ⟨a, vs, rfl, h, r⟩ := q.lstOf n.le e3
          exact ⟨a, rfl, ⟨vs, h⟩, p _ F1 H1 n (iw_list (.inr h) r)⟩
        | none =>
          rw [e3] at e2
          refine .inr (.inl ⟨F, B, L, en, fp, s, ?_⟩)
          unfold mFzO
          rw [ea]
          intro v F1 H1 r1
          obtain ⟨f, n, q⟩ := r1
          obtain ⟨a, vs, rfl, h, r⟩ := q.tupOf n.le e2
          exact ⟨a, rfl, ⟨vs, h⟩, p _ F1 H1 n (iw_tup (.inr h) r)⟩
theorem dj_val (he : PE X e (tD G W m)) (hK : G.K = X.K := by rfl) : PI X tg e (tJ G W (mJ m)) :=
  ((pi_list (dp_fzO he)).or ((pi_tup (dp_fzO he)).or ((pi_str (dp_fzO he)).or (pi_keysN (dp_fzO he))))).imp fun σ H R h => tJ_D hK h
end
end DL

set_option maxHeartbeats 1000000
/-! DK: defs and their calls -/
namespace DL
open PySem PySem.Spec L2
open PyProof.Rows hiding St

/-- how a def ends -/
inductive FR where
  | ok (o : O) | exc (x : Ex) | stuck
def SR.fr : SR → FR
  | .rt o _ => .ok o
  | .nx _ => .ok (.sh .non)
  | .exc x _ => .exc x
  | _ => .stuck
def arg1 : O → Sl
  | .sh d => .own (.sh d)
  | o => .bor o
def args0 (n : Nat) (os : List O) : En := os.map arg1 ++ List.replicate n .un
/-- a def by its body, n names behind the parameters -/
def fnD (n : Nat) (b : En → SR) (os : List O) : FR := (b (args0 n os)).fr

section
variable (G : CC)
def FPost (F H : Hp) (Q : VK) (E : XK) : FR → Prop
  | .ok o => ∀ v F' H', PR G F F' H H' v (.own o) → Q v H'
  | .exc x => ∀ cls d F' H', Nx F F' H H' [] [] → XRep G F' x cls d → E cls d H'
  | .stuck => False
/-- the promise of a def that changes nothing -/
def spP (n : Nat) (m : List O → FR) : Sp := fun vs H Q E => vs.length = n ∧ ∃ F os, Le F H ∧ Vws G F H vs os ∧ FPost G F H Q E (m os)
end
section
variable {G : CC} {F B H : Hp} {vs : List V} {os : List O}
theorem sls_un (F B H : Hp) : ∀ n : Nat, Sls G F B H (List.replicate n none) (List.replicate n none) (List.replicate n .un) []
  | 0 => .nil
  | n + 1 => .un (sls_un F B H n)
theorem Vws.len (h : Vws G F H vs os) : vs.length = os.length := by
  induction h with
  | nil => rfl
  | cons _ _ ih => exact congrArg (· + 1) ih
theorem sls_args (h : Vws G F H vs os) (n : Nat) : Sls G F H H (List.replicate (os.length + n) none) (vs.map some ++ List.replicate n none) (args0 n os) [] := by
  induction h with
  | nil => rw [List.length_nil, Nat.zero_add]; exact sls_un F H H n
  | @cons v o f vs os q r ih =>
    have e : (o :: os).length + n = (os.length + n) + 1 := by rw [List.length_cons]; omega
    rw [e, List.replicate_succ]
    show Sls G F H H _ (some v :: (vs.map some ++ List.replicate n none)) (arg1 o :: args0 n os) []
    cases o with
    | sh d =>
      cases q with
      | sh q => exact Sls.own (f := []) (.sh q) ih
    | _ => exact .bor q ih
theorem srep_args (l : Le F H) (h : Vws G F H vs os) (n : Nat) : SRep G F H H (List.replicate (os.length + n) none) (vs.map some ++ List.replicate n none) (args0 n os) [] :=
  ⟨l, Le.refl H, sls_args h n, List.nodup_nil, fun _ m => nomatch m⟩
end

section
variable {P : Program} {w : World} {K : PySem.W.Frag} {mg : Str → Option Value} {base : Heap} {G : CC} {k n : Nat} {x : Str} {b : En → SR}
/-- from a body's data to its promise -/
theorem fp_body {F H : Hp} {vs : List V} {os : List O} {Q : VK} {E : XK} {N ps : List Str} (l : Le F H) (h : Vws G F H vs os) (hn : N.length - vs.length = n) (p : FPost G F H Q E (fnD n b os)) :
    tS G (fun cls d _ H => E cls d H) b { nx := fun _ H' => Q .non H', rt := Q } (L2.start N vs) H := by
  unfold L2.start
  rw [hn]
  refine ⟨F, H, _, _, [], srep_args l h n, ?_⟩
  unfold fnD at p
  generalize b (args0 n os) = r at p
  cases r with
  | nx en =>
    rintro σ' F' H' ⟨fp', nx, s⟩
    exact p .non F' H' ⟨[], nx.drop, .sh .non, List.nodup_nil, fun _ m => nomatch m⟩
  | rt o en =>
    rintro v σ' F' H' ⟨fp', f, nx, s, q, nd, fr⟩
    exact p v F' H' ⟨f, nx.sub fun a m => List.mem_append_right _ m, q, (List.nodup_append.mp nd).2.1, fr⟩
  | exc x en =>
    rintro cls d σ F' H' ⟨fp', nx, s⟩ xr
    exact p cls d F' H' nx.drop xr
  | _ => exact p.elim
/-- a def by its name: m its data, dos the data of the defaults that fill up -/
structure Fnc (P : Program) (w : World) (K : PySem.W.Frag) (mg : Str → Option Value) (base : Heap) (G : CC) (k : Nat) (x : Str) (n : Nat) (m : List O → FR) (dos : List D) : Prop where
  ex : ∃ (f : Addr) (fd : FuncData) (ps : List Str) (ds : List Value) (dvs : List V), FnOk P w K mg base (L2.CX P w) k f fd ps (spP G n m) ∧ mg x = some (.ref f) ∧ PySem.W.keepIn K (.ref f) = true ∧ Binds K fd ps ds ∧ Vals dvs ds ∧ ∀ F, Reps G F dvs dos
/-- THE RULE of a def without defaults -/
theorem fn_ok {qual : Str} {st : Stmt} {f : Addr} {fd : FuncData} {N ps : List Str} (F : Fun K x qual st f fd) (S : FnScope N ps (defScope st))
    (hb : ∀ (cdv : Value) (A : Around) (outer : List Env) (s : Shared) (H : Hp) (E : XK), Room k (A.deeper (envOfC qual (defScope st) s.heap.objs.size f cdv)) →
      Takes (cxOf (L2.CX P w) P w K mg base N qual (defScope st) f cdv A outer s H E) (fun cls d _ H => E cls d H) →
      PSs (cxOf (L2.CX P w) P w K mg base N qual (defScope st) f cdv A outer s H E) (defBody st) (tS G (fun cls d _ H => E cls d H) b)) :
    FnOk P w K mg base (L2.CX P w) (k + 1) f fd ps (spP G ps.length (fnD (N.length - ps.length) b)) := by
  refine F.okX S (fun vs H Q E h => h.1) fun cdv A outer s H vs Q E hr h => ?_
  obtain ⟨hl, F0, os, l, vw, p⟩ := h
  exact ⟨_, hb cdv A outer s H E hr (takes_of rfl rfl rfl rfl), fp_body (ps := ps) l vw (by rw [hl]) p⟩
/-- .. with defaults -/
theorem fn_okD {qual : Str} {params : Arguments} {body : List Stmt} {scope : Scope} {dvs : List V} {f : Addr} {fd : FuncData} {N ps : List Str} (F : FunD K x qual params body scope dvs [] f fd) (S : FnScope N ps scope)
    (hb : ∀ (cdv : Value) (A : Around) (outer : List Env) (s : Shared) (H : Hp) (E : XK), Room k (A.deeper (envOfC qual scope s.heap.objs.size f cdv)) →
      Takes (cxOf (L2.CX P w) P w K mg base N qual scope f cdv A outer s H E) (fun cls d _ H => E cls d H) →
      PSs (cxOf (L2.CX P w) P w K mg base N qual scope f cdv A outer s H E) body (tS G (fun cls d _ H => E cls d H) b)) :
    FnOk P w K mg base (L2.CX P w) (k + 1) f fd ps (spP G ps.length (fnD (N.length - ps.length) b)) := by
  refine F.ok S (fun vs H Q E h => h.1) fun cdv A outer s H vs Q E hr h => ?_
  obtain ⟨hl, F0, os, l, vw, p⟩ := h
  exact ⟨_, hb cdv A outer s H E hr (takes_of rfl rfl rfl rfl), fp_body (ps := ps) l vw (by rw [hl]) p⟩
theorem fnc {f : Addr} {fd : FuncData} {ps : List Str} {m : List O → FR} (h : FnOk P w K mg base (L2.CX P w) k f fd ps (spP G n m)) (hm : mg x = some (.ref f)) (hk : PySem.W.keepIn K (.ref f) = true) (hb : Binds K fd ps []) : Fnc P w K mg base G k x n m [] :=
  ⟨f, fd, ps, [], [], h, hm, hk, hb, .nil, fun _ => .nil⟩
end

/-! ### calls -/
def mFn (n : Nat) (m : List O → FR) (dos : List D) (ms : En → Res (List R)) (en : En) : Res R := (ms en).bnd fun rs => if rs.length + dos.length = n then (match m (rs.map R.o ++ dos.map .sh) with
  | .ok o => .ok (.own o)
  | .exc x => .exc x en
  | .stuck => .stuck) else .stuck
section
variable {X : Cx} {G : CC} {W : WX} {k j n : Nat} {x : Str} {m : List O → FR} {dos : List D} {ms : En → Res (List R)} {p pos : Pos} {e : Expr} {es : List Expr}
theorem Vws.append {F H : Hp} {vs ws : List V} {os us : List O} (h : Vws G F H vs os) (g : Vws G F H ws us) : Vws G F H (vs ++ ws) (os ++ us) := by
  induction h with
  | nil => exact g
  | cons q _ ih => exact .cons q ih
theorem Vws.of_reps {F H : Hp} : ∀ {vs : List V} {ds : List D}, Reps G F vs ds → Vws G F H vs (ds.map .sh)
  | _, _, .nil => .nil
  | _, _, .cons h r => .cons (.sh h) (Vws.of_reps r)
theorem tCall_D {dvs : List V} {σ : St} {H : Hp} {Q : VK} (hd : ∀ F, Reps G F dvs dos) (h : tD G W (mFn n m dos ms) σ H Q) : tCallSD (spP G n m) dvs (WE W) (tA G W ms) σ H Q := by
  obtain ⟨F, B, L, en, fp, s, p⟩ := h
  refine ⟨F, B, L, en, fp, s, ?_⟩
  unfold mFn at p
  cases ea : ms en with
  | stuck => rw [ea] at p; exact p.elim
  | exc x e => rw [ea] at p; exact p
  | ok rs =>
    rw [ea] at p
    simp only [Res.bnd] at p
    split at p
    · rename_i hn
      intro vs F1 H1 r1
      have n1 := r1.nx
      obtain ⟨f1, _, q1, _⟩ := r1
      have dl : dvs.length = dos.length := (hd F1).length
      refine ⟨by rw [List.length_append, q1.len, dl]; exact hn, F1, _, n1.le, q1.vws.append (Vws.of_reps (hd F1)), ?_⟩
      cases em : m (rs.map R.o ++ dos.map .sh) with
      | ok o => rw [em] at p; exact fun v F' H' r => p v F' H' (r.after n1)
      | exc x => rw [em] at p; exact fun cls d F' H' n2 xr => p cls d σ F' H' (Nx.toN s (n1.trans n2)) xr
      | stuck => rw [em] at p; exact p.elim
    · exact p.elim
theorem dp_fn (c : Fnc X.prog X.w X.K X.mg X.base G k x n m dos) (hr : Room j X.A) (tk : Takes X W) (ha : PA X (e :: es) (tA G W ms)) (hk : k ≤ j := by decide) (hg : Gl X x := by rfl)
    (hdb : (x == ("__debug__" : Str)) = false := by decide) (he : starEach (e :: es) X.env = (false, eval e X.env) :: starEach es X.env := by rfl) (hpl : (backTo pos (starEach es X.env)).any (·.1) = false := by rfl) :
    PE X (.Call (.Name x p) (e :: es) [] pos) (tD G W (mFn n m dos ms)) := by
  obtain ⟨f, fd, ps, ds, dvs, F, hm, kp, b, d, hd⟩ := c.ex
  exact (pe_callSD F (hr.mono hk) hg hm kp b d (fun σ => passAt tk σ) ha hdb he hpl).imp fun _ _ _ h => tCall_D hd h
/-- f() -/
theorem dp_fn0 (c : Fnc X.prog X.w X.K X.mg X.base G k x n m dos) (hr : Room j X.A) (tk : Takes X W) (hk : k ≤ j := by decide) (hg : Gl X x := by rfl) (hdb : (x == ("__debug__" : Str)) = false := by decide) :
    PE X (.Call (.Name x p) [] [] pos) (tD G W (mFn n m dos mNil)) := by
  obtain ⟨f, fd, ps, ds, dvs, F, hm, kp, b, d, hd⟩ := c.ex
  have key : PE X (.Call (.Name x p) [] [] pos) (tCallSD (spP G n m) dvs (WE W) tNil) := by
    refine ⟨fun pins s σ H Q I h => ?_⟩
    refine wpAny_Call_Name_kw (ld_glob I hg hm ?_ hdb)
    exact PySem.W.callWith_K0 I.kIn kp (run_fnSD (us := []) F (hr.mono hk) b d (passAt tk σ) I .nil h)
  refine key.imp fun σ H Q h => ?_
  obtain ⟨F1, B, L, en, fp, s, p⟩ := tCall_D hd h
  exact p [] F1 H ⟨[], Nx.refl s.lf, .nil, List.nodup_nil, fun _ m => nomatch m⟩
end

/-! ### the law's head -/
section
variable {K : PySem.W.Frag} {G : CC}
theorem reps_int {F : Hp} : ∀ ns : List Int, Reps G F (ns.map V.int) (ns.map D.int)
  | [] => .nil
  | n :: ns => .cons (.int n) (reps_int ns)
theorem law_sp {m : List O → FR} {H : Hp} {a : Addr} {ns : List Int} (hS : SqL G.K H a (ns.map V.int)) (h : m [.sh (.lst (ns.map .int))] = .ok (.sh (.bl true))) :
    spP G 1 m [.ref a] H (fun v _ => v = .bl true) fun _ _ _ => False := by
  refine ⟨rfl, H, [.sh (.lst (ns.map .int))], Le.refl H, .cons (.sh (.lst hS (reps_int ns))) .nil, ?_⟩
  rw [h]
  rintro v F' H' ⟨f, n, q, _⟩
  cases q with
  | sh q => cases q; rfl
theorem law_cx {P : Program} {w : World} {H : Hp} {s : Shared} {e : Value} {s' : Shared} (h : L2.CX P w [] H s (fun _ _ _ => False) e s') : False := by
  obtain ⟨_, _, _, _, _, _, _, _, _, _, _, _, z⟩ := h
  exact z
/-- the walk of a law: its def's data tell True at every script -/
theorem law_walk {l : PySem.W.OpenLaw} {q : Program} {loose : List Str} {XP : (Str → Option Value) → Heap → Prop} {YP : World → Heap → Prop} {d : DefRec} {Kp : Params → PySem.W.Frag} {Gp : PySem.W.Frag → CC} {m : List O → FR} {k : Nat} {x : Str}
    (hn : l.most = some 63) (hdf : d.params.defaults = []) (hr : Room k callerA) (hG : ∀ K, (Gp K).K = K)
    (hY : ∀ (w : World) (h : Heap), YP w h → (Kp w.params).In h)
    (F : ∀ (w : World) (mg : Str → Option Value) (fa : Addr) (h : Heap), (Kp w.params).In h → h.Ns mainGlobals mg → mg d.name = some (.ref fa) →
      ∃ fd : FuncData, (∀ (s : Shared) (u : Value), BindsTo s fd ⟨[u], []⟩ [(x, u)]) ∧
        ∀ base : Heap, (Kp w.params).In base → base.Ns mainGlobals mg → FnOk l.prog w (Kp w.params) mg base (L2.CX l.prog w) k fa fd [x] (spP (Gp (Kp w.params)) 1 m))
    (hm : ∀ ns : List Int, ns.length ≤ 63 → (∀ z ∈ ns, Builtin.Int.intBits z ≤ 1048576) → m [.sh (.lst (ns.map .int))] = .ok (.sh (.bl true))) :
    PySem.W.WalkO q loose XP YP l.row.toRowW d [] (fun f vs => PySem.call f vs) :=
  L2.walk_ofB (n := 63) (k := k) (x := x) (CX := fun w => L2.CX l.prog w) (sp := fun w => spP (Gp (Kp w.params)) 1 m) hn (by decide) hdf hr hY F
    (fun w H a ns hl hb _ hS => law_sp (by rw [hG]; exact hS) (hm ns hl hb)) fun _ _ _ _ _ z => law_cx z
end
end DL

set_option maxHeartbeats 1000000
/-! DM: freezing in thought, changes in place -/
namespace DL
open PySem PySem.Spec L2
open PyProof.Rows hiding St

def mFz (i : Nat) (en : En) : En := match en[i]? with
  | some (.own o) => en.set i (.own (.sh o.fz))
  | _ => en
section
variable {G : CC} {W : WX} {F F' B H H' : Hp} {L σ : St} {en : En} {fp : List Addr}
theorem set_same_st {v : V} {i : Nat} {σ : St} (hv : σ[i]? = some (some v)) : σ.set i (some v) = σ := by
  apply List.ext_getElem?
  intro j
  by_cases hj : i = j
  · subst hj
    have : i < σ.length := (List.getElem?_eq_some_iff.mp hv).1
    rw [List.getElem?_set_self this, hv]
  · rw [List.getElem?_set_ne hj]
theorem SRep.fz (s : SRep G F B H L σ en fp) (i : Nat) : LkG (fun H2 => ∃ F2 fp2, SRep G F2 B H2 L σ (mFz i en) fp2 ∧ Nx F F2 H H2 fp fp2) H := by
  unfold mFz
  split
  · rename_i o e
    obtain ⟨v, f, fp', hv, q, s', pm⟩ := s.take e
    have df : ∀ a ∈ f, F a = none := fun a m => (s.df a (pm.mem_iff.mp (List.mem_append_right _ m))).1
    have db : ∀ a ∈ f, B a = none := fun a m => (s.df a (pm.mem_iff.mp (List.mem_append_right _ m))).2
    have nd := (pm.nodup_iff).mpr s.nd
    obtain ⟨n1, n2, n3⟩ := List.nodup_append.mp nd
    refine ⟨dnodes H f, dnodes_b n2, fun H2 lk => ?_⟩
    have l := frz_ge (H := H2) df
    have rep := q.frozen l lk.node
    have out : ∀ a ∈ fp', a ∉ f := fun a m m' => n3 a m a m' rfl
    have le2 := lk.frz_le s.lf df
    have s2 : SRep G (frz F H2 f) B H2 L σ (en.set i .un) fp' := ⟨le2, lk.le s.lb db, s'.sl.le l fun a _ m h => by rw [lk.out (out a m)]; exact h, s'.nd, fun a m => ⟨by rw [frz_out (out a m)]; exact (s'.df a m).1, (s'.df a m).2⟩⟩
    have hi : i < en.length := (List.getElem?_eq_some_iff.mp e).1
    obtain ⟨fp3, s3, m3⟩ := s2.put (Own.sh rep) (by rw [List.append_nil]; exact n1) (fun _ m => nomatch m) (i := i) (z := .un) (by rw [List.getElem?_set_self hi]) rfl
    rw [set_set_en, set_same_st hv] at s3
    refine ⟨_, fp3, s3, l, fun a o h m => ?_, fun a h h' => .inr ?_, fun a m => .inl ?_, le2⟩
    · rw [lk.out fun m' => m (pm.mem_iff.mp (List.mem_append_right _ m'))]; exact h
    · by_cases m : a ∈ f
      · exact pm.mem_iff.mp (List.mem_append_right _ m)
      · rw [frz_out m] at h'; exact (h' h).elim
    · have := m3 a m
      rw [List.append_nil] at this
      exact pm.mem_iff.mp (List.mem_append_left _ this)
  · exact .of ⟨F, fp, s, Nx.refl s.lf⟩
theorem NR.fz {F₀ H₀ : Hp} {fp₀ : List Addr} (h : NR G B L F₀ F H₀ H σ fp₀ en) (i : Nat) : LkG (fun H2 => ∃ F2, NR G B L F₀ F2 H₀ H2 σ fp₀ (mFz i en)) H := by
  obtain ⟨fp', n, s⟩ := h
  exact (s.fz i).imp fun H2 z => by
    obtain ⟨F2, fp2, s2, n2⟩ := z
    exact ⟨F2, fp2, n.trans n2, s2⟩
end
section
variable {X : Cx} {G : CC} {W : WX} {pos : Pos} {e : Expr} {st : Stmt} {ss : List Stmt} {b : En → SR} {m : En → Res (O × En)} {mp : En → Res R}
theorem tS_fz {D : Ends} {σ : St} {H : Hp} (i : Nat) (h : tS G W (fun en => b (mFz i en)) D σ H) : LkG (fun H2 => tS G W b D σ H2) H := by
  obtain ⟨F, B, L, en, fp, s, p⟩ := h
  exact (s.fz i).imp fun H2 z => by
    obtain ⟨F2, fp2, s2, n2⟩ := z
    exact ⟨F2, B, L, _, fp2, s2, p.after n2⟩
/-- the i-th slot's thing, frozen ahead of the statements -/
theorem dss_fz (i : Nat) (h : PSs X ss (tS G W b)) : PSs X ss (tS G W (fun en => b (mFz i en))) := (pss_pre h).imp fun _ _ _ h => tS_fz i h
theorem ds_fz (i : Nat) (h : PS X st (tS G W b)) : PS X st (tS G W (fun en => b (mFz i en))) := (ps_pre h).imp fun _ _ _ h => tS_fz i h
/-- name = e, frozen -/
def mSetF (i : Nat) (m : En → Res (O × En)) (en : En) : SR := .of (m en) fun r => if Sl.free? r.2[i]? then .nx (r.2.set i (.own (.sh r.1.fz))) else .stuck
theorem mSetF_D {i : Nat} {D : Ends} {σ : St} {H : Hp} (h : tS G W (mSetF i m) D σ H) : tS G W (mSet i m) (lkE D) σ H := by
  obtain ⟨F, B, L, en, fp, s, p⟩ := h
  refine ⟨F, B, L, en, fp, s, ?_⟩
  unfold mSetF at p
  unfold mSet
  cases ea : m en with
  | stuck => rw [ea] at p; exact p.elim
  | exc x e => rw [ea] at p; exact p
  | ok r =>
    rw [ea] at p
    simp only [SR.of] at p ⊢
    split at p
    · rename_i hz
      rw [if_pos hz]
      intro σ' F' H' n
      refine (n.fz i).imp fun H2 z => ?_
      obtain ⟨F2, n2⟩ := z
      have e : mFz i (r.2.set i (.own r.1)) = r.2.set i (.own (.sh r.1.fz)) := by
        unfold mFz
        obtain ⟨y, h1, _⟩ := Sl.free_ok hz
        rw [List.getElem?_set_self (List.getElem?_eq_some_iff.mp h1).1]
        simp only [List.set_set]
      rw [e] at n2
      exact p σ' F2 H2 n2
    · exact p.elim
theorem ds_f {i : Nat} (h : PS X st (tS G W (mSet i m))) : PS X st (tS G W (mSetF i m)) := (ps_lk h).imp fun _ _ _ h => mSetF_D h
/-- an expression's own thing, frozen -/
def mFzV (m : En → Res R) (en : En) : Res R := (m en).bnd fun r => match r with
  | .own o => .ok (.own (.sh o.fz))
  | .bor _ => .stuck
theorem dp_fz (h : PE X e (tD G W mp)) : PE X e (tD G W (mFzV mp)) := (dp_fzO h).imp fun σ H Q h => by
  obtain ⟨F, B, L, en, fp, s, p⟩ := h
  refine ⟨F, B, L, en, fp, s, ?_⟩
  unfold mFzV at p
  unfold mFzO
  cases ea : mp en with
  | stuck => rw [ea] at p; exact p.elim
  | exc x e => rw [ea] at p; exact p
  | ok r =>
    rw [ea] at p
    simp only [Res.bnd] at p ⊢
    cases r with
    | bor o => exact p.elim
    | own o => exact p
end

/-! ### a thing changed in its slot -/
def Sl.put : Sl → O → Sl
  | .own _, o => .own o
  | .lent _, o => .lent o
  | s, _ => s
def Sl.mine : Sl → Option O
  | .own o => some o
  | .lent o => some o
  | _ => none
section
variable {G : CC} {W : WX} {F F' B H H' : Hp} {L σ : St} {en : En} {fp f g : List Addr}
theorem perm_mid {a b c : List Addr} (h : (a ++ b).Perm c) (d : List Addr) : ((d ++ a) ++ b).Perm (d ++ c) := by
  rw [List.append_assoc]
  exact List.Perm.append_left d h
theorem Sls.mod (s : Sls G F B H L σ en fp) : ∀ {i : Nat} {z : Sl} {o : O}, en[i]? = some z → z.mine = some o → ∃ v f0 fp0, σ[i]? = some (some v) ∧ Own G F H v o f0 ∧ (fp0 ++ f0).Perm fp ∧
    ∀ F' H' o' f', Le F F' → (∀ a u, a ∈ fp0 → H a = some u → H' a = some u) → Own G F' H' v o' f' → ∃ fp', Sls G F' B H' L σ (en.set i (z.put o')) fp' ∧ (fp0 ++ f').Perm fp' := by
  induction s with
  | nil => intro i z o e; simp at e
  | un s ih =>
    intro i z o e hm
    cases i with
    | zero => simp at e; subst e; cases hm
    | succ i =>
      obtain ⟨v, f0, fp0, h1, h2, h3, h4⟩ := ih (i := i) (by simpa using e) hm
      refine ⟨v, f0, fp0, h1, h2, h3, fun F' H' o' f' l k q => ?_⟩
      obtain ⟨fp', s', p⟩ := h4 F' H' o' f' l k q
      exact ⟨fp', .un s', p⟩
  | @own v0 o0 f L σ en fp q0 s ih =>
    intro i z o e hm
    cases i with
    | zero =>
      simp at e
      subst e
      cases hm
      exact ⟨v0, f, fp, rfl, q0, List.perm_append_comm, fun F' H' o' f' l k q => ⟨f' ++ fp, .own q (s.le l k), List.perm_append_comm⟩⟩
    | succ i =>
      obtain ⟨v, f0, fp0, h1, h2, h3, h4⟩ := ih (i := i) (by simpa using e) hm
      refine ⟨v, f0, f ++ fp0, h1, h2, perm_mid h3 f, fun F' H' o' f' l k q => ?_⟩
      obtain ⟨fp', s', p⟩ := h4 F' H' o' f' l (fun a u m => k a u (List.mem_append_right _ m)) q
      exact ⟨f ++ fp', .own (q0.le l fun a u m => k a u (List.mem_append_left _ m)) s', perm_mid p f⟩
  | @lent v0 o0 f L σ en fp q0 s ih =>
    intro i z o e hm
    cases i with
    | zero =>
      simp at e
      subst e
      cases hm
      exact ⟨v0, f, fp, rfl, q0, List.perm_append_comm, fun F' H' o' f' l k q => ⟨f' ++ fp, .lent q (s.le l k), List.perm_append_comm⟩⟩
    | succ i =>
      obtain ⟨v, f0, fp0, h1, h2, h3, h4⟩ := ih (i := i) (by simpa using e) hm
      refine ⟨v, f0, f ++ fp0, h1, h2, perm_mid h3 f, fun F' H' o' f' l k q => ?_⟩
      obtain ⟨fp', s', p⟩ := h4 F' H' o' f' l (fun a u m => k a u (List.mem_append_right _ m)) q
      exact ⟨f ++ fp', .lent (q0.le l fun a u m => k a u (List.mem_append_left _ m)) s', perm_mid p f⟩
  | @bor v0 o0 f L σ en fp q0 s ih =>
    intro i z o e hm
    cases i with
    | zero => simp at e; subst e; cases hm
    | succ i =>
      obtain ⟨v, f0, fp0, h1, h2, h3, h4⟩ := ih (i := i) (by simpa using e) hm
      refine ⟨v, f0, fp0, h1, h2, h3, fun F' H' o' f' l k q => ?_⟩
      obtain ⟨fp', s', p⟩ := h4 F' H' o' f' l k q
      exact ⟨fp', .bor (q0.le l fun _ _ _ h => h) s', p⟩
/-- a step at the i-th slot's own places f0 and at g, new ones of one's own -/
theorem SRep.mod (s : SRep G F B H L σ en fp) {i : Nat} {z : Sl} {o : O} (e : en[i]? = some z) (hm : z.mine = some o) : ∃ v f0, σ[i]? = some (some v) ∧ Own G F H v o f0 ∧ (∀ a ∈ f0, a ∈ fp) ∧ f0.Nodup ∧
    ∀ F' H' o' f' g, Nx F F' H H' (f0 ++ g) f' → (fp ++ g).Nodup → (∀ a ∈ g, F a = none ∧ B a = none) → Own G F' H' v o' f' → f'.Nodup → (∀ a ∈ f', F' a = none) →
      (∃ fp', SRep G F' B H' L σ (en.set i (z.put o')) fp' ∧ Nx F F' H H' (fp ++ g) fp') := by
  obtain ⟨v, f0, fp0, h1, h2, h3, h4⟩ := s.sl.mod e hm
  have nd := (h3.nodup_iff).mpr s.nd
  obtain ⟨n1, n2, n3⟩ := List.nodup_append.mp nd
  have sub0 : ∀ a ∈ f0, a ∈ fp := fun a m => h3.mem_iff.mp (List.mem_append_right _ m)
  have subp : ∀ a ∈ fp0, a ∈ fp := fun a m => h3.mem_iff.mp (List.mem_append_left _ m)
  refine ⟨v, f0, h1, h2, sub0, n2, fun F' H' o' f' g n ng dg q nf ff => ?_⟩
  obtain ⟨g1, g2, g3⟩ := List.nodup_append.mp ng
  have out : ∀ a ∈ fp0, a ∉ f0 ++ g := fun a m m' => by
    rcases List.mem_append.mp m' with m' | m'
    · exact n3 a m a m' rfl
    · exact g3 a (subp a m) a m' rfl
  have keep : ∀ a u, a ∈ fp0 → H a = some u → H' a = some u := fun a u m h => n.hh a u h (out a m)
  obtain ⟨fp', s', p⟩ := h4 F' H' o' f' n.ff keep q
  have dis : ∀ a ∈ fp0, ∀ b ∈ f', a ≠ b := fun a m b m' e => by
    subst e
    rcases n.fr a m' with x | x
    · exact out a m x
    · obtain ⟨u, hu⟩ := s.dom a (subp a m)
      rw [hu] at x; cases x
  have isNone : ∀ a ∈ fp0, F' a = none := fun a m => by
    cases e : F' a with
    | none => rfl
    | some u =>
      obtain ⟨w, hw⟩ := s.dom a (subp a m)
      rcases n.nw a (s.df a (subp a m)).1 (by rw [e]; exact fun z => by cases z) with x | x
      · rw [hw] at x; cases x
      · exact (out a m x).elim
  have bn : ∀ a ∈ f', B a = none := fun a m => by
    rcases n.fr a m with x | x
    · rcases List.mem_append.mp x with x | x
      · exact (s.df a (sub0 a x)).2
      · exact (dg a x).2
    · exact s.lb.noneOf x
  refine ⟨fp', ⟨n.le, fun a u h => ?_, s', (p.nodup_iff).mp (List.nodup_append.mpr ⟨n1, nf, dis⟩), fun a m => ?_⟩, ⟨n.ff, fun a u h m => ?_, fun a h h' => ?_, fun a m => ?_, n.le⟩⟩
  · refine n.hh a u (s.lb a u h) fun m => ?_
    rcases List.mem_append.mp m with m | m
    · rw [(s.df a (sub0 a m)).2] at h; cases h
    · rw [(dg a m).2] at h; cases h
  · rcases List.mem_append.mp (p.mem_iff.mpr m) with m | m
    · exact ⟨isNone a m, (s.df a (subp a m)).2⟩
    · exact ⟨ff a m, bn a m⟩
  · refine n.hh a u h fun m' => m ?_
    rcases List.mem_append.mp m' with m' | m'
    · exact List.mem_append_left _ (sub0 a m')
    · exact List.mem_append_right _ m'
  · rcases n.nw a h h' with x | x
    · exact .inl x
    · rcases List.mem_append.mp x with x | x
      · exact .inr (List.mem_append_left _ (sub0 a x))
      · exact .inr (List.mem_append_right _ x)
  · rcases List.mem_append.mp (p.mem_iff.mpr m) with m | m
    · exact .inl (List.mem_append_left _ (subp a m))
    · rcases n.fr a m with x | x
      · rcases List.mem_append.mp x with x | x
        · exact .inl (List.mem_append_left _ (sub0 a x))
        · exact .inl (List.mem_append_right _ x)
      · exact .inr x
end

/-! ### xs.append(e) -/
def Sl.lst? (z : Option Sl) : Option (List O) := match z.bind Sl.mine with
  | some (.lst os) => some os
  | _ => none
theorem Sl.lst_ok {z : Option Sl} {os : List O} (h : Sl.lst? z = some os) : ∃ y, z = some y ∧ y.mine = some (.lst os) := by
  unfold Sl.lst? at h
  cases z with
  | none => cases h
  | some y =>
    refine ⟨y, rfl, ?_⟩
    simp only [Option.bind_some] at h
    split at h
    · rename_i e; cases h; exact e
    · cases h
def Sl.putAt (en : En) (i : Nat) (o : O) : En := match en[i]? with
  | some z => en.set i (z.put o)
  | none => en
def mApp (i : Nat) (m : En → Res (O × En)) (en : En) : SR := match Sl.lst? en[i]? with
  | none => .stuck
  | some _ => .of (m en) fun r => match Sl.lst? r.2[i]? with
    | some os => if os.length < ML then .nx (Sl.putAt r.2 i (.lst (os ++ [r.1]))) else .stuck
    | none => .stuck
section
variable {X : Cx} {G : CC} {W : WX} {pos cpos apos p : Pos} {e : Expr} {m : En → Res (O × En)}
theorem tApp_D {i : Nat} {D : Ends} {σ : St} {H : Hp} (h : tS G W (mApp i m) D σ H) : tBM G.K "list" rAppend (tVar i) (tCons (tX G W m) tNil) σ H fun _ H' => D.nx σ H' := by
  obtain ⟨F, B, L, en, fp, s, p⟩ := h
  unfold mApp at p
  cases e0 : Sl.lst? en[i]? with
  | none => rw [e0] at p; exact p.elim
  | some os0 =>
    rw [e0] at p
    obtain ⟨y0, h1, h2⟩ := Sl.lst_ok e0
    obtain ⟨v, f0, hv, q, _⟩ := s.mod h1 h2
    cases q with
    | @lst l vs _ fl hl r =>
      refine ⟨.ref l, hv, .inl ⟨rfl, _, SqL.of hl⟩, F, B, L, en, fp, s, ?_⟩
      simp only at p
      cases ea : m en with
      | stuck => rw [ea] at p; exact p.elim
      | exc x e => rw [ea] at p; exact p
      | ok rr =>
        rw [ea] at p
        simp only [SR.of] at p
        intro y F1 H1 x1
        obtain ⟨fp1, f1, n1, s1, q1, nd1, fr1⟩ := x1
        cases e1 : Sl.lst? rr.2[i]? with
        | none => simp only [e1] at p; exact p.elim
        | some os =>
          simp only [e1] at p
          split at p
          · rename_i hz
            obtain ⟨y1, h3, h4⟩ := Sl.lst_ok e1
            obtain ⟨v1, g0, hv1, k, sub, ndg, cont⟩ := s1.mod h3 h4
            rw [hv] at hv1
            cases hv1
            cases k with
            | @lst _ ws _ gl hw rw' =>
              refine ⟨l, ws, y, rfl, rfl, hw, by rw [rw'.length, ← ML_eq]; exact hz, ?_⟩
              have bf1 : ∀ a ∈ f1, B a = none := fun a m => s.noB n1 a (List.mem_append_right _ m)
              obtain ⟨nd2, nd3, nd4⟩ := List.nodup_append.mp nd1
              have lN : l ∉ gl := (List.nodup_cons.mp ndg).1
              have lf : l ∉ f1 := fun m => nd4 l (sub l (List.mem_cons_self ..)) l m rfl
              obtain ⟨fp', s', n'⟩ := cont F1 (upd H1 l (.lst (ws ++ [y]))) (.lst (os ++ [rr.1])) (l :: (gl ++ f1)) f1
                ⟨Le.refl F1, fun a u h m => by rw [upd_ne (fun z => m (by rw [z]; exact List.mem_append_left _ (List.mem_cons_self ..)))]; exact h, fun a h h' => (h' h).elim, fun a m => .inl m, s1.lf.upd_own (s1.df l (sub l (List.mem_cons_self ..))).1⟩
                nd1 (fun a m => ⟨fr1 a m, bf1 a m⟩)
                (.lst upd_same ((rw'.le (Le.refl F1) fun a u m h => by rw [upd_ne (show a ≠ l from fun z => lN (by rw [← z]; exact m))]; exact h).append (.one (q1.le (Le.refl F1) fun a u m h => by rw [upd_ne (show a ≠ l from fun z => lf (by rw [← z]; exact m))]; exact h))))
                (by
                  show ((l :: gl) ++ f1).Nodup
                  exact List.nodup_append.mpr ⟨ndg, nd3, fun a m b m' => nd4 a (sub a m) b m'⟩)
                (fun a m => by
                  have m' : a ∈ (l :: gl) ++ f1 := m
                  exact (List.mem_append.mp m').elim (fun m => (s1.df a (sub a m)).1) (fr1 a))
              refine p σ F1 _ ⟨fp', n1.trans n', ?_⟩
              unfold Sl.putAt
              rw [h3]
              exact s'
          · exact p.elim
theorem ds_app (i : Nat) {x : Str} (he : PE X e (tX G W m)) (hN : X.N[i]? = some x := by rfl) (hv : Vis X.env.scope x := by first | exact Or.inl rfl | exact Or.inr (Or.inl rfl) | exact Or.inr (Or.inr rfl)) (hK : G.K = X.K := by rfl)
    (hbase : attributeBase (.Name x p) "append" X.env (eval (.Name x p) X.env) = eval (.Name x p) X.env := by rfl)
    (hfew : ((backTo cpos (starEach [e] X.env)).all (fun x => !x.1) && (backToKw cpos (keywordEach [] X.env)).all (fun x => x.1.isSome)
      && decide ([e].length + ([] : List Keyword).length + (if ([] : List Keyword).isEmpty then 0 else 1) < 30)) = true := by rfl)
    (hline : (apos.endLine == cpos.line) = true := by rfl) (hst : starEach [e] X.env = (false, eval e X.env) :: starEach [] X.env := by rfl) (hplain : (backTo cpos (starEach [] X.env)).any (·.1) = false := by rfl)
    (hs : swapsWith (.Call (.Attribute (.Name x p) "append" apos) [e] [] cpos) none pos.line X.env = pure false := by rfl)
    (hd : (x == ("__debug__" : Str)) = false := by decide) (hcd : (x == ("__classdict__" : Str)) = false := by decide) :
    PS X (.Expr (.Call (.Attribute (.Name x p) "append" apos) [e] [] cpos) pos) (tS G W (mApp i m)) :=
  (ps_expr (pe_bm PySem.F.plainAttrs_list PySem.F.slot_list_append PySem.F.type_list_append mt_append (pe_var hN hv hd hcd) (pa_cons he pa_nil hst) hbase hfew hline hst hplain) hs).imp fun D σ H h => by
    have z := tApp_D h
    rw [hK] at z
    exact z
end

/-! ### {} -/
section
variable {X : Cx} {G : CC} {W : WX} {pos : Pos}
theorem PR.new1 {F H : Hp} {p : Addr} {u : HO} {o : O} (l : Le F H) (hp : H p = none) (q : Own G F (upd H p u) (.ref p) o [p]) : PR G F F H (upd H p u) (.ref p) (.own o) :=
  ⟨[p], Nx.newO l hp [p] (fun a m => .inr (by simpa using m)), q, by simp, fun a m => by
    have e : a = p := by simpa using m
    rw [e]; exact l.noneOf hp⟩
def mDct (k : Bool) (_ : En) : Res R := .ok (.own (.dct k []))
theorem dp_dctK : PE X (.Dict [] [] pos) (tD G W (mDct false)) := pe_dnewK.imp fun σ H Q h => by
  obtain ⟨F, B, L, en, fp, s, p⟩ := h
  exact fun a ha => p _ F _ (PR.new1 s.lf ha (.dct upd_same rfl List.nodup_nil .nil))
end

/-! ### text * int -/
def rep1 (l : List Nat) (n : Nat) : List Nat := (List.replicate n l).flatten
def mulS (a b : O) : Option R := match a.str?, b.int? with
  | some s, some j => if lim 1000001 j && (Nat.ble s.length 1000 && Nat.ble (s.length * j.toNat) 1000000) then rSh (.str (rep1 s j.toNat)) else none
  | _, _ => none
def rMulS : R2 := fun x y H Q => ∃ (s : Str) (j : Int), x = .str s ∧ y = .int j ∧ -(2 ^ 62) ≤ j ∧ j ≤ 1000000 ∧ s.length ≤ 1000 ∧ s.length * j.toNat ≤ 1000000 ∧ Q (.str (SX.S (rep1 s.cps.toList j.toNat))) H
theorem rep_fold (c : Array Nat) : ∀ (n : Nat) (a : Array Nat), (List.replicate n c).foldl (· ++ ·) a = a ++ (List.replicate n c.toList).flatten.toArray
  | 0, a => by simp
  | n + 1, a => by
    rw [List.replicate_succ, List.foldl_cons, rep_fold c n, List.replicate_succ, List.flatten_cons]
    apply Array.ext'
    simp
theorem op_mulS {X : Cx} : OpR X (binaryOp .Mult) rMulS := by
  intro pins s σ H x y v u Q I rx ry h
  obtain ⟨z, j, rfl, rfl, h1, h2, h3, h4, q⟩ := h
  obtain ⟨t, rfl⟩ := rx
  obtain ⟨t', rfl⟩ := ry
  have hsz : (rep1 z.cps.toList j.toNat).length = z.length * j.toNat := by
    unfold rep1
    simp [Str.length, Nat.mul_comm]
  refine PySem.P.mul_str ?_ (fun _ _ => ?_) (fun _ _ => ?_) ?_
  · have a1 : ¬ j < -(2 ^ 63 : Int) := by omega
    have a2 : ¬ j ≥ 2 ^ 63 := by omega
    rw [decide_eq_false a1, decide_eq_false a2]; rfl
  · intro hh
    have a3 : 0 < j := by omega
    have : (2 ^ 63 - 1 : Int) / j ≥ 1000 := by
      have : (1000 : Int) * j ≤ 2 ^ 63 - 1 := by omega
      exact (Int.le_ediv_iff_mul_le a3).mpr this
    omega
  · have h5 : (1000000 : Nat) ≤ sizeLine := by decide
    unfold Builtin.Str.tooLong
    first
      | exact decide_eq_false (by omega)
      | (simp; omega)
  · split
    · rename_i hn
      have e0 : j.toNat = 0 := by omega
      rw [e0] at q
      exact ⟨by decide, ⟨.str _, H, I.tok _, ⟨_, rfl⟩, q⟩⟩
    · split
      · rename_i hn hc
        have e1 : SX.S (rep1 z.cps.toList j.toNat) = z := by
          simp only [Bool.or_eq_true, beq_iff_eq] at hc
          rcases hc with hc | hc
          · subst hc
            unfold rep1
            exact (by simp : SX.S ((List.replicate (Int.toNat 1) z.cps.toList).flatten) = SX.S z.cps.toList).trans (SX.S_tl z)
          · have : z.cps.toList = [] := by
              have : z.cps.toList.length = 0 := by rw [Array.length_toList]; exact hc
              exact List.length_eq_zero_iff.mp this
            have e2 : rep1 z.cps.toList j.toNat = z.cps.toList := by rw [this]; unfold rep1; simp
            exact (congrArg SX.S e2).trans (SX.S_tl z)
        rw [e1] at q
        exact ⟨.str z, H, I, ⟨t, rfl⟩, q⟩
      · have e2 : (⟨(List.replicate j.toNat z.cps).foldl (· ++ ·) #[]⟩ : Str) = SX.S (rep1 z.cps.toList j.toNat) := by
          rw [rep_fold]
          first | rfl | simp [rep1]
        rw [e2]
        have h5 : (1000000 : Nat) ≤ sizeLine := by decide
        exact ⟨by rw [SX.S_len, hsz]; omega, ⟨.str _, H, I.tok _, ⟨_, rfl⟩, q⟩⟩
theorem mulS_ok {G : CC} : OpD G rMulS mulS := by
  intro F H x y a b f g Q l ha hb p
  unfold mulS at p
  cases e1 : a.str? with
  | none => simp only [e1] at p; exact p.elim
  | some s =>
    cases e2 : b.int? with
    | none => simp only [e1, e2] at p; exact p.elim
    | some j =>
      simp only [e1, e2] at p
      rw [O.str?_eq e1] at ha
      rw [O.int?_eq e2] at hb
      split at p
      · rename_i hz
        simp only [Bool.and_eq_true, lim_iff] at hz
        exact ⟨_, _, ha.strV, hb.intV, by omega, by omega, by rw [SX.S_len]; exact Nat.le_of_ble_eq_true hz.2.1, by rw [SX.S_len]; exact Nat.le_of_ble_eq_true hz.2.2, vp_sh l (.str _) p⟩
      · exact p.elim
/-- int * int, text * int -/
def mulO : O → O → Option R := orR mulO0 mulS
abbrev rMulO : R2 := fun x y H Q => rI CMul (fun i j => .int (i * j)) x y H Q ∨ rMulS x y H Q
theorem op_mulO {X : Cx} : OpR X (binaryOp .Mult) rMulO := op_mul.or op_mulS
theorem mulO_ok {G : CC} : OpD G rMulO mulO := mulO0_ok.or mulS_ok
end DL

set_option maxHeartbeats 1000000
/-! DN: a law's end over a head by facts -/
namespace DL
open PySem PySem.Spec L2
open PyProof.Rows hiding St
section
/-- the walk of a law over a head by facts -/
theorem law_walkE {l : PySem.W.OpenLaw} {q : Program} {loose : List Str} {XP : (Str → Option Value) → Heap → Prop} {YP : World → Heap → Prop} {d : DefRec} {m : List O → FR} {k : Nat} {x : Str}
    (hn : l.most = some 63) (hdf : d.params.defaults = []) (hr : Room k callerA)
    (F : ∀ (w : World) (mg : Str → Option Value) (fa : Addr) (h : Heap), YP w h → h.Ns mainGlobals mg → mg d.name = some (.ref fa) →
      ∃ (G : CC) (fd : FuncData), G.K.In h ∧ (∀ (s : Shared) (u : Value), BindsTo s fd ⟨[u], []⟩ [(x, u)]) ∧
        ∀ base : Heap, G.K.In base → base.Ns mainGlobals mg → FnOk l.prog w G.K mg base (L2.CX l.prog w) k fa fd [x] (spP G 1 m))
    (hm : ∀ ns : List Int, ns.length ≤ 63 → (∀ z ∈ ns, Builtin.Int.intBits z ≤ 1048576) → m [.sh (.lst (ns.map .int))] = .ok (.sh (.bl true))) :
    PySem.W.WalkO q loose XP YP l.row.toRowW d [] (fun f vs => PySem.call f vs) := by
  refine Att.attach_callB hn hdf fun w s₀ s₁ mg mb fa o pm cd doc a vs ns G0 Y ho hd hcd hmg hobj hints hlen hbits hg => ?_
  obtain ⟨G, fd, KX, hb, hF⟩ := F w mg fa _ Y G0.T.g hmg
  exact law_call KX G0.T.g G0.T.b G0.T.builtins G0.T.nolimit hg hobj hints (Nat.le_trans hlen (by decide)) hr hF hb (fun H _ hS => law_sp hS (hm ns hlen hbits)) fun _ _ _ z => law_cx z
/-- facts of a module's constants -/
theorem kst_int {G : CC} {mg : Str → Option Value} {x : Str} {i : Int} (h : ∃ t, mg x = some (.int i t)) : Kst G mg x (.int i) := by
  obtain ⟨t, h⟩ := h
  exact ⟨⟨.int i, _, h, ⟨t, rfl⟩, fun _ => .int i⟩⟩
theorem kst_str {G : CC} {mg : Str → Option Value} {x z : Str} (l : List Nat) (h : ∃ t, mg x = some (.str z t)) (e : z = SX.S l := by rfl) : Kst G mg x (.str l) := by
  obtain ⟨t, h⟩ := h
  subst e
  exact ⟨⟨.str (SX.S l), _, h, ⟨t, rfl⟩, fun _ => .str l⟩⟩
/-- a def with the defaults dos, called with j of them left out -/
theorem fncD {P : Program} {w : World} {K : PySem.W.Frag} {mg : Str → Option Value} {base : Heap} {G : CC} {k n : Nat} {x : Str} {f : Addr} {fd : FuncData} {ps : List Str} {m : List O → FR} {dvs : List V} {dos : List D} (h : FnOk P w K mg base (L2.CX P w) k f fd ps (spP G n m)) (hm : mg x = some (.ref f)) (hk : PySem.W.keepIn K (.ref f) = true)
    (hb : ∃ ds, Vals dvs ds ∧ Binds K fd ps ds) (hd : ∀ F, Reps G F dvs dos) : Fnc P w K mg base G k x n m dos := by
  obtain ⟨ds, r, b⟩ := hb
  exact ⟨f, fd, ps, ds, dvs, h, hm, hk, b, r, hd⟩
end
end DL

set_option maxHeartbeats 1000000
/-! DS: data reckoned by simp -/
namespace DL
open PySem PySem.Spec L2
open PyProof.Rows hiding St
def SR.seq : SR → (En → SR) → SR
  | .nx e, b => b e
  | r, _ => r
section
variable {en : En} {m ma mb mc : En → Res R} {ms : En → Res (List R)} {n na nb : En → Res Bool} {f g : O → O → Option R} {h : O → Option R} {hs : List O → Option R} {i j : Nat} {d : D} {a b : En → SR} {mx : En → Res (O × En)} {o u : O} {r : R}
@[simp] theorem s_bnd_ok {α β : Type} {x : α} {k : α → Res β} : Res.bnd (.ok x) k = k x := rfl
@[simp] theorem s_bnd_exc {α β : Type} {x : Ex} {e : En} {k : α → Res β} : Res.bnd (.exc x e) k = .exc x e := rfl
@[simp] theorem s_of {α : Type} {x : α} : Res.of (some x) = .ok x := rfl
@[simp] theorem s_c : mC d en = .ok (.own (.sh d)) := rfl
@[simp] theorem s_op : mOp f ma mb en = (ma en).bnd fun a => (mb en).bnd fun b => .of (f a.o b.o) := rfl
@[simp] theorem s_un : mUn h ma en = (ma en).bnd fun a => .of (h a.o) := rfl
@[simp] theorem s_ro : (R.own o).o = o := rfl
@[simp] theorem s_rb : (R.bor o).o = o := rfl
@[simp] theorem s_bl {k : Bool} : (R.own (.sh (.bl k))).bl? = some k := rfl
@[simp] theorem s_ownBl {k : Bool} : ownBl k = R.own (.sh (.bl k)) := rfl
@[simp] theorem s_tst : mTst m en = (m en).bnd fun r => .of r.bl? := rfl
@[simp] theorem s_and : mAnd na nb en = (na en).bnd fun a => if a then nb en else .ok false := rfl
@[simp] theorem s_or : mOr na nb en = (na en).bnd fun a => if a then .ok true else nb en := rfl
@[simp] theorem s_not : mNot na en = (na en).bnd fun a => .ok (!a) := rfl
@[simp] theorem s_andV : mAndV ma mb en = (ma en).bnd fun a => match a.bl? with | some true => mb en | some false => .ok (ownBl false) | none => .stuck := rfl
@[simp] theorem s_orV : mOrV ma mb en = (ma en).bnd fun a => match a.bl? with | some true => .ok (ownBl true) | some false => mb en | none => .stuck := rfl
@[simp] theorem s_notV : mNotV ma en = (ma en).bnd fun a => match a.bl? with | some k => .ok (ownBl (!k)) | none => .stuck := rfl
@[simp] theorem s_if : mIf n ma mb en = (n en).bnd fun k => if k then ma en else mb en := rfl
@[simp] theorem s_name : mName i en = match en[i]? with
  | some s => (match s.look with
    | some r => .ok r
    | none => .stuck)
  | none => .stuck := rfl
@[simp] theorem s_look1 : Sl.look (.own (.sh d)) = some (.own (.sh d)) := rfl
@[simp] theorem s_look2 : Sl.look (.bor (.sh d)) = some (.own (.sh d)) := rfl
@[simp] theorem s_look3 {l : List O} : Sl.look (.own (.lst l)) = some (.bor (.lst l)) := rfl
@[simp] theorem s_nil : mNil en = .ok [] := rfl
@[simp] theorem s_cons : mCons m ms en = (m en).bnd fun r => (ms en).bnd fun rs => .ok (r :: rs) := rfl
@[simp] theorem s_owns0 : owns [] = some [] := rfl
@[simp] theorem s_owns1 {rs : List R} : owns (.own o :: rs) = (owns rs).map (o :: ·) := rfl
@[simp] theorem s_lst : mLst ms en = (ms en).bnd fun rs => match owns rs with
  | some os => if os.length ≤ ML then .ok (.own (.lst os)) else .stuck
  | none => .stuck := rfl
@[simp] theorem s_tup : mTup ms en = (ms en).bnd fun rs => match owns rs with
  | some os => if os.length ≤ ML then (match shs os with | some ds => .ok (.own (.sh (.tup ds))) | none => .ok (.own (.tup os))) else .stuck
  | none => .stuck := rfl
@[simp] theorem s_dct {k : Bool} : mDct k en = .ok (.own (.dct k [])) := rfl
@[simp] theorem s_call : mCall hs ms en = (ms en).bnd fun rs => .of (hs (rs.map R.o)) := rfl
@[simp] theorem s_fn1 : fn1 h [o] = h o := rfl
@[simp] theorem s_fn2 : fn2 f [o, u] = f o u := rfl
@[simp] theorem s_fn {n : Nat} {mf : List O → FR} {dos : List D} : mFn n mf dos ms en = (ms en).bnd fun rs => if rs.length + dos.length = n then (match mf (rs.map R.o ++ dos.map .sh) with
  | .ok o => .ok (.own o)
  | .exc x => .exc x en
  | .stuck => .stuck) else .stuck := rfl
@[simp] theorem s_fzV : mFzV m en = (m en).bnd fun r => match r with
  | .own o => .ok (.own (.sh o.fz))
  | .bor _ => .stuck := rfl
@[simp] theorem s_lift : mLift m en = (m en).bnd fun r => match r with
  | .own o => .ok (o, en)
  | .bor _ => .stuck := rfl
@[simp] theorem s_share : mShare i en = match en[i]? with
  | some (.own (.sh d)) => .ok (.sh d, en)
  | some (.own o) => .ok (.sh o.fz, en.set i (.own (.sh o.fz)))
  | some s => (match s.look with
    | some (.own o) => .ok (o, en)
    | _ => .stuck)
  | none => .stuck := rfl
@[simp] theorem s_move : mMove i en = match en[i]? with
  | some (.own (.sh d)) => .ok (.sh d, en)
  | some (.own o) => .ok (o, en.set i .un)
  | some s => (match s.look with
    | some (.own o) => .ok (o, en)
    | _ => .stuck)
  | none => .stuck := rfl
@[simp] theorem s_srof {α : Type} {x : α} {k : α → SR} : SR.of (.ok x) k = k x := rfl
@[simp] theorem s_srexc {α : Type} {x : Ex} {e : En} {k : α → SR} : SR.of (.exc x e) k = .exc x e := rfl
@[simp] theorem s_set : mSet i mx en = .of (mx en) fun r => if Sl.free? r.2[i]? then .nx (r.2.set i (.own r.1)) else .stuck := rfl
@[simp] theorem s_setF : mSetF i mx en = .of (mx en) fun r => if Sl.free? r.2[i]? then .nx (r.2.set i (.own (.sh r.1.fz))) else .stuck := rfl
@[simp] theorem s_ret : mRet mx en = .of (mx en) fun r => .rt r.1 r.2 := rfl
@[simp] theorem s_retN : mRetN en = .rt (.sh .non) en := rfl
@[simp] theorem s_drop : mDrop mx en = .of (mx en) fun r => .nx r.2 := rfl
@[simp] theorem s_ifS : mIfS n a b en = .of (n en) fun k => if k then a en else b en := rfl
@[simp] theorem s_nx : mNx en = .nx en := rfl
@[simp] theorem s_bk : mBk en = .bk en := rfl
@[simp] theorem s_ct : mCt en = .ct en := rfl
@[simp] theorem s_seq : mSeq a b en = (a en).seq b := by unfold mSeq SR.seq; cases a en <;> rfl
@[simp] theorem s_sq1 : (SR.nx en).seq b = b en := rfl
@[simp] theorem s_sq2 : (SR.rt o en).seq b = .rt o en := rfl
@[simp] theorem s_sq3 {x : Ex} : (SR.exc x en).seq b = .exc x en := rfl
@[simp] theorem s_sq4 : (SR.bk en).seq b = .bk en := rfl
@[simp] theorem s_sq5 : (SR.ct en).seq b = .ct en := rfl
@[simp] theorem s_for {it : En → Res (List D × En)} {gg : O → En → Option En} {dead : List Nat} : mFor it gg dead a en = .of (it en) fun r => forL gg a dead r.1 (wipeE r.2 dead) := rfl
@[simp] theorem s_itN : mItN i en = match en[i]? with
  | some (.bor o) => (match o.seq? with
    | some ds => .ok (ds, en)
    | none => match o.str? with
      | some s => .ok (chars s, en)
      | none => .stuck)
  | _ => mItV (mShare i) en := rfl
@[simp] theorem s_itV : mItV mx en = (mx en).bnd fun r => match r.1.fz.seqI with
  | some ds => .ok (ds, r.2)
  | none => .stuck := by unfold mItV; rfl
@[simp] theorem s_seq1 {l : List D} : D.seqI (.lst l) = some l := rfl
@[simp] theorem s_seq2 {l : List D} : D.seqI (.tup l) = some l := rfl
@[simp] theorem s_seq3 {l : List Nat} : D.seqI (.str l) = some (chars l) := rfl
@[simp] theorem s_gNm : gNm i o en = if Sl.free? en[i]? then some (en.set i (.own o)) else none := rfl
@[simp] theorem s_gNl : gNl [] en = some en := rfl
@[simp] theorem s_gCn {g1 : O → En → Option En} {gs : List O → En → Option En} {os : List O} : gCn g1 gs (o :: os) en = (g1 o en).bind (gs os) := rfl
@[simp] theorem s_gTp {n : Nat} {gs : List O → En → Option En} {l : List D} : gTp n gs (.sh (.tup l)) en = if l.length = n then gs (l.map .sh) en else none := rfl
@[simp] theorem s_gTl {n : Nat} {gs : List O → En → Option En} {l : List D} : gTp n gs (.sh (.lst l)) en = if l.length = n then gs (l.map .sh) en else none := rfl
@[simp] theorem s_asg {gg : O → En → Option En} : mAsg gg mx en = .of (mx en) fun r => match gg r.1 r.2 with
  | some en' => .nx en'
  | none => .stuck := by unfold mAsg; rfl
@[simp] theorem s_free1 : Sl.free? (some .un) = true := rfl
@[simp] theorem s_free2 : Sl.free? (some (.own o)) = true := rfl
@[simp] theorem s_free3 : Sl.free? (some (.bor o)) = true := rfl
@[simp] theorem s_fz1 : O.fz (.sh d) = d := rfl
@[simp] theorem s_fz2 {l : List O} : O.fz (.lst l) = .lst (O.fzs l) := by simp [O.fz]
@[simp] theorem s_fz3 {l : List O} : O.fz (.tup l) = .tup (O.fzs l) := by simp [O.fz]
@[simp] theorem s_fz4 {k : Bool} {l : List (D × O)} : O.fz (.dct k l) = .dct k (O.fzd l) := by simp [O.fz]
@[simp] theorem s_fzs0 : O.fzs [] = [] := by simp [O.fzs]
@[simp] theorem s_fzs1 {l : List O} : O.fzs (o :: l) = o.fz :: O.fzs l := by simp [O.fzs]
@[simp] theorem s_fzd0 : O.fzd [] = [] := by simp [O.fzd]
@[simp] theorem s_fzs_map {α : Type} {q : α → D} {l : List α} : O.fzs (l.map fun x => .sh (q x)) = l.map q := by
  rw [O.fzs_map, List.map_map]; rfl
@[simp] theorem s_fzs_map2 {l : List D} : O.fzs (l.map .sh) = l := by rw [O.fzs_map, List.map_map]; simp [Function.comp_def]
@[simp] theorem s_fzs_map3 {α : Type} {q : α → D} {l : List α} : O.fzs (l.map (O.sh ∘ q)) = l.map q := s_fzs_map
@[simp] theorem s_fzs_app {l k : List O} : O.fzs (l ++ k) = O.fzs l ++ O.fzs k := by simp [O.fzs_map]
@[simp] theorem s_wipe0 : wipeE en [] = en := rfl
@[simp] theorem s_wipe1 {v : Nat} {vs : List Nat} : wipeE en (v :: vs) = wipe1 (wipeE en vs) v := rfl
@[simp] theorem s_wp : wipe1 en i = match en[i]? with
  | some (.lent _) => en
  | _ => en.set i .un := by unfold wipe1; rfl
@[simp] theorem s_for0 {gg : O → En → Option En} {dead : List Nat} : forL gg a dead [] en = .nx en := rfl
theorem s_for1 {gg : O → En → Option En} {dead : List Nat} {x : D} {ds : List D} : forL gg a dead (x :: ds) en = match gg (.sh x) en with
  | none => .stuck
  | some en1 => match a en1 with
    | .nx en' => forL gg a dead ds (wipeE en' dead)
    | .ct en' => forL gg a dead ds (wipeE en' dead)
    | .bk en' => .nx (wipeE en' dead)
    | r => r := rfl
@[simp] theorem s_app : mApp i mx en = match Sl.lst? en[i]? with
  | none => .stuck
  | some _ => .of (mx en) fun r => match Sl.lst? r.2[i]? with
    | some os => if os.length < ML then .nx (Sl.putAt r.2 i (.lst (os ++ [r.1]))) else .stuck
    | none => .stuck := rfl
@[simp] theorem s_lstS {l : List O} : Sl.lst? (some (.own (.lst l))) = some l := rfl
@[simp] theorem s_putAt : Sl.putAt en i o = match en[i]? with
  | some z => en.set i (z.put o)
  | none => en := rfl
@[simp] theorem s_put1 : Sl.put (.own u) o = .own o := rfl
@[simp] theorem s_args0 {n : Nat} : args0 n [] = List.replicate n .un := rfl
@[simp] theorem s_args1 {n : Nat} {os : List O} : args0 n (o :: os) = arg1 o :: args0 n os := rfl
@[simp] theorem s_arg1 : arg1 (.sh d) = .own (.sh d) := rfl
@[simp] theorem s_fr1 : (SR.rt o en).fr = .ok o := rfl
@[simp] theorem s_fr2 : (SR.nx en).fr = .ok (.sh .non) := rfl
@[simp] theorem s_fr3 {x : Ex} : (SR.exc x en).fr = .exc x := rfl
@[simp] theorem s_int {z : Int} : O.int? (.sh (.int z)) = some z := rfl
@[simp] theorem s_str {z : List Nat} : O.str? (.sh (.str z)) = some z := rfl
@[simp] theorem s_intS {z : List Nat} : O.int? (.sh (.str z)) = none := rfl
@[simp] theorem s_strI {z : Int} : O.str? (.sh (.int z)) = none := rfl
@[simp] theorem s_mlst {it : En → Res (List D)} {vs : List Nat} {gg : O → En → Option En} : mLc it vs gg n m en = (it en).bnd fun ds => if vs.all fun i => Sl.free? en[i]? then (match lcL gg n m (wipeE en vs) ds with
    | some os => if os.length ≤ ML then .ok (.own (.lst os)) else .stuck
    | none => .stuck) else .stuck := rfl
@[simp] theorem s_yes : mYes en = .ok true := rfl
@[simp] theorem s_J : mJ m en = (m en).bnd fun r => match r with
  | .own o => (match o.fz.seqI with | some ds => .ok ds | none => .stuck)
  | .bor o => (match o.seq? with | some ds => .ok ds | none => .stuck) := rfl
@[simp] theorem s_rInt {z : Int} : rInt z = some (.own (.sh (.int z))) := rfl
@[simp] theorem s_rBl {z : Bool} : rBl z = some (.own (.sh (.bl z))) := rfl
@[simp] theorem s_rSh : rSh d = some (.own (.sh d)) := rfl
@[simp] theorem s_part0 : mPart none en = .ok none := rfl
@[simp] theorem s_part1 : mPart (some m) en = (m en).bnd fun r => match r.o.int? with | some i => .ok (some i) | none => .stuck := rfl
@[simp] theorem s_sl {q : O → Option Int → Option Int → Option R} {l v : En → Res (Option Int)} : mSl q ma l v en = (ma en).bnd fun a => (l en).bnd fun i => (v en).bnd fun j => .of (q a.o i j) := rfl
end
section
variable {i j : Int} {s t : List Nat} {k : Bool} {d : D}
@[simp] theorem e_add : addO (.sh (.int i)) (.sh (.int j)) = some (.own (.sh (.int (i + j)))) := rfl
@[simp] theorem e_sub : subO (.sh (.int i)) (.sh (.int j)) = some (.own (.sh (.int (i - j)))) := rfl
theorem e_mul (h : W64 i = true ∨ W64 j = true) : mulO (.sh (.int i)) (.sh (.int j)) = some (.own (.sh (.int (i * j)))) := by
  have : (W64 i || W64 j) = true := by rcases h with h | h <;> simp [h]
  unfold mulO orR mulO0 opI
  simp [this]
theorem w64 (h1 : -(2 ^ 64) < i) (h2 : i < 2 ^ 64) : W64 i = true := W64_iff.mpr ⟨h1, h2⟩
theorem e_mod (h : 0 < j) : modO (.sh (.int i)) (.sh (.int j)) = some (.own (.sh (.int (i % j)))) := by unfold modO opI; simp [h]
theorem e_fdiv (h : 0 < j) (h2 : j.natAbs.log2 < 9000) : fdivO (.sh (.int i)) (.sh (.int j)) = some (.own (.sh (.int (i / j)))) := by unfold fdivO opI; simp [h, h2]
theorem log_small (h : 0 < j) (h2 : j < 2 ^ 64) : j.natAbs.log2 < 9000 := by
  have h3 : j.natAbs ≠ 0 := by omega
  have : j.natAbs.log2 < 64 := (Nat.log2_lt h3).mpr (by omega)
  omega
@[simp] theorem e_neg : negO (.sh (.int i)) = some (.own (.sh (.int (-i)))) := rfl
@[simp] theorem e_lt : ltO (.sh (.int i)) (.sh (.int j)) = some (.own (.sh (.bl (decide (i < j))))) := rfl
@[simp] theorem e_le : leO (.sh (.int i)) (.sh (.int j)) = some (.own (.sh (.bl (decide (i ≤ j))))) := rfl
@[simp] theorem e_gt : gtO (.sh (.int i)) (.sh (.int j)) = some (.own (.sh (.bl (decide (j < i))))) := rfl
@[simp] theorem e_ge : geO (.sh (.int i)) (.sh (.int j)) = some (.own (.sh (.bl (decide (j ≤ i))))) := rfl
@[simp] theorem e_max : maxO (.sh (.int i)) (.sh (.int j)) = some (.own (.sh (.int (if j > i then j else i)))) := rfl
@[simp] theorem e_min : minO (.sh (.int i)) (.sh (.int j)) = some (.own (.sh (.int (if j < i then j else i)))) := rfl
@[simp] theorem e_abs : absO (.sh (.int i)) = some (.own (.sh (.int (if i < 0 then -i else i)))) := rfl
@[simp] theorem e_int : intO (.sh (.int i)) = some (.own (.sh (.int i))) := rfl
@[simp] theorem e_intB : intO (.sh (.bl k)) = some (.own (.sh (.int (if k then 1 else 0)))) := rfl
@[simp] theorem e_eqI : eqO (.sh (.int i)) (.sh (.int j)) = some (.own (.sh (.bl (i == j)))) := by simp [eqO, orR, eqSc, O.sh?, scD, deq]
@[simp] theorem e_eqS : eqO (.sh (.str s)) (.sh (.str t)) = some (.own (.sh (.bl (s == t)))) := by simp [eqO, orR, eqSc, O.sh?, scD, deq]
@[simp] theorem e_eqB {l : Bool} : eqO (.sh (.bl k)) (.sh (.bl l)) = some (.own (.sh (.bl (k == l)))) := by simp [eqO, orR, eqSc, O.sh?, scD, deq]
@[simp] theorem e_neI : neO (.sh (.int i)) (.sh (.int j)) = some (.own (.sh (.bl (!(i == j))))) := by simp [neO, orR, eqSc, O.sh?, scD, deq]
@[simp] theorem e_neS : neO (.sh (.str s)) (.sh (.str t)) = some (.own (.sh (.bl (!(s == t))))) := by simp [neO, orR, eqSc, O.sh?, scD, deq]
@[simp] theorem e_isN {o : O} : isO false o (.sh .non) = some (.own (.sh (.bl o.isNon))) := rfl
@[simp] theorem e_isnN {o : O} : isO true o (.sh .non) = some (.own (.sh (.bl (!o.isNon)))) := rfl
@[simp] theorem e_non1 : O.isNon (.sh .non) = true := rfl
@[simp] theorem e_non2 : O.isNon (.sh (.int i)) = false := rfl
@[simp] theorem e_non3 : O.isNon (.sh (.bl k)) = false := rfl
@[simp] theorem e_non4 : O.isNon (.sh (.str s)) = false := rfl
@[simp] theorem e_isB {l : Bool} : isO false (.sh (.bl k)) (.sh (.bl l)) = some (.own (.sh (.bl (k == l)))) := rfl
@[simp] theorem e_isnB {l : Bool} : isO true (.sh (.bl k)) (.sh (.bl l)) = some (.own (.sh (.bl (!(k == l))))) := rfl
@[simp] theorem e_inS {c : Nat} : inO false (.sh (.str [c])) (.sh (.str t)) = some (.own (.sh (.bl (decide (c ∈ t))))) := rfl
@[simp] theorem e_ninS {c : Nat} : inO true (.sh (.str [c])) (.sh (.str t)) = some (.own (.sh (.bl (!decide (c ∈ t))))) := rfl
theorem e_addS (h : s.length + t.length ≤ ML) : addO (.sh (.str s)) (.sh (.str t)) = some (.own (.sh (.str (s ++ t)))) := by
  unfold addO orR opI addS
  simp [h]
theorem e_addL {x y : List D} (h : x.length + y.length ≤ ML) : addO (.sh (.lst x)) (.sh (.lst y)) = some (.own (.lst ((x ++ y).map .sh))) := by
  unfold addO orR opI addS addL
  simp [h, O.int?, O.str?, O.lst?, rLst]
theorem e_addLo {x y : List D} (h : x.length + y.length ≤ ML) : addO (.sh (.lst x)) (.lst (y.map .sh)) = some (.own (.lst ((x ++ y).map .sh))) := by
  have e : shs (y.map .sh) = some y := by
    induction y with
    | nil => rfl
    | cons a y ih => simp only [List.map_cons, shs]; rw [ih (by simp at h; omega)]; rfl
  unfold addO orR opI addS addL
  simp [h, O.int?, O.str?, O.lst?, rLst, e]
theorem ixO_L {l : List D} {n : Nat} {d : D} (h : l[n]? = some d) : ixO (.sh (.lst l)) (.sh (.int n)) = some (.own (.sh d)) := by
  unfold ixO orR ixQ
  simp only [O.items, O.int?]
  rw [L2.atI_nat (v := O.sh d) (by rw [List.getElem?_map, h]; rfl)]
  rfl
theorem ixO_T {l : List D} {n : Nat} {d : D} (h : l[n]? = some d) : ixO (.sh (.tup l)) (.sh (.int n)) = some (.own (.sh d)) := by
  unfold ixO orR ixQ
  simp only [O.items, O.int?]
  rw [L2.atI_nat (v := O.sh d) (by rw [List.getElem?_map, h]; rfl)]
  rfl
theorem ixO_S {n : Nat} {c : Nat} (h : s[n]? = some c) (hz : s.length ≤ ML) : ixO (.sh (.str s)) (.sh (.int n)) = some (.own (.sh (.str [c]))) := by
  unfold ixO orR ixQ ixS
  simp only [O.items, O.int?, O.str?]
  rw [if_pos hz, L2.atI_nat h]
  rfl
theorem lenQ_S (hz : s.length ≤ ML) : lenQ (.sh (.str s)) = some (.own (.sh (.int s.length))) := by
  unfold lenQ
  simp [O.items, hz]
@[simp] theorem lenQ_L {l : List D} : lenQ (.sh (.lst l)) = some (.own (.sh (.int l.length))) := by
  unfold lenQ; simp [O.items]
@[simp] theorem lenQ_T {l : List D} : lenQ (.sh (.tup l)) = some (.own (.sh (.int l.length))) := by
  unfold lenQ; simp [O.items]
theorem dbls_map {α : Type} {q : α → Bool} : ∀ l : List α, dbls (l.map fun x => .bl (q x)) = some (l.map q)
  | [] => rfl
  | a :: l => by simp only [List.map_cons, dbls, dbls_map l]; rfl
theorem shs_mapf {α : Type} {q : α → D} : ∀ l : List α, shs (l.map fun x => .sh (q x)) = some (l.map q)
  | [] => rfl
  | a :: l => by simp only [List.map_cons, shs, shs_mapf l]; rfl
theorem allO_map {α : Type} {q : α → Bool} {l : List α} : allO (.lst (l.map fun x => .sh (.bl (q x)))) = some (.own (.sh (.bl (l.all q)))) := by
  unfold allO
  have e : O.lst? (.lst (l.map fun x => .sh (.bl (q x)))) = some (l.map fun x => .bl (q x)) := shs_mapf (q := fun x => D.bl (q x)) l
  rw [e]
  simp only [Option.bind_some, dbls_map]
  simp [List.all_map, Function.comp_def]
theorem allO_true {α : Type} {l : List α} : allO (.lst (l.map fun _ => .sh (.bl true))) = some (.own (.sh (.bl true))) := by
  rw [allO_map (q := fun _ => true)]
  simp
/-- a comprehension, each item told -/
theorem lcL_map {α : Type} {g : O → En → Option En} {elt : En → Res R} {en : En} {mk : α → D} {q : α → O} : ∀ {l : List α}, (∀ x ∈ l, ∃ en1, g (.sh (mk x)) en = some en1 ∧ elt en1 = .ok (.own (q x))) → lcL g mYes elt en (l.map mk) = some (l.map q)
  | [], _ => rfl
  | a :: l, h => by
    obtain ⟨en1, h1, h2⟩ := h a (List.mem_cons_self ..)
    have ih := lcL_map (l := l) fun x m => h x (List.mem_cons_of_mem _ m)
    simp only [List.map_cons, lcL, h1, mYes, h2, ih, Option.map_some]
theorem ixO_Lm {l : List D} {a n : Int} (hn : (l.length : Int) = n) (h0 : 0 < n) : ixO (.sh (.lst l)) (.sh (.int (a % n))) = some (.own (.sh (l.getD (a % n).toNat .non))) := by
  have h1 := Int.emod_nonneg a (show n ≠ 0 by omega)
  have h2 := Int.emod_lt_of_pos a h0
  obtain ⟨k, hk⟩ : ∃ k : Nat, a % n = k := ⟨(a % n).toNat, by omega⟩
  rw [hk, Int.toNat_natCast]
  have hl : k < l.length := by omega
  exact ixO_L (by rw [List.getElem?_eq_getElem hl, List.getD_eq_getElem?_getD, List.getElem?_eq_getElem hl]; rfl)
theorem ixO_Sm {s : List Nat} {a n : Int} (hn : (s.length : Int) = n) (h0 : 0 < n) (hz : s.length ≤ ML) : ixO (.sh (.str s)) (.sh (.int (a % n))) = some (.own (.sh (.str [s.getD (a % n).toNat 0]))) := by
  have h1 := Int.emod_nonneg a (show n ≠ 0 by omega)
  have h2 := Int.emod_lt_of_pos a h0
  obtain ⟨k, hk⟩ : ∃ k : Nat, a % n = k := ⟨(a % n).toNat, by omega⟩
  rw [hk, Int.toNat_natCast]
  have hl : k < s.length := by omega
  exact ixO_S (by rw [List.getElem?_eq_getElem hl, List.getD_eq_getElem?_getD, List.getElem?_eq_getElem hl]; rfl) hz
theorem cut_from {α : Type} {xs : List α} (h : 0 ≤ i) : cutD xs (some i) none = xs.drop i.toNat := by
  unfold cutD
  simp only [HT.sIx]
  rw [if_neg (by omega)]
  by_cases c : i.toNat ≤ xs.length
  · rw [Nat.min_eq_left c, List.take_of_length_le (by rw [List.length_drop]; omega)]
  · rw [Nat.min_eq_right (by omega), List.drop_eq_nil_of_le (Nat.le_refl _), List.drop_eq_nil_of_le (by omega), List.take_nil]
theorem cut_to {α : Type} {xs : List α} (h : 0 ≤ i) : cutD xs none (some i) = xs.take i.toNat := by
  unfold cutD
  simp only [HT.sIx]
  rw [if_neg (by omega), List.drop_zero, Nat.sub_zero]
  by_cases c : i.toNat ≤ xs.length
  · rw [Nat.min_eq_left c]
  · rw [Nat.min_eq_right (by omega), List.take_of_length_le (Nat.le_refl _), List.take_of_length_le (by omega)]
theorem slO_S {lo hi : Option Int} (hz : s.length ≤ ML) : slO (.sh (.str s)) lo hi = some (.own (.sh (.str (cutD s lo hi)))) := by
  unfold slO slS
  simp [hz]
end
end DL

set_option maxHeartbeats 1000000
/-! DO: more of the built-ins: +=, join, min and max of a list -/
namespace DL
open PySem PySem.Spec L2
open PyProof.Rows hiding St

/-! ### n += e -/
def mAug (i : Nat) (m : En → Res R) (en : En) : SR := match en[i]? with
  | some (.own (.sh (.int a))) => .of (m en) fun r => match r.o.int? with
    | some b => .nx (en.set i (.own (.sh (.int (a + b)))))
    | none => .stuck
  | _ => .stuck
section
variable {X : Cx} {G : CC} {W : WX} {pos pos' : Pos} {e o : Expr} {m ma mb : En → Res R}
theorem tAug_D {i : Nat} {D : Ends} {σ : St} {H : Hp} (h : tS G W (mAug i m) D σ H) : tAug i (tD G W m) (ipI fun a b => a + b) D σ H := by
  obtain ⟨F, B, L, en, fp, s, p⟩ := h
  unfold mAug at p
  split at p
  · rename_i a e0
    obtain ⟨v, d, hv, e1, r⟩ := look_ok s e0 (o := .sh (.int a)) rfl
    cases e1
    refine ⟨v, hv, F, B, L, en, fp, s, ?_⟩
    cases ea : m en with
    | stuck => rw [ea] at p; exact p.elim
    | exc x e => rw [ea] at p; exact p
    | ok rr =>
      rw [ea] at p
      simp only [SR.of] at p
      intro y F1 H1 r1
      cases e2 : rr.o.int? with
      | none => simp only [e2] at p; exact p.elim
      | some b =>
        simp only [e2] at p
        obtain ⟨f, q⟩ := r1.has
        rw [O.int?_eq e2] at q
        refine ⟨a, b, (show Own G F H v (.sh (.int a)) [] from .sh r).intV, q.intV, ?_⟩
        have s1 := s.pure r1.nx
        obtain ⟨fp2, s2, sub⟩ := s1.put (Own.sh (Rep.int (a + b))) (by rw [List.append_nil]; exact s1.nd) (fun _ m => nomatch m) e0 rfl
        refine p _ F1 H1 ⟨fp2, ?_, s2⟩
        exact (r1.nx.wide0 fp).sub fun a m => by
          have := sub a m
          rwa [List.append_nil] at this
  · exact p.elim
theorem ds_aug (i : Nat) {x : Str} (hN : X.N.Nodup) (he : PE X e (tD G W m)) (hi : X.N[i]? = some x := by rfl) (hx : Loc X.env.scope x := by first | exact Or.inl rfl | exact Or.inr rfl)
    (hf : X.fn x = true ∨ X.env.scope.names.lookup x = some .local := by first | exact .inl rfl | exact .inr rfl) : PS X (.AugAssign (.Name x pos') .Add e pos) (tS G W (mAug i m)) :=
  (ps_aug hN hi hx he ip_add hf).imp fun _ _ _ h => tAug_D h

/-! ### methods of texts -/
def mS0 (f : List Nat → Option R) (ma : En → Res R) (en : En) : Res R := (ma en).bnd fun a => match a.o.str? with
  | some s => .of (f s)
  | none => .stuck
def mS1 (f : List Nat → O → Option R) (ma mb : En → Res R) (en : En) : Res R := (ma en).bnd fun a => match a.o.str? with
  | some s => (mb en).bnd fun b => .of (f s b.o)
  | none => .stuck
def SD0 (G : CC) (r : V → List V → Hp → VK → Prop) (f : List Nat → Option R) : Prop := ∀ F H s Q, Le F H → VPost G F H Q (f s) → r (.str (SX.S s)) [] H Q
def SD1 (G : CC) (r : V → List V → Hp → VK → Prop) (f : List Nat → O → Option R) : Prop := ∀ F H s y b g Q, Le F H → Own G F H y b g → VPost G F H Q (f s b) → r (.str (SX.S s)) [y] H Q
theorem tM0_D {r : V → List V → Hp → VK → Prop} {f : List Nat → Option R} (hd : SD0 G r f) {σ : St} {H : Hp} {Q : VK} (h : tD G W (mS0 f ma) σ H Q) : tM0 r (tD G W ma) σ H Q := by
  obtain ⟨F, B, L, en, fp, s, p⟩ := h
  refine ⟨F, B, L, en, fp, s, ?_⟩
  unfold mS0 at p
  cases ea : ma en with
  | stuck => rw [ea] at p; exact p.elim
  | exc x e => rw [ea] at p; exact p
  | ok a =>
    rw [ea] at p
    simp only [Res.bnd] at p
    intro x F1 H1 r1
    obtain ⟨g, q⟩ := r1.has
    cases e : a.o.str? with
    | none => simp only [e] at p; exact p.elim
    | some z =>
      simp only [e] at p
      rw [O.str?_eq e] at q
      rw [q.strV]
      refine ⟨⟨_, rfl⟩, hd F1 H1 z Q r1.nx.le ?_⟩
      cases e2 : f z with
      | none => rw [e2] at p; exact p.elim
      | some w => rw [e2] at p; exact fun v F3 H3 r3 => p v F3 H3 (r3.after r1.nx)
theorem tM1_D {r : V → List V → Hp → VK → Prop} {f : List Nat → O → Option R} (hd : SD1 G r f) {σ : St} {H : Hp} {Q : VK} (h : tD G W (mS1 f ma mb) σ H Q) : tM1 r (tD G W ma) (tD G W mb) σ H Q := by
  obtain ⟨F, B, L, en, fp, s, p⟩ := h
  refine ⟨F, B, L, en, fp, s, ?_⟩
  unfold mS1 at p
  cases ea : ma en with
  | stuck => rw [ea] at p; exact p.elim
  | exc x e => rw [ea] at p; exact p
  | ok a =>
    rw [ea] at p
    simp only [Res.bnd] at p
    intro x F1 H1 r1
    obtain ⟨g, q⟩ := r1.has
    cases e : a.o.str? with
    | none => simp only [e] at p; exact p.elim
    | some z =>
      simp only [e] at p
      rw [O.str?_eq e] at q
      rw [q.strV]
      refine ⟨⟨_, rfl⟩, F1, B, L, en, fp, s.pure r1.nx, ?_⟩
      cases eb : mb en with
      | stuck => rw [eb] at p; exact p.elim
      | exc x e => rw [eb] at p; exact EPost.after (r1.nx.wide0 fp) p
      | ok b =>
        rw [eb] at p
        simp only [Res.bnd] at p
        intro y F2 H2 r2
        obtain ⟨g2, q2⟩ := r2.has
        have n2 := r1.nx.trans r2.nx
        refine hd F2 H2 z y b.o g2 Q n2.le q2 ?_
        cases e2 : f z b.o with
        | none => rw [e2] at p; exact p.elim
        | some w => rw [e2] at p; exact fun v F3 H3 r3 => p v F3 H3 (r3.after n2)
/-- sep.join(texts) -/
def joinO (s : List Nat) (b : O) : Option R := match b.seq?.bind dstrs with
  | some ys => if (ys.map (·.length)).sum + ys.length * s.length ≤ ML then rSh (.str (TL.joinL s ys)) else none
  | none => none
theorem reps_strs {F : Hp} : ∀ {vs : List V} {ds : List D} {ys : List (List Nat)}, Reps G F vs ds → dstrs ds = some ys → vs = (ys.map SX.S).map V.str
  | [], _, ys, .nil, e => by cases e; rfl
  | v :: vs, d :: ds, ys, .cons h r, e => by
    cases d with
    | str s =>
      simp only [dstrs, Option.map_eq_some_iff] at e
      obtain ⟨zs, e, rfl⟩ := e
      cases h
      rw [reps_strs r e]
      rfl
    | _ => simp [dstrs] at e
theorem joinO_ok : SD1 G (fun x xs H Q => ∃ a p, ∃ ys : List Str, x = .str a ∧ xs = [.ref p] ∧ (SqL G.K H p (ys.map V.str) ∨ SqT G.K H p (ys.map V.str)) ∧ (ys.map (·.length)).sum + ys.length * a.length ≤ 16777216 ∧ Q (.str (Txt.join a ys)) H) joinO := by
  intro F H s y b g Q l q p
  unfold joinO at p
  split at p
  · rename_i ys e
    obtain ⟨ds, e1, e2⟩ := bind_some e
    split at p
    · rename_i hz
      obtain ⟨a, vs, rfl, h1, h2⟩ := q.seqOf l e1
      have ev := reps_strs h2 e2
      subst ev
      refine ⟨SX.S s, a, ys.map SX.S, rfl, rfl, h1, ?_, ?_⟩
      · rw [SX.lens, List.length_map, SX.S_len]
        exact hz
      · rw [SX.join_S]
        exact vp_sh l (.str _) p
    · exact p.elim
  · exact p.elim
theorem dp_join {apos pos : Pos} (ho : PE X o (tD G W ma)) (he : PE X e (tD G W mb)) (hK : G.K = X.K := by rfl) (hs : starEach [e] X.env = [(false, eval e X.env)] := by rfl) (hbase : attributeBase o "join" X.env (eval o X.env) = eval o X.env := by rfl) (hline : (apos.endLine == pos.line) = true := by rfl) :
    PE X (.Call (.Attribute o "join" apos) [e] [] pos) (tD G W (mS1 joinO ma mb)) := (pe_join ho he hs hbase hline).imp fun _ _ _ h => by
  have := tM1_D (joinO_ok (G := G)) h
  rw [hK] at this
  exact this
end

/-! ### min and max of a list -/
def minI : List Int → Int
  | [] => 0
  | [a] => a
  | a :: l => if a ≤ minI l then a else minI l
def maxI : List Int → Int
  | [] => 0
  | [a] => a
  | a :: l => if maxI l ≤ a then a else maxI l
theorem minI_ok : ∀ {l : List Int}, l ≠ [] → minI l ∈ l ∧ ∀ y ∈ l, minI l ≤ y
  | [a], _ => ⟨List.mem_singleton.mpr rfl, fun y m => by rw [List.mem_singleton.mp m]; exact Int.le_refl _⟩
  | a :: b :: l, _ => by
    obtain ⟨h1, h2⟩ := minI_ok (l := b :: l) (List.cons_ne_nil _ _)
    unfold minI
    split
    · rename_i h
      refine ⟨List.mem_cons_self .., fun y m => ?_⟩
      rcases List.mem_cons.mp m with e | m
      · exact e ▸ Int.le_refl _
      · exact Int.le_trans h (h2 y m)
    · rename_i h
      refine ⟨List.mem_cons_of_mem _ h1, fun y m => ?_⟩
      rcases List.mem_cons.mp m with e | m
      · subst e; omega
      · exact h2 y m
theorem maxI_ok : ∀ {l : List Int}, l ≠ [] → maxI l ∈ l ∧ ∀ y ∈ l, y ≤ maxI l
  | [a], _ => ⟨List.mem_singleton.mpr rfl, fun y m => by rw [List.mem_singleton.mp m]; exact Int.le_refl _⟩
  | a :: b :: l, _ => by
    obtain ⟨h1, h2⟩ := maxI_ok (l := b :: l) (List.cons_ne_nil _ _)
    unfold maxI
    split
    · rename_i h
      refine ⟨List.mem_cons_self .., fun y m => ?_⟩
      rcases List.mem_cons.mp m with e | m
      · exact e ▸ Int.le_refl _
      · exact Int.le_trans (h2 y m) h
    · rename_i h
      refine ⟨List.mem_cons_of_mem _ h1, fun y m => ?_⟩
      rcases List.mem_cons.mp m with e | m
      · subst e; omega
      · exact h2 y m
def minL (o : O) : Option R := match o.lst?.bind dints with
  | some ns => if ns = [] then none else rInt (minI ns)
  | none => none
def maxL (o : O) : Option R := match o.lst?.bind dints with
  | some ns => if ns = [] then none else rInt (maxI ns)
  | none => none
theorem minL_ok {G : CC} : CallD G (rMin G.K) (fn1 minL) := fn1_ok fun F H v o f Q l ha p => by
  unfold minL at p
  split at p
  · rename_i ns e2
    obtain ⟨ds, e, e2⟩ := bind_some e2
    split at p
    · exact p.elim
    · rename_i hn
      obtain ⟨a, vs, rfl, s, r⟩ := ha.lstOf l e
      refine ⟨a, ns, rfl, by rw [← r.dints e2]; exact s, List.length_pos_iff.mpr hn, fun m h1 h2 => ?_⟩
      obtain ⟨g1, g2⟩ := minI_ok hn
      have : m = minI ns := Int.le_antisymm (h2 _ g1) (g2 m h1)
      rw [this]
      exact vp_sh l (.int _) p
  · exact p.elim
theorem maxL_ok {G : CC} : CallD G (rMax G.K) (fn1 maxL) := fn1_ok fun F H v o f Q l ha p => by
  unfold maxL at p
  split at p
  · rename_i ns e2
    obtain ⟨ds, e, e2⟩ := bind_some e2
    split at p
    · exact p.elim
    · rename_i hn
      obtain ⟨a, vs, rfl, s, r⟩ := ha.lstOf l e
      refine ⟨a, ns, rfl, by rw [← r.dints e2]; exact s, List.length_pos_iff.mpr hn, fun m h1 h2 => ?_⟩
      obtain ⟨g1, g2⟩ := maxI_ok hn
      have : m = maxI ns := Int.le_antisymm (g2 m h1) (h2 _ g1)
      rw [this]
      exact vp_sh l (.int _) p
  · exact p.elim

/-! ### by simp -/
section
variable {en : En} {i : Nat} {m ma mb : En → Res R} {f0 : List Nat → Option R} {f1 : List Nat → O → Option R}
@[simp] theorem s_aug : mAug i m en = match en[i]? with
  | some (.own (.sh (.int a))) => .of (m en) fun r => (match r.o.int? with
    | some b => .nx (en.set i (.own (.sh (.int (a + b)))))
    | none => .stuck)
  | _ => .stuck := rfl
@[simp] theorem s_S0 : mS0 f0 ma en = (ma en).bnd fun a => match a.o.str? with
  | some s => .of (f0 s)
  | none => .stuck := rfl
@[simp] theorem s_S1 : mS1 f1 ma mb en = (ma en).bnd fun a => match a.o.str? with
  | some s => (mb en).bnd fun b => .of (f1 s b.o)
  | none => .stuck := rfl
theorem dstrs_map {α : Type} {q : α → List Nat} : ∀ l : List α, dstrs (l.map fun x => .str (q x)) = some (l.map q)
  | [] => rfl
  | a :: l => by simp only [List.map_cons, dstrs, dstrs_map l]; rfl
theorem dints_map {α : Type} {q : α → Int} : ∀ l : List α, dints (l.map fun x => .int (q x)) = some (l.map q)
  | [] => rfl
  | a :: l => by simp only [List.map_cons, dints, dints_map l]; rfl
theorem joinO_own {α : Type} {s : List Nat} {q : α → List Nat} {l : List α} (h : ((l.map q).map (·.length)).sum + l.length * s.length ≤ ML) : joinO s (.lst (l.map fun x => .sh (.str (q x)))) = some (.own (.sh (.str (TL.joinL s (l.map q))))) := by
  unfold joinO
  have e : O.seq? (.lst (l.map fun x => .sh (.str (q x)))) = some (l.map fun x => .str (q x)) := by
    unfold O.seq?
    have : O.lst? (.lst (l.map fun x => .sh (.str (q x)))) = some (l.map fun x => .str (q x)) := shs_mapf (q := fun x => D.str (q x)) l
    rw [this]
  rw [e]
  simp only [Option.bind_some, dstrs_map]
  rw [if_pos (by simpa using h)]
  rfl
theorem minL_own {α : Type} {q : α → Int} {l : List α} (h : l ≠ []) : minL (.lst (l.map fun x => .sh (.int (q x)))) = some (.own (.sh (.int (minI (l.map q))))) := by
  unfold minL
  have e : O.lst? (.lst (l.map fun x => .sh (.int (q x)))) = some (l.map fun x => .int (q x)) := shs_mapf (q := fun x => D.int (q x)) l
  rw [e]
  simp only [Option.bind_some, dints_map]
  rw [if_neg (by simpa using h)]
  rfl
@[simp] theorem s_jr1 : mJRng1 ma en = (ma en).bnd fun r => match r.o.int? with
  | some j => if okR j then .ok (rangeD 0 j.toNat) else .stuck
  | none => .stuck := rfl
@[simp] theorem s_r1 : mRng1 ma en = (ma en).bnd fun r => match r.o.int? with
  | some j => if okR j then .ok (rangeD 0 j.toNat, en) else .stuck
  | none => .stuck := rfl
@[simp] theorem s_r2 : mRng2 ma mb en = (ma en).bnd fun r => (mb en).bnd fun q => match r.o.int?, q.o.int? with
  | some i, some j => if okR i && okR j then .ok (rangeD i (j - i).toNat, en) else .stuck
  | _, _ => .stuck := rfl
@[simp] theorem s_while {fuel : En → Nat} {t : En → Res Bool} {dead : List Nat} {body : En → SR} : mWhile fuel t dead body en = whileL t body dead (fuel en) (wipeE en dead) := rfl
theorem s_wh1 {n : Nat} {t : En → Res Bool} {dead : List Nat} {body : En → SR} : whileL t body dead (n + 1) en = .of (t en) fun k => if k then (match body en with
      | .nx en' => whileL t body dead n (wipeE en' dead)
      | .ct en' => whileL t body dead n (wipeE en' dead)
      | .bk en' => .nx (wipeE en' dead)
      | r => r) else .nx en := rfl
theorem ixO_Li {l : List D} {i : Int} (h0 : 0 ≤ i) (h : i < l.length) : ixO (.sh (.lst l)) (.sh (.int i)) = some (.own (.sh (l.getD i.toNat .non))) := by
  obtain ⟨k, rfl⟩ : ∃ k : Nat, i = k := ⟨i.toNat, by omega⟩
  have hl : k < l.length := by omega
  rw [Int.toNat_natCast]
  exact ixO_L (by rw [List.getElem?_eq_getElem hl, List.getD_eq_getElem?_getD, List.getElem?_eq_getElem hl]; rfl)
theorem ixO_Ti {l : List D} {i : Int} (h0 : 0 ≤ i) (h : i < l.length) : ixO (.sh (.tup l)) (.sh (.int i)) = some (.own (.sh (l.getD i.toNat .non))) := by
  obtain ⟨k, rfl⟩ : ∃ k : Nat, i = k := ⟨i.toNat, by omega⟩
  have hl : k < l.length := by omega
  rw [Int.toNat_natCast]
  exact ixO_T (by rw [List.getElem?_eq_getElem hl, List.getD_eq_getElem?_getD, List.getElem?_eq_getElem hl]; rfl)
theorem ixO_Si {s : List Nat} {i : Int} (h0 : 0 ≤ i) (h : i < s.length) (hz : s.length ≤ ML) : ixO (.sh (.str s)) (.sh (.int i)) = some (.own (.sh (.str [s.getD i.toNat 0]))) := by
  obtain ⟨k, rfl⟩ : ∃ k : Nat, i = k := ⟨i.toNat, by omega⟩
  have hl : k < s.length := by omega
  rw [Int.toNat_natCast]
  exact ixO_S (by rw [List.getElem?_eq_getElem hl, List.getD_eq_getElem?_getD, List.getElem?_eq_getElem hl]; rfl) hz
/-- the last one -/
theorem ixO_last {l : List D} (h : l ≠ []) : ixO (.sh (.lst l)) (.sh (.int (-1))) = some (.own (.sh (l.getLast h))) := by
  have hp : 0 < l.length := List.length_pos_iff.mpr h
  have e : L2.atI (l.map O.sh) (-1) = some (.sh (l.getLast h)) := by
    unfold L2.atI L2.ixN
    rw [if_neg (by omega), List.length_map, if_pos (by omega)]
    have : ((-1 : Int) + (l.length : Int)).toNat = l.length - 1 := by omega
    simp only [Option.bind_some, this, List.getElem?_map]
    rw [List.getLast_eq_getElem]
    rw [List.getElem?_eq_getElem (by omega)]
    rfl
  unfold ixO orR ixQ
  simp only [O.items, O.int?]
  rw [e]
  rfl
theorem rev_L {l : List D} : revO (.sh (.lst l)) = some (.own (.lst (l.reverse.map .sh))) := rfl
theorem list_L {l : List D} : listO (.sh (.lst l)) = some (.own (.lst (l.map .sh))) := rfl
theorem list_T {l : List D} : listO (.sh (.tup l)) = some (.own (.lst (l.map .sh))) := rfl
theorem tuple_L {l : List D} : tupleO (.sh (.lst l)) = some (.own (.sh (.tup l))) := rfl
/-- a loop by an invariant -/
theorem forL_inv {g : O → En → Option En} {body : En → SR} {dead : List Nat} (P : Nat → En → Prop) : ∀ {ds : List D} {en : En} (k : Nat), (∀ i en d, P (k + i) en → ds[i]? = some d → ∃ en1 en', g (.sh d) en = some en1 ∧ body en1 = .nx en' ∧ P (k + i + 1) (wipeE en' dead)) → P k en → ∃ en', forL g body dead ds en = .nx en' ∧ P (k + ds.length) en'
  | [], en, k, _, h => ⟨en, rfl, h⟩
  | d :: ds, en, k, hs, h => by
    obtain ⟨en1, en', h1, h2, h3⟩ := hs 0 en d h rfl
    obtain ⟨en2, h4, h5⟩ := forL_inv P (ds := ds) (en := wipeE en' dead) (k + 1) (fun i en d p e => by
      have := hs (i + 1) en d (by rw [show k + (i + 1) = k + 1 + i by omega]; exact p) (by simpa using e)
      rwa [show k + (i + 1) + 1 = k + 1 + i + 1 by omega] at this) h3
    refine ⟨en2, ?_, by rw [List.length_cons, show k + (ds.length + 1) = k + 1 + ds.length by omega]; exact h5⟩
    rw [s_for1, h1]
    simp only [h2]
    exact h4
theorem joinL_nil {α : Type} {q : α → Nat} : ∀ l : List α, TL.joinL [] (l.map fun x => [q x]) = l.map q
  | [] => rfl
  | [a] => rfl
  | a :: b :: l => by
    have := joinL_nil (q := q) (b :: l)
    simp only [List.map_cons] at this ⊢
    show [q a] ++ ([] ++ TL.joinL [] ([q b] :: l.map fun x => [q x])) = _
    rw [List.nil_append, this]
    rfl
/-- a text of single signs -/
theorem joinO_signs {α : Type} {q : α → Nat} {l : List α} (h : l.length ≤ ML) : joinO [] (.lst (l.map fun x => .sh (.str [q x]))) = some (.own (.sh (.str (l.map q)))) := by
  rw [joinO_own (q := fun x => [q x]), joinL_nil]
  have e : ((l.map fun x => [q x]).map (·.length)).sum = l.length := by
    rw [List.map_map]
    have : ((fun x : List Nat => x.length) ∘ fun x => [q x]) = fun _ : α => 1 := rfl
    rw [this]
    induction l with
    | nil => rfl
    | cons a l ih => simp only [List.map_cons, List.sum_cons, List.length_cons]; rw [ih (by simp at h; omega)]; omega
  rw [e]
  simpa using h
theorem e_minN {m n : Nat} : minO (.sh (.int (m : Int))) (.sh (.int (n : Int))) = some (.own (.sh (.int ((min m n : Nat) : Int)))) := by
  have : (if (n : Int) < m then (n : Int) else m) = ((min m n : Nat) : Int) := by split <;> omega
  rw [e_min, this]
theorem e_maxN {m n : Nat} : maxO (.sh (.int (m : Int))) (.sh (.int (n : Int))) = some (.own (.sh (.int ((max m n : Nat) : Int)))) := by
  have : (if (n : Int) > m then (n : Int) else m) = ((max m n : Nat) : Int) := by split <;> omega
  rw [e_max, this]
mutual
theorem deq_refl : ∀ (n : Nat) (a : D), pl n a = true → deq a a = true
  | _, .non, _ => rfl
  | _, .bl b, _ => by simp [deq]
  | _, .int b, _ => by simp [deq]
  | _, .str b, _ => by simp [deq]
  | n + 1, .tup l, h => by
    simp only [deq]
    exact deqs_refl n l (by simpa [pl] using h)
  | n + 1, .lst l, h => by
    simp only [deq]
    exact deqs_refl n l (by simpa [pl] using h)
  | 0, .tup l, h => by cases h
  | 0, .lst l, h => by cases h
  | 0, .dct _ l, h => by cases h
  | 0, .ins _ l, h => by cases h
  | 0, .exc _ l, h => by cases h
  | 0, .fn _, h => by cases h
  | n + 1, .dct _ l, h => by cases h
  | n + 1, .ins _ l, h => by cases h
  | n + 1, .exc _ l, h => by cases h
  | n + 1, .fn _, h => by cases h
theorem deqs_refl : ∀ (n : Nat) (l : List D), (∀ d ∈ l, pl n d = true) → deqs l l = true
  | _, [], _ => by simp [deqs]
  | n, a :: l, h => by
    simp only [deqs, deq_refl n a (h a (List.mem_cons_self ..)), deqs_refl n l (fun d m => h d (List.mem_cons_of_mem _ m)), Bool.and_self]
end
theorem eqO_pl {a b : D} (ha : pl 60 a = true) (hb : pl 60 b = true) : eqO (.sh a) (.sh b) = some (.own (.sh (.bl (deq a b)))) := by
  unfold eqO orR eqSc eqDp
  simp only [O.sh?, O.fz, ha, hb]
  cases scD a b <;> simp
theorem neO_pl {a b : D} (ha : pl 60 a = true) (hb : pl 60 b = true) : neO (.sh a) (.sh b) = some (.own (.sh (.bl (!deq a b)))) := by
  unfold neO orR eqSc eqDp
  simp only [O.sh?, O.fz, ha, hb]
  cases scD a b <;> simp
end
end DL

set_option maxHeartbeats 1000000
/-! DQ: a caught exception kept as a value -/
namespace DL
open PySem PySem.Spec L2
open PyProof.Rows hiding St

theorem xo_ok {P : Program} {w : World} {H : Hp} {h : Heap} {a : Addr} {cls : Value} {d : Option Addr} {oe : Obj} {vs : Array Value} (e : h.get? a = some oe) (z : Zc cls d oe) (hd : oe.data = .fields vs) : ObjOk P w H h a (XO cls d a) :=
  ⟨⟨oe, vs, e, z, hd⟩, ⟨oe, e⟩, fun _ _ ⟨o, v, q, r⟩ k => ⟨o, v, k o q, r⟩⟩
section
variable {X : Cx} {pins : List (Addr × Obj)} {σ : St} {H : Hp} {s : Shared} {a : Addr}
/-- an object that stands, made within this def, is tracked from now on -/
theorem _root_.L2.Inv.track {oe : Obj} {vs : Array Value} {cls : Value} {d : Option Addr} (I : Inv X pins σ H s) (e : s.heap.get? a = some oe) (z : Zc cls d oe) (hd : oe.data = .fields vs) (na : H a = none) (n0 : X.s_0.heap.get? a = none) (nL : a ≠ X.env.locals)
    (nP : ∀ p ∈ X.pn ++ pins, p.1 ≠ a) : Inv X pins σ (upd H a (XO cls d a)) s := by
  have ne0 : ∀ b o, X.s_0.heap.get? b = some o → b ≠ a := fun b o q z => by rw [z, n0] at q; cases q
  refine ⟨I.ok, I.os, I.bare, ⟨I.base.keep, I.base.slot, fun b o q n hx => by rw [upd_ne (ne0 b o q)]; exact I.base.free b o q n hx, I.base.there, fun b xs q => ?_, fun b o u q => ?_, fun b ps q => ?_⟩, I.loc, I.cell, by rw [upd_ne nL.symm]; exact I.free, fun y c q => ?_, fun p hp => ?_, ?_, I.len⟩
  · have := I.base.tups b xs q
    rw [upd_ne (ne_of_none this na)]; exact this
  · have := I.base.frzs b o u q
    rw [upd_ne (ne_of_none this na)]; exact this
  · obtain ⟨m, this⟩ := I.base.tbls b ps q
    exact ⟨m, by rw [upd_ne (ne_of_none this na)]; exact this⟩
  · have hc : c ≠ a := fun e2 => by
      obtain ⟨v, o, ho, hdc⟩ := I.cell y c q
      rw [e2, e] at ho
      cases ho
      rw [hd] at hdc
      cases hdc
    rw [upd_ne hc]; exact I.freeC y c q
  · obtain ⟨p1, p2, p3⟩ := I.pin p hp
    exact ⟨p1, by rw [upd_ne (nP p hp)]; exact p2, p3⟩
  · exact HOk.laidN I.hok (fun _ _ q => q) na (xo_ok e z hd)
end
/-- what the clause 'except x as n' wishes of an exception of the body: slot i is n's; the exception is tracked in the suite and behind it -/
def wKeep (K : PySem.W.Frag) (c : Value) (i : Nat) (ts : TS) (Wout : WX) (D : Ends) : WX := fun cls d σ H =>
  ∃ b, PySem.W.exmOne K cls c = some b ∧ (b = true → ∀ a, H a = none → ts { nx := fun σ' H' => D.nx (σ'.set i none) H', rt := D.rt, bk := fun σ' H' => D.bk (σ'.set i none) H', ct := fun σ' H' => D.ct (σ'.set i none) H' } (σ.set i (some (.ref a))) (upd H a (XO cls d a))) ∧
    (b = false → Wout cls d σ H)
section
variable {X : Cx} {x n : Str} {c : Value} {i : Nat} {body suite : List Stmt} {b₀ : Stmt} {np pos pos' : Pos} {tb : WX → TS} {ts : TS} {Wout : WX}
theorem ps_try_keep (hs : X.stack = X.env :: X.outer) (hf : X.env.frame = some X.env.locals) (hex : X.ex = []) (hN : X.N.Nodup) (hi : X.N[i]? = some n) (hln : X.env.kindOf n = some .local) (hc : Names X x c) (tk : Takes X Wout)
    (hb : ∀ (W : WX) (pn : List (Addr × Obj)) (xe : Value → Shared → Prop), Takes (X.tr pn xe) W → PassesOwn (model X.prog X.w) X.A X.env xe → PSs (X.tr pn xe) body (tb W))
    (hsu : ∀ (a : Addr) (pn : List (Addr × Obj)), PSs (X.suite a pn) (b₀ :: suite) ts) :
    PS X (.Try body [.ExceptHandler (some (.Name x np)) (some n) (b₀ :: suite) pos'] [] [] pos) (fun D σ H => tb (wKeep X.K c i ts Wout D) D σ H) := by
  refine ⟨fun pins s σ H D I h => ?_⟩
  have ok := I.ok
  have hfr : X.A.frames = some (X.env :: X.outer) := by rw [ok.frames, hs]
  have hloc : Loc X.env.scope n := .inl hln
  refine wpAny_Try_except ?_
  refine wpAny_mono ((hb (wKeep X.K c i ts Wout D) (X.pn ++ pins) (fun e s₁ => wpAny (model X.prog X.w) X.A (noteFrame e X.env) (fun _ s₂ => wpAny (model X.prog X.w) X.A (setFlight e none) (fun _ s₃ =>
    wpAny (model X.prog X.w) X.A (handleBy e X.env [.ExceptHandler (some (.Name x np)) (some n) (b₀ :: suite) pos']) (SP X pins D) X.xe s₃) X.xe s₂) X.xe s₁) (fun u s' xx => ?_) PassesOwn.looking).run [] s σ H D (I.toTry _) h) (fun f s1 hsp => ?_) (fun e s1 he => he)
  · -- the catch
    obtain ⟨a, B, sI, pins', σ', H', cls, d, rfl, J', nb, up, sky, na, os, ag, b, hb1, hyes, hno⟩ := xx
    have J : Inv X pins σ' H' sI := J'.ofTry ok
    have sky' : Sky B (X.env :: X.outer) a (Zc cls d) X.env.locals s'.heap := by rw [← hs]; exact sky
    show wpAny (model X.prog X.w) X.A (noteFrame (.ref a) X.env) _ _ _
    refine Sky.land Zc.steady hfr hf sky' fun h3 fl3 up3 => ?_
    have J3 : Inv X pins σ' H' { s' with heap := h3 } := J.landed nb fl3.1 (up.trans up3) os ag
    obtain ⟨oe3, vs3, he3, hz3, hd3⟩ := fl3.there
    have notFr : ∀ {h : Heap} {o : Obj} {vs : Array Value}, h.FunFrames B (X.env :: X.outer) → h.get? a = some o → o.data = .fields vs → a ∉ frs (X.env :: X.outer) := fun {h o vs} ff e dd hm => by
      obtain ⟨_, o', e', hnf⟩ := ff.mem hm
      rw [e] at e'; cases e'
      exact hnf _ dd
    have nfr := notFr fl3.2.2.1 he3 hd3
    have nL : a ≠ X.env.locals := fun z => nfr (List.mem_filterMap.mpr ⟨X.env, List.mem_cons_self, by rw [hf, z]⟩)
    have nF : a ∉ X.fs := fun hm => by
      obtain ⟨e, he, q⟩ := List.mem_filterMap.mp hm
      exact nfr (List.mem_filterMap.mpr ⟨e, List.mem_cons_of_mem _ he, q⟩)
    have nI : sI.heap.get? a = none := by
      cases q : sI.heap.get? a with
      | none => rfl
      | some o =>
        have z := nb a o q (by rw [hs]; exact nfr)
        have z2 := fl3.2.1
        rw [z] at z2; cases z2
    have n0 : X.s_0.heap.get? a = none := by
      cases q : X.s_0.heap.get? a with
      | none => rfl
      | some o =>
        obtain ⟨o', z⟩ := J.base.there a o q (by rw [hex]; exact fun z => nomatch z)
        rw [nI] at z; cases z
    have nP : ∀ p ∈ X.pn ++ pins, p.1 ≠ a := fun p hp z => by
      have := (J.pin p hp).1
      rw [z, nI] at this; cases this
    have S3 := J3.suite he3 hd3 na nL nF
    refine wpAny_handleBy_cons (codeAny_handlers_test ?_) (by intro q; cases q)
    have LT : PySem.W.Looks (model X.prog X.w) h3 (typeOf (.ref a)) cls := fun A Q E s k q => wpAny_typeOf_ref (k _ _ he3) (by rw [hz3.1]; exact q)
    have LM := PySem.W.exm_one (M := model X.prog X.w) (J3.kIn) LT hb1
    have test : ∀ {Q : Value → Shared → Prop} {E : Value → Shared → Prop}, Q c { s' with heap := h3 } → wpAny (model X.prog X.w) (X.A.mark (some (.ref a))) (eval (.Name x np) X.env) Q E { s' with heap := h3 } := fun {Q E} q => by
      obtain ⟨hg, hdbg, hm | ⟨hm, hv, hnn⟩⟩ := hc
      · exact ld_glob (X := X.suite a ((a, oe3) :: (X.pn ++ pins))) S3 hg hm q hdbg
      · exact ld_blt (X := X.suite a ((a, oe3) :: (X.pn ++ pins))) S3 hg hm hv q hnn hdbg
    refine test (LM.here ?_)
    cases b with
    | true =>
      refine codeAny_handlers_suite_as ?_
      refine HandSPX.lands_againZ fl3 fun h4 fl4 up4 => ?_
      have J4 : Inv X pins σ' H' { s' with heap := h4 } := J.landed nb fl4.1 ((up.trans up3).trans up4) os ag
      obtain ⟨oe4, vs4, he4, hz4, hd4⟩ := fl4.there
      have T4 : Inv X pins σ' (upd H' a (XO cls d a)) { s' with heap := h4 } := J4.track he4 hz4 hd4 na n0 nL nP
      have S4 : Inv (X.suite a (X.pn ++ pins)) [] σ' (upd H' a (XO cls d a)) { s' with heap := h4 } :=
        ⟨T4.ok.suite _ _, T4.os, T4.bare, T4.base, T4.loc, T4.cell, T4.free, T4.freeC, fun p hp => T4.pin p (by rw [List.append_nil] at hp; exact hp), T4.hok, T4.len⟩
      refine store_ok (X := X.suite a (X.pn ++ pins)) (v := .ref a) S4 hN hi hloc rfl (fun s5 S5 => ?_) (.inr hln)
      refine wpAny_mono ((hsu a (X.pn ++ pins)).run [] s5 _ _ _ S5 (hyes rfl a na)) (fun f s6 hsp => ?_) (fun _ _ z => False.elim z)
      have uns : ∀ {σ6 : St} {H6 : Hp}, Inv (X.suite a (X.pn ++ pins)) [] σ6 H6 s6 → Inv X pins σ6 H6 s6 := fun {σ6 H6} S6 =>
        ⟨ok, S6.os, S6.bare, S6.base, S6.loc, S6.cell, S6.free, S6.freeC, fun p hp => S6.pin p (by rw [List.append_nil]; exact hp), S6.hok, S6.len⟩
      have end_ : ∀ {σ6 : St} {H6 : Hp} {Q : Shared → Prop}, Inv (X.suite a (X.pn ++ pins)) [] σ6 H6 s6 → (∀ s7, Inv X pins (σ6.set i none) H6 s7 → Q s7) →
          wpAny (model X.prog X.w) X.A (do bindName X.env n .none; unbindBehindTheSuite X.env n pos') (fun _ s7 => Q s7) X.xe s6 := fun {σ6 H6 Q} S6 hq => gone_ok (uns S6) hN hi hln hq
      cases f with
      | next =>
        obtain ⟨σ6, H6, S6, q6⟩ := hsp
        exact end_ S6 fun s7 J7 => ⟨_, _, J7, q6⟩
      | brk =>
        obtain ⟨σ6, H6, S6, q6⟩ := hsp
        exact end_ S6 fun s7 J7 => ⟨_, _, J7, q6⟩
      | cont =>
        obtain ⟨σ6, H6, S6, q6⟩ := hsp
        exact end_ S6 fun s7 J7 => ⟨_, _, J7, q6⟩
      | ret u =>
        obtain ⟨v6, σ6, H6, S6, r6, q6⟩ := hsp
        exact end_ S6 fun s7 J7 => ⟨_, _, _, J7, r6, q6⟩
    | false =>
      show wpAny _ X.A (handleBy (.ref a) X.env []) _ _ _
      refine wpAny_handleBy_nil ?_
      obtain ⟨k1, k2, k3, oe, vs, T, oT, ts', he, hz, hd, h1, hr⟩ := id fl3
      unfold PySem.passOn
      refine wpAny_bind (wpAny_field he hd h1 ?_)
      rw [if_neg (show ¬ ((Value.ref T == Value.none) = true) from by simp)]
      have fin : wpAny (model X.prog X.w) X.A (setFlight (.ref a) X.env.frame) (fun _ s4 => wpAny (model X.prog X.w) X.A (throw (.ref a) : Sem Flow) (SP X pins D) X.xe s4) X.xe { s' with heap := h3 } := by
        rw [hf]
        refine HandSPX.setFlight_upZ fl3 fun h4 hh4 up4 => wpAny_throw (tk _ _ ?_)
        exact ⟨a, B, sI, pins, σ', H', cls, d, rfl, J, nb, (up.trans up3).trans up4, .inr (.inr (by rw [hs]; exact hh4)), na, os, ag, hno rfl⟩
      first
        | exact wpAny_bind (wpAny_pure (wpAny_bind fin))
        | exact wpAny_bind fin
  · cases f with
    | next =>
      obtain ⟨σ', H', J', q⟩ := hsp
      exact wpAny_execs_nil ⟨σ', H', J'.ofTry ok, q⟩
    | brk =>
      obtain ⟨σ', H', J', q⟩ := hsp
      exact ⟨σ', H', J'.ofTry ok, q⟩
    | cont =>
      obtain ⟨σ', H', J', q⟩ := hsp
      exact ⟨σ', H', J'.ofTry ok, q⟩
    | ret u =>
      obtain ⟨v, σ', H', J', r, q⟩ := hsp
      exact ⟨v, σ', H', J'.ofTry ok, r, q⟩
end
end DL

namespace DL
open PySem PySem.Spec L2
open PyProof.Rows hiding St
/-- behind an except suite its name is gone -/
def SR.unb (i : Nat) : SR → SR
  | .nx en => if Sl.free? en[i]? then .nx (en.set i .un) else .stuck
  | .bk en => if Sl.free? en[i]? then .bk (en.set i .un) else .stuck
  | .ct en => if Sl.free? en[i]? then .ct (en.set i .un) else .stuck
  | .rt o en => .rt o en
  | .exc _ _ => .stuck
  | .stuck => .stuck
/-- try: mb, except X as n: ms; mat: which classes X takes -/
def mTry (mat : Nat → Option Bool) (mb : En → SR) (i : Nat) (ms : En → SR) (en : En) : SR := match mb en with
  | .exc x en' => (match mat x.c with
    | some true => if Sl.free? en'[i]? then (ms (en'.set i (.own (.sh (.exc x.c x.l))))).unb i else .stuck
    | some false => .exc x en'
    | none => .stuck)
  | r => r
section
variable {G : CC} {W : WX}
theorem NR.unb {B F F' H H' : Hp} {L σ : St} {fp : List Addr} {en : En} {i : Nat} (h : NR G B L F F' H H' σ fp en) (hz : Sl.free? en[i]? = true) : NR G B L F F' H H' (σ.set i none) fp (en.set i .un) := by
  obtain ⟨fp', n, s⟩ := h
  obtain ⟨y, h1, h2⟩ := Sl.free_ok hz
  obtain ⟨fp2, q, sb⟩ := s.sl.forget (i := i) none (fun o e => by rw [h1] at e; cases e; cases h2)
  exact ⟨fp2, n.sub fun a m => sb.mem m, s.sub q sb⟩
theorem npost_unb {F F2 B H H2 : Hp} {L : St} {fp fp2 : List Addr} {K : St → Hp → Prop} {en : En} {i : Nat} (n : Nx F F2 H H2 fp fp2) (p : NPost G F B L H fp K (en.set i .un)) (hz : Sl.free? en[i]? = true) :
    NPost G F2 B L H2 fp2 (fun σ' H' => K (σ'.set i none) H') en := fun σ' F' H' h => p _ F' H' ((h.after n).unb hz)
theorem tTry_D {K : PySem.W.Frag} {c : Value} {i : Nat} {mat : Nat → Option Bool} {mb ms : En → SR} (hm : ∀ k b, mat k = some b → PySem.W.exmOne K (.ref (G.cls k)) c = some b) {D : Ends} {σ : St} {H : Hp} (h : tS G W (mTry mat mb i ms) D σ H) :
    tS G (wKeep K c i (tS G W0 ms) W D) mb D σ H := by
  obtain ⟨F, B, L, en, fp, s, p⟩ := h
  refine ⟨F, B, L, en, fp, s, ?_⟩
  unfold mTry at p
  cases eb : mb en with
  | nx en' => rw [eb] at p; exact p
  | bk en' => rw [eb] at p; exact p
  | ct en' => rw [eb] at p; exact p
  | rt o en' => rw [eb] at p; exact p
  | stuck => rw [eb] at p; exact p
  | exc x en' =>
    rw [eb] at p
    simp only at p
    intro cls d σ1 F1 H1 nr xr
    cases em : mat x.c with
    | none => simp only [em] at p; exact p.elim
    | some b =>
      simp only [em] at p
      have hx := hm _ _ em
      rw [← xr.1] at hx
      refine ⟨b, hx, fun hb a ha => ?_, fun hb => ?_⟩
      · subst hb
        simp only at p
        split at p
        · rename_i hz
          obtain ⟨fp1, n1, s1⟩ := nr
          obtain ⟨z, e1, e2⟩ := Sl.free_ok hz
          have n2 := Nx.newF (F := F1) (o := XO cls d a) s1.lf ha
          have s2 := s1.pure n2
          have rp : Rep G (upd F1 a (XO cls d a)) (.ref a) (.exc x.c x.l) := (xr.le n2.ff).rep upd_same
          obtain ⟨fp2, s3, sub⟩ := s2.put (Own.sh rp) (by rw [List.append_nil]; exact s2.nd) (fun _ m => nomatch m) e1 e2
          have n3 : Nx F (upd F1 a (XO cls d a)) H (upd H1 a (XO cls d a)) fp fp2 := (n1.trans (n2.wide0 fp1)).sub fun b m => by
            have := sub b m
            rwa [List.append_nil] at this
          refine ⟨_, B, L, _, fp2, s3, ?_⟩
          cases es : ms (en'.set i (.own (.sh (.exc x.c x.l)))) with
          | nx en3 =>
            rw [es] at p
            simp only [SR.unb] at p
            split at p
            · rename_i hf; exact npost_unb n3 p hf
            · exact p.elim
          | bk en3 =>
            rw [es] at p
            simp only [SR.unb] at p
            split at p
            · rename_i hf; exact npost_unb n3 p hf
            · exact p.elim
          | ct en3 =>
            rw [es] at p
            simp only [SR.unb] at p
            split at p
            · rename_i hf; exact npost_unb n3 p hf
            · exact p.elim
          | rt o en3 =>
            rw [es] at p
            exact fun v σ' F' H' q => p v σ' F' H' (q.after n3)
          | exc y en3 => rw [es] at p; exact p.elim
          | stuck => rw [es] at p; exact p.elim
        · exact p.elim
      · subst hb
        simp only at p
        exact p cls d σ1 F1 H1 nr xr
end
section
variable {X : Cx} {G : CC} {W : WX} {x n : Str} {c : Value} {body suite : List Stmt} {b₀ : Stmt} {np pos pos' : Pos} {mb ms : En → SR} {mat : Nat → Option Bool}
theorem ds_try (i : Nat) (hN : X.N.Nodup) (tk : Takes X W) (hc : Names X x c) (hm : ∀ k b, mat k = some b → PySem.W.exmOne X.K (.ref (G.cls k)) c = some b)
    (hb : ∀ (W : WX) (pn : List (Addr × Obj)) (xe : Value → Shared → Prop), Takes (X.tr pn xe) W → PassesOwn (model X.prog X.w) X.A X.env xe → PSs (X.tr pn xe) body (tS G W mb))
    (hsu : ∀ (a : Addr) (pn : List (Addr × Obj)), PSs (X.suite a pn) (b₀ :: suite) (tS G W0 ms))
    (hi : X.N[i]? = some n := by rfl) (hs : X.stack = X.env :: X.outer := by rfl) (hf : X.env.frame = some X.env.locals := by rfl) (hex : X.ex = [] := by rfl) (hln : X.env.kindOf n = some .local := by rfl) :
    PS X (.Try body [.ExceptHandler (some (.Name x np)) (some n) (b₀ :: suite) pos'] [] [] pos) (tS G W (mTry mat mb i ms)) :=
  (ps_try_keep hs hf hex hN hi hln hc tk hb hsu).imp fun _ _ _ h => tTry_D hm h
end
end DL

set_option maxHeartbeats 1000000
/-! DR: raise, isinstance of exceptions -/
namespace DL
open PySem PySem.Spec L2
open PyProof.Rows hiding St
/-- a class of exceptions without an own __init__, by its number -/
structure Exc0 (G : CC) (mg : Str → Option Value) (x : Str) (k : Nat) : Prop where
  g : mg x = some (.ref (G.cls k))
  q : PySem.W.excIn G.K (G.cls k) He.veBase "ValueError.__new__" = true
  kp : PySem.W.keepIn G.K (.ref (G.cls k)) = true
  b : PySem.W.subIn G.K (.ref (G.cls k)) (.type "BaseException") = some true
  t : PySem.W.typeIn G.K (.ref (G.cls k)) = some (.type "type")
theorem exc0_of {K : PySem.W.Frag} {h : Heap} {mg : Str → Option Value} {cls : Nat → Addr} {nms : Nat → List Str} {P : Program} {w : World} {x : Str} (k : Nat) (X : K.In h) (Ns : h.Ns mainGlobals mg) (hk : cls k = He.ga K x) (c1 : (He.Fa.glo x).ok K = true) (c2 : (He.Fa.exc x).ok K = true) : Exc0 ⟨K, cls, nms, P, w⟩ mg x k := by
  obtain ⟨a1, a2, a3, a4⟩ := He.exc_ok c2
  have e : (CC.mk K cls nms P w).cls k = He.ga K x := hk
  exact ⟨by rw [e]; exact He.glo_ok X Ns c1, by rw [e]; exact a1, by rw [e]; exact a2, by rw [e]; exact a3, by rw [e]; exact a4⟩
def mRaise (k : Nat) (en : En) : SR := .exc ⟨k, []⟩ en
section
variable {X : Cx} {G : CC} {W : WX} {x m : Str} {j : Nat} {p p2 pos pos' : Pos}
theorem ds_raise (k : Nat) (T : Exc0 G X.mg x k) (tk : Takes X W) (hK : G.K = X.K := by rfl) (hc : X.calm = true := by rfl) (hg : Gl X x := by rfl) (hdb : (x == ("__debug__" : Str)) = false := by decide) :
    PS X (.Raise (some (.Call (.Name x p) [.Constant (.str m) j p2] [] pos)) none pos') (tS G W (mRaise k)) :=
  (ps_raise hc tk (pmk_own PySem.F.excBase_ValueError (by rw [← hK]; exact T.q) T.g (by rw [← hK]; exact T.kp) (raises_own (by rw [← hK]; exact T.b) (by rw [← hK]; exact T.t)) hg hdb)).imp fun D σ H h => by
    obtain ⟨F, B, L, en, fp, s, q⟩ := h
    exact q _ _ σ F H (NR.refl s) ⟨rfl, .inl ⟨rfl, rfl⟩⟩
end
end DL

set_option maxHeartbeats 1000000
/-! EA: dicts whose keys are tuples of any depth, at the level of values -/
namespace DL
open PySem PySem.Spec L2
open PyProof.Rows hiding St

mutual
/-- the value v is the key -/
inductive NIs (K : PySem.W.Frag) (H : Hp) : NestedKey → V → Prop
  | non : NIs K H .none .non
  | bl (b : Bool) : NIs K H (.num (if b then 1 else 0)) (.bl b)
  | int (i : Int) : NIs K H (.num i) (.int i)
  | str (x : Str) : NIs K H (.text x) (.str x)
  | tup {a : Addr} {vs : List V} {ks : List NestedKey} : SqT K H a vs → NIss K H ks vs → NIs K H (.tup ks) (.ref a)
inductive NIss (K : PySem.W.Frag) (H : Hp) : List NestedKey → List V → Prop
  | nil : NIss K H [] []
  | cons {k : NestedKey} {v : V} {ks : List NestedKey} {vs : List V} : NIs K H k v → NIss K H ks vs → NIss K H (k :: ks) (v :: vs)
end
section
variable {X : Cx} {pins : List (Addr × Obj)} {σ : St} {H : Hp} {s : Shared}
mutual
theorem NIs.heap (I : Inv X pins σ H s) : ∀ {k : NestedKey} {v : V} {u : Value}, NIs X.K H k v → RelV v u → NestedIs s.heap k u
  | _, _, _, .non, r => by cases (show _ = Value.none from r); exact .none
  | _, _, _, .bl b, r => by cases (show _ = Value.bool b from r); exact .bool rfl
  | _, _, _, .int i, r => by obtain ⟨t, e⟩ := (show ∃ t, _ = Value.int i t from r); cases e; exact .int i t
  | _, _, _, .str x, r => by obtain ⟨t, e⟩ := (show ∃ t, _ = Value.str x t from r); cases e; exact .text x t
  | _, _, _, .tup (a := a) h ks, r => by
    cases (show _ = Value.ref a from r)
    obtain ⟨its, rv, ⟨o, h1, h2, n, h3⟩, _⟩ := I.tuple h
    exact .tup h1 h2 h3 (by simpa using NIss.heap I ks rv)
theorem NIss.heap (I : Inv X pins σ H s) : ∀ {ks : List NestedKey} {vs : List V} {us : List Value}, NIss X.K H ks vs → Vals vs us → NestedAll s.heap ks us
  | _, _, _, .nil, r => by cases r; exact .nil
  | _, _, _, .cons h t, r => by
    cases r with
    | cons r1 r2 => exact .cons (NIs.heap I h r1) (NIss.heap I t r2)
end
end
section
variable {G : CC} {F H : Hp}
mutual
theorem Rep.nis (l : Le F H) : ∀ {v : V} {d : D} {k : NestedKey}, Rep G F v d → nkey d = some k → NIs G.K H k v
  | _, _, _, .non, e => by cases e; exact .non
  | _, _, _, .bl b, e => by cases e; exact .bl b
  | _, _, _, .int i, e => by cases e; exact .int i
  | _, _, _, .str s, e => by cases e; exact .str _
  | _, _, _, .tup h r, e => by
    simp only [nkey, Option.map_eq_some_iff] at e
    obtain ⟨ks, e, rfl⟩ := e
    exact .tup (SqT.le l h) (Reps.nis l r e)
  | _, _, _, .lst _ _, e => by cases e
  | _, _, _, .dct _ _ _, e => by cases e
  | _, _, _, .dcT _ _ _ _ _, e => by cases e
  | _, _, _, .ins _ _ _, e => by cases e
  | _, _, _, .exc0 _, e => by cases e
  | _, _, _, .exc _ _ _ _ _, e => by cases e
theorem Reps.nis (l : Le F H) : ∀ {vs : List V} {ds : List D} {ks : List NestedKey}, Reps G F vs ds → nkeys ds = some ks → NIss G.K H ks vs
  | _, _, _, .nil, e => by cases e; exact .nil
  | _, _, _, .cons (d := d) (ds := ds) h r, e => by
    simp only [nkeys] at e
    cases e1 : nkey d with
    | none => rw [e1] at e; cases e
    | some k =>
      cases e2 : nkeys ds with
      | none => rw [e1, e2] at e; cases e
      | some ks =>
        rw [e1, e2] at e
        cases e
        exact .cons (Rep.nis l h e1) (Reps.nis l r e2)
end
end
/-! ### a table with keys at addresses -/
def valN (kvs : List NK) (k : NestedKey) : Option V := (kvs.find? fun x => decide (x.1 = k)).map (·.2.2)
def hasN (kvs : List NK) (k : NestedKey) : Bool := kvs.any fun x => decide (x.1 = k)
def putN (kvs : List NK) (k : NestedKey) (b : Addr) (v : V) : List NK :=
  if hasN kvs k then kvs.map (fun x => if x.1 = k then (x.1, x.2.1, v) else x) else kvs ++ [(k, b, v)]
abbrev KN : List NK → List (NestedKey × Addr × Value) → Prop := Paired fun p q => p.1 = q.1 ∧ p.2.1 = q.2.1 ∧ RelV p.2.2 q.2.2
theorem KN.val {kvs : List NK} {xs : List (NestedKey × Addr × Value)} (r : KN kvs xs) (k : NestedKey) : RelO (valN kvs k) ((atKey xs k).map (·.2)) := by
  induction r with
  | nil => exact True.intro
  | @cons p q ps qs h t ih =>
    obtain ⟨h1, _, h2⟩ := h
    by_cases e : p.1 = k
    · have e' : q.1 = k := h1.symm.trans e
      simp only [valN, atKey, List.find?_cons, e, e', decide_true, Option.map_some]
      exact h2
    · have e' : ¬ q.1 = k := fun z => e (h1.trans z)
      simp only [valN, atKey, List.find?_cons, e, e', decide_false]
      exact ih
theorem valN_has (kvs : List NK) (k : NestedKey) : hasN kvs k = (valN kvs k).isSome := by
  unfold hasN valN
  induction kvs with
  | nil => rfl
  | cons x l ih =>
    by_cases e : x.1 = k
    · simp [e]
    · simp only [List.any_cons, List.find?_cons, e, decide_false, Bool.false_or]
      exact ih
theorem KN.put {kvs : List NK} {xs : List (NestedKey × Addr × Value)} (r : KN kvs xs) (k : NestedKey) (b : Addr) {y : V} {u : Value} (ry : RelV y u) : KN (putN kvs k b y) (storedH xs k b u) := by
  have e : hasN kvs k = (atKey xs k).isSome := by rw [valN_has, (r.val k).isSome_eq, Option.isSome_map]
  unfold putN storedH
  rw [e]
  cases (atKey xs k).isSome with
  | false => exact Paired.snoc r ⟨rfl, rfl, ry⟩
  | true =>
    simp only [if_true]
    clear e
    induction r with
    | nil => exact .nil
    | @cons p q ps qs h t ih =>
      rw [List.map_cons, List.map_cons]
      refine .cons ?_ ih
      obtain ⟨h1, h2, h3⟩ := h
      unfold putAt
      by_cases e : p.1 = k
      · rw [if_pos e, if_pos (h1.symm.trans e)]; exact ⟨h1, h2, ry⟩
      · rw [if_neg e, if_neg (fun z => e (h1.trans z))]; exact ⟨h1, h2, h3⟩
theorem KN.keys {kvs : List NK} {xs : List (NestedKey × Addr × Value)} (r : KN kvs xs) : kvs.map (·.1) = xs.map (·.1) := by
  induction r with
  | nil => rfl
  | cons h t ih => rw [List.map_cons, List.map_cons, ih, h.1]
theorem length_putN (kvs : List NK) (k : NestedKey) (b : Addr) (v : V) : (putN kvs k b v).length ≤ kvs.length + 1 := by
  unfold putN
  split
  · rw [List.length_map]; omega
  · rw [List.length_append, List.length_cons, List.length_nil]; omega
/-- the keys stand -/
def KStand (K : PySem.W.Frag) (H : Hp) (kvs : List NK) : Prop := ∀ p ∈ kvs, NIs K H p.1 (.ref p.2.1) ∧ p.1.depth ≤ 8
/-- at a stands such a dict, its keys stand -/
def RdN (K : PySem.W.Frag) (P : Program) (w : World) (H : Hp) (a : Addr) (kvs : List NK) : Prop := Rd H a (DN P w a kvs) ∧ KStand K H kvs
section
variable {X : Cx} {pins : List (Addr × Obj)} {σ : St} {H : Hp} {s : Shared} {a b : Addr} {kvs : List NK} {k : NestedKey}
theorem nis_key (I : Inv X pins σ H s) (h : NIs X.K H k (.ref b)) (d : k.depth ≤ 8) : (nestedKind X.prog X.w).is s.heap k b := ⟨h.heap I rfl, d⟩
theorem dn_rd (I : Inv X pins σ H s) (h : RdN X.K X.prog X.w H a kvs) : kvs.length ≤ sizeLine ∧ (a == sysModules) = false ∧ ∃ xs, KN kvs xs ∧ s.heap.DictOfH (nestedKind X.prog X.w) a xs := by
  obtain ⟨h, st⟩ := h
  obtain ⟨z, y, xs, r, o, es, ep, h1, h2, h3, h4, h5⟩ := (show DNat X.prog X.w a kvs s.heap from (h.ok I.hok).1)
  refine ⟨z, y, xs, r, o, es, ep, h1, h2, h3, h4, fun x hx => ?_, h5⟩
  have all : ∀ {l : List NK} {m : List (NestedKey × Addr × Value)}, KN l m → KStand X.K H l → ∀ x ∈ m, (nestedKind X.prog X.w).is s.heap x.1 x.2.1 := by
    intro l m q
    induction q with
    | nil => intro _ x hx; exact nomatch hx
    | @cons p q ps qs hq t ih =>
      intro st x hx
      rcases List.mem_cons.mp hx with e | hx
      · subst e
        obtain ⟨s1, s2⟩ := st p (List.mem_cons_self ..)
        have := nis_key I s1 s2
        rwa [hq.1, hq.2.1] at this
      · exact ih (fun z m => st z (List.mem_cons_of_mem _ m)) x hx
  exact all r st x hx
theorem dn_ext {P : Program} {w : World} {a : Addr} {kvs : List NK} {h1 h2 : Heap} (x : DNat P w a kvs h1) (k : ∀ o, h1.get? a = some o → h2.get? a = some o) : DNat P w a kvs h2 := by
  obtain ⟨z, y, xs, r, o, es, ep, e, c⟩ := x
  exact ⟨z, y, xs, r, o, es, ep, k _ e, c⟩
theorem dn_ok {P : Program} {w : World} {a : Addr} {kvs : List NK} {H : Hp} {h : Heap} (x : DNat P w a kvs h) : ObjOk P w H h a (DN P w a kvs) :=
  ⟨x, let ⟨_, _, _, _, o, _, _, e, _⟩ := x; ⟨o, e⟩, fun _ _ x k => dn_ext x k⟩
end
/-! ### the operations by values -/
/-- what the dict at a, of either kind, holds at y -/
def DGetN (K : PySem.W.Frag) (P : Program) (w : World) (H : Hp) (a : Addr) (y : V) (r : Option V) : Prop :=
  DGet H a y r ∨ ∃ kvs k b, RdN K P w H a kvs ∧ y = .ref b ∧ NIs K H k (.ref b) ∧ k.depth ≤ 8 ∧ r = valN kvs k
def DPutN (K : PySem.W.Frag) (P : Program) (w : World) (H : Hp) (a : Addr) (y v : V) (H' : Hp) : Prop :=
  DPut H a y v H' ∨ ∃ kvs k b, H a = some (DN P w a kvs) ∧ KStand K H kvs ∧ y = .ref b ∧ NIs K H k (.ref b) ∧ k.depth ≤ 8 ∧ kvs.length < sizeLine ∧ H' = upd H a (DN P w a (putN kvs k b v))
def DIsN (P : Program) (w : World) (H : Hp) (a : Addr) : Prop := IsD H a ∨ ∃ kvs, Rd H a (DN P w a kvs)
section
variable {X : Cx} {pins : List (Addr × Obj)} {σ : St} {H : Hp} {s : Shared} {a : Addr} {y v d : V} {u r : Value} {o : Option V} {A : Around} {E : Value → Shared → Prop}
theorem dn_getItem {Q : Value → Shared → Prop} (hu : A.units + 9 < cLine) (I : Inv X pins σ H s) (g : DGetN X.K X.prog X.w H a y (some v)) (ry : RelV y u) (h : ∀ w' s', Inv X pins σ H s' → RelV v w' → Q w' s') :
    wpAny (model X.prog X.w) A (getItem (.ref a) u) Q E s := by
  rcases g with g | ⟨kvs, k, b, e, ey, eb, ed, l⟩
  · exact d_getItem (by omega) I g ry h
  · subst ey
    cases (show u = Value.ref b from ry)
    obtain ⟨z, hd, xs, rel, dd⟩ := dn_rd I e
    obtain ⟨w', hw, rw'⟩ := RelO.some_of (v := v) (o := (atKey xs k).map (·.2)) (by rw [l]; exact rel.val k)
    obtain ⟨p, hp, hp2⟩ := Option.map_eq_some_iff.mp hw
    refine wpAny_getItem_heap (knd := nestedKind X.prog X.w) (show A.in1.units + 8 < cLine by rw [Around.in1_units]; omega) (nis_key I eb ed) dd hp ?_
    rw [hp2]
    exact h w' _ (I.tok _) rw'
theorem dn_in {Q : Value → Shared → Prop} (hu : A.units + 9 < cLine) (I : Inv X pins σ H s) (g : DGetN X.K X.prog X.w H a y o) (ry : RelV y u) (h : ∀ s', Inv X pins σ H s' → Q (.bool o.isSome) s') :
    wpAny (model X.prog X.w) A (compareOp .In u (.ref a)) Q E s := by
  rcases g with g | ⟨kvs, k, b, e, ey, eb, ed, l⟩
  · exact d_in (by omega) I g ry h
  · subst ey
    cases (show u = Value.ref b from ry)
    obtain ⟨z, hd, xs, rel, dd⟩ := dn_rd I e
    refine wpAny_in_heap (knd := nestedKind X.prog X.w) (show A.in1.units + 8 < cLine by rw [Around.in1_units]; omega) (nis_key I eb ed) hd dd ?_
    have q := (rel.val k).isSome_eq
    rw [Option.isSome_map] at q
    rw [← q, ← l]
    exact h _ (I.tok _)
theorem dn_notIn {Q : Value → Shared → Prop} (hu : A.units + 9 < cLine) (I : Inv X pins σ H s) (g : DGetN X.K X.prog X.w H a y o) (ry : RelV y u) (h : ∀ s', Inv X pins σ H s' → Q (.bool (!o.isSome)) s') :
    wpAny (model X.prog X.w) A (compareOp .NotIn u (.ref a)) Q E s := by
  rcases g with g | ⟨kvs, k, b, e, ey, eb, ed, l⟩
  · exact d_notIn (by omega) I g ry h
  · subst ey
    cases (show u = Value.ref b from ry)
    obtain ⟨z, hd, xs, rel, dd⟩ := dn_rd I e
    refine wpAny_notIn_heap (knd := nestedKind X.prog X.w) (show A.in1.units + 8 < cLine by rw [Around.in1_units]; omega) (nis_key I eb ed) hd dd ?_
    have q := (rel.val k).isSome_eq
    rw [Option.isSome_map] at q
    rw [← q, ← l]
    exact h _ (I.tok _)
theorem dn_get2 {Q : Value → Shared → Prop} (hu : A.units + 9 < cLine) (I : Inv X pins σ H s) (g : DGetN X.K X.prog X.w H a y o) (ry : RelV y u) (rd : RelV d r) (h : ∀ w' s', Inv X pins σ H s' → RelV (o.getD d) w' → Q w' s') :
    wpAny (model X.prog X.w) A (call (.builtin "dict.get") [.ref a, u, r]) Q E s := by
  rcases g with g | ⟨kvs, k, b, e, ey, eb, ed, l⟩
  · exact d_get2 (by omega) I g ry rd h
  · subst ey
    cases (show u = Value.ref b from ry)
    obtain ⟨z, hd, xs, rel, dd⟩ := dn_rd I e
    refine call_meetsIn PySem.F.slot_dict_get dd.typeIs PySem.F.entry_dict_get (PySem.F.args_dict_get_3 _ _ _) (meetsH_dict_get_default (nestedKind X.prog X.w) a b hd r) ⟨show A.in1.units + 8 < cLine by rw [Around.in1_units]; omega, k, xs, nis_key I eb ed, dd, h _ _ (I.tok _) ?_⟩
    rw [l]
    exact (rel.val k).getD rd
theorem dn_setItem {H' : Hp} {Q : Unit → Shared → Prop} (hu : A.units + 9 < cLine) (I : Inv X pins σ H s) (g : DPutN X.K X.prog X.w H a y v H') (ry : RelV y u) (rv : RelV v r) (h : ∀ s', Inv X pins σ H' s' → Q () s') :
    wpAny (model X.prog X.w) A (setItem (.ref a) u r) Q E s := by
  rcases g with g | ⟨kvs, k, b, e, st, ey, eb, ed, l, eH⟩
  · exact d_setItem (by omega) I g ry rv h
  · subst ey eH
    cases (show u = Value.ref b from ry)
    obtain ⟨z, hd, xs, rel, dd⟩ := dn_rd I ⟨.inl e, st⟩
    have hz : xs.length ≤ sizeLine := by rw [← Paired.length rel]; exact z
    have hl : (putN kvs k b v).length ≤ sizeLine := by have := length_putN kvs k b v; omega
    refine wpAny_setItem_heap (knd := nestedKind X.prog X.w) (hsz := hz) (show A.in1.units + 8 < cLine by rw [Around.in1_units]; omega) (nis_key I eb ed) dd fun h' dd' hs => h _ ?_
    obtain ⟨q, es, ep, hq, h2, h3, h4, _, h5⟩ := dd'
    exact d_write I (by rw [e]; exact True.intro) hs ⟨q, hq⟩ (dn_ok ⟨hl, hd, _, rel.put k b rv, q, es, ep, hq, h2, h3, h4, h5⟩)
theorem dn_at (I : Inv X pins σ H s) (d : DIsN X.prog X.w H a) :
    s.TypeIs (.ref a) "dict" ∧ (∀ b, Value.ref a = .ref b → ∃ ob, s.heap.get? b = some ob ∧ ob.dict = none) ∧ (a == sysModules) = false := by
  rcases d with d | ⟨kvs, e⟩
  · exact isD_at I d
  · obtain ⟨z, y, xs, r, o, es, ep, h1, h2, h3, h4, h5⟩ := (show DNat X.prog X.w a kvs s.heap from (e.ok I.hok).1)
    refine ⟨⟨o, h1, h2.1⟩, fun b q => ?_, y⟩
    cases q
    exact ⟨o, h1, h2.2.1⟩
theorem dn_new (I : Inv X pins σ H s) {Q : Value → Shared → Prop} (h : ∀ p s', H p = none → Inv X pins σ (upd H p (DN X.prog X.w p [])) s' → Q (.ref p) s') :
    Q (.ref s.heap.objs.size) { s with heap := s.heap.push { cls := .type "dict", data := .dict #[] } } := by
  refine h _ _ (I.hok.fresh (Nat.le_refl _)) (I.laid (a := s.heap.objs.size) (o := DN X.prog X.w s.heap.objs.size []) (t' := s.toks) (fun b q hq => Heap.get?_push_of_some _ hq) (Nat.le_refl _) (dn_ok ?_))
  obtain ⟨o, es, ep, h1, h2, h3, h4, _, h5⟩ := Heap.DictOfH.new (knd := nestedKind X.prog X.w) s.heap
  exact ⟨Nat.zero_le _, beq_eq_false_iff_ne.mpr (Ne.symm (Nat.ne_of_lt I.big)), [], .nil, o, es, ep, h1, h2, h3, h4, h5⟩
end
end DL

set_option maxHeartbeats 1000000
/-! EB: dicts as data -/
namespace DL
open PySem PySem.Spec L2
open PyProof.Rows hiding St

/-! ### tables -/
/-- a key of a dict of the kind -/
def nkDep (d : D) : Bool := match nkey d with
  | some k => decide (k.depth ≤ 8)
  | none => false
def okK (b : Bool) (k : D) : Bool := match b, k with
  | false, .int _ => true
  | false, .str _ => true
  | true, .tup l => nkDep (.tup l)
  | _, _ => false
section
variable {α : Type}
def dGet (l : List (D × α)) (k : D) : Option α := (l.find? fun p => deq p.1 k).map (·.2)
def dHas (l : List (D × α)) (k : D) : Bool := l.any fun p => deq p.1 k
def dPut (l : List (D × α)) (k : D) (v : α) : List (D × α) := if dHas l k then l.map (fun p => if deq p.1 k then (p.1, v) else p) else l ++ [(k, v)]
end
def O.dct? : O → Option (Bool × List (D × O))
  | .dct b l => some (b, l)
  | .sh (.dct b l) => some (b, l.map fun p => (p.1, .sh p.2))
  | _ => none
theorem bdec {α : Type} [BEq α] [LawfulBEq α] [DecidableEq α] (a b : α) : (a == b) = decide (a = b) := by by_cases h : a = b <;> simp [h]
theorem kd_deq (a b : Key) : deq (kd a) (kd b) = decide (a = b) := by
  cases a with
  | inl i =>
    cases b with
    | inl j => simp [kd, deq, bdec]
    | inr s => simp [kd, deq]
  | inr s =>
    cases b with
    | inl j => simp [kd, deq]
    | inr t =>
      have e : (s = t) ↔ s.cps.toList = t.cps.toList := ⟨fun h => by rw [h], fun h => by
        rw [← SX.S_tl s, ← SX.S_tl t, h]⟩
      simp only [kd, deq, Sum.inr.injEq, e]
      exact bdec s.cps.toList t.cps.toList
mutual
theorem nkey_deq : ∀ {a b : D} {x y : NestedKey}, nkey a = some x → nkey b = some y → deq a b = decide (x = y)
  | .non, b, _, y, ha, hb => by
    cases ha
    cases b <;> simp only [nkey, Option.map_eq_some_iff, Option.some.injEq, reduceCtorEq] at hb <;> (try obtain ⟨_, _, rfl⟩ := hb) <;> (try subst hb) <;> simp [deq, bdec]
  | .bl k, b, _, y, ha, hb => by
    cases ha
    cases b <;> simp only [nkey, Option.map_eq_some_iff, Option.some.injEq, reduceCtorEq] at hb <;> (try obtain ⟨_, _, rfl⟩ := hb) <;> (try subst hb) <;> simp [deq, bdec]
    rename_i j
    cases k <;> cases j <;> simp
  | .int i, b, _, y, ha, hb => by
    cases ha
    cases b <;> simp only [nkey, Option.map_eq_some_iff, Option.some.injEq, reduceCtorEq] at hb <;> (try obtain ⟨_, _, rfl⟩ := hb) <;> (try subst hb) <;> simp [deq, bdec]
  | .str s, b, _, y, ha, hb => by
    cases ha
    cases b with
    | str t =>
      cases hb
      have e : (NestedKey.text (SX.S s) = NestedKey.text (SX.S t)) ↔ s = t := ⟨fun h => SX.S_inj (NestedKey.text.inj h), fun h => by rw [h]⟩
      simp only [deq, e]
      exact bdec s t
    | tup m =>
      simp only [nkey, Option.map_eq_some_iff] at hb
      obtain ⟨_, _, rfl⟩ := hb
      simp [deq]
    | non => cases hb; simp [deq]
    | bl _ => cases hb; simp [deq]
    | int _ => cases hb; simp [deq]
    | _ => cases hb
  | .tup l, b, x, y, ha, hb => by
    simp only [nkey, Option.map_eq_some_iff] at ha
    obtain ⟨xs, ha, rfl⟩ := ha
    cases b with
    | tup m =>
      simp only [nkey, Option.map_eq_some_iff] at hb
      obtain ⟨ys, hb, rfl⟩ := hb
      simp only [deq, NestedKey.tup.injEq]
      exact nkeys_deq ha hb
    | non => cases hb; simp [deq]
    | bl _ => cases hb; simp [deq]
    | int _ => cases hb; simp [deq]
    | str _ => cases hb; simp [deq]
    | _ => cases hb
  | .lst _, _, _, _, ha, _ => by cases ha
  | .dct _ _, _, _, _, ha, _ => by cases ha
  | .ins _ _, _, _, _, ha, _ => by cases ha
  | .exc _ _, _, _, _, ha, _ => by cases ha
  | .fn _, _, _, _, ha, _ => by cases ha
theorem nkeys_deq : ∀ {a b : List D} {x y : List NestedKey}, nkeys a = some x → nkeys b = some y → deqs a b = decide (x = y)
  | [], [], _, _, ha, hb => by cases ha; cases hb; simp [deqs]
  | [], d :: ds, _, _, ha, hb => by
    cases ha
    simp only [nkeys] at hb
    split at hb
    · cases hb; simp [deqs]
    · cases hb
  | d :: ds, [], _, _, ha, hb => by
    cases hb
    simp only [nkeys] at ha
    split at ha
    · cases ha; simp [deqs]
    · cases ha
  | d :: ds, e :: es, _, _, ha, hb => by
    simp only [nkeys] at ha hb
    split at ha
    · rename_i h1 h2
      cases ha
      split at hb
      · rename_i h3 h4
        cases hb
        simp only [deqs, nkey_deq h1 h3, nkeys_deq h2 h4, List.cons.injEq]
        simp [Bool.decide_and]
      · cases hb
    · cases ha
end
section
variable {G : CC} {F H : Hp}
/-- what a table of scalar keys holds -/
theorem find_dk : ∀ {kvs : List (Key × V)} {l : List (D × O)} {fp : List Addr}, l.map (·.1) = kvs.map (fun p => kd p.1) → Owns G F H (kvs.map (·.2)) (l.map (·.2)) fp → ∀ kk : Key,
    (dGet l (kd kk) = none ∧ valV kvs kk = none) ∨ ∃ u v f', dGet l (kd kk) = some u ∧ valV kvs kk = some v ∧ Own G F H v u f'
  | [], [], _, _, _, kk => .inl ⟨rfl, rfl⟩
  | [], _ :: _, _, e, _, _ => by simp at e
  | _ :: _, [], _, e, _, _ => by simp at e
  | (k, v) :: kvs, (d, o) :: l, _, e, .cons q r, kk => by
    simp only [List.map_cons, List.cons.injEq] at e
    obtain ⟨rfl, e⟩ := e
    by_cases h : k = kk
    · refine .inr ⟨o, v, _, ?_, valV_pos h, q⟩
      unfold dGet
      simp [List.find?_cons, kd_deq, h]
    · rw [valV_neg h]
      have ed : dGet ((kd k, o) :: l) (kd kk) = dGet l (kd kk) := by
        unfold dGet
        simp [List.find?_cons, kd_deq, h]
      rw [ed]
      exact find_dk e r kk
theorem find_dn : ∀ {kvs : List NK} {l : List (D × O)} {fp : List Addr}, nkeys (l.map (·.1)) = some (kvs.map (·.1)) → Owns G F H (kvs.map (·.2.2)) (l.map (·.2)) fp → ∀ {k : D} {kk : NestedKey}, nkey k = some kk →
    (dGet l k = none ∧ valN kvs kk = none) ∨ ∃ u v f', dGet l k = some u ∧ valN kvs kk = some v ∧ Own G F H v u f'
  | [], [], _, _, _, _, kk, _ => .inl ⟨rfl, rfl⟩
  | [], (_, _) :: _, _, e, _, _, _, _ => by
    simp only [List.map_cons, List.map_nil, nkeys] at e
    split at e <;> cases e
  | _ :: _, [], _, e, _, _, _, _ => by simp [nkeys] at e
  | (k0, b, v) :: kvs, (d, o) :: l, _, e, .cons q r, k, kk, hk => by
    simp only [List.map_cons, nkeys] at e
    cases h1 : nkey d with
    | none => rw [h1] at e; cases e
    | some k1 =>
      cases h2 : nkeys (l.map (·.1)) with
      | none => rw [h1, h2] at e; cases e
      | some ks =>
        rw [h1, h2] at e
        simp only [Option.some.injEq, List.cons.injEq] at e
        obtain ⟨rfl, e⟩ := e
        have hd := nkey_deq h1 hk
        by_cases h : k1 = kk
        · refine .inr ⟨o, v, _, ?_, ?_, q⟩
          · unfold dGet
            simp only [List.find?_cons, hd, h, decide_true, Option.map_some]
          · unfold valN
            simp only [List.find?_cons, h, decide_true, Option.map_some]
        · have ed : dGet ((d, o) :: l) k = dGet l k := by
            unfold dGet
            simp only [List.find?_cons, hd, h, decide_false]
          have ev : valN ((k1, b, v) :: kvs) kk = valN kvs kk := by
            unfold valN
            simp only [List.find?_cons, h, decide_false]
          rw [ed, ev]
          exact find_dn (by rw [h2, e]) r hk
theorem okK_f {k : D} (h : okK false k = true) : ∃ kk : Key, k = kd kk ∧ ∀ {v : V}, Rep G F v k → v = kV kk := by
  cases k with
  | int i => exact ⟨.inl i, rfl, fun r => by cases r; rfl⟩
  | str s => exact ⟨.inr (SX.S s), rfl, fun r => by cases r; rfl⟩
  | _ => cases h
theorem okK_t {k : D} (h : okK true k = true) : ∃ kk : NestedKey, nkey k = some kk ∧ kk.depth ≤ 8 ∧ ∀ {v : V}, Rep G F v k → ∃ b, v = .ref b := by
  cases k with
  | tup l =>
    have h' : nkDep (.tup l) = true := h
    unfold nkDep at h'
    split at h'
    · rename_i kk e
      exact ⟨kk, e, of_decide_eq_true h', fun r => by cases r; exact ⟨_, rfl⟩⟩
    · cases h'
  | _ => cases h
/-- the keys of a table stand -/
theorem kstand (l : Le F H) : ∀ {kvs : List NK} {ds : List D}, nkeys ds = some (kvs.map (·.1)) → Reps G F (kvs.map fun p => .ref p.2.1) ds → (∀ p ∈ kvs, p.1.depth ≤ 8) → KStand G.K H kvs
  | [], _, _, _, _ => fun _ m => nomatch m
  | (k, b, v) :: kvs, [], e, _, _ => by simp [nkeys] at e
  | (k, b, v) :: kvs, d :: ds, e, .cons q r, hd => by
    simp only [List.map_cons, nkeys] at e
    cases h1 : nkey d with
    | none => rw [h1] at e; cases e
    | some k1 =>
      cases h2 : nkeys ds with
      | none => rw [h1, h2] at e; cases e
      | some ks =>
        rw [h1, h2] at e
        simp only [Option.some.injEq, List.cons.injEq] at e
        obtain ⟨rfl, e⟩ := e
        intro p m
        rcases List.mem_cons.mp m with rfl | m
        · exact ⟨Rep.nis l q h1, hd _ (List.mem_cons_self ..)⟩
        · exact kstand l (by rw [h2, e]) r (fun d m => hd d (List.mem_cons_of_mem _ m)) p m
end
end DL

set_option maxHeartbeats 1000000
/-! EC: dicts read: d[k], k in d, d.get(k, x), len(d), walks over keys -/
namespace DL
open PySem PySem.Spec L2
open PyProof.Rows hiding St

section
variable {G : CC} {F H : Hp} {x y : V} {o : O} {f : List Addr} {b : Bool} {l : List (D × O)} {k : D}
/-- what a dict holds at a key -/
theorem Own.dget (le : Le F H) (h : Own G F H x o f) (e : o.dct? = some (b, l)) (hk : Rep G F y k) (ok : okK b k = true) : ∃ a, x = .ref a ∧
    ((dGet l k = none ∧ DGetN G.K G.P G.w H a y none) ∨ ∃ u v f', dGet l k = some u ∧ DGetN G.K G.P G.w H a y (some v) ∧ Own G F H v u f') := by
  have scalar : ∀ {a : Addr} {kvs : List (Key × V)} {fp : List Addr}, Rd H a (.dK kvs) → l.map (·.1) = kvs.map (fun p => kd p.1) → Owns G F H (kvs.map (·.2)) (l.map (·.2)) fp → okK false k = true →
      (dGet l k = none ∧ DGetN G.K G.P G.w H a y none) ∨ ∃ u v f', dGet l k = some u ∧ DGetN G.K G.P G.w H a y (some v) ∧ Own G F H v u f' := fun {a kvs fp} hr e1 q ok => by
    obtain ⟨kk, rfl, hv⟩ := okK_f (G := G) (F := F) ok
    have ev := hv hk
    rcases find_dk e1 q kk with ⟨h1, h2⟩ | ⟨u, v, f', h1, h2, h3⟩
    · exact .inl ⟨h1, .inl (.inl ⟨kvs, kk, hr, ev, h2.symm⟩)⟩
    · exact .inr ⟨u, v, f', h1, .inl (.inl ⟨kvs, kk, hr, ev, h2.symm⟩), h3⟩
  have nested : ∀ {a : Addr} {kvs : List NK} {fp : List Addr}, Rd H a (DN G.P G.w a kvs) → nkeys (l.map (·.1)) = some (kvs.map (·.1)) → NKok kvs → Reps G F (kvs.map fun p => .ref p.2.1) (l.map (·.1)) → Owns G F H (kvs.map (·.2.2)) (l.map (·.2)) fp → okK true k = true →
      (dGet l k = none ∧ DGetN G.K G.P G.w H a y none) ∨ ∃ u v f', dGet l k = some u ∧ DGetN G.K G.P G.w H a y (some v) ∧ Own G F H v u f' := fun {a kvs fp} hr e1 n q0 q ok => by
    obtain ⟨kk, e2, dp, hv⟩ := okK_t (G := G) (F := F) ok
    obtain ⟨c, rfl⟩ := hv hk
    have ks := kstand le e1 q0 n.dp
    have nk := Rep.nis le hk e2
    rcases find_dn e1 q e2 with ⟨h1, h2⟩ | ⟨u, v, f', h1, h2, h3⟩
    · exact .inl ⟨h1, .inr ⟨kvs, kk, c, ⟨hr, ks⟩, rfl, nk, dp, h2.symm⟩⟩
    · exact .inr ⟨u, v, f', h1, .inr ⟨kvs, kk, c, ⟨hr, ks⟩, rfl, nk, dp, h2.symm⟩, h3⟩
  cases h with
  | sh r =>
    cases r with
    | dct h1 h2 h3 =>
      cases e
      exact ⟨_, rfl, scalar (.inr ⟨_, le _ _ h1⟩) (by simpa [Function.comp_def] using h2) (by simpa [Function.comp_def] using Owns.of_sh (H := H) h3) ok⟩
    | dcT h1 h2 n h0 h3 =>
      cases e
      exact ⟨_, rfl, nested (.inr ⟨_, le _ _ h1⟩) (by simpa [Function.comp_def] using h2) n (by simpa [Function.comp_def] using h0) (by simpa [Function.comp_def] using Owns.of_sh (H := H) h3) ok⟩
    | _ => cases e
  | dct h1 h2 n h3 => cases e; exact ⟨_, rfl, scalar (.inl h1) h2 h3 ok⟩
  | dcT h1 h2 n h0 h3 => cases e; exact ⟨_, rfl, nested (.inl h1) h2 n h0 h3 ok⟩
  | lst _ _ => cases e
  | tup _ _ => cases e
  | ins _ _ _ => cases e
/-- it is a dict -/
theorem Own.disN (le : Le F H) (h : Own G F H x o f) (e : o.dct? = some (b, l)) : ∃ a, x = .ref a ∧ DIsN G.P G.w H a := by
  cases h with
  | sh r =>
    cases r with
    | dct h1 h2 h3 => cases e; exact ⟨_, rfl, .inl (.inl ⟨_, .inr ⟨_, le _ _ h1⟩⟩)⟩
    | dcT h1 h2 n h0 h3 => cases e; exact ⟨_, rfl, .inr ⟨_, .inr ⟨_, le _ _ h1⟩⟩⟩
    | _ => cases e
  | dct h1 h2 n h3 => cases e; exact ⟨_, rfl, .inl (.inl ⟨_, .inl h1⟩)⟩
  | dcT h1 h2 n h0 h3 => cases e; exact ⟨_, rfl, .inr ⟨_, .inl h1⟩⟩
  | lst _ _ => cases e
  | tup _ _ => cases e
  | ins _ _ _ => cases e
end
/-! ### d[k] -/
def ixD (a b : O) : Option R := match a.dct?, b.sh? with
  | some (t, l), some k => if okK t k then (dGet l k).map R.at else none
  | _, _ => none
def rIxD (K : PySem.W.Frag) (P : Program) (w : World) : R2 := fun x y H Q => ∃ a v, x = .ref a ∧ DGetN K P w H a y (some v) ∧ DIsN P w H a ∧ Q v H
theorem ix_D {X : Cx} {k : Nat} (hr : Room k X.A) : IxR X (rIxD X.K X.prog X.w) := by
  intro value slice pins s σ H x y v u Q I rx ry h hs
  obtain ⟨a, z, rfl, g, d, q⟩ := h
  obtain rfl : v = Value.ref a := rx
  obtain ⟨t1, _, _⟩ := dn_at I d
  exact PyProof.Rows.tail_any t1 slot_dict_getitem.lookup (dn_getItem (by have := hr.un; omega) I g ry fun w' s' I' rw' => ⟨z, H, I', rw', q⟩) hs
theorem ixD_ok {G : CC} : OpD G (rIxD G.K G.P G.w) ixD := fun F H x y a b f g Q l ha hb p => by
  unfold ixD at p
  cases e1 : a.dct? with
  | none => simp only [e1] at p; exact p.elim
  | some tl =>
    obtain ⟨t, tl⟩ := tl
    cases e2 : b.sh? with
    | none => simp only [e1, e2] at p; exact p.elim
    | some k =>
      simp only [e1, e2] at p
      split at p
      · rename_i ok
        rw [O.sh?_eq e2] at hb
        obtain ⟨c, rfl, q⟩ := ha.dget l e1 hb.repOf ok
        obtain ⟨c', ec, dn⟩ := ha.disN l e1
        cases ec
        rcases q with ⟨h1, _⟩ | ⟨u, v, f', h1, h2, h3⟩
        · rw [h1] at p; exact p.elim
        · rw [h1] at p
          exact ⟨c, v, rfl, h2, dn, vp_look l h3 p⟩
      · exact p.elim
/-- xs[i], t[i], s[i], d[k] -/
def ixA : O → O → Option R := orR ixO ixD
abbrev rIxA (K : PySem.W.Frag) (P : Program) (w : World) : R2 := fun x y H Q => rIxO K x y H Q ∨ rIxD K P w x y H Q
theorem ix_A {X : Cx} {k : Nat} (hr : Room k X.A) : IxR X (rIxA X.K X.prog X.w) := IxR.or (r := rIxO X.K) ix_O (ix_D hr)
theorem ixA_ok {G : CC} : OpD G (rIxA G.K G.P G.w) ixA := ixO_ok.or ixD_ok
/-! ### k in d -/
def inD (neg : Bool) (a b : O) : Option R := match a.sh?, b.dct? with
  | some k, some (t, l) => if okK t k then rBl (if neg then !(dGet l k).isSome else (dGet l k).isSome) else none
  | _, _ => none
def rInDn (K : PySem.W.Frag) (P : Program) (w : World) (neg : Bool) : R2 := fun x y H Q => ∃ a r, y = .ref a ∧ DGetN K P w H a x r ∧ Q (.bl (if neg then !r.isSome else r.isSome)) H
theorem op_inDn {X : Cx} {k : Nat} (hr : Room k X.A) : OpR X (compareOp .In) (rInDn X.K X.prog X.w false) := by
  intro pins s σ H x y v u Q I rx ry h
  obtain ⟨a, r, rfl, g, q⟩ := h
  obtain rfl : u = Value.ref a := ry
  exact dn_in (by have := hr.un; omega) I g rx fun s' I' => ⟨.bl r.isSome, H, I', rfl, q⟩
theorem op_notInDn {X : Cx} {k : Nat} (hr : Room k X.A) : OpR X (compareOp .NotIn) (rInDn X.K X.prog X.w true) := by
  intro pins s σ H x y v u Q I rx ry h
  obtain ⟨a, r, rfl, g, q⟩ := h
  obtain rfl : u = Value.ref a := ry
  exact dn_notIn (by have := hr.un; omega) I g rx fun s' I' => ⟨.bl (!r.isSome), H, I', rfl, q⟩
theorem inD_ok {G : CC} {neg : Bool} : OpD G (rInDn G.K G.P G.w neg) (inD neg) := fun F H x y a b f g Q l ha hb p => by
  unfold inD at p
  cases e2 : a.sh? with
  | none => simp only [e2] at p; exact p.elim
  | some k =>
    cases e1 : b.dct? with
    | none => simp only [e1, e2] at p; exact p.elim
    | some tl =>
      obtain ⟨t, tl⟩ := tl
      simp only [e1, e2] at p
      split at p
      · rename_i ok
        rw [O.sh?_eq e2] at ha
        obtain ⟨c, rfl, q⟩ := hb.dget l e1 ha.repOf ok
        rcases q with ⟨h1, h2⟩ | ⟨u, v, f', h1, h2, h3⟩
        · rw [h1] at p
          exact ⟨c, none, rfl, h2, vp_sh l (.bl _) p⟩
        · rw [h1] at p
          exact ⟨c, some v, rfl, h2, vp_sh l (.bl _) p⟩
      · exact p.elim
def inA (neg : Bool) : O → O → Option R := orR (inO neg) (inD neg)
abbrev rInA (K : PySem.W.Frag) (P : Program) (w : World) (neg : Bool) : R2 := fun x y H Q => rInO K neg x y H Q ∨ rInDn K P w neg x y H Q
theorem op_inA {X : Cx} {k : Nat} (hr : Room k X.A) : OpR X (compareOp .In) (rInA X.K X.prog X.w false) := (op_inO hr).or (op_inDn hr)
theorem op_notInA {X : Cx} {k : Nat} (hr : Room k X.A) : OpR X (compareOp .NotIn) (rInA X.K X.prog X.w true) := (op_notInO hr).or (op_notInDn hr)
theorem inA_ok {G : CC} {neg : Bool} : OpD G (rInA G.K G.P G.w neg) (inA neg) := inO_ok.or inD_ok
/-! ### len(d) -/
def rLenDn (P : Program) (w : World) : List V → Hp → VK → Prop := fun xs H Q => ∃ (a : Addr) (n : Nat), xs = [.ref a] ∧ ((∃ kvs, Rd H a (.dK kvs) ∧ kvs.length = n) ∨ ∃ kvs, Rd H a (DN P w a kvs) ∧ kvs.length = n) ∧ Q (.int n) H
theorem call_lenDn {X : Cx} : CallR X (.builtin "len") (rLenDn X.prog X.w) := by
  intro pins s σ H xs us Q I r h
  obtain ⟨a, n, rfl, g, q⟩ := h
  obtain ⟨u, rfl, ru⟩ := vals1 r
  obtain rfl : u = .ref a := ru
  rcases g with ⟨kvs, e, rfl⟩ | ⟨kvs, e, rfl⟩
  · exact d_len I e fun t s' I' => ⟨.int kvs.length, H, I', ⟨t, rfl⟩, q⟩
  · obtain ⟨z, hd, xs, rel, o, es, ep, h1, h2, h3, h4, h5⟩ := (show DNat X.prog X.w a kvs s.heap from (e.ok I.hok).1)
    have hl : kvs.length = xs.length := Paired.length rel
    have hes : es.size = xs.length := by
      have := congrArg List.length h4
      simpa using this
    refine Calls.call_function_entry kind_len plain_len entry_len (args_len1 _) ?_
    unfold Builtin.«len»
    refine wpAny_bind (m := oneArg "len" _) (wpAny_pure ?_)
    have hT : s.TypeIs (.ref a) "dict" := ⟨o, h1, h2.1⟩
    refine wpAny_bind (m := callSpecial? (.ref a) (Str.ofString "__len__")) (wpAny_callSpecial?_slot (name := Str.ofString "__len__") hT PySem.F.slot_dict_len
      (PySem.call_len_raw hd ⟨o, h1, h2, h3⟩ ?_))
    show wpAny _ _ _ _ _ { s with toks := s.toks + 1 }
    refine wpAny_bind (wpAny_holding (wpAny_pure ?_))
    refine wpAny_bind (wpAny_letGo ?_)
    rw [sizeLine_eq] at z
    show wpAny _ _ (if ((es.size : Nat) : Int) < 0 then _ else _) _ _ _
    rw [if_neg (by omega)]
    show wpAny _ _ (if ((es.size : Nat) : Int) ≥ 2 ^ 63 then _ else _) _ _ _
    rw [if_neg (by omega)]
    refine wpAny_bind (wpAny_mkInt (wpAny_pure ⟨_, rfl, ?_⟩))
    rw [hes, ← hl]
    exact ⟨.int ((kvs.length : Nat) : Int), H, I.tok _, ⟨_, rfl⟩, q⟩
def lenD (o : O) : Option R := match o.dct? with
  | some (_, l) => rInt l.length
  | none => none
theorem nkeys_len : ∀ {ds : List D} {ks : List NestedKey}, nkeys ds = some ks → ks.length = ds.length
  | [], _, e => by cases e; rfl
  | d :: ds, _, e => by
    simp only [nkeys] at e
    cases h1 : nkey d with
    | none => rw [h1] at e; cases e
    | some k1 =>
      cases h2 : nkeys ds with
      | none => rw [h1, h2] at e; cases e
      | some ks =>
        rw [h1, h2] at e
        cases e
        simp [nkeys_len h2]
theorem Own.dlen {G : CC} {F H : Hp} {x : V} {o : O} {f : List Addr} {b : Bool} {l : List (D × O)} (le : Le F H) (h : Own G F H x o f) (e : o.dct? = some (b, l)) :
    ∃ a, x = .ref a ∧ ((∃ kvs, Rd H a (.dK kvs) ∧ kvs.length = l.length) ∨ ∃ kvs, Rd H a (DN G.P G.w a kvs) ∧ kvs.length = l.length) := by
  cases h with
  | sh r =>
    cases r with
    | dct h1 h2 h3 => cases e; exact ⟨_, rfl, .inl ⟨_, .inr ⟨_, le _ _ h1⟩, by have := congrArg List.length h2; simpa using this.symm⟩⟩
    | dcT h1 h2 n h0 h3 => cases e; exact ⟨_, rfl, .inr ⟨_, .inr ⟨_, le _ _ h1⟩, by have := nkeys_len h2; simpa using this⟩⟩
    | _ => cases e
  | dct h1 h2 n h3 => cases e; exact ⟨_, rfl, .inl ⟨_, .inl h1, by have := congrArg List.length h2; simpa using this.symm⟩⟩
  | dcT h1 h2 n h0 h3 => cases e; exact ⟨_, rfl, .inr ⟨_, .inl h1, by have := nkeys_len h2; simpa using this⟩⟩
  | lst _ _ => cases e
  | tup _ _ => cases e
  | ins _ _ _ => cases e
theorem lenD_ok {G : CC} : CallD G (rLenDn G.P G.w) (fn1 lenD) := fn1_ok fun F H v o f Q l ha p => by
  unfold lenD at p
  cases e : o.dct? with
  | none => simp only [e] at p; exact p.elim
  | some bl =>
    obtain ⟨b, dl⟩ := bl
    simp only [e] at p
    obtain ⟨a, rfl, q⟩ := ha.dlen l e
    exact ⟨a, dl.length, rfl, q, vp_sh l (.int _) p⟩
def lenA : List O → Option R := orC (fn1 lenQ) (fn1 lenD)
abbrev rLenA (K : PySem.W.Frag) (P : Program) (w : World) : List V → Hp → VK → Prop := fun xs H Q => rLen K xs H Q ∨ rLenDn P w xs H Q
theorem call_lenA {X : Cx} : CallR X (.builtin "len") (rLenA X.K X.prog X.w) := CallR.or (r := rLen X.K) call_len call_lenDn
theorem lenA_ok {G : CC} : CallD G (rLenA G.K G.P G.w) lenA := lenQ_ok.or lenD_ok
end DL

set_option maxHeartbeats 1000000
/-! IS: the head's facts with a look of one's own; isinstance -/
namespace DL
open PySem PySem.Spec L2
open PyProof.Rows hiding St
def obsM (n : Nat) (fa : List He.Fa) (fn : List He.DefD) (ex : PySem.W.Frag → Bool) (g : Addr → Option Obj) : He.AlD × Bool := (He.obsD fa fn (He.frG g (He.asD g n)), ex (He.frG g (He.asD g n)))
def hookM (n : Nat) (fa : List He.Fa) (fn : List He.DefD) (ex : PySem.W.Frag → Bool) : PySem.W.Hook where
  α := He.AlD × Bool
  obs := fun s => obsM n fa fn ex s.heap.get?
  val := fun _ => (He.valD fn, true)
  says := fun _ h => ∃ K : PySem.W.Frag, K.In h ∧ He.SaysD fa fn K ∧ ex K = true
  of := fun _ _ e => ⟨_, He.frG_in, congrArg (fun z : He.AlD × Bool => z.1) e, congrArg (fun z : He.AlD × Bool => z.2) e⟩
  keeps := fun _ _ _ ⟨K, hK, c⟩ k => ⟨K, PySem.W.Frag.In.keeps hK k, c⟩
theorem obsM_eq {n : Nat} {fa : List He.Fa} {fn : List He.DefD} {ex : PySem.W.Frag → Bool} {g : Addr → Option Obj} {s : Shared} (h : ∀ a, g a = s.heap.get? a) : obsM n fa fn ex g = (hookM n fa fn ex).obs s := by
  have e : g = s.heap.get? := funext h
  rw [e] <;> rfl

/-! ### the classes of things -/
/-- the class of a thing -/
inductive Ty where
  | bi (s : String) | exc (k : Nat) | ins (k : Nat)
  deriving DecidableEq
def Ty.v (G : CC) : Ty → Value
  | .bi s => .type s
  | .exc k => .ref (G.cls k)
  | .ins k => .ref (G.cls k)
def O.cl : O → Option Ty
  | .sh .non => some (.bi "NoneType")
  | .sh (.bl _) => some (.bi "bool")
  | .sh (.int _) => some (.bi "int")
  | .sh (.str _) => some (.bi "str")
  | .sh (.tup _) => some (.bi "tuple")
  | .sh (.lst _) => some (.bi "list")
  | .sh (.dct _ _) => some (.bi "dict")
  | .sh (.exc c _) => some (.exc c)
  | .sh (.ins c _) => some (.ins c)
  | .sh (.fn _) => none
  | .dct _ _ => some (.bi "dict")
  | .lst _ => some (.bi "list")
  | .tup _ => some (.bi "tuple")
  | .ins c _ => some (.ins c)
/-- an exception that is held -/
structure ExcI (K : PySem.W.Frag) (D : Addr) : Prop where
  hc : (PySem.W.clsIn K D).isSome = true
  hg : PySem.W.findIn K (.ref D) "__getattribute__" = some (some (.builtin "BaseException.__getattribute__"))
  hk : PySem.W.findIn K (.ref D) "__getattr__" = some none
  hs : PySem.W.subIn K (.ref D) (.type "BaseException") = some true
  ha : PySem.W.findIn K (.ref D) "__class__" = some (some (.builtin "object.__class__"))
  hn : PySem.W.specialIn K (.builtin "object.__class__") "__get__" = some (some (.builtin "getset_descriptor.__get__"))
  ht : PySem.W.takesIn K (.builtin "object.__class__") = some true
  hm : PySem.W.mroIn K D (.type "object") = some true
def excIB (K : PySem.W.Frag) (D : Addr) : Bool := (PySem.W.clsIn K D).isSome && (He.eqO (PySem.W.findIn K (.ref D) "__getattribute__") (some (some (.builtin "BaseException.__getattribute__"))) && (He.eqO (PySem.W.findIn K (.ref D) "__getattr__") (some none) &&
  (decide (PySem.W.subIn K (.ref D) (.type "BaseException") = some true) && (He.eqO (PySem.W.findIn K (.ref D) "__class__") (some (some (.builtin "object.__class__"))) && (He.eqO (PySem.W.specialIn K (.builtin "object.__class__") "__get__") (some (some (.builtin "getset_descriptor.__get__"))) &&
  (decide (PySem.W.takesIn K (.builtin "object.__class__") = some true) && decide (PySem.W.mroIn K D (.type "object") = some true)))))))
theorem excIB_ok {K : PySem.W.Frag} {D : Addr} (h : excIB K D = true) : ExcI K D := by
  obtain ⟨h1, h⟩ := He.ba h
  obtain ⟨h2, h⟩ := He.ba h
  obtain ⟨h3, h⟩ := He.ba h
  obtain ⟨h4, h⟩ := He.ba h
  obtain ⟨h5, h⟩ := He.ba h
  obtain ⟨h6, h⟩ := He.ba h
  obtain ⟨h7, h8⟩ := He.ba h
  exact ⟨h1, He.eqO_ok h2, He.eqO_ok h3, of_decide_eq_true h4, He.eqO_ok h5, He.eqO_ok h6, of_decide_eq_true h7, of_decide_eq_true h8⟩
/-- an instance of a plain own class -/
structure InsI (K : PySem.W.Frag) (D : Addr) : Prop where
  cl : Cls K D
  ha : PySem.W.findIn K (.ref D) "__class__" = some (some (.builtin "object.__class__"))
  hn : PySem.W.specialIn K (.builtin "object.__class__") "__get__" = some (some (.builtin "getset_descriptor.__get__"))
  ht : PySem.W.takesIn K (.builtin "object.__class__") = some true
  hm : PySem.W.mroIn K D (.type "object") = some true
def insIB (K : PySem.W.Frag) (D : Addr) : Bool := PySem.W.plainGet K D Str.empty && (PySem.W.hasDictIn K D && (PySem.W.plainOver K D && (He.eqO (PySem.W.findIn K (.ref D) "__setattr__") (some (some (.builtin "object.__setattr__"))) &&
  (He.eqO (PySem.W.findIn K (.ref D) "__class__") (some (some (.builtin "object.__class__"))) && (He.eqO (PySem.W.specialIn K (.builtin "object.__class__") "__get__") (some (some (.builtin "getset_descriptor.__get__"))) &&
  (decide (PySem.W.takesIn K (.builtin "object.__class__") = some true) && decide (PySem.W.mroIn K D (.type "object") = some true)))))))
theorem insIB_ok {K : PySem.W.Frag} {D : Addr} (h : insIB K D = true) : InsI K D := by
  obtain ⟨h1, h⟩ := He.ba h
  obtain ⟨h2, h⟩ := He.ba h
  obtain ⟨h3, h⟩ := He.ba h
  obtain ⟨h4, h⟩ := He.ba h
  obtain ⟨h5, h⟩ := He.ba h
  obtain ⟨h6, h⟩ := He.ba h
  obtain ⟨h7, h8⟩ := He.ba h
  exact ⟨⟨h1, h2, h3, He.eqO_ok h4⟩, He.eqO_ok h5, He.eqO_ok h6, of_decide_eq_true h7, of_decide_eq_true h8⟩
def ClsF (G : CC) : Ty → Prop
  | .bi _ => True
  | .exc k => ExcI G.K (G.cls k)
  | .ins k => InsI G.K (G.cls k)
inductive TyY (K : PySem.W.Frag) (P : Program) (w : World) (H : Hp) : V → Value → Prop where
  | x {v : V} {t : Value} (h : TyX K H v t) : TyY K P w H v t
  | dn {a : Addr} {kvs : List NK} (e : Rd H a (DN P w a kvs)) : TyY K P w H (.ref a) (.type "dict")
  | exc {a D : Addr} {d : Option Addr} (e : H a = some (XO (.ref D) d a)) (hd : d = none ∨ ∃ dx fs, d = some dx ∧ H dx = some (.xd fs)) (c : ExcI K D) : TyY K P w H (.ref a) (.ref D)
theorem Own.tyY {G : CC} {F H : Hp} {v : V} {o : O} {f : List Addr} (l : Le F H) (h : Own G F H v o f) {t : Ty} (e : o.cl = some t) (c : ClsF G t) : TyY G.K G.P G.w H v (t.v G) := by
  cases h with
  | sh r =>
    cases r with
    | non => cases e; exact .x (.base .non)
    | bl b => cases e; exact .x (.base (.bl b))
    | int i => cases e; exact .x (.base (.int i))
    | str s => cases e; exact .x (.base (.str _))
    | tup s r =>
      cases e
      rcases SqT.le l s with (s | ⟨o, s⟩) | ⟨o, its, n, h1, h2, _⟩
      · exact .x (.base (.tup s))
      · exact .x (.fTuple s)
      · exact .x (.kTuple h1 h2)
    | lst s r =>
      cases e
      rcases SqL.le l s with (s | ⟨o, s⟩) | ⟨o, its, n, h1, h2, _⟩
      · exact .x (.base (.lst s))
      · exact .x (.base (.frz s))
      · exact .x (.kList h1 h2)
    | dct s _ r => cases e; exact .x (.fDict (l _ _ s))
    | dcT s _ n q r => cases e; exact .dn (.inr ⟨_, l _ _ s⟩)
    | ins s _ r => cases e; exact .x (.base (.ins (l _ _ s) c.cl c.ha c.hn c.ht c.hm))
    | exc0 s => cases e; exact .exc (l _ _ s) (.inl rfl) c
    | exc s h2 _ _ _ => cases e; exact .exc (l _ _ s) (.inr ⟨_, _, rfl, l _ _ h2⟩) c
  | lst ha r => cases e; exact .x (.base (.lst ha))
  | dct ha _ n r => cases e; exact .x (.base (.dK ha))
  | dcT ha _ n q r => cases e; exact .dn (.inl ha)
  | tup ha r => cases e; exact .x (.base (.tup ha))
  | ins ha _ r => cases e; exact .x (.base (.ins ha c.cl c.ha c.hn c.ht c.hm))
section
variable {X : Cx} {pins : List (Addr × Obj)} {σ : St} {H : Hp} {s : Shared}
theorem kit_ofY {x : V} {u t : Value} (I : Inv X pins σ H s) (rx : RelV x u) (ty : TyY X.K X.prog X.w H x t) : ∃ P : Heap → Prop, PySem.W.KitX X.K u t P ∧ P s.heap ∧ u ≠ .builtin "__main__.__loader__#opaque" := by
  cases ty with
  | x h => exact kit_of I rx h
  | @dn a kvs e =>
    cases (show u = Value.ref a from rx)
    obtain ⟨z, y, xs, r, o, es, ep, h1, h2, h3, h4, h5⟩ := (show DNat X.prog X.w a kvs s.heap from (e.ok I.hok).1)
    exact ⟨_, PySem.W.kitx_dict, ⟨o, h1, h2.1⟩, fun z => nomatch z⟩
  | @exc a D d e hd C =>
    cases (show u = Value.ref a from rx)
    obtain ⟨⟨oe, vs, hget, hz, hv⟩, _⟩ := I.hok a _ e
    have J : ∃ od, PySem.W.InstAt s.heap a oe D od := by
      obtain ⟨oc, od, oda, osl⟩ := oe
      obtain ⟨h1, h2⟩ := hz
      dsimp only at h1 h2 hv
      subst h1 h2 hv
      rcases hd with rfl | ⟨dx, fs, rfl, hx⟩
      · exact ⟨none, hget, rfl, rfl, trivial⟩
      · obtain ⟨_, ⟨o, _, _, e', _⟩, _⟩ := I.hok dx _ hx
        exact ⟨some o, hget, rfl, rfl, e'⟩
    obtain ⟨od, J⟩ := J
    exact ⟨_, PySem.W.kitx_exc C.hc C.hg C.hk C.hs C.ha C.hn C.ht C.hm, J, fun z => nomatch z⟩
end
def rIsY (K : PySem.W.Frag) (P : Program) (w : World) : List V → Hp → VK → Prop := fun xs H Q => ∃ (x c : V) (t u : Value) (b : Bool), xs = [x, c] ∧ ClsV c u ∧ TyY K P w H x t ∧ PySem.W.kitOne K t u = some b ∧ Q (.bl b) H
def rIsYT (K : PySem.W.Frag) (P : Program) (w : World) : List V → Hp → VK → Prop := fun xs H Q => ∃ (x : V) (tp : Addr) (cs : List V) (t : Value) (us : List Value) (b : Bool), xs = [x, .ref tp] ∧ H tp = some (.tup cs) ∧ Paired ClsV cs us ∧ TyY K P w H x t ∧ PySem.W.kitAny K t us = some b ∧ Q (.bl b) H
section
variable {X : Cx}
theorem call_isY : CallR X (.builtin "isinstance") (rIsY X.K X.prog X.w) := by
  intro pins s σ H xs us Q I r h
  obtain ⟨x, c, t, u, b, rfl, k, ty, e, q⟩ := h
  obtain ⟨u1, u2, rfl, r1, r2⟩ := vals2 r
  have e2 := k.eq r2
  subst e2
  obtain ⟨P, Z, p, hx⟩ := kit_ofY I r1 ty
  exact PySem.W.kia_one Z I.kIn p e hx fun tk => ⟨.bl b, H, I.tok tk, rfl, q⟩
theorem call_isYT : CallR X (.builtin "isinstance") (rIsYT X.K X.prog X.w) := by
  intro pins s σ H xs us Q I r h
  obtain ⟨x, tp, cs, t, ws, b, rfl, hT, k, ty, e, q⟩ := h
  obtain ⟨u1, u2, rfl, r1, r2⟩ := vals2 r
  cases (show u2 = Value.ref tp from r2)
  obtain ⟨P, Z, p, hx⟩ := kit_ofY I r1 ty
  obtain ⟨_, its, rv, o, h1, h2, n, h3⟩ := (show ObjOk X.prog X.w H s.heap tp (.tup cs) from I.hok tp _ hT)
  have e3 := ClsV.all k rv
  subst e3
  obtain ⟨oc, od, dt, sl⟩ := o
  simp only at h2 h3
  subst h2 h3
  exact PySem.W.kia_tup Z I.kIn p h1 e hx fun tk => ⟨.bl b, H, I.tok tk, rfl, q⟩
end
/-! ### isinstance as data -/
def isT (tab : Ty → Option Bool) (o : O) : Option R := match o.cl with
  | some t => (tab t).bind rBl
  | none => none
/-- what a class says of the classes of things -/
structure IsTab (G : CC) (cv : Value) (tab : Ty → Option Bool) : Prop where
  ok : ∀ t b, tab t = some b → PySem.W.kitOne G.K (t.v G) cv = some b ∧ ClsF G t
section
variable {X : Cx} {G : CC} {W : WX} {e : Expr} {m : En → Res R} {p p2 pos : Pos} {tab tab2 : Ty → Option Bool}
theorem tIs_D {c : V} {cv : Value} (T : IsTab G cv tab) (hc : ClsV c cv) {σ : St} {H : Hp} {Q : VK} (h : tD G W (mUn (isT tab) m) σ H Q) : tCB (rIsY G.K G.P G.w) (tCons (tD G W m) (tCons (tC c) tNil)) σ H Q := by
  obtain ⟨F, B, L, en, fp, s, p⟩ := h
  refine ⟨F, B, L, en, fp, s, ?_⟩
  unfold mUn at p
  cases ea : m en with
  | stuck => rw [ea] at p; exact p.elim
  | exc x e => rw [ea] at p; exact p
  | ok a =>
    rw [ea] at p
    simp only [Res.bnd] at p
    intro x F1 H1 r1
    obtain ⟨f, q1⟩ := r1.has
    unfold isT at p
    cases e1 : a.o.cl with
    | none => simp only [e1] at p; exact p.elim
    | some t =>
      simp only [e1] at p
      cases eb : tab t with
      | none => rw [eb] at p; exact p.elim
      | some b =>
        rw [eb] at p
        obtain ⟨g1, g2⟩ := T.ok t b eb
        exact ⟨x, c, _, cv, b, rfl, hc, q1.tyY r1.nx.le e1 g2, g1, p _ F1 H1 (PR.after r1.nx (.sh r1.nx.le (.bl b)))⟩
/-- isinstance(e, C), C a class of the module -/
theorem dp_is (k : Nat) {x : Str} (T : IsTab G (.ref (G.cls k)) tab) (hmx : X.mg x = some (.ref (G.cls k))) (hm : X.mg "isinstance" = none) (ha : PE X e (tD G W m)) (hK : G.K = X.K := by rfl) (hP : G.P = X.prog := by rfl) (hw : G.w = X.w := by rfl) (hg : Gl X "isinstance" := by rfl) (hgx : Gl X x := by rfl)
    (hdb : (x == ("__debug__" : Str)) = false := by decide)
    (hs1 : starEach [e, .Name x p2] X.env = (false, eval e X.env) :: starEach [.Name x p2] X.env := by rfl) (hpl : (backTo pos (starEach [.Name x p2] X.env)).any (·.1) = false := by rfl) :
    PE X (.Call (.Name "isinstance" p) [e, .Name x p2] [] pos) (tD G W (mUn (isT tab) m)) :=
  (pe_callB (call_isY (X := X)) hg hm (by decide +kernel) (pa_cons ha (pa_cons (pe_glob (v := .ref (G.cls k)) hgx hmx rfl hdb) pa_nil) hs1) (by decide) (by decide) hs1 hpl).imp fun _ _ _ h => hK ▸ hP ▸ hw ▸ tIs_D T (.own _) h
/-- .., C a built-in class -/
theorem dp_isB (t : String) {x : Str} (T : IsTab G (.type t) tab) (hmx : X.mg x = none) (hm : X.mg "isinstance" = none) (ha : PE X e (tD G W m)) (hv : bootBuiltins x = some (.type t) := by decide +kernel) (hK : G.K = X.K := by rfl) (hP : G.P = X.prog := by rfl) (hw : G.w = X.w := by rfl) (hg : Gl X "isinstance" := by rfl) (hgx : Gl X x := by rfl)
    (hn : x ≠ "__name__" := by decide) (hdb : (x == ("__debug__" : Str)) = false := by decide)
    (hs1 : starEach [e, .Name x p2] X.env = (false, eval e X.env) :: starEach [.Name x p2] X.env := by rfl) (hpl : (backTo pos (starEach [.Name x p2] X.env)).any (·.1) = false := by rfl) :
    PE X (.Call (.Name "isinstance" p) [e, .Name x p2] [] pos) (tD G W (mUn (isT tab) m)) :=
  (pe_callB (call_isY (X := X)) hg hm (by decide +kernel) (pa_cons ha (pa_cons (pe_bltn (v := .ty t) hgx hmx hv rfl hn hdb) pa_nil) hs1) (by decide) (by decide) hs1 hpl).imp fun _ _ _ h => hK ▸ hP ▸ hw ▸ tIs_D T (.ty _) h
/-- isinstance(e, (T, U)), built-in classes -/
def isT2 (tab tab2 : Ty → Option Bool) (o : O) : Option R := match o.cl with
  | some t => match tab t, tab2 t with
    | some a, some b => rBl (a || b)
    | _, _ => none
  | none => none
theorem dp_isB2 (t u : String) {x y : Str} {k} {p3 p4 : Pos} (T : IsTab G (.type t) tab) (U : IsTab G (.type u) tab2) (hmx : X.mg x = none) (hmy : X.mg y = none) (hm : X.mg "isinstance" = none) (ha : PE X e (tD G W m)) (hv : bootBuiltins x = some (.type t) := by decide +kernel) (hvy : bootBuiltins y = some (.type u) := by decide +kernel)
    (hK : G.K = X.K := by rfl) (hP : G.P = X.prog := by rfl) (hw : G.w = X.w := by rfl) (hg : Gl X "isinstance" := by rfl) (hgx : Gl X x := by rfl) (hgy : Gl X y := by rfl)
    (hn : x ≠ "__name__" := by decide) (hdb : (x == ("__debug__" : Str)) = false := by decide) (hny : y ≠ "__name__" := by decide) (hdby : (y == ("__debug__" : Str)) = false := by decide)
    (hs1 : starEach [e, .Tuple [.Name x p2, .Name y p3] k p4] X.env = (false, eval e X.env) :: starEach [.Tuple [.Name x p2, .Name y p3] k p4] X.env := by rfl) (hpl : (backTo pos (starEach [.Tuple [.Name x p2, .Name y p3] k p4] X.env)).any (·.1) = false := by rfl) :
    PE X (.Call (.Name "isinstance" p) [e, .Tuple [.Name x p2, .Name y p3] k p4] [] pos) (tD G W (mUn (isT2 tab tab2) m)) :=
  (pe_callB (call_isYT (X := X)) hg hm (by decide +kernel) (pa_cons ha (pa_cons (pe_tup (pa_cons (pe_bltn (v := .ty t) hgx hmx hv rfl hn hdb) (pa_cons (pe_bltn (v := .ty u) hgy hmy hvy rfl hny hdby) pa_nil))) pa_nil) hs1) (by decide) (by decide) hs1 hpl).imp fun σ H Q h => by
    obtain ⟨F, B, L, en, fp, s, p⟩ := h
    refine ⟨F, B, L, en, fp, s, ?_⟩
    unfold mUn at p
    cases ea : m en with
    | stuck => rw [ea] at p; exact p.elim
    | exc x e => rw [ea] at p; exact p
    | ok a =>
      rw [ea] at p
      simp only [Res.bnd] at p
      intro x F1 H1 r1
      obtain ⟨f, q1⟩ := r1.has
      unfold isT2 at p
      cases e1 : a.o.cl with
      | none => simp only [e1] at p; exact p.elim
      | some ct =>
        simp only [e1] at p
        cases eb : tab ct with
        | none => simp only [eb] at p; exact p.elim
        | some b =>
          cases eb2 : tab2 ct with
          | none => simp only [eb, eb2] at p; exact p.elim
          | some b2 =>
            simp only [eb, eb2] at p
            obtain ⟨g1, g2⟩ := T.ok ct b eb
            obtain ⟨g3, _⟩ := U.ok ct b2 eb2
            refine ⟨by show 2 ≤ sizeLine; decide, fun tp hT => ?_⟩
            have n := Nx.newF (F := F1) (o := .tup [.ty t, .ty u]) r1.nx.le hT
            have q2 := q1.le (H' := upd H1 tp (.tup [.ty t, .ty u])) n.ff fun c u _ e => n.keep c u e
            refine ⟨x, tp, [.ty t, .ty u], ct.v G, [.type t, .type u], _, rfl, upd_same, .cons (.ty _) (.cons (.ty _) .nil), hK ▸ hP ▸ hw ▸ q2.tyY n.le e1 g2, ?_, p _ _ _ (PR.after (r1.nx.trans n) (.sh n.le (.bl _)))⟩
            rw [← hK]
            refine kitAny_cons g1 (fun h1 => kitAny_cons g3 (fun h2 => ?_) fun h2 => ?_) fun h1 => ?_
            · simp [PySem.W.kitAny, h1, h2]
            · simp [h1, h2]
            · simp [h1]
end
/-- a built-in class T: of the things of built-in classes by their names, of own ones by a table -/
def tabB (T : String) (own : Ty → Option Bool) : Ty → Option Bool
  | .bi s => if s ∈ ["NoneType", "bool", "int", "str", "tuple", "list", "dict"] then some (T == s || (T == "int" && s == "bool")) else none
  | t => own t
theorem tabB_ok {G : CC} {T : String} {own : Ty → Option Bool} (hT : T ∈ ["bool", "int", "str", "tuple", "list", "dict"]) (h : ∀ t b, (∀ s, t ≠ .bi s) → own t = some b → PySem.W.kitOne G.K (t.v G) (.type T) = some b ∧ ClsF G t) : IsTab G (.type T) (tabB T own) := ⟨fun t b e => by
  cases t with
  | exc k => exact h _ b (fun s z => nomatch z) e
  | ins k => exact h _ b (fun s z => nomatch z) e
  | bi s =>
    refine ⟨?_, trivial⟩
    unfold tabB at e
    simp only at e
    split at e
    · rename_i m
      cases e
      have hs : s = "NoneType" ∨ s = "bool" ∨ s = "int" ∨ s = "str" ∨ s = "tuple" ∨ s = "list" ∨ s = "dict" := by simpa using m
      have ht : T = "bool" ∨ T = "int" ∨ T = "str" ∨ T = "tuple" ∨ T = "list" ∨ T = "dict" := by simpa using hT
      show PySem.W.kitOne G.K (.type s) (.type T) = _
      rcases hs with h | h | h | h | h | h | h <;> subst h <;> rcases ht with h | h | h | h | h | h <;> subst h <;> exact kit_ty (by decide +kernel)
    · cases e⟩
/-- an own class: of things of built-in classes never -/
def tabO (own : Ty → Option Bool) : Ty → Option Bool
  | .bi s => if s ∈ ["NoneType", "bool", "int", "str", "tuple", "list", "dict"] then some false else none
  | t => own t
end DL

set_option maxHeartbeats 1000000
/-! EM: places within one's own things -/
namespace DL
open PySem PySem.Spec L2
open PyProof.Rows hiding St

/-- a way to a part -/
inductive Acc where
  | here | fld (j : Nat) | ix (n : Nat) | key (k : D)
def O.sub : O → Acc → Option O
  | o, .here => some o
  | .ins _ os, .fld j => os[j]?
  | .lst os, .ix n => os[n]?
  | .dct b l, .key k => if okK b k then dGet l k else none
  | _, _ => none
/-- the value under a key, in its place -/
def dSet {α : Type} (l : List (D × α)) (k : D) (v : α) : List (D × α) := l.map fun p => if deq p.1 k then (p.1, v) else p
def O.put : O → Acc → O → O
  | _, .here, u => u
  | .ins c os, .fld j, u => .ins c (os.set j u)
  | .lst os, .ix n, u => .lst (os.set n u)
  | .dct b l, .key k, u => .dct b (dSet l k u)
  | o, _, _ => o
/-- what stands there -/
def valAt (K : PySem.W.Frag) (P : Program) (w : World) (H : Hp) (v : V) : Acc → V → Prop
  | .here, x => x = v
  | .fld j, x => ∃ p C dx fs, v = .ref p ∧ H p = some (.ins C dx fs) ∧ (fs[j]?).map (·.2) = some x
  | .ix n, x => ∃ p vs, v = .ref p ∧ H p = some (.lst vs) ∧ vs[n]? = some x
  | .key k, x => ∃ p, v = .ref p ∧ ((∃ kvs kk, H p = some (.dK kvs) ∧ k = kd kk ∧ valV kvs kk = some x) ∨ ∃ kvs kk, H p = some (DN P w p kvs) ∧ KStand K H kvs ∧ nkey k = some kk ∧ kk.depth ≤ 8 ∧ valN kvs kk = some x)
section
variable {G : CC} {F F' H H' : Hp}
theorem Owns.hole : ∀ {vs : List V} {os : List O} {fp : List Addr} {n : Nat} {u : O}, Owns G F H vs os fp → os[n]? = some u → ∃ w fw rest, vs[n]? = some w ∧ Own G F H w u fw ∧ (rest ++ fw).Perm fp ∧
    ∀ F' H' u' fw', Le F F' → (∀ a x, a ∈ rest → H a = some x → H' a = some x) → Own G F' H' w u' fw' → ∃ fp', Owns G F' H' vs (os.set n u') fp' ∧ (rest ++ fw').Perm fp'
  | _, _, _, _, _, .nil, e => by simp at e
  | _, _, _, 0, u, .cons (f := f) (fp := fp) q r, e => by
    simp at e
    subst e
    exact ⟨_, f, fp, rfl, q, List.perm_append_comm, fun F' H' u' fw' l k q' => ⟨fw' ++ fp, .cons q' (r.le l k), List.perm_append_comm⟩⟩
  | _, _, _, n + 1, u, .cons (f := f) (fp := fp) q r, e => by
    obtain ⟨w, fw, rest, h1, h2, h3, h4⟩ := Owns.hole (n := n) (u := u) r (by simpa using e)
    refine ⟨w, fw, f ++ rest, by simpa using h1, h2, perm_mid h3 f, fun F' H' u' fw' l k q' => ?_⟩
    obtain ⟨fp', r', p⟩ := h4 F' H' u' fw' l (fun a x m => k a x (List.mem_append_right _ m)) q'
    exact ⟨f ++ fp', .cons (q.le l fun a x m => k a x (List.mem_append_left _ m)) r', perm_mid p f⟩
theorem dSet_keys {α : Type} (l : List (D × α)) (k : D) (v : α) : (dSet l k v).map (·.1) = l.map (·.1) := by
  unfold dSet
  rw [List.map_map]
  refine List.map_congr_left fun p _ => ?_
  simp only [Function.comp]
  split <;> rfl
theorem dSet_not {α : Type} {l : List (D × α)} {k : D} (v : α) (h : ∀ p ∈ l, deq p.1 k = false) : dSet l k v = l := by
  unfold dSet
  conv => rhs; rw [← List.map_id l]
  refine List.map_congr_left fun p m => ?_
  rw [h p m]
  rfl
/-- a value under a scalar key -/
theorem Owns.holeK : ∀ {kvs : List (Key × V)} {l : List (D × O)} {fp : List Addr} {kk : Key} {u : O}, l.map (·.1) = kvs.map (fun p => kd p.1) → (kvs.map (·.1)).Nodup → Owns G F H (kvs.map (·.2)) (l.map (·.2)) fp → dGet l (kd kk) = some u →
    ∃ w fw rest, valV kvs kk = some w ∧ Own G F H w u fw ∧ (rest ++ fw).Perm fp ∧
    ∀ F' H' u' fw', Le F F' → (∀ a x, a ∈ rest → H a = some x → H' a = some x) → Own G F' H' w u' fw' → ∃ fp', Owns G F' H' (kvs.map (·.2)) ((dSet l (kd kk) u').map (·.2)) fp' ∧ (rest ++ fw').Perm fp'
  | [], [], _, _, _, _, _, _, e => by simp [dGet] at e
  | [], _ :: _, _, _, _, e, _, _, _ => by simp at e
  | _ :: _, [], _, _, _, e, _, _, _ => by simp at e
  | (k, v) :: kvs, (d, o) :: l, _, kk, u, e, nd, .cons (f := f) (fp := fp) q r, eg => by
    simp only [List.map_cons, List.cons.injEq] at e
    obtain ⟨rfl, e⟩ := e
    simp only [List.map_cons, List.nodup_cons] at nd
    obtain ⟨n1, n2⟩ := nd
    by_cases h : k = kk
    · subst h
      have e1 : dGet ((kd k, o) :: l) (kd k) = some o := by unfold dGet; simp [List.find?_cons, kd_deq]
      rw [e1] at eg
      cases eg
      have out : ∀ p ∈ l, deq p.1 (kd k) = false := fun p m => by
        have : p.1 ∈ l.map (·.1) := List.mem_map.mpr ⟨p, m, rfl⟩
        rw [e] at this
        obtain ⟨q', m', e'⟩ := List.mem_map.mp this
        rw [← e', kd_deq]
        refine decide_eq_false fun z => n1 ?_
        rw [← z]
        exact List.mem_map.mpr ⟨q', m', rfl⟩
      refine ⟨v, f, fp, valV_pos rfl, q, List.perm_append_comm, fun F' H' u' fw' le k' q' => ⟨fw' ++ fp, ?_, List.perm_append_comm⟩⟩
      have e2 : dSet ((kd k, o) :: l) (kd k) u' = (kd k, u') :: l := by
        have := dSet_not u' out
        unfold dSet at this ⊢
        rw [List.map_cons, this]
        simp [kd_deq]
      rw [e2]
      exact .cons q' (r.le le k')
    · have e1 : dGet ((kd k, o) :: l) (kd kk) = dGet l (kd kk) := by unfold dGet; simp [List.find?_cons, kd_deq, h]
      rw [e1] at eg
      obtain ⟨w, fw, rest, h1, h2, h3, h4⟩ := Owns.holeK (kk := kk) (u := u) e n2 r eg
      refine ⟨w, fw, f ++ rest, by rw [valV_neg h]; exact h1, h2, perm_mid h3 f, fun F' H' u' fw' le k' q' => ?_⟩
      obtain ⟨fp', r', p⟩ := h4 F' H' u' fw' le (fun a x m => k' a x (List.mem_append_right _ m)) q'
      refine ⟨f ++ fp', ?_, perm_mid p f⟩
      have e2 : dSet ((kd k, o) :: l) (kd kk) u' = (kd k, o) :: dSet l (kd kk) u' := by
        unfold dSet
        rw [List.map_cons]
        simp [kd_deq, h]
      rw [e2]
      exact .cons (q.le le fun a x m => k' a x (List.mem_append_left _ m)) r'
/-- a value under a tuple -/
theorem Owns.holeN : ∀ {kvs : List NK} {l : List (D × O)} {fp : List Addr} {k : D} {kk : NestedKey} {u : O}, nkeys (l.map (·.1)) = some (kvs.map (·.1)) → (kvs.map (·.1)).Nodup → Owns G F H (kvs.map (·.2.2)) (l.map (·.2)) fp → nkey k = some kk → dGet l k = some u →
    ∃ w fw rest, valN kvs kk = some w ∧ Own G F H w u fw ∧ (rest ++ fw).Perm fp ∧
    ∀ F' H' u' fw', Le F F' → (∀ a x, a ∈ rest → H a = some x → H' a = some x) → Own G F' H' w u' fw' → ∃ fp', Owns G F' H' (kvs.map (·.2.2)) ((dSet l k u').map (·.2)) fp' ∧ (rest ++ fw').Perm fp'
  | [], [], _, _, _, _, _, _, _, _, e => by simp [dGet] at e
  | [], (d, o) :: l, _, _, _, _, e, _, _, _, _ => by
    simp only [List.map_cons, List.map_nil, nkeys] at e
    split at e <;> cases e
  | _ :: _, [], _, _, _, _, e, _, _, _, _ => by simp [nkeys] at e
  | (k0, b, v) :: kvs, (d, o) :: l, _, k, kk, u, e, nd, .cons (f := f) (fp := fp) q r, hk, eg => by
    simp only [List.map_cons, nkeys] at e
    cases h1 : nkey d with
    | none => rw [h1] at e; cases e
    | some k1 =>
      cases h2 : nkeys (l.map (·.1)) with
      | none => rw [h1, h2] at e; cases e
      | some ks =>
        rw [h1, h2] at e
        simp only [Option.some.injEq, List.cons.injEq] at e
        obtain ⟨rfl, e⟩ := e
        have hd := nkey_deq h1 hk
        simp only [List.map_cons, List.nodup_cons] at nd
        obtain ⟨n1, n2⟩ := nd
        by_cases h : k1 = kk
        · subst h
          have e1 : dGet ((d, o) :: l) k = some o := by unfold dGet; simp [List.find?_cons, hd]
          rw [e1] at eg
          cases eg
          have outL : ∀ {l : List (D × O)} {ks : List NestedKey}, nkeys (l.map (·.1)) = some ks → k1 ∉ ks → ∀ p ∈ l, deq p.1 k = false := by
            intro l
            induction l with
            | nil => intro ks _ _ p m; cases m
            | cons x l ih =>
              intro ks hks hn p m
              simp only [List.map_cons, nkeys] at hks
              cases g1 : nkey x.1 with
              | none => rw [g1] at hks; cases hks
              | some y =>
                cases g2 : nkeys (l.map (·.1)) with
                | none => rw [g1, g2] at hks; cases hks
                | some ys =>
                  rw [g1, g2] at hks
                  cases hks
                  rw [List.mem_cons, not_or] at hn
                  rcases List.mem_cons.mp m with rfl | m
                  · rw [nkey_deq g1 hk]
                    exact decide_eq_false fun z => hn.1 z.symm
                  · exact ih g2 hn.2 p m
          have out := outL h2 (by rw [e]; exact n1)
          refine ⟨v, f, fp, by unfold valN; simp [List.find?_cons], q, List.perm_append_comm, fun F' H' u' fw' le k' q' => ⟨fw' ++ fp, ?_, List.perm_append_comm⟩⟩
          have e2 : dSet ((d, o) :: l) k u' = (d, u') :: l := by
            have := dSet_not u' out
            unfold dSet at this ⊢
            rw [List.map_cons, this]
            simp [hd]
          rw [e2]
          exact .cons q' (r.le le k')
        · have e1 : dGet ((d, o) :: l) k = dGet l k := by unfold dGet; simp [List.find?_cons, hd, h]
          rw [e1] at eg
          obtain ⟨w, fw, rest, h1', h2', h3, h4⟩ := Owns.holeN (kk := kk) (u := u) (by rw [h2, e]) n2 r hk eg
          refine ⟨w, fw, f ++ rest, ?_, h2', perm_mid h3 f, fun F' H' u' fw' le k' q' => ?_⟩
          · rw [← h1']
            unfold valN
            simp [List.find?_cons, h]
          obtain ⟨fp', r', p⟩ := h4 F' H' u' fw' le (fun a x m => k' a x (List.mem_append_right _ m)) q'
          refine ⟨f ++ fp', ?_, perm_mid p f⟩
          have e2 : dSet ((d, o) :: l) k u' = (d, o) :: dSet l k u' := by
            unfold dSet
            rw [List.map_cons]
            simp [hd, h]
          rw [e2]
          exact .cons (q.le le fun a x m => k' a x (List.mem_append_left _ m)) r'
/-- a part of a thing, and the thing around it -/
theorem Own.hole {v : V} {o u : O} {fp : List Addr} (le : Le F H) (h : Own G F H v o fp) (nd : fp.Nodup) : ∀ {acc : Acc}, o.sub acc = some u → ∃ w fw rest, valAt G.K G.P G.w H v acc w ∧ Own G F H w u fw ∧ (rest ++ fw).Perm fp ∧
    ∀ F' H' u' fw', Le F F' → (∀ a x, a ∈ rest → H a = some x → H' a = some x) → Own G F' H' w u' fw' → ∃ fp', Own G F' H' v (o.put acc u') fp' ∧ (rest ++ fw').Perm fp'
  | .here, e => by
    have : o = u := by cases o <;> simpa [O.sub] using e
    subst this
    refine ⟨v, fp, [], rfl, h, List.Perm.refl _, fun F' H' u' fw' l k q => ⟨fw', ?_, List.Perm.refl _⟩⟩
    have : o.put .here u' = u' := by cases o <;> rfl
    rw [this]
    exact q
  | .fld j, e => by
    cases h with
    | @ins a dx fs c os fp ha e1 r =>
      obtain ⟨w, fw, rest, h1, h2, h3, h4⟩ := r.hole (n := j) (u := u) (by simpa [O.sub] using e)
      refine ⟨w, fw, a :: rest, ⟨a, _, _, fs, rfl, ha, by rw [← List.getElem?_map]; exact h1⟩, h2, by rw [List.cons_append]; exact h3.cons a, fun F' H' u' fw' l k q => ?_⟩
      obtain ⟨fp', r', p⟩ := h4 F' H' u' fw' l (fun b x m => k b x (List.mem_cons_of_mem _ m)) q
      exact ⟨a :: fp', .ins (k a _ (List.mem_cons_self ..) ha) (by rw [List.length_set]; exact e1) r', by rw [List.cons_append]; exact p.cons a⟩
    | _ => simp [O.sub] at e
  | .ix n, e => by
    cases h with
    | @lst a vs os fp ha r =>
      obtain ⟨w, fw, rest, h1, h2, h3, h4⟩ := r.hole (n := n) (u := u) (by simpa [O.sub] using e)
      refine ⟨w, fw, a :: rest, ⟨a, vs, rfl, ha, h1⟩, h2, by rw [List.cons_append]; exact h3.cons a, fun F' H' u' fw' l k q => ?_⟩
      obtain ⟨fp', r', p⟩ := h4 F' H' u' fw' l (fun b x m => k b x (List.mem_cons_of_mem _ m)) q
      exact ⟨a :: fp', .lst (k a _ (List.mem_cons_self ..) ha) r', by rw [List.cons_append]; exact p.cons a⟩
    | _ => simp [O.sub] at e
  | .key k, e => by
    cases h with
    | @dct a kvs l fp ha e1 n r =>
      simp only [O.sub] at e
      split at e
      · rename_i ok
        obtain ⟨kk, rfl, _⟩ := okK_f (G := G) (F := F) ok
        obtain ⟨w, fw, rest, h1, h2, h3, h4⟩ := Owns.holeK e1 n r e
        refine ⟨w, fw, a :: rest, ⟨a, rfl, .inl ⟨kvs, kk, ha, rfl, h1⟩⟩, h2, by rw [List.cons_append]; exact h3.cons a, fun F' H' u' fw' l' k q => ?_⟩
        obtain ⟨fp', r', p⟩ := h4 F' H' u' fw' l' (fun b x m => k b x (List.mem_cons_of_mem _ m)) q
        exact ⟨a :: fp', .dct (k a _ (List.mem_cons_self ..) ha) (by rw [dSet_keys]; exact e1) n r', by rw [List.cons_append]; exact p.cons a⟩
      · cases e
    | @dcT a kvs l fp ha e1 n q0 r =>
      simp only [O.sub] at e
      split at e
      · rename_i ok
        obtain ⟨kk, ek, dp, _⟩ := okK_t (G := G) (F := F) ok
        obtain ⟨w, fw, rest, h1, h2, h3, h4⟩ := Owns.holeN e1 n.nd r ek e
        refine ⟨w, fw, a :: rest, ⟨a, rfl, .inr ⟨kvs, kk, ha, kstand le e1 q0 n.dp, ek, dp, h1⟩⟩, h2, by rw [List.cons_append]; exact h3.cons a, fun F' H' u' fw' l' k q => ?_⟩
        obtain ⟨fp', r', p⟩ := h4 F' H' u' fw' l' (fun b x m => k b x (List.mem_cons_of_mem _ m)) q
        exact ⟨a :: fp', .dcT (k a _ (List.mem_cons_self ..) ha) (by rw [dSet_keys]; exact e1) n (by rw [dSet_keys]; exact q0.le l') r', by rw [List.cons_append]; exact p.cons a⟩
      · cases e
    | _ => simp [O.sub] at e
end
end DL

set_option maxHeartbeats 1000000
/-! EN: changes at a place: the frame -/
namespace DL
open PySem PySem.Spec L2
open PyProof.Rows hiding St

section
variable {G : CC} {F B H : Hp} {L σ : St} {en : En} {fp : List Addr}
/-- a hole in the slots -/
theorem SRep.modH (s : SRep G F B H L σ en fp) {w : V} {u : O} {f0 fp0 : List Addr} {en' : O → En} (h3 : (fp0 ++ f0).Perm fp)
    (h4 : ∀ F' H' u' f', Le F F' → (∀ a x, a ∈ fp0 → H a = some x → H' a = some x) → Own G F' H' w u' f' → ∃ fp', Sls G F' B H' L σ (en' u') fp' ∧ (fp0 ++ f').Perm fp') :
    ∀ F' H' u' f' h g, Nx F F' H H' (f0 ++ g) (f' ++ h) → (fp ++ g).Nodup → (∀ a ∈ g, F a = none ∧ B a = none) → Own G F' H' w u' f' → (f' ++ h).Nodup → (∀ a ∈ f' ++ h, F' a = none) →
      ∃ fp', SRep G F' B H' L σ (en' u') fp' ∧ Nx F F' H H' (fp ++ g) (fp' ++ h) ∧ (fp' ++ h).Nodup := by
  have nd := (h3.nodup_iff).mpr s.nd
  obtain ⟨n1, n2, n3⟩ := List.nodup_append.mp nd
  have sub0 : ∀ a ∈ f0, a ∈ fp := fun a m => h3.mem_iff.mp (List.mem_append_right _ m)
  have subp : ∀ a ∈ fp0, a ∈ fp := fun a m => h3.mem_iff.mp (List.mem_append_left _ m)
  intro F' H' u' f' h g n ng dg q nfh ff
  obtain ⟨g1, g2, g3⟩ := List.nodup_append.mp ng
  obtain ⟨nf, nh, nfh'⟩ := List.nodup_append.mp nfh
  have out : ∀ a ∈ fp0, a ∉ f0 ++ g := fun a m m' => by
    rcases List.mem_append.mp m' with m' | m'
    · exact n3 a m a m' rfl
    · exact g3 a (subp a m) a m' rfl
  have keep : ∀ a u, a ∈ fp0 → H a = some u → H' a = some u := fun a u m h => n.hh a u h (out a m)
  obtain ⟨fp', s', p⟩ := h4 F' H' u' f' n.ff keep q
  have dis : ∀ a ∈ fp0, ∀ b ∈ f' ++ h, a ≠ b := fun a m b m' e => by
    subst e
    rcases n.fr a m' with x | x
    · exact out a m x
    · obtain ⟨u, hu⟩ := s.dom a (subp a m)
      rw [hu] at x; cases x
  have isNone : ∀ a ∈ fp0, F' a = none := fun a m => by
    cases e : F' a with
    | none => rfl
    | some u =>
      obtain ⟨w, hw⟩ := s.dom a (subp a m)
      rcases n.nw a (s.df a (subp a m)).1 (by rw [e]; exact fun z => by cases z) with x | x
      · rw [hw] at x; cases x
      · exact (out a m x).elim
  have bn : ∀ a ∈ f' ++ h, B a = none := fun a m => by
    rcases n.fr a m with x | x
    · rcases List.mem_append.mp x with x | x
      · exact (s.df a (sub0 a x)).2
      · exact (dg a x).2
    · exact s.lb.noneOf x
  have ndp : fp'.Nodup := (p.nodup_iff).mp (List.nodup_append.mpr ⟨n1, nf, fun a m b m' => dis a m b (List.mem_append_left _ m')⟩)
  refine ⟨fp', ⟨n.le, fun a u h => ?_, s', ndp, fun a m => ?_⟩, ⟨n.ff, fun a u h m => ?_, fun a h h' => ?_, fun a m => ?_, n.le⟩, List.nodup_append.mpr ⟨ndp, nh, fun a m b m' => ?_⟩⟩
  · refine n.hh a u (s.lb a u h) fun m => ?_
    rcases List.mem_append.mp m with m | m
    · rw [(s.df a (sub0 a m)).2] at h; cases h
    · rw [(dg a m).2] at h; cases h
  · rcases List.mem_append.mp (p.mem_iff.mpr m) with m | m
    · exact ⟨isNone a m, (s.df a (subp a m)).2⟩
    · exact ⟨ff a (List.mem_append_left _ m), bn a (List.mem_append_left _ m)⟩
  · refine n.hh a u h fun m' => m ?_
    rcases List.mem_append.mp m' with m' | m'
    · exact List.mem_append_left _ (sub0 a m')
    · exact List.mem_append_right _ m'
  · rcases n.nw a h h' with x | x
    · exact .inl x
    · rcases List.mem_append.mp x with x | x
      · exact .inr (List.mem_append_left _ (sub0 a x))
      · exact .inr (List.mem_append_right _ x)
  · have old : a ∈ f0 ++ g ∨ H a = none → a ∈ fp ++ g ∨ H a = none := fun x => x.imp (fun x => (List.mem_append.mp x).elim (fun x => List.mem_append_left _ (sub0 a x)) fun x => List.mem_append_right _ x) id
    rcases List.mem_append.mp m with m | m
    · rcases List.mem_append.mp (p.mem_iff.mpr m) with m | m
      · exact .inl (List.mem_append_left _ (subp a m))
      · exact old (n.fr a (List.mem_append_left _ m))
    · exact old (n.fr a (List.mem_append_right _ m))
  · rcases List.mem_append.mp (p.mem_iff.mpr m) with m | m
    · exact dis a m b (List.mem_append_right _ m')
    · exact nfh' a m b m'
/-- what stands at a place -/
def ValAt (G : CC) (σ : St) (H : Hp) (i : Nat) (acc : Acc) (w : V) : Prop := ∃ v, σ[i]? = some (some v) ∧ valAt G.K G.P G.w H v acc w
/-- a slot's part -/
def En.sub (en : En) (i : Nat) (acc : Acc) : Option O := match en[i]?.bind Sl.mine with
  | some o => o.sub acc
  | none => none
def En.put (en : En) (i : Nat) (acc : Acc) (u : O) : En := match en[i]? with
  | some z => match z.mine with
    | some o => en.set i (z.put (o.put acc u))
    | none => en
  | none => en
theorem En.sub_ok {en : En} {i : Nat} {acc : Acc} {u : O} (h : en.sub i acc = some u) : ∃ z o, en[i]? = some z ∧ z.mine = some o ∧ o.sub acc = some u ∧ ∀ u', en.put i acc u' = en.set i (z.put (o.put acc u')) := by
  unfold En.sub at h
  cases e : en[i]? with
  | none => rw [e] at h; cases h
  | some z =>
    rw [e] at h
    simp only [Option.bind_some] at h
    cases e2 : z.mine with
    | none => rw [e2] at h; cases h
    | some o =>
      rw [e2] at h
      exact ⟨z, o, rfl, e2, h, fun u' => by unfold En.put; simp only [e, e2]⟩
theorem SRep.modP (s : SRep G F B H L σ en fp) {i : Nat} {acc : Acc} {u : O} (e : en.sub i acc = some u) : ∃ w f0, ValAt G σ H i acc w ∧ Own G F H w u f0 ∧ (∀ a ∈ f0, a ∈ fp) ∧ f0.Nodup ∧
    ∀ F' H' u' f' h g, Nx F F' H H' (f0 ++ g) (f' ++ h) → (fp ++ g).Nodup → (∀ a ∈ g, F a = none ∧ B a = none) → Own G F' H' w u' f' → (f' ++ h).Nodup → (∀ a ∈ f' ++ h, F' a = none) →
      ∃ fp', SRep G F' B H' L σ (en.put i acc u') fp' ∧ Nx F F' H H' (fp ++ g) (fp' ++ h) ∧ (fp' ++ h).Nodup := by
  obtain ⟨z, o, e1, e2, e3, e4⟩ := En.sub_ok e
  obtain ⟨v, f1, fp0, h1, h2, h3, h4⟩ := s.sl.mod e1 e2
  have nd := (h3.nodup_iff).mpr s.nd
  obtain ⟨n1, n2, n3⟩ := List.nodup_append.mp nd
  obtain ⟨w, fw, rest, g1, g2, g3, g4⟩ := h2.hole s.lf n2 e3
  have pm : ((fp0 ++ rest) ++ fw).Perm fp := by
    rw [List.append_assoc]
    exact (List.Perm.append_left fp0 g3).trans h3
  refine ⟨w, fw, ⟨v, h1, g1⟩, g2, fun a m => pm.mem_iff.mp (List.mem_append_right _ m), (List.nodup_append.mp ((g3.nodup_iff).mpr n2)).2.1, ?_⟩
  have hole := s.modH (w := w) (u := u) (f0 := fw) (fp0 := fp0 ++ rest) (en' := fun u' => en.put i acc u') pm fun F' H' u' f' l k q => by
    obtain ⟨fpv, qv, pv⟩ := g4 F' H' u' f' l (fun a x m => k a x (List.mem_append_right _ m)) q
    obtain ⟨fp', s', p⟩ := h4 F' H' (o.put acc u') fpv l (fun a x m => k a x (List.mem_append_left _ m)) qv
    refine ⟨fp', by rw [e4]; exact s', ?_⟩
    rw [List.append_assoc]
    exact (List.Perm.append_left fp0 pv).trans p
  exact hole
end
/-! ### what is done to a thing at a place -/
/-- the thing at the place is changed, the arguments are handed over, a result -/
def NOp (G : CC) (r : V → List V → Hp → VK → Prop) (m : O → List O → Option (O × O)) : Prop :=
  ∀ F H v o f vs os g Q o' ret, Le F H → Own G F H v o f → Owns G F H vs os g → (f ++ g).Nodup → (∀ a ∈ f ++ g, F a = none) → m o os = some (ret, o') →
    (∀ w F' H' f' h, Nx F F' H H' (f ++ g) (f' ++ h) → Own G F' H' v o' f' → Own G F' H' w ret h → (f' ++ h).Nodup → (∀ a ∈ f' ++ h, F' a = none) → Q w H') → r v vs H Q
end DL

set_option maxHeartbeats 1000000
/-! EO: places as receivers; methods that change them -/
namespace DL
open PySem PySem.Spec L2
open PyProof.Rows hiding St

/-- w stands at the place, and may be changed there -/
def HoleAt (G : CC) (F B H : Hp) (L σ : St) (en : En) (fp : List Addr) (i : Nat) (acc : Acc) (w : V) : Prop :=
  ∃ u f0, en.sub i acc = some u ∧ Own G F H w u f0 ∧ (∀ a ∈ f0, a ∈ fp) ∧ f0.Nodup ∧
    ∀ F' H' u' f' h g, Nx F F' H H' (f0 ++ g) (f' ++ h) → (fp ++ g).Nodup → (∀ a ∈ g, F a = none ∧ B a = none) → Own G F' H' w u' f' → (f' ++ h).Nodup → (∀ a ∈ f' ++ h, F' a = none) →
      ∃ fp', SRep G F' B H' L σ (en.put i acc u') fp' ∧ Nx F F' H H' (fp ++ g) (fp' ++ h) ∧ (fp' ++ h).Nodup
theorem SRep.holeAt {G : CC} {F B H : Hp} {L σ : St} {en : En} {fp : List Addr} (s : SRep G F B H L σ en fp) {i : Nat} {acc : Acc} {u : O} (e : en.sub i acc = some u) : ∃ w, ValAt G σ H i acc w ∧ HoleAt G F B H L σ en fp i acc w := by
  obtain ⟨w, f0, h1, h2, h3, h4, h5⟩ := s.modP e
  exact ⟨w, h1, u, f0, e, h2, h3, h4, h5⟩
section
variable (G : CC) (W : WX)
def RvPost (F B : Hp) (L : St) (H : Hp) (σ : St) (fp : List Addr) (Q : VK) : Res (Nat × Acc × En) → Prop
  | .ok r => ∀ w F' H' fp', Nx F F' H H' fp fp' → SRep G F' B H' L σ r.2.2 fp' → HoleAt G F' B H' L σ r.2.2 fp' r.1 r.2.1 w → Q w H'
  | .exc x en' => EPost G W F B L H fp x en'
  | .stuck => False
/-- an expression that tells a place -/
def tRv (m : En → Res (Nat × Acc × En)) : TE := fun σ H Q => ∃ F B L en fp, SRep G F B H L σ en fp ∧ RvPost G W F B L H σ fp Q (m en)
end
/-! ### places -/
def rvOk (en : En) (i : Nat) (acc : Acc) : Res (Nat × Acc × En) := if (en.sub i acc).isSome then .ok (i, acc, en) else .stuck
def rvN (i : Nat) (en : En) : Res (Nat × Acc × En) := rvOk en i .here
def rvF (i j : Nat) (en : En) : Res (Nat × Acc × En) := rvOk en i (.fld j)
/-- x[e] -/
def rvI (i : Nat) (m : En → Res R) (en : En) : Res (Nat × Acc × En) := match en.sub i .here with
  | some (.lst os) => (m en).bnd fun r => match r.o.int? with
    | some k => (match ixN os.length k with | some n => rvOk en i (.ix n) | none => .stuck)
    | none => .stuck
  | some (.dct b l) => (m en).bnd fun r => match r with
    | .own (.sh k) => rvOk en i (.key k)
    | _ => .stuck
  | _ => .stuck
section
variable {G : CC} {W : WX} {F B H : Hp} {L σ : St} {en : En} {fp : List Addr} {Q : VK}
theorem rvOk_ok (s : SRep G F B H L σ en fp) {i : Nat} {acc : Acc} (p : RvPost G W F B L H σ fp Q (rvOk en i acc)) : ∃ w, ValAt G σ H i acc w ∧ Q w H := by
  unfold rvOk at p
  cases e : en.sub i acc with
  | none => rw [e] at p; exact p.elim
  | some u =>
    rw [e] at p
    obtain ⟨w, h1, h2⟩ := s.holeAt e
    exact ⟨w, h1, p w F H fp (Nx.refl s.lf) s h2⟩
end
section
variable {X : Cx} {G : CC} {W : WX} {pos : Pos}
theorem dr_name (i : Nat) {x : Str} (hN : X.N[i]? = some x := by rfl) (hv : Vis X.env.scope x := by first | exact Or.inl rfl | exact Or.inr (Or.inl rfl) | exact Or.inr (Or.inr rfl)) (hd : (x == ("__debug__" : Str)) = false := by decide)
    (hcd : (x == ("__classdict__" : Str)) = false := by decide) : PE X (.Name x pos) (tRv G W (rvN i)) := (pe_var hN hv hd hcd).imp fun σ H Q h => by
  obtain ⟨F, B, L, en, fp, s, p⟩ := h
  obtain ⟨w, ⟨v, h1, h2⟩, q⟩ := rvOk_ok s p
  obtain rfl : w = v := h2
  exact ⟨w, h1, q⟩
end
/-- an own class's fields -/
structure FldF (G : CC) (c j : Nat) (f : Str) : Prop where
  cl : Cls G.K (G.cls c)
  na : NoAttr G.K (G.cls c) f
  nm : (G.nms c)[j]? = some f
  nd : (G.nms c).Nodup
theorem lookup_at {fs : List (Str × V)} {ns : List Str} {j : Nat} {f : Str} {v : V} (nd : ns.Nodup) : ∀ {n : Nat}, fs.map (·.1) = ns.take n → ns[j]? = some f → (fs[j]?).map (·.2) = some v → fs.lookup f = some v := by
  induction fs generalizing ns j with
  | nil => intro n _ _ e; simp at e
  | cons p fs ih =>
    intro n e1 e2 e3
    cases ns with
    | nil => simp at e2
    | cons a ns =>
      cases n with
      | zero => simp at e1
      | succ n =>
        simp only [List.map_cons, List.take_succ_cons, List.cons.injEq] at e1
        obtain ⟨h1, h2⟩ := e1
        obtain ⟨n1, n2⟩ := List.nodup_cons.mp nd
        obtain ⟨g, w⟩ := p
        cases j with
        | zero =>
          simp at e2 e3 h1
          subst e2 e3 h1
          simp [List.lookup]
        | succ j =>
          simp only [List.getElem?_cons_succ] at e2 e3
          have hne : f ≠ g := fun z => n1 (by
            rw [show a = f from by rw [z]; exact h1.symm]
            exact List.mem_of_getElem? e2)
          have hb : (f == g) = false := by simpa using hne
          rw [List.lookup_cons, hb]
          exact ih n2 h2 e2 e3
section
variable {X : Cx} {G : CC} {W : WX} {pos pos' : Pos}
/-- x.f, x a slot -/
theorem dr_fld (i c j : Nat) {x f : Str} (T : FldF G c j f) (hN : X.N[i]? = some x := by rfl) (hv : Vis X.env.scope x := by first | exact Or.inl rfl | exact Or.inr (Or.inl rfl) | exact Or.inr (Or.inr rfl))
    (hd : (x == ("__debug__" : Str)) = false := by decide) (hcd : (x == ("__classdict__" : Str)) = false := by decide) (hK : G.K = X.K := by rfl)
    (he : ∀ v, PE X (.Name x pos) v → PE X (.Attribute (.Name x pos) f pos') (tFld X.K v f) := by exact fun _ h => pe_fld h rfl) : PE X (.Attribute (.Name x pos) f pos') (tRv G W (fun en => match en.sub i .here with | some (.ins c' _) => if c' = c then rvF i j en else .stuck | _ => .stuck)) :=
  (he _ (pe_var hN hv hd hcd)).imp fun σ H Q h => by
    obtain ⟨F, B, L, en, fp, s, p⟩ := h
    simp only at p
    split at p
    · rename_i c' os e
      split at p
      · rename_i ec
        subst ec
        obtain ⟨z, o, e1, e2, e3, e4⟩ := En.sub_ok e
        have eo : o = .ins c' os := by
          have : o.sub .here = some o := by cases o <;> rfl
          rw [this] at e3; exact Option.some.inj e3
        subst eo
        obtain ⟨v1, f0, fp0, g1, g2, g3, g4⟩ := s.sl.mod e1 e2
        obtain ⟨w, ⟨v, h1, p', C, dx, fs, h2, h3, h4⟩, q⟩ := rvOk_ok s p
        rw [g1] at h1
        cases h1
        subst h2
        cases g2 with
        | @ins a dx' fs' _ _ fp' ha en1 r =>
          rw [h3] at ha
          cases ha
          refine ⟨_, g1, _, _, _, fs, w, rfl, h3, hK ▸ T.cl, hK ▸ T.na, ?_, q⟩
          exact lookup_at T.nd en1 T.nm h4
      · exact p.elim
    · exact p.elim
/-- x[e], x a slot -/
theorem dr_ix (i : Nat) {x : Str} {e : Expr} {m : En → Res R} {k : Nat} (hr : Room k X.A) (hm : PE X e (tD G W m)) (hN : X.N[i]? = some x := by rfl) (hv : Vis X.env.scope x := by first | exact Or.inl rfl | exact Or.inr (Or.inl rfl) | exact Or.inr (Or.inr rfl))
    (hd : (x == ("__debug__" : Str)) = false := by decide) (hcd : (x == ("__classdict__" : Str)) = false := by decide) (hK : G.K = X.K := by rfl) (hP : G.P = X.prog := by rfl) (hw : G.w = X.w := by rfl)
    (hs : PlainIx e := by exact fun _ _ => rfl) : PE X (.Subscript (.Name x pos) e pos') (tRv G W (rvI i m)) :=
  (pe_ix (ix_A hr) (pe_var hN hv hd hcd) hm hs).imp fun σ H Q h => by
    obtain ⟨F, B, L, en, fp, s, p⟩ := h
    unfold rvI at p
    cases e0 : en.sub i .here with
    | none => simp only [e0] at p; exact p.elim
    | some o0 =>
      obtain ⟨z, o, e1, e2, e3, e4⟩ := En.sub_ok e0
      have eo : o = o0 := by
        have : o.sub .here = some o := by cases o <;> rfl
        rw [this] at e3; exact Option.some.inj e3
      subst eo
      obtain ⟨v1, f0, fp0, g1, g2, g3, g4⟩ := s.sl.mod e1 e2
      refine ⟨v1, g1, F, B, L, en, fp, s, ?_⟩
      have after : ∀ {F1 H1 : Hp} {acc : Acc} {y : V}, Nx F F1 H H1 [] [] → RvPost G W F B L H σ fp Q (rvOk en i acc) → (∀ w, valAt G.K G.P G.w H1 v1 acc w → Q w H1 → rIxA X.K X.prog X.w v1 y H1 Q) → rIxA X.K X.prog X.w v1 y H1 Q := fun {F1 H1 acc y} n p k => by
        have s1 := s.pure n
        have p1 : RvPost G W F1 B L H1 σ fp Q (rvOk en i acc) := by
          unfold rvOk at p ⊢
          split at p
          · rename_i hh
            rw [if_pos hh]
            exact fun w F' H' fp' n' s' h' => p w F' H' fp' ((n.wide0 fp).trans n') s' h'
          · exact p.elim
        obtain ⟨w, ⟨v, h1, h2⟩, q⟩ := rvOk_ok s1 p1
        rw [g1] at h1
        cases h1
        exact k w h2 q
      cases o with
      | lst os =>
        simp only [e0] at p
        cases em : m en with
        | stuck => rw [em] at p; exact p.elim
        | exc x e' => rw [em] at p; exact p
        | ok r =>
          rw [em] at p
          simp only [Res.bnd] at p
          intro y F1 H1 r1
          obtain ⟨f, q1⟩ := r1.has
          cases ei : r.o.int? with
          | none => simp only [ei] at p; exact p.elim
          | some kk =>
            simp only [ei] at p
            rw [O.int?_eq ei] at q1
            have ey := q1.intV
            subst ey
            cases en1 : ixN os.length kk with
            | none => simp only [en1] at p; exact p.elim
            | some n =>
              simp only [en1] at p
              refine after r1.nx p fun w h2 q => ?_
              obtain ⟨p', vs, h3, h4, h5⟩ := h2
              subst h3
              cases g2 with
              | @lst a vs' _ fp' ha r' =>
                have ha' := r1.nx.keep _ _ ha
                rw [h4] at ha'
                cases ha'
                refine .inl (.inl (.inl ⟨_, vs, kk, w, rfl, rfl, SqL.of h4, ?_, q⟩))
                unfold L2.atI
                rw [r'.length, en1]
                exact h5
      | dct b l =>
        simp only [e0] at p
        cases em : m en with
        | stuck => rw [em] at p; exact p.elim
        | exc x e' => rw [em] at p; exact p
        | ok r =>
          rw [em] at p
          simp only [Res.bnd] at p
          cases r with
          | bor o => exact p.elim
          | own o =>
            cases o with
            | sh k =>
              intro y F1 H1 r1
              obtain ⟨f, nn, q1, _⟩ := id r1
              have hk := q1.repOf
              have le1 := r1.nx.le
              refine after r1.nx p fun w h2 q => ?_
              obtain ⟨p', h3, h4⟩ := h2
              subst h3
              have dn : DIsN G.P G.w H1 p' := by
                cases g2 with
                | dct ha _ _ _ => exact .inl (.inl ⟨_, .inl (r1.nx.keep _ _ ha)⟩)
                | dcT ha _ _ _ _ => exact .inr ⟨_, .inl (r1.nx.keep _ _ ha)⟩
              refine .inr ⟨p', w, rfl, ?_, hP ▸ hw ▸ dn, q⟩
              rw [← hK, ← hP, ← hw]
              rcases h4 with ⟨kvs, kk, h5, h6, h7⟩ | ⟨kvs, kk, h5, ks, h6, dp, h7⟩
              · subst h6
                have ev : y = kV kk := by
                  cases kk with
                  | inl i => cases hk; rfl
                  | inr t =>
                    cases hk
                    show V.str (SX.S t.cps.toList) = V.str t
                    rw [SX.S_tl]
                exact .inl (.inl ⟨kvs, kk, .inl h5, ev, h7.symm⟩)
              · have ec : ∃ c, y = .ref c := by
                  have okk : okK b k = true := by
                    have subok : (en.sub i (.key k)).isSome = true := by
                      by_cases hs : (en.sub i (.key k)).isSome = true
                      · exact hs
                      · have p0 : RvPost G W F B L H σ fp Q (rvOk en i (.key k)) := p
                        unfold rvOk at p0
                        rw [if_neg hs] at p0
                        exact p0.elim
                    unfold En.sub at subok
                    rw [e1] at subok
                    simp only [Option.bind_some, e2, O.sub] at subok
                    split at subok
                    · rename_i ok; exact ok
                    · cases subok
                  cases b with
                  | true =>
                    obtain ⟨_, _, _, hv'⟩ := okK_t (G := G) (F := F1) okk
                    exact hv' hk
                  | false =>
                    cases g2 with
                    | dct ha _ _ _ => rw [r1.nx.keep _ _ ha] at h5; cases h5
                obtain ⟨c, rfl⟩ := ec
                exact .inr ⟨kvs, kk, c, ⟨.inl h5, ks⟩, rfl, Rep.nis le1 hk h6, dp, h7.symm⟩
            | _ => exact p.elim
      | _ => simp only [e0] at p; exact p.elim
end
end DL

set_option maxHeartbeats 1000000
/-! EP: methods that change what stands at a place -/
namespace DL
open PySem PySem.Spec L2
open PyProof.Rows hiding St

/-- a thing's type, of either kind of dict -/
def tyN (K : PySem.W.Frag) (P : Program) (w : World) (T : String) (x : V) (H : Hp) : Prop := tyV K T x H ∨ (T = "dict" ∧ ∃ p, x = .ref p ∧ DIsN P w H p)
theorem tyN_is {X : Cx} {pins : List (Addr × Obj)} {σ : St} {H : Hp} {s : Shared} {T : String} {x : V} {v : Value} (I : Inv X pins σ H s) (r : RelV x v) (ty : tyN X.K X.prog X.w T x H) :
    s.TypeIs v T ∧ ∀ a, v = .ref a → ∃ ob, s.heap.get? a = some ob ∧ ob.dict = none := by
  rcases ty with ty | ⟨rfl, p, rfl, d⟩
  · exact tyV_is I r ty
  · cases (show v = Value.ref p from r)
    obtain ⟨t1, t2, _⟩ := dn_at I d
    exact ⟨t1, t2⟩
def tMN (K : PySem.W.Frag) (P : Program) (w : World) (T : String) (r : V → List V → Hp → VK → Prop) (to : TE) (t : TA) : TE := fun σ H Q => to σ H fun x H1 => tyN K P w T x H1 ∧ t σ H1 fun vs H2 => r x vs H2 Q
section
variable {X : Cx} {T : String} {name : Str} {id : String} {r : V → List V → Hp → VK → Prop} {o e : Expr} {es : List Expr} {to : TE} {t : TA} {apos cpos : Pos}
theorem pe_mn (pa : PlainAttrs T) (slot : Slot T name id) (hty : typeOf (.builtin id) = pure (.type "method_descriptor")) (hm : MtR X id r) (ho : PE X o to) (ha : PA X (e :: es) t)
    (hbase : attributeBase o name X.env (eval o X.env) = eval o X.env := by rfl)
    (hfew : ((backTo cpos (starEach (e :: es) X.env)).all (fun x => !x.1) && (backToKw cpos (keywordEach [] X.env)).all (fun x => x.1.isSome)
      && decide ((e :: es).length + ([] : List Keyword).length + (if ([] : List Keyword).isEmpty then 0 else 1) < 30)) = true := by rfl)
    (hline : (apos.endLine == cpos.line) = true := by rfl) (hs : starEach (e :: es) X.env = (false, eval e X.env) :: starEach es X.env := by rfl) (hplain : (backTo cpos (starEach es X.env)).any (·.1) = false := by rfl) :
    PE X (.Call (.Attribute o name apos) (e :: es) [] cpos) (tMN X.K X.prog X.w T r to t) := by
  refine ⟨fun pins s σ H Q I h => ?_⟩
  refine wpAny_Call_method_late hbase hfew hline rfl (thn (ho.run pins s σ H _ I h) fun v s1 z => ?_)
  obtain ⟨x, H1, I1, r1, ty, q1⟩ := z
  obtain ⟨h1, h2⟩ := tyN_is I1 r1 ty
  refine ⟨T, id, pa, slot, hty, h1, h2, ?_⟩
  have hA := ha.run cpos pins s1 σ H1 _ I1 q1
  rw [hs] at hA ⊢
  refine Calls.callWith_builtin (by show (false || (backTo cpos (starEach es X.env)).any (·.1)) = false; rw [hplain] <;> rfl) (Calls.evalArgs_plain ?_)
  exact thn hA fun us s2 z => by
    obtain ⟨vs, H2, I2, r2, q2⟩ := z
    exact hm pins s2 σ H2 x vs v us Q I2 r1 r2 q2
theorem pe_mn0 (pa : PlainAttrs T) (slot : Slot T name id) (hty : typeOf (.builtin id) = pure (.type "method_descriptor")) (hm : MtR X id r) (ho : PE X o to)
    (hbase : attributeBase o name X.env (eval o X.env) = eval o X.env := by rfl) (hline : (apos.endLine == cpos.line) = true := by rfl) : PE X (.Call (.Attribute o name apos) [] [] cpos) (tMN X.K X.prog X.w T r to tNil) := by
  refine ⟨fun pins s σ H Q I h => ?_⟩
  refine wpAny_Call_method0_late hbase hline (thn (ho.run pins s σ H _ I h) fun v s1 z => ?_)
  obtain ⟨x, H1, I1, r1, ty, q1⟩ := z
  obtain ⟨h1, h2⟩ := tyN_is I1 r1 ty
  exact ⟨T, id, pa, slot, hty, h1, h2, Calls.callWith_builtin rfl (PySem.evalArgs_none (hm pins s1 σ H1 x [] v [] Q I1 r1 .nil q1))⟩
end
/-! ### a change at a place, as data -/
def O.tn : O → String
  | .lst _ => "list"
  | .dct _ _ => "dict"
  | _ => ""
def mPM (T : String) (rv : En → Res (Nat × Acc × En)) (ms : En → Res (List R)) (m : O → List O → Option (O × O)) (en : En) : Res (O × En) := (rv en).bnd fun p => match p.2.2.sub p.1 p.2.1 with
  | some u => if u.tn = T then (ms p.2.2).bnd fun rs => match owns rs with
    | some os => match m u os with
      | some (ret, u') => .ok (ret, p.2.2.put p.1 p.2.1 u')
      | none => .stuck
    | none => .stuck
    else .stuck
  | none => .stuck
section
variable {G : CC} {W : WX} {r : V → List V → Hp → VK → Prop} {m : O → List O → Option (O × O)} {rv : En → Res (Nat × Acc × En)} {ms : En → Res (List R)} {σ : St} {H : Hp} {Q : VK} {T : String}
theorem Own.tyN {F : Hp} {v : V} {u : O} {f : List Addr} (h : Own G F H v u f) (hT : T = "list" ∨ T = "dict") (e : u.tn = T) : DL.tyN G.K G.P G.w T v H := by
  cases h with
  | lst ha r => left; subst e; exact .inl ⟨rfl, _, SqL.of ha⟩
  | dct ha _ _ _ => right; subst e; exact ⟨rfl, _, rfl, .inl (.inl ⟨_, .inl ha⟩)⟩
  | dcT ha _ _ _ _ => right; subst e; exact ⟨rfl, _, rfl, .inr ⟨_, .inl ha⟩⟩
  | sh _ => simp [O.tn] at e; subst e; simp at hT
  | tup _ _ => simp [O.tn] at e; subst e; simp at hT
  | ins _ _ _ => simp [O.tn] at e; subst e; simp at hT
theorem hole_op {F B : Hp} {L : St} {en : En} {fp : List Addr} {i : Nat} {acc : Acc} {w : V} {F₀ H₀ : Hp} {fp₀ : List Addr} (n0 : Nx F₀ F H₀ H fp₀ fp) (s : SRep G F B H L σ en fp) (h : HoleAt G F B H L σ en fp i acc w) {F1 H1 : Hp} {vs : List V} {os : List O} {g : List Addr}
    (n : Nx F F1 H H1 [] g) (q : Owns G F1 H1 vs os g) (nd : g.Nodup) (fr : ∀ a ∈ g, F1 a = none) (hop : NOp G r m) {u ret u' : O} (eu : en.sub i acc = some u) (em : m u os = some (ret, u')) :
    (∀ v F' H', XR G B L F₀ F' H₀ H' σ fp₀ v ret (en.put i acc u') → Q v H') → r w vs H1 Q := fun k => by
  obtain ⟨u0, f0, e0, qw, sub, nd0, cont⟩ := h
  rw [eu] at e0
  cases e0
  have s1 := s.pure n
  have ap := s.apart n nd
  obtain ⟨a1, a2, a3⟩ := List.nodup_append.mp ap
  refine hop F1 H1 w u f0 vs os g Q u' ret n.le (qw.le n.ff fun a x _ e => n.keep a x e) q (List.nodup_append.mpr ⟨nd0, nd, fun a m b m' => a3 a (sub a m) b m'⟩) (fun a m => (List.mem_append.mp m).elim (fun m => (s1.df a (sub a m)).1) (fr a)) em ?_
  intro v F' H' f' h n2 q1 q2 ndh frh
  have nn : Nx F F' H H' (f0 ++ []) (f' ++ h) := by
    rw [List.append_nil]
    exact (n.wide f0).trans n2
  obtain ⟨fp', s', n', nd'⟩ := cont F' H' u' f' h [] nn (by rw [List.append_nil]; exact s.nd) (fun _ m => nomatch m) q1 ndh frh
  rw [List.append_nil] at n'
  exact k v F' H' ⟨fp', h, n0.trans n', s', q2, nd', fun a m => frh a (List.mem_append_right _ m)⟩
theorem tPM_D (hT : T = "list" ∨ T = "dict") (hop : NOp G r m) (h : tX G W (mPM T rv ms m) σ H Q) : tMN G.K G.P G.w T r (tRv G W rv) (tA G W ms) σ H Q := by
  obtain ⟨F, B, L, en, fp, s, p⟩ := h
  refine ⟨F, B, L, en, fp, s, ?_⟩
  unfold mPM at p
  cases er : rv en with
  | stuck => rw [er] at p; exact p.elim
  | exc x e => rw [er] at p; exact p
  | ok pl =>
    rw [er] at p
    simp only [Res.bnd] at p
    intro w F1 H1 fp1 n1 s1 hole
    cases es : pl.2.2.sub pl.1 pl.2.1 with
    | none => simp only [es] at p; exact p.elim
    | some u =>
      simp only [es] at p
      split at p
      · rename_i et
        obtain ⟨u0, f0, e0, qw, sub, nd0, cont⟩ := id hole
        rw [es] at e0
        cases e0
        refine ⟨qw.tyN hT et, F1, B, L, _, fp1, s1, ?_⟩
        cases em : ms pl.2.2 with
        | stuck => rw [em] at p; exact p.elim
        | exc x e => rw [em] at p; exact EPost.after n1 p
        | ok rs =>
          rw [em] at p
          simp only at p
          intro vs F2 H2 ar
          cases eo : owns rs with
          | none => simp only [eo] at p; exact p.elim
          | some os =>
            simp only [eo] at p
            cases e3 : m u os with
            | none => simp only [e3] at p; exact p.elim
            | some ru =>
              obtain ⟨ret, u'⟩ := ru
              simp only [e3] at p
              obtain ⟨g, n2, rw', nd, fr⟩ := ar
              exact hole_op n1 s1 hole n2 (rw'.owns eo) nd fr hop es e3 p
      · exact p.elim
theorem tPM_D0 (hT : T = "list" ∨ T = "dict") (hop : NOp G r m) (h : tX G W (mPM T rv mNil m) σ H Q) : tMN G.K G.P G.w T r (tRv G W rv) tNil σ H Q := by
  obtain ⟨F, B, L, en, fp, s, p⟩ := h
  refine ⟨F, B, L, en, fp, s, ?_⟩
  unfold mPM at p
  cases er : rv en with
  | stuck => rw [er] at p; exact p.elim
  | exc x e => rw [er] at p; exact p
  | ok pl =>
    rw [er] at p
    simp only [Res.bnd] at p
    intro w F1 H1 fp1 n1 s1 hole
    cases es : pl.2.2.sub pl.1 pl.2.1 with
    | none => simp only [es] at p; exact p.elim
    | some u =>
      simp only [es] at p
      split at p
      · rename_i et
        obtain ⟨u0, f0, e0, qw, sub, nd0, cont⟩ := id hole
        rw [es] at e0
        cases e0
        refine ⟨qw.tyN hT et, ?_⟩
        simp only [mNil, owns] at p
        cases e3 : m u [] with
        | none => simp only [e3] at p; exact p.elim
        | some ru =>
          obtain ⟨ret, u'⟩ := ru
          simp only [e3] at p
          exact hole_op n1 s1 hole (Nx.refl s1.lf) .nil List.nodup_nil (fun _ m => nomatch m) hop es e3 p
      · exact p.elim
end
/-! ### lists -/
section
variable {G : CC} {F H : Hp}
theorem Owns.split : ∀ {a b : List O} {vs : List V} {fp : List Addr}, Owns G F H vs (a ++ b) fp → ∃ v1 v2 f1 f2, vs = v1 ++ v2 ∧ fp = f1 ++ f2 ∧ Owns G F H v1 a f1 ∧ Owns G F H v2 b f2
  | [], b, vs, fp, h => ⟨[], vs, [], fp, rfl, rfl, .nil, h⟩
  | o :: a, b, _, _, .cons (f := f) q r => by
    obtain ⟨v1, v2, f1, f2, rfl, rfl, h1, h2⟩ := Owns.split r
    exact ⟨_ :: v1, v2, f ++ f1, f2, rfl, by rw [List.append_assoc], .cons q h1, h2⟩
def oApp : O → List O → Option (O × O)
  | .lst os, [x] => if os.length < ML then some (.sh .non, .lst (os ++ [x])) else none
  | _, _ => none
theorem oApp_ok {G : CC} : NOp G rAppend oApp := fun F H v o f vs os g Q o' ret le h hs nd fr e k => by
  cases h with
  | @lst l xs us fl hl r =>
    match os, e with
    | [x], e =>
      simp only [oApp] at e
      split at e
      · rename_i hz
        cases e
        cases hs with
        | @cons y _ _ _ gx _ qx t =>
          cases t
          rw [List.append_nil] at nd fr k
          refine ⟨l, xs, y, rfl, rfl, hl, by rw [r.length, ← ML_eq]; exact hz, ?_⟩
          obtain ⟨n1, n2, n3⟩ := List.nodup_append.mp nd
          have lN : l ∉ fl := (List.nodup_cons.mp n1).1
          have lg : l ∉ gx := fun m => n3 l (List.mem_cons_self ..) l m rfl
          refine k .non F _ (l :: (fl ++ gx)) [] ⟨Le.refl F, fun a u e m => ?_, fun a h h' => (h' h).elim, fun a m => ?_, le.upd_own (fr l (List.mem_append_left _ (List.mem_cons_self ..)))⟩ (.lst upd_same ?_) (.sh .non) ?_ ?_
          · exact (upd_ne fun z => m (List.mem_append_left _ (by rw [z]; exact List.mem_cons_self ..))).trans e
          · rw [List.append_nil] at m
            exact .inl m
          · exact (r.le (Le.refl F) fun a u m e => (upd_ne (show a ≠ l from fun z => lN (by rw [← z]; exact m))).trans e).append (.one (qx.le (Le.refl F) fun a u m e => (upd_ne (show a ≠ l from fun z => lg (by rw [← z]; exact m))).trans e))
          · rw [List.append_nil]; exact nd
          · intro a m
            rw [List.append_nil] at m
            exact fr a m
      · cases e
  | _ => cases e
def oPop : O → List O → Option (O × O)
  | .lst os, [] => os.getLast?.map fun y => (y, .lst os.dropLast)
  | _, _ => none
theorem oPop_ok {G : CC} : NOp G rPop oPop := fun F H v o f vs os g Q o' ret le h hs nd fr e k => by
  cases h with
  | @lst l xs us fl hl r =>
    match os, e with
    | [], e =>
      simp only [oPop, Option.map_eq_some_iff] at e
      obtain ⟨y, ey, e⟩ := e
      cases e
      cases hs
      rw [List.append_nil] at nd fr k
      have eu : us = us.dropLast ++ [ret] := by
        have hn : us ≠ [] := fun z => by rw [z] at ey; cases ey
        rw [List.getLast?_eq_some_getLast hn] at ey
        have := List.dropLast_concat_getLast hn
        rw [Option.some.inj ey] at this
        exact this.symm
      have r' : Owns G F H xs (us.dropLast ++ [ret]) fl := by rw [← eu]; exact r
      obtain ⟨v1, v2, f1, f2, rfl, rfl, q1, q2⟩ := r'.split
      cases q2 with
      | @cons y _ _ _ gy _ qy t =>
        cases t
        rw [List.append_nil] at nd fr k
        refine ⟨l, v1 ++ [y], y, rfl, rfl, hl, by simp, ?_⟩
        have lN := (List.nodup_cons.mp nd).1
        rw [List.mem_append, not_or] at lN
        rw [List.dropLast_concat]
        refine k y F _ (l :: f1) gy ⟨Le.refl F, fun a u e m => (upd_ne fun z => m (by rw [z]; exact List.mem_cons_self ..)).trans e, fun a h h' => (h' h).elim, fun a m => .inl m, le.upd_own (fr l (List.mem_cons_self ..))⟩ (.lst upd_same ?_) ?_ nd fr
        · exact q1.le (Le.refl F) fun a u m e => (upd_ne (show a ≠ l from fun z => lN.1 (by rw [← z]; exact m))).trans e
        · exact qy.le (Le.refl F) fun a u m e => (upd_ne (show a ≠ l from fun z => lN.2 (by rw [← z]; exact m))).trans e
  | _ => cases e
def oClear : O → List O → Option (O × O)
  | .lst _, [] => some (.sh .non, .lst [])
  | _, _ => none
theorem oClear_ok {G : CC} : NOp G rClear oClear := fun F H v o f vs os g Q o' ret le h hs nd fr e k => by
  cases h with
  | @lst l xs us fl hl r =>
    match os, e with
    | [], e =>
      cases e
      cases hs
      rw [List.append_nil] at nd fr k
      refine ⟨l, xs, rfl, rfl, hl, k .non F _ [l] [] ⟨Le.refl F, fun a u e m => (upd_ne fun z => m (by rw [z]; exact List.mem_cons_self ..)).trans e, fun a h h' => (h' h).elim, fun a m => ?_, le.upd_own (fr l (List.mem_cons_self ..))⟩ (.lst upd_same .nil) (.sh .non) ?_ ?_⟩
      · rw [List.append_nil, List.mem_singleton] at m
        rw [m]
        exact .inl (List.mem_cons_self ..)
      · simp
      · intro a m
        rw [List.append_nil, List.mem_singleton] at m
        rw [m]
        exact fr l (List.mem_cons_self ..)
  | _ => cases e
theorem Owns.erase : ∀ {os : List O} {vs : List V} {fp : List Addr} {n : Nat} {u : O}, Owns G F H vs os fp → os[n]? = some u → ∃ w fw rest, vs[n]? = some w ∧ Own G F H w u fw ∧ (rest ++ fw).Perm fp ∧ Owns G F H (vs.eraseIdx n) (os.eraseIdx n) rest
  | _, _, _, _, _, .nil, e => by simp at e
  | _, _, _, 0, u, .cons (f := f) (fp := fp) q r, e => by
    simp at e
    subst e
    exact ⟨_, f, fp, rfl, q, List.perm_append_comm, r⟩
  | _, _, _, n + 1, u, .cons (f := f) (fp := fp) q r, e => by
    obtain ⟨w, fw, rest, h1, h2, h3, h4⟩ := Owns.erase (n := n) (u := u) r (by simpa using e)
    exact ⟨w, fw, f ++ rest, by simpa using h1, h2, perm_mid h3 f, .cons q h4⟩
def oPopAt : O → List O → Option (O × O)
  | .lst os, [.sh (.int i)] => if lim (2 ^ 62) i then (ixN os.length i).bind fun k => (os[k]?).map fun y => (y, .lst (os.eraseIdx k)) else none
  | _, _ => none
theorem oPopAt_ok {G : CC} : NOp G rPopAt oPopAt := fun F H v o f vs os g Q o' ret le h hs nd fr e k => by
  cases h with
  | @lst l xs us fl hl r =>
    match os, e with
    | [.sh (.int i)], e =>
      simp only [oPopAt] at e
      split at e
      · rename_i hi
        have hi' := lim_iff.mp hi
        obtain ⟨j, ej, e⟩ := bind_some e
        rw [Option.map_eq_some_iff] at e
        obtain ⟨y, ey, e⟩ := e
        cases e
        cases hs with
        | @cons x _ _ _ gx _ qx t =>
          cases t
          have ex := qx.intV
          subst ex
          cases qx with
          | sh qx =>
            rw [List.append_nil] at nd fr k
            obtain ⟨w, fw, rest, h1, h2, h3, h4⟩ := r.erase ey
            rw [List.append_nil] at nd fr k
            obtain ⟨s1, _⟩ := ixN_seq ej
            refine ⟨l, xs, i, j, w, rfl, rfl, hl, by omega, by omega, by rw [r.length]; exact s1, h1, ?_⟩
            have lN := (List.nodup_cons.mp nd).1
            have pm : ((l :: rest) ++ fw).Perm (l :: fl) := by rw [List.cons_append]; exact h3.cons l
            refine k w F _ (l :: rest) fw ⟨Le.refl F, fun a u e m => (upd_ne fun z => m (by rw [z]; exact List.mem_cons_self ..)).trans e, fun a h h' => (h' h).elim, fun a m => .inl (pm.mem_iff.mp m), le.upd_own (fr l (List.mem_cons_self ..))⟩ (.lst upd_same ?_) ?_ ((pm.nodup_iff).mpr nd) (fun a m => fr a (pm.mem_iff.mp m))
            · exact h4.le (Le.refl F) fun a u m e => (upd_ne (show a ≠ l from fun z => lN (by rw [← z]; exact h3.mem_iff.mp (List.mem_append_left _ m)))).trans e
            · exact h2.le (Le.refl F) fun a u m e => (upd_ne (show a ≠ l from fun z => lN (by rw [← z]; exact h3.mem_iff.mp (List.mem_append_right _ m)))).trans e
      · cases e
  | _ => cases e
/-- a list is longer by what another thing's items are -/
def oExt : O → List O → Option (O × O)
  | .lst os, [x] => match x.items with
    | some us => if os.length + us.length ≤ ML then some (.sh .non, .lst (os ++ us)) else none
    | none => none
  | _, _ => none
end
end DL

set_option maxHeartbeats 1000000
/-! EQ: extend by any list or tuple; items, keys, fields stored -/
namespace PySem
open AutoSeq1 (wpAny_loadPart' idx_int sub_tuple_tuple sub_list_list sub_tuple_list sub_list_tuple)
open Sem (wp)
/-- l.extend(b), b a plain list -/
theorem dl_extend_list {l b : Addr} {items items2 : Array Value} {n n2 : Nat} {sl : Array (Option Value)} (hc0 : ¬(!items.isEmpty && Builtin.List.listTooLong (items.size + items2.size)) = true) (hc1 : items.size ≤ sizeLine) (hs2 : items.size + items2.size ≤ sizeLine + 1) :
    Meets (Builtin.«list.extend» ⟨[.ref l, .ref b], []⟩) (fun _ R s => s.heap.get? l = some { cls := .type "list", dict := none, data := .seq items n, slots := #[] } ∧
      s.heap.get? b = some { cls := .type "list", dict := none, data := .seq items2 n2, slots := sl } ∧ R (.ok (.ret Value.none)) { s with heap := s.heap.update l (Obj.mapSeq fun x => x ++ items2), toks := s.toks }) :=
  .of_wp fun prog w A R s h => by
    obtain ⟨hp, g, d, tk, os⟩ := s
    obtain ⟨hl, hb, h⟩ := h
    have f1 := idx_int
    have f2 := sub_tuple_tuple
    have f3 := sub_list_list
    have f4 := sub_tuple_list
    have f5 := sub_list_tuple
    have hz' : (items ++ items2).size ≤ sizeLine + 1 := by rw [Array.size_append]; exact hs2
    wp_walk using (wpAny_updateSeq hl rfl (hz := hc1) (_hz' := hz')), wpAny_loadPart' hl, wpAny_loadPart' hb
    exact ⟨_, rfl, h⟩
/-- .. b a tuple -/
theorem dl_extend_tuple {l b : Addr} {items items2 : Array Value} {n n2 : Nat} {dd : Option Addr} {sl : Array (Option Value)} (hc0 : ¬(!items.isEmpty && Builtin.List.listTooLong (items.size + items2.size)) = true) (hc1 : items.size ≤ sizeLine) (hs2 : items.size + items2.size ≤ sizeLine + 1) :
    Meets (Builtin.«list.extend» ⟨[.ref l, .ref b], []⟩) (fun _ R s => s.heap.get? l = some { cls := .type "list", dict := none, data := .seq items n, slots := #[] } ∧
      s.heap.get? b = some { cls := .type "tuple", dict := dd, data := .seq items2 n2, slots := sl } ∧ R (.ok (.ret Value.none)) { s with heap := s.heap.update l (Obj.mapSeq fun x => x ++ items2), toks := s.toks }) :=
  .of_wp fun prog w A R s h => by
    obtain ⟨hp, g, d, tk, os⟩ := s
    obtain ⟨hl, hb, h⟩ := h
    have f1 := idx_int
    have f2 := sub_tuple_tuple
    have f3 := sub_list_list
    have f4 := sub_tuple_list
    have f5 := sub_list_tuple
    have hz' : (items ++ items2).size ≤ sizeLine + 1 := by rw [Array.size_append]; exact hs2
    wp_walk using (wpAny_updateSeq hl rfl (hz := hc1) (_hz' := hz')), wpAny_loadPart' hl, wpAny_loadPart' hb
    exact ⟨_, rfl, h⟩
end PySem
namespace DL
open PySem PySem.Spec L2
open PyProof.Rows hiding St
def rExtS (K : PySem.W.Frag) : V → List V → Hp → VK → Prop := fun x vs H Q => ∃ l b xs zs, x = .ref l ∧ vs = [.ref b] ∧ H l = some (.lst xs) ∧ (SqL K H b zs ∨ SqT K H b zs) ∧ xs.length + zs.length ≤ sizeLine ∧ Q .non (upd H l (.lst (xs ++ zs)))
theorem mt_extS {X : Cx} : MtR X "list.extend" (rExtS X.K) := by
  intro pins s σ H x vs v us Q I rx rv h
  obtain ⟨l, b, xs, zs, rfl, rfl, hH, hB, hz, q⟩ := h
  cases rx
  obtain ⟨u, rfl, ru⟩ := rv.one
  cases ru
  obtain ⟨z, its, n, r, hl, e⟩ := I.lstM hH
  have go : ∀ {its2 : List Value}, Vals zs its2 → Meets (Builtin.«list.extend» ⟨[.ref l, .ref b], []⟩) (fun _ R s' => s'.heap.get? l = s.heap.get? l ∧ s'.heap.get? b = s.heap.get? b ∧ R (.ok (.ret Value.none)) { s' with heap := s'.heap.update l (Obj.mapSeq fun x => x ++ its2.toArray), toks := s'.toks }) → wpAny (model X.prog X.w) X.A (call (.builtin "list.extend") [.ref l, .ref b]) (EP X pins σ Q) X.xe s := by
    intro its2 r2 hM
    refine call_meets PySem.F.slot_list_extend ⟨_, e, rfl⟩ PySem.F.entry_list_extend (PySem.F.args_list_extend_2 _ _) hM ⟨rfl, rfl, ?_⟩
    refine ⟨.non, _, I.lset (its' := its ++ its2) hH e (by simp) (r.append r2) ?_, rfl, q⟩
    rw [List.length_append]
    omega
  have big : ∀ {its2 : List Value}, Vals zs its2 → (¬(!its.toArray.isEmpty && Builtin.List.listTooLong (its.toArray.size + its2.toArray.size)) = true) ∧ its.toArray.size ≤ sizeLine ∧ its.toArray.size + its2.toArray.size ≤ sizeLine + 1 := by
    intro its2 r2
    have h1 := r2.length
    have hsz : its.toArray.size + its2.toArray.size ≤ sizeLine := by rw [List.size_toArray, List.size_toArray]; omega
    refine ⟨?_, by rw [List.size_toArray]; omega, by omega⟩
    rw [notLongL hsz, Bool.and_false]
    exact Bool.false_ne_true
  rcases hB with hB | hB
  · obtain ⟨its2, r2, ⟨o, n2, e2, c2, d2, t2⟩, _⟩ := I.list hB
    obtain ⟨oc, od, dt, sl⟩ := o
    simp only at c2 d2 t2
    subst c2 d2 t2
    obtain ⟨b1, b2, b3⟩ := big r2
    refine go r2 ?_
    have := PySem.dl_extend_list (l := l) (b := b) (items := its.toArray) (items2 := its2.toArray) (n := n) (n2 := n2) (sl := sl) b1 b2 b3
    rw [e, e2]
    exact this
  · obtain ⟨its2, r2, ⟨o, e2, c2, n2, t2⟩, _⟩ := I.tuple hB
    obtain ⟨oc, od, dt, sl⟩ := o
    simp only at c2 t2
    subst c2 t2
    obtain ⟨b1, b2, b3⟩ := big r2
    refine go r2 ?_
    have := PySem.dl_extend_tuple (l := l) (b := b) (items := its.toArray) (items2 := its2.toArray) (n := n) (n2 := n2) (dd := od) (sl := sl) b1 b2 b3
    rw [e, e2]
    exact this
/-- what is read of another's items: they are handed over -/
theorem Own.itemsIn {G : CC} {F H : Hp} {v : V} {x : O} {f : List Addr} (l : Le F H) (h : Own G F H v x f) {us : List O} (e : x.items = some us) : ∃ b zs g, v = .ref b ∧ (SqL G.K H b zs ∨ SqT G.K H b zs) ∧ Owns G F H zs us g ∧ g.Sublist f := by
  cases h with
  | sh r =>
    cases r with
    | lst s r => cases e; exact ⟨_, _, [], rfl, .inl (SqL.le l s), Owns.of_sh r, List.nil_sublist _⟩
    | tup s r => cases e; exact ⟨_, _, [], rfl, .inr (SqT.le l s), Owns.of_sh r, List.nil_sublist _⟩
    | _ => cases e
  | lst ha r => cases e; exact ⟨_, _, _, rfl, .inl (SqL.of ha), r, List.sublist_cons_self _ _⟩
  | tup ha r => cases e; exact ⟨_, _, _, rfl, .inr (.of ha), r, List.sublist_cons_self _ _⟩
  | _ => cases e
theorem oExt_ok {G : CC} : NOp G (rExtS G.K) oExt := fun F H v o f vs os g Q o' ret le h hs nd fr e k => by
  cases h with
  | @lst l xs us fl hl r =>
    match os, e with
    | [x], e =>
      simp only [oExt] at e
      split at e
      · rename_i ws ei
        split at e
        · rename_i hz
          cases e
          cases hs with
          | @cons y _ _ _ gx _ qx t =>
            cases t
            rw [List.append_nil] at nd fr k
            obtain ⟨b, zs, gi, rfl, sq, qi, sub⟩ := qx.itemsIn le ei
            have hlen : xs.length + zs.length ≤ sizeLine := by rw [r.length, qi.length, ← ML_eq]; exact hz
            refine ⟨l, b, xs, zs, rfl, rfl, hl, sq, hlen, ?_⟩
            obtain ⟨n1, n2, n3⟩ := List.nodup_append.mp nd
            have lN : l ∉ fl := (List.nodup_cons.mp n1).1
            have lg : l ∉ gi := fun m => n3 l (List.mem_cons_self ..) l (sub.subset m) rfl
            have sb : (l :: (fl ++ gi)).Sublist ((l :: fl) ++ gx) := by
              rw [List.cons_append]
              exact (List.Sublist.append_left sub fl).cons₂ l
            refine k .non F _ (l :: (fl ++ gi)) [] ⟨Le.refl F, fun a u e m => ?_, fun a h h' => (h' h).elim, fun a m => ?_, le.upd_own (fr l (List.mem_append_left _ (List.mem_cons_self ..)))⟩ (.lst upd_same ?_) (.sh .non) ?_ ?_
            · exact (upd_ne fun z => m (List.mem_append_left _ (by rw [z]; exact List.mem_cons_self ..))).trans e
            · rw [List.append_nil] at m
              exact .inl (sb.subset m)
            · exact (r.le (Le.refl F) fun a u m e => (upd_ne (show a ≠ l from fun z => lN (by rw [← z]; exact m))).trans e).append (qi.le (Le.refl F) fun a u m e => (upd_ne (show a ≠ l from fun z => lg (by rw [← z]; exact m))).trans e)
            · rw [List.append_nil]; exact nd.sublist sb
            · intro a m
              rw [List.append_nil] at m
              exact fr a (sb.subset m)
        · cases e
      · cases e
  | _ => cases e
/-! ### xs[i] = v -/
def oSetL : O → List O → Option (O × O)
  | .lst os, [.sh (.int i), x] => (ixN os.length i).map fun k => (.sh .non, .lst (os.set k x))
  | _, _ => none
def rSetV (t : V → V → V → Hp → (Hp → Prop) → Prop) : V → List V → Hp → VK → Prop := fun x vs H Q => ∃ i v, vs = [i, v] ∧ t x i v H fun H' => Q .non H'
/-- another thing in a list's place -/
theorem Owns.setAt {G : CC} {F H : Hp} {y : V} {x : O} {gx : List Addr} (qy : Own G F H y x gx) : ∀ {os : List O} {vs : List V} {fp : List Addr} {n : Nat}, Owns G F H vs os fp → n < os.length → ∃ fp', Owns G F H (vs.set n y) (os.set n x) fp' ∧ (∀ a ∈ fp', a ∈ fp ++ gx) ∧ ((fp ++ gx).Nodup → fp'.Nodup)
  | _, _, _, _, .nil, hn => by simp at hn
  | _, _, _, 0, .cons (f := f1) (fp := fp1) q1 r1, hn => by
    refine ⟨gx ++ fp1, .cons qy r1, fun a m => ?_, fun nd => ?_⟩
    · rcases List.mem_append.mp m with m | m
      · exact List.mem_append_right _ m
      · exact List.mem_append_left _ (List.mem_append_right _ m)
    · obtain ⟨a1, a2, a3⟩ := List.nodup_append.mp nd
      obtain ⟨b1, b2, b3⟩ := List.nodup_append.mp a1
      exact List.nodup_append.mpr ⟨a2, b2, fun a m b m' e => a3 b (List.mem_append_right _ m') a m e.symm⟩
  | _, _, _, n + 1, .cons (f := f1) (fp := fp1) q1 r1, hn => by
    obtain ⟨fp', q', m', d'⟩ := Owns.setAt qy (n := n) r1 (by simpa using hn)
    refine ⟨f1 ++ fp', .cons q1 q', fun a m => ?_, fun nd => ?_⟩
    · rcases List.mem_append.mp m with m | m
      · exact List.mem_append_left _ (List.mem_append_left _ m)
      · rcases List.mem_append.mp (m' a m) with m | m
        · exact List.mem_append_left _ (List.mem_append_right _ m)
        · exact List.mem_append_right _ m
    · rw [List.append_assoc] at nd
      obtain ⟨a1, a2, a3⟩ := List.nodup_append.mp nd
      exact List.nodup_append.mpr ⟨a1, d' a2, fun a m b m2 e => a3 a m b (m' b m2) e⟩
theorem oSetL_ok {G : CC} : NOp G (rSetV rSetL) oSetL := fun F H v o f vs os g Q o' ret le h hs nd fr e k => by
  cases h with
  | @lst l xs us fl hl r =>
    match os, e with
    | [.sh (.int i), x], e =>
      simp only [oSetL, Option.map_eq_some_iff] at e
      obtain ⟨j, ej, e⟩ := e
      cases e
      cases hs with
      | @cons y0 _ _ _ g0 _ q0 t0 =>
        have e0 := q0.intV
        subst e0
        cases q0 with
        | sh q0 =>
          cases t0 with
          | @cons y _ _ _ gx _ qx t =>
            cases t
            rw [List.append_nil] at nd fr k
            rw [List.nil_append] at nd fr k
            refine ⟨.int i, y, rfl, l, xs, i, j, rfl, rfl, hl, by rw [r.length]; exact ej, ?_⟩
            have hj : j < us.length := (ixN_seq ej).2.1
            obtain ⟨w, fw, rest, h1, h2, h3, h4⟩ := r.hole (n := j) (u := us[j]) (List.getElem?_eq_getElem hj)
            obtain ⟨n1, n2, n3⟩ := List.nodup_append.mp nd
            have lN : l ∉ fl := (List.nodup_cons.mp n1).1
            have lg : l ∉ gx := fun m => n3 l (List.mem_cons_self ..) l m rfl
            have restIn : ∀ a ∈ rest, a ∈ fl := fun a m => h3.mem_iff.mp (List.mem_append_left _ m)
            have qy : Own G F (upd H l (.lst (xs.set j y))) y x gx := qx.le (Le.refl F) fun a u m e => (upd_ne (show a ≠ l from fun z => lg (by rw [← z]; exact m))).trans e
            obtain ⟨fp', q', m', d'⟩ := (r.le (Le.refl F) fun a u m e => (upd_ne (show a ≠ l from fun z => lN (by rw [← z]; exact m))).trans e).setAt qy hj
            have lf : l ∉ fp' := fun m => (List.mem_append.mp (m' l m)).elim lN lg
            have inAll : ∀ a ∈ l :: fp', a ∈ (l :: fl) ++ gx := fun a m => by
              rcases List.mem_cons.mp m with rfl | m
              · exact List.mem_append_left _ (List.mem_cons_self ..)
              · rcases List.mem_append.mp (m' a m) with m | m
                · exact List.mem_append_left _ (List.mem_cons_of_mem _ m)
                · exact List.mem_append_right _ m
            refine k .non F _ (l :: fp') [] ⟨Le.refl F, fun a u e m => ?_, fun a h h' => (h' h).elim, fun a m => ?_, le.upd_own (fr l (List.mem_append_left _ (List.mem_cons_self ..)))⟩ (.lst upd_same q') (.sh .non) ?_ ?_
            · exact (upd_ne fun z => m (List.mem_append_left _ (by rw [z]; exact List.mem_cons_self ..))).trans e
            · rw [List.append_nil] at m
              exact .inl (inAll a m)
            · rw [List.append_nil]
              refine List.nodup_cons.mpr ⟨lf, d' ?_⟩
              rw [List.cons_append] at nd
              exact (List.nodup_cons.mp nd).2
            · intro a m
              rw [List.append_nil] at m
              exact fr a (inAll a m)
  | _ => cases e
end DL

set_option maxHeartbeats 1000000
/-! ER: d[k] = v -/
namespace DL
open PySem PySem.Spec L2
open PyProof.Rows hiding St

def rPutN (K : PySem.W.Frag) (P : Program) (w : World) : V → V → V → Hp → (Hp → Prop) → Prop := fun o i v H Q => ∃ a H', o = .ref a ∧ DPutN K P w H a i v H' ∧ Q H'
theorem set_N {X : Cx} {k : Nat} (hr : Room k X.A) : PSet X (rPutN X.K X.prog X.w) := by
  intro pins s σ H o i v ov iv u Q I ro ri rv h
  obtain ⟨a, H', rfl, g, q⟩ := h
  obtain rfl : ov = Value.ref a := ro
  exact dn_setItem (by have := hr.un; omega) I g ri rv fun s' I' => ⟨H', I', q⟩
section
variable {G : CC} {F H : Hp}
theorem hasK_eq : ∀ {kvs : List (Key × V)} {l : List (D × O)} (kk : Key), l.map (·.1) = kvs.map (fun p => kd p.1) → dHas l (kd kk) = kvs.any fun kv => decide (kv.1 = kk)
  | [], [], _, _ => rfl
  | [], _ :: _, _, e => by simp at e
  | _ :: _, [], _, e => by simp at e
  | (k, v) :: kvs, (d, o) :: l, kk, e => by
    simp only [List.map_cons, List.cons.injEq] at e
    obtain ⟨rfl, e⟩ := e
    have ih := hasK_eq kk e
    unfold dHas at ih ⊢
    simp only [List.any_cons, kd_deq, ih]
theorem hasN_eq : ∀ {kvs : List NK} {l : List (D × O)} {k : D} {kk : NestedKey}, nkey k = some kk → nkeys (l.map (·.1)) = some (kvs.map (·.1)) → dHas l k = hasN kvs kk
  | [], [], _, _, _, _ => rfl
  | [], (d, o) :: l, _, _, _, e => by
    simp only [List.map_cons, List.map_nil, nkeys] at e
    split at e <;> cases e
  | _ :: _, [], _, _, _, e => by simp [nkeys] at e
  | (k0, b, v) :: kvs, (d, o) :: l, k, kk, hk, e => by
    simp only [List.map_cons, nkeys] at e
    cases h1 : nkey d with
    | none => rw [h1] at e; cases e
    | some k1 =>
      cases h2 : nkeys (l.map (·.1)) with
      | none => rw [h1, h2] at e; cases e
      | some ks =>
        rw [h1, h2] at e
        simp only [Option.some.injEq, List.cons.injEq] at e
        obtain ⟨rfl, e⟩ := e
        have ih := hasN_eq hk (kvs := kvs) (l := l) (by rw [h2, e])
        unfold dHas hasN at ih ⊢
        simp only [List.any_cons, nkey_deq h1 hk, ih]
/-- parts in a row, one of them another one -/
structure Pt (fp gx fp' : List Addr) : Prop where
  sub : ∀ a ∈ fp', a ∈ fp ++ gx
  nd : (fp ++ gx).Nodup → fp'.Nodup
theorem Pt.keep {f fp gx fp' : List Addr} (h : Pt fp gx fp') : Pt (f ++ fp) gx (f ++ fp') := ⟨fun a m => by
  rcases List.mem_append.mp m with m | m
  · exact List.mem_append_left _ (List.mem_append_left _ m)
  · rcases List.mem_append.mp (h.sub a m) with m | m
    · exact List.mem_append_left _ (List.mem_append_right _ m)
    · exact List.mem_append_right _ m, fun nd => by
  rw [List.append_assoc] at nd
  obtain ⟨a1, a2, a3⟩ := List.nodup_append.mp nd
  exact List.nodup_append.mpr ⟨a1, h.nd a2, fun a m b m2 e => a3 a m b (h.sub b m2) e⟩⟩
theorem Pt.swap {f fp gx : List Addr} : Pt (f ++ fp) gx (gx ++ fp) := ⟨fun a m => by
  rcases List.mem_append.mp m with m | m
  · exact List.mem_append_right _ m
  · exact List.mem_append_left _ (List.mem_append_right _ m), fun nd => by
  obtain ⟨a1, a2, a3⟩ := List.nodup_append.mp nd
  obtain ⟨b1, b2, b3⟩ := List.nodup_append.mp a1
  exact List.nodup_append.mpr ⟨a2, b2, fun a m b m' e => a3 b (List.mem_append_right _ m') a m e.symm⟩⟩
theorem Pt.same {fp gx : List Addr} : Pt fp gx fp := ⟨fun a m => List.mem_append_left _ m, fun nd => (List.nodup_append.mp nd).1⟩
theorem Pt.all {fp gx : List Addr} : Pt fp gx (fp ++ gx) := ⟨fun _ m => m, fun nd => nd⟩
variable {y : V} {x : O} {gx : List Addr}
theorem Owns.replK (qy : Own G F H y x gx) (kk : Key) : ∀ {kvs : List (Key × V)} {l : List (D × O)} {fp : List Addr}, l.map (·.1) = kvs.map (fun p => kd p.1) → (kvs.map (·.1)).Nodup → Owns G F H (kvs.map (·.2)) (l.map (·.2)) fp →
    ∃ fp', Owns G F H ((kvs.map fun kv => if kv.1 = kk then (kv.1, y) else kv).map (·.2)) ((dSet l (kd kk) x).map (·.2)) fp' ∧ Pt fp gx fp'
  | [], [], _, _, _, .nil => ⟨[], .nil, Pt.same⟩
  | [], _ :: _, _, e, _, _ => by simp at e
  | _ :: _, [], _, e, _, _ => by simp at e
  | (k, v) :: kvs, (d, o) :: l, _, e, nd, .cons (f := f) (fp := fp) q r => by
    simp only [List.map_cons, List.cons.injEq] at e
    obtain ⟨rfl, e⟩ := e
    simp only [List.map_cons, List.nodup_cons] at nd
    obtain ⟨n1, n2⟩ := nd
    by_cases h : k = kk
    · subst h
      have out : ∀ p ∈ l, deq p.1 (kd k) = false := fun p m => by
        have : p.1 ∈ l.map (·.1) := List.mem_map.mpr ⟨p, m, rfl⟩
        rw [e] at this
        obtain ⟨q', m', e'⟩ := List.mem_map.mp this
        rw [← e', kd_deq]
        refine decide_eq_false fun z => n1 ?_
        rw [← z]
        exact List.mem_map.mpr ⟨q', m', rfl⟩
      have e2 : dSet ((kd k, o) :: l) (kd k) x = (kd k, x) :: l := by
        have := dSet_not x out
        unfold dSet at this ⊢
        rw [List.map_cons, this]
        simp [kd_deq]
      have e3 : (kvs.map fun kv => if kv.1 = k then (kv.1, y) else kv) = kvs := by
        conv => rhs; rw [← List.map_id kvs]
        refine List.map_congr_left fun p m => ?_
        rw [if_neg fun z => n1 (by rw [← z]; exact List.mem_map.mpr ⟨p, m, rfl⟩)]
        rfl
      rw [e2, List.map_cons, if_pos rfl, e3]
      exact ⟨gx ++ fp, .cons qy r, Pt.swap⟩
    · obtain ⟨fp', r', p⟩ := Owns.replK qy kk e n2 r
      have e2 : dSet ((kd k, o) :: l) (kd kk) x = (kd k, o) :: dSet l (kd kk) x := by
        unfold dSet
        rw [List.map_cons]
        simp [kd_deq, h]
      rw [e2, List.map_cons, if_neg h]
      exact ⟨f ++ fp', .cons q r', p.keep⟩
theorem Owns.replN (qy : Own G F H y x gx) {k : D} {kk : NestedKey} (hk : nkey k = some kk) : ∀ {kvs : List NK} {l : List (D × O)} {fp : List Addr}, nkeys (l.map (·.1)) = some (kvs.map (·.1)) → (kvs.map (·.1)).Nodup → Owns G F H (kvs.map (·.2.2)) (l.map (·.2)) fp →
    ∃ fp', Owns G F H ((kvs.map fun z => if z.1 = kk then (z.1, z.2.1, y) else z).map (·.2.2)) ((dSet l k x).map (·.2)) fp' ∧ Pt fp gx fp'
  | [], [], _, _, _, .nil => ⟨[], .nil, Pt.same⟩
  | [], (d, o) :: l, _, e, _, _ => by
    simp only [List.map_cons, List.map_nil, nkeys] at e
    split at e <;> cases e
  | _ :: _, [], _, e, _, _ => by simp [nkeys] at e
  | (k0, b, v) :: kvs, (d, o) :: l, _, e, nd, .cons (f := f) (fp := fp) q r => by
    simp only [List.map_cons, nkeys] at e
    cases h1 : nkey d with
    | none => rw [h1] at e; cases e
    | some k1 =>
      cases h2 : nkeys (l.map (·.1)) with
      | none => rw [h1, h2] at e; cases e
      | some ks =>
        rw [h1, h2] at e
        simp only [Option.some.injEq, List.cons.injEq] at e
        obtain ⟨rfl, e⟩ := e
        have hd := nkey_deq h1 hk
        simp only [List.map_cons, List.nodup_cons] at nd
        obtain ⟨n1, n2⟩ := nd
        obtain ⟨fp', r', p⟩ := Owns.replN qy hk (kvs := kvs) (l := l) (by rw [h2, e]) n2 r
        by_cases h : k1 = kk
        · subst h
          have e3 : (kvs.map fun z => if z.1 = k1 then (z.1, z.2.1, y) else z) = kvs := by
            conv => rhs; rw [← List.map_id kvs]
            refine List.map_congr_left fun p m => ?_
            rw [if_neg fun z => n1 (by rw [← z]; exact List.mem_map.mpr ⟨p, m, rfl⟩)]
            rfl
          have hn : hasN kvs k1 = false := by
            unfold hasN
            rw [List.any_eq_false]
            intro p m z
            exact n1 (by rw [← of_decide_eq_true z]; exact List.mem_map.mpr ⟨p, m, rfl⟩)
          have hl : dHas l k = false := by rw [hasN_eq hk (kvs := kvs) (by rw [h2, e]), hn]
          have out : ∀ p ∈ l, deq p.1 k = false := fun p m => by
            unfold dHas at hl
            rw [List.any_eq_false] at hl
            simpa using hl p m
          have e2 : dSet ((d, o) :: l) k x = (d, x) :: l := by
            have := dSet_not x out
            unfold dSet at this ⊢
            rw [List.map_cons, this]
            simp [hd]
          rw [e2, List.map_cons, if_pos rfl, e3]
          exact ⟨gx ++ fp, .cons qy r, Pt.swap⟩
        · have e2 : dSet ((d, o) :: l) k x = (d, o) :: dSet l k x := by
            unfold dSet
            rw [List.map_cons]
            simp [hd, h]
          rw [e2, List.map_cons, if_neg h]
          exact ⟨f ++ fp', .cons q r', p.keep⟩
theorem nkeys_app : ∀ {a b : List D} {x y : List NestedKey}, nkeys a = some x → nkeys b = some y → nkeys (a ++ b) = some (x ++ y)
  | [], b, _, y, e, e' => by cases e; exact e'
  | d :: a, b, _, y, e, e' => by
    simp only [nkeys] at e
    cases h1 : nkey d with
    | none => rw [h1] at e; cases e
    | some k1 =>
      cases h2 : nkeys a with
      | none => rw [h1, h2] at e; cases e
      | some ks =>
        rw [h1, h2] at e
        cases e
        simp only [List.cons_append, nkeys, h1, nkeys_app h2 e']
/-- the table with a key more, or another value -/
theorem putK_ok (qy : Own G F H y x gx) (kk : Key) {kvs : List (Key × V)} {l : List (D × O)} {fp : List Addr} (e : l.map (·.1) = kvs.map (fun p => kd p.1)) (nd : (kvs.map (·.1)).Nodup) (r : Owns G F H (kvs.map (·.2)) (l.map (·.2)) fp) :
    (dPut l (kd kk) x).map (·.1) = (putK kvs kk y).map (fun p => kd p.1) ∧ ((putK kvs kk y).map (·.1)).Nodup ∧ ∃ fp', Owns G F H ((putK kvs kk y).map (·.2)) ((dPut l (kd kk) x).map (·.2)) fp' ∧ Pt fp gx fp' := by
  unfold dPut putK
  rw [hasK_eq kk e]
  by_cases h : (kvs.any fun kv => decide (kv.1 = kk)) = true
  · rw [if_pos h, if_pos h]
    have e1 : (kvs.map fun kv => if kv.1 = kk then (kv.1, y) else kv).map (·.1) = kvs.map (·.1) := by
      rw [List.map_map]
      refine List.map_congr_left fun p _ => ?_
      simp only [Function.comp]
      split <;> rfl
    have e2 : (kvs.map fun kv => if kv.1 = kk then (kv.1, y) else kv).map (fun p => kd p.1) = kvs.map (fun p => kd p.1) := by
      rw [List.map_map]
      refine List.map_congr_left fun p _ => ?_
      simp only [Function.comp]
      split <;> rfl
    refine ⟨?_, by rw [e1]; exact nd, Owns.replK qy kk e nd r⟩
    rw [e2, ← e]
    exact dSet_keys l (kd kk) x
  · rw [if_neg h, if_neg h]
    refine ⟨by rw [List.map_append, List.map_append, e]; rfl, ?_, fp ++ gx, ?_, Pt.all⟩
    · rw [List.map_append]
      refine List.nodup_append.mpr ⟨nd, by simp, fun a m b m' z => h ?_⟩
      simp at m'
      subst m'
      subst z
      obtain ⟨p, mp, ep⟩ := List.mem_map.mp m
      exact List.any_eq_true.mpr ⟨p, mp, decide_eq_true ep⟩
    · rw [List.map_append, List.map_append]
      exact r.append (.one qy)
theorem putN_ok (qy : Own G F H y x gx) {k : D} {kk : NestedKey} (hk : nkey k = some kk) (dp : kk.depth ≤ 8) {b : Addr} (rk : Rep G F (.ref b) k) {kvs : List NK} {l : List (D × O)} {fp : List Addr} (e : nkeys (l.map (·.1)) = some (kvs.map (·.1))) (n : NKok kvs) (q0 : Reps G F (kvs.map fun p => .ref p.2.1) (l.map (·.1))) (r : Owns G F H (kvs.map (·.2.2)) (l.map (·.2)) fp) :
    nkeys ((dPut l k x).map (·.1)) = some ((putN kvs kk b y).map (·.1)) ∧ NKok (putN kvs kk b y) ∧ Reps G F ((putN kvs kk b y).map fun p => .ref p.2.1) ((dPut l k x).map (·.1)) ∧ ∃ fp', Owns G F H ((putN kvs kk b y).map (·.2.2)) ((dPut l k x).map (·.2)) fp' ∧ Pt fp gx fp' := by
  unfold dPut putN
  rw [hasN_eq hk e]
  by_cases h : hasN kvs kk = true
  · rw [if_pos h, if_pos h]
    have e1 : (kvs.map fun z => if z.1 = kk then (z.1, z.2.1, y) else z).map (·.1) = kvs.map (·.1) := by
      rw [List.map_map]
      refine List.map_congr_left fun p _ => ?_
      simp only [Function.comp]
      split <;> rfl
    have e2 : ((kvs.map fun z => if z.1 = kk then (z.1, z.2.1, y) else z).map fun p => V.ref p.2.1) = kvs.map fun p => V.ref p.2.1 := by
      rw [List.map_map]
      refine List.map_congr_left fun p _ => ?_
      simp only [Function.comp]
      split <;> rfl
    have e3 := dSet_keys l k x
    unfold dSet at e3
    refine ⟨by rw [e3, e1]; exact e, ⟨by rw [e1]; exact n.nd, fun p m => ?_⟩, by rw [e2, e3]; exact q0, Owns.replN qy hk e n.nd r⟩
    obtain ⟨z, mz, ez⟩ := List.mem_map.mp m
    have := n.dp z mz
    rw [← ez]
    split <;> exact this
  · rw [if_neg h, if_neg h]
    refine ⟨?_, ⟨?_, fun p m => ?_⟩, ?_, fp ++ gx, ?_, Pt.all⟩
    · rw [List.map_append, List.map_append]
      exact nkeys_app e (by simp only [List.map_cons, List.map_nil, nkeys, hk])
    · rw [List.map_append]
      refine List.nodup_append.mpr ⟨n.nd, by simp, fun a m b m' z => h ?_⟩
      simp at m'
      subst m'
      subst z
      obtain ⟨p, mp, ep⟩ := List.mem_map.mp m
      exact List.any_eq_true.mpr ⟨p, mp, decide_eq_true ep⟩
    · rcases List.mem_append.mp m with m | m
      · exact n.dp p m
      · simp at m
        rw [m]
        exact dp
    · rw [List.map_append, List.map_append]
      exact q0.append (.cons rk .nil)
    · rw [List.map_append, List.map_append]
      exact r.append (.one qy)
end
def oPutD : O → List O → Option (O × O)
  | .dct b l, [.sh k, x] => if okK b k && decide (l.length < ML) then some (.sh .non, .dct b (dPut l k x)) else none
  | _, _ => none
theorem oPutD_ok {G : CC} : NOp G (rSetV (rPutN G.K G.P G.w)) oPutD := fun F H v o f vs os g Q o' ret le h hs nd fr e k => by
  have step : ∀ {a : Addr} {fp : List Addr} {dl : List (D × O)} {b : Bool} {kd' : D} {x : O} {i y : V} {gx : List Addr} {H' : Hp} {dl' : List (D × O)} {fp' : List Addr}, f = a :: fp → g = gx → v = .ref a → vs = [i, y] → DPutN G.K G.P G.w H a i y H' → (∀ c, c ≠ a → H' c = H c) → (H a ≠ none) → Pt fp gx fp' →
      Own G F H' (.ref a) (.dct b dl') (a :: fp') → o' = .dct b dl' → ret = .sh .non → rSetV (rPutN G.K G.P G.w) v vs H Q := fun {a fp dl b kd' x i y gx H' dl' fp'} ef eg ev evs dp out ha pt own eo er => by
    subst ef eg ev evs eo er
    refine ⟨i, y, rfl, a, H', rfl, dp, ?_⟩
    have inAll : ∀ c ∈ a :: fp', c ∈ (a :: fp) ++ g := fun c m => by
      rcases List.mem_cons.mp m with rfl | m
      · exact List.mem_append_left _ (List.mem_cons_self ..)
      · rcases List.mem_append.mp (pt.sub c m) with m | m
        · exact List.mem_append_left _ (List.mem_cons_of_mem _ m)
        · exact List.mem_append_right _ m
    have nd2 : (a :: (fp ++ g)).Nodup := by rw [← List.cons_append]; exact nd
    obtain ⟨n1, n2⟩ := List.nodup_cons.mp nd2
    have leF : Le F H' := fun c u e => by
      rw [out c fun z => by rw [z, fr a (List.mem_append_left _ (List.mem_cons_self ..))] at e; cases e]
      exact le c u e
    refine k .non F H' (a :: fp') [] ⟨Le.refl F, fun c u e m => ?_, fun c h h' => (h' h).elim, fun c m => ?_, leF⟩ own (.sh .non) ?_ ?_
    · rw [out c fun z => m (by rw [z]; exact List.mem_append_left _ (List.mem_cons_self ..))]; exact e
    · rw [List.append_nil] at m
      exact .inl (inAll c m)
    · rw [List.append_nil]
      exact List.nodup_cons.mpr ⟨fun m => n1 (pt.sub a m), pt.nd n2⟩
    · intro c m
      rw [List.append_nil] at m
      exact fr c (inAll c m)
  match o, os, e with
  | .dct b l, [.sh kd', x], e =>
    simp only [oPutD] at e
    split at e
    · rename_i hc
      rw [Bool.and_eq_true] at hc
      obtain ⟨ok, hz⟩ := hc
      have hz' : l.length < ML := of_decide_eq_true hz
      cases e
      cases hs with
      | @cons i _ _ _ g0 _ q0 t0 =>
        cases q0 with
        | sh q0 =>
          cases t0 with
          | @cons y _ _ _ gx _ qx t =>
            cases t
            rw [List.append_nil, List.nil_append] at nd fr k
            cases h with
            | @dct a kvs _ fp ha e1 nn r =>
              obtain ⟨kk, rfl, hv⟩ := okK_f (G := G) (F := F) ok
              have ei := hv q0
              obtain ⟨n1, n2, n3⟩ := List.nodup_append.mp nd
              have aN : a ∉ fp := (List.nodup_cons.mp n1).1
              have ag : a ∉ gx := fun m => n3 a (List.mem_cons_self ..) a m rfl
              have r' : Owns G F (upd H a (.dK (putK kvs kk y))) (kvs.map (·.2)) (l.map (·.2)) fp := r.le (Le.refl F) fun c u m e => (upd_ne (show c ≠ a from fun z => aN (by rw [← z]; exact m))).trans e
              have qx' : Own G F (upd H a (.dK (putK kvs kk y))) y x gx := qx.le (Le.refl F) fun c u m e => (upd_ne (show c ≠ a from fun z => ag (by rw [← z]; exact m))).trans e
              obtain ⟨k1, k2, fp', k3, pt⟩ := putK_ok qx' kk e1 nn r'
              have hlen : kvs.length < sizeLine := by
                have := congrArg List.length e1
                rw [List.length_map, List.length_map] at this
                rw [← this, ← ML_eq]; exact hz'
              rw [List.append_nil, List.nil_append] at *
              exact step (dl := l) (kd' := kd kk) (x := x) rfl rfl rfl rfl (.inl (.inl ⟨kvs, kk, ha, ei, hlen, rfl⟩)) (fun c hc => upd_ne hc) (by rw [ha]; exact fun z => nomatch z) pt (.dct upd_same k1 k2 k3) rfl rfl
            | @dcT a kvs _ fp ha e1 nn q1 r =>
              obtain ⟨kk, ek, dp, hv⟩ := okK_t (G := G) (F := F) ok
              obtain ⟨c, rfl⟩ := hv q0
              obtain ⟨n1, n2, n3⟩ := List.nodup_append.mp nd
              have aN : a ∉ fp := (List.nodup_cons.mp n1).1
              have ag : a ∉ gx := fun m => n3 a (List.mem_cons_self ..) a m rfl
              have r' : Owns G F (upd H a (DN G.P G.w a (putN kvs kk c y))) (kvs.map (·.2.2)) (l.map (·.2)) fp := r.le (Le.refl F) fun c u m e => (upd_ne (show c ≠ a from fun z => aN (by rw [← z]; exact m))).trans e
              have qx' : Own G F (upd H a (DN G.P G.w a (putN kvs kk c y))) y x gx := qx.le (Le.refl F) fun c u m e => (upd_ne (show c ≠ a from fun z => ag (by rw [← z]; exact m))).trans e
              obtain ⟨k1, k2, k4, fp', k3, pt⟩ := putN_ok qx' ek dp q0 e1 nn q1 r'
              have hlen : kvs.length < sizeLine := by
                have := nkeys_len e1
                rw [List.length_map, List.length_map] at this
                rw [this, ← ML_eq]; exact hz'
              rw [List.append_nil, List.nil_append] at *
              exact step (dl := l) (kd' := kd') (x := x) rfl rfl rfl rfl (.inr ⟨kvs, kk, c, ha, kstand le e1 q1 nn.dp, rfl, Rep.nis le q0 ek, dp, hlen, rfl⟩) (fun c hc => upd_ne hc) (by rw [ha]; exact fun z => nomatch z) pt (.dcT upd_same k1 k2 k4 k3) rfl rfl
    · cases e
end DL

set_option maxHeartbeats 1000000
/-! ES: statements that change what stands at a place -/
namespace DL
open PySem PySem.Spec L2
open PyProof.Rows hiding St

section
variable {G : CC} {W : WX} {r : V → List V → Hp → VK → Prop} {m : O → List O → Option (O × O)} {σ : St} {H : Hp} {Q : VK}
theorem Nx.beside {F F' H H' : Hp} {fp fp' : List Addr} (x : Nx F F' H H' fp fp') (g : List Addr) : Nx F F' H H' (fp ++ g) (fp' ++ g) where
  ff := x.ff
  hh := fun a o h n => x.hh a o h fun m => n (List.mem_append_left _ m)
  nw := fun a h h' => (x.nw a h h').imp id fun m => List.mem_append_left _ m
  fr := fun a m => by
    rcases List.mem_append.mp m with m | m
    · exact (x.fr a m).imp (fun m => List.mem_append_left _ m) id
    · exact .inl (List.mem_append_right _ m)
  le := x.le
theorem hole_op2 {F B : Hp} {L : St} {en : En} {fp g : List Addr} {i : Nat} {acc : Acc} {w : V} {F₀ H₀ : Hp} {fp₀ : List Addr} (n0 : Nx F₀ F H₀ H fp₀ (fp ++ g)) (s : SRep G F B H L σ en fp) (h : HoleAt G F B H L σ en fp i acc w) {F1 H1 : Hp} {vs : List V} {os : List O}
    (n : Nx F F1 H H1 [] []) (q : Owns G F1 H1 vs os g) (nd : (fp ++ g).Nodup) (fr : ∀ a ∈ g, F a = none ∧ B a = none) (fr1 : ∀ a ∈ g, F1 a = none) (hop : NOp G r m) {u ret u' : O} (eu : en.sub i acc = some u) (em : m u os = some (ret, u')) :
    (∀ v F' H', XR G B L F₀ F' H₀ H' σ fp₀ v ret (en.put i acc u') → Q v H') → r w vs H1 Q := fun k => by
  obtain ⟨u0, f0, e0, qw, sub, nd0, cont⟩ := h
  rw [eu] at e0
  cases e0
  have s1 := s.pure n
  obtain ⟨a1, a2, a3⟩ := List.nodup_append.mp nd
  refine hop F1 H1 w u f0 vs os g Q u' ret n.le (qw.le n.ff fun a x _ e => n.keep a x e) q (List.nodup_append.mpr ⟨nd0, a2, fun a m b m' => a3 a (sub a m) b m'⟩) (fun a m => (List.mem_append.mp m).elim (fun m => (s1.df a (sub a m)).1) (fr1 a)) em ?_
  intro v F' H' f' h n2 q1 q2 ndh frh
  obtain ⟨fp', s', n', nd'⟩ := cont F' H' u' f' h g ((n.wide0 (f0 ++ g)).trans n2) nd fr q1 ndh frh
  exact k v F' H' ⟨fp', h, n0.trans n', s', q2, nd', fun a m => frh a (List.mem_append_right _ m)⟩
end
/-! ### x[e] = v -/
theorem PSet.or {X : Cx} {t t' : TSet} (h : PSet X t) (h' : PSet X t') : PSet X (fun o i v H Q => t o i v H Q ∨ t' o i v H Q) := fun pins s σ H o i v ov iv u Q I r1 r2 r3 q => q.elim (h pins s σ H o i v ov iv u Q I r1 r2 r3) (h' pins s σ H o i v ov iv u Q I r1 r2 r3)
abbrev rSetA (K : PySem.W.Frag) (P : Program) (w : World) : V → V → V → Hp → (Hp → Prop) → Prop := fun o i v H Q => rSetL o i v H Q ∨ rPutN K P w o i v H Q
theorem set_A {X : Cx} {k : Nat} (hr : Room k X.A) : PSet X (rSetA X.K X.prog X.w) := PSet.or set_list (set_N hr)
def oSetA (o : O) (l : List O) : Option (O × O) := match oSetL o l with
  | some r => some r
  | none => oPutD o l
theorem oSetA_ok {G : CC} : NOp G (rSetV (rSetA G.K G.P G.w)) oSetA := fun F H v o f vs os g Q o' ret le h hs nd fr e k => by
  unfold oSetA at e
  split at e
  · rename_i r er
    cases e
    obtain ⟨i, y, ev, t⟩ := oSetL_ok F H v o f vs os g Q _ _ le h hs nd fr er k
    exact ⟨i, y, ev, .inl t⟩
  · obtain ⟨i, y, ev, t⟩ := oPutD_ok F H v o f vs os g Q _ _ le h hs nd fr e k
    exact ⟨i, y, ev, .inr t⟩
def mSetI (rv : En → Res (Nat × Acc × En)) (mk : En → Res R) (me : En → Res (O × En)) (en : En) : SR := .of (me en) fun r => .of (rv r.2) fun p => .of (mk p.2.2) fun k => match k, p.2.2.sub p.1 p.2.1 with
  | .own (.sh kd), some u => (match oSetA u [.sh kd, r.1] with
    | some (_, u') => .nx (p.2.2.put p.1 p.2.1 u')
    | none => .stuck)
  | _, _ => .stuck
section
variable {X : Cx} {G : CC} {W : WX} {pos p2 : Pos} {o i e : Expr} {rv : En → Res (Nat × Acc × En)} {mk : En → Res R} {me : En → Res (O × En)} {k : Nat}
theorem ds_setI (hr : Room k X.A) (he : PE X e (tX G W me)) (ho : PE X o (tRv G W rv)) (hi : PE X i (tD G W mk)) (hK : G.K = X.K := by rfl) (hP : G.P = X.prog := by rfl) (hw : G.w = X.w := by rfl)
    (ha : ∀ v, assign (.Subscript o i p2) X.env v = (do
      let ov ← holding [v] (eval o X.env)
      let iv ← holding [v, ov] (eval i X.env)
      standAt p2
      holding [v, ov, iv] (setItem ov iv v)
      release [v, ov, iv] []) := by intro _; rfl)
    (hs : swapsWithSole [.Subscript o i p2] e pos.line X.env = pure false := by rfl) (hsw : swappedStores [.Subscript o i p2] e X.env = pure none := by rfl)
    (h1 : (assignEach [.Subscript o i p2] X.env).map (·.2) = [assign (.Subscript o i p2) X.env] := by rfl) : PS X (.Assign [.Subscript o i p2] e pos) (tS G W (mSetI rv mk me)) :=
  (ps_asg he (pg_sub ho hi (set_A hr) ha) hs hsw h1).imp fun D σ H h => by
    obtain ⟨F, B, L, en, fp, s, p⟩ := h
    refine ⟨F, B, L, en, fp, s, ?_⟩
    unfold mSetI at p
    cases ee : me en with
    | stuck => rw [ee] at p; exact p.elim
    | exc x e => rw [ee] at p; exact p
    | ok r =>
      rw [ee] at p
      simp only [SR.of] at p
      intro v F1 H1 x1
      obtain ⟨fp1, g, n1, s1, q1, nd1, fr1⟩ := x1
      have bf1 : ∀ a ∈ g, B a = none := fun a m => s.noB n1 a (List.mem_append_right _ m)
      obtain ⟨b1, b2, b3⟩ := List.nodup_append.mp nd1
      refine ⟨F1, B, L, r.2, fp1, s1, ?_⟩
      cases er : rv r.2 with
      | stuck => rw [er] at p; exact p.elim
      | exc x e => rw [er] at p; exact EPost.after (n1.sub fun a m => List.mem_append_left _ m) p
      | ok pl =>
        rw [er] at p
        simp only at p
        intro w F2 H2 fp2 n2 s2 hole
        refine ⟨F2, B, L, _, fp2, s2, ?_⟩
        have n02 : Nx F F2 H H2 fp (fp2 ++ g) := n1.trans (n2.beside g)
        cases ek : mk pl.2.2 with
        | stuck => rw [ek] at p; exact p.elim
        | exc x e => rw [ek] at p; exact EPost.after (n02.sub fun a m => List.mem_append_left _ m) p
        | ok kr =>
          rw [ek] at p
          simp only at p
          intro y F3 H3 r3
          cases kr with
          | bor o => exact p.elim
          | own ko =>
            cases ko with
            | sh kd =>
              cases es : pl.2.2.sub pl.1 pl.2.1 with
              | none => simp only [es] at p; exact p.elim
              | some u =>
                simp only [es] at p
                cases em : oSetA u [.sh kd, r.1] with
                | none => simp only [em] at p; exact p.elim
                | some ru =>
                  obtain ⟨ret, u'⟩ := ru
                  simp only [em] at p
                  have n3 := r3.nx
                  obtain ⟨f3, _, q3, _⟩ := id r3
                  have k3 := q3.repOf
                  have out1 : ∀ a ∈ g, a ∉ fp1 := fun a m m' => b3 a m' a m rfl
                  have q2 : Own G F2 H2 v r.1 g := q1.le n2.ff fun a x m e => n2.hh a x e (out1 a m)
                  have nd2 : (fp2 ++ g).Nodup := List.nodup_append.mpr ⟨s2.nd, b2, fun a m b m' e => by
                    subst e
                    rcases n2.fr a m with z | z
                    · exact out1 a m' z
                    · obtain ⟨x, hx⟩ := q1.dom a m'; rw [hx] at z; cases z⟩
                  have fr2 : ∀ a ∈ g, F2 a = none := fun a m => by
                    cases e : F2 a with
                    | none => rfl
                    | some x =>
                      rcases n2.nw a (fr1 a m) (by rw [e]; exact fun z => by cases z) with z | z
                      · obtain ⟨x, hx⟩ := q1.dom a m; rw [hx] at z; cases z
                      · exact (out1 a m z).elim
                  have fr3 : ∀ a ∈ g, F3 a = none := fun a m => by
                    cases e : F3 a with
                    | none => rfl
                    | some x =>
                      rcases n3.nw a (fr2 a m) (by rw [e]; exact fun z => by cases z) with z | z
                      · obtain ⟨x, hx⟩ := q2.dom a m; rw [hx] at z; cases z
                      · cases z
                  have q4 : Owns G F3 H3 [y, v] [.sh kd, r.1] g := by
                    have := Owns.cons (G := G) (F := F3) (H := H3) (.sh k3) (.one (q2.le n3.ff fun a x _ e => n3.keep a x e))
                    simpa using this
                  have res := hole_op2 (r := rSetV (rSetA G.K G.P G.w)) (Q := fun _ H' => D.nx σ H') n02 s2 hole n3 q4 nd2 (fun a m => ⟨fr2 a m, bf1 a m⟩) fr3 oSetA_ok es em fun v' F' H' xr => p σ F' H' xr.nr
                  obtain ⟨i', y', ev, t⟩ := res
                  cases ev
                  rw [← hK, ← hP, ← hw]
                  exact t
            | _ => exact p.elim
/-- recv.name(args) of a built-in list or dict, at a place -/
theorem dx_pm (T : String) {name : Str} {id : String} {r : V → List V → Hp → VK → Prop} {m : O → List O → Option (O × O)} {ms : En → Res (List R)} {es : List Expr} {apos cpos : Pos} (pa : PlainAttrs T) (slot : Slot T name id) (hty : typeOf (.builtin id) = pure (.type "method_descriptor")) (hm : MtR X id r) (hop : NOp G r m)
    (ho : PE X o (tRv G W rv)) (ha : PA X (e :: es) (tA G W ms)) (hT : T = "list" ∨ T = "dict" := by first | exact .inl rfl | exact .inr rfl) (hK : G.K = X.K := by rfl) (hP : G.P = X.prog := by rfl) (hw : G.w = X.w := by rfl)
    (hbase : attributeBase o name X.env (eval o X.env) = eval o X.env := by rfl)
    (hfew : ((backTo cpos (starEach (e :: es) X.env)).all (fun x => !x.1) && (backToKw cpos (keywordEach [] X.env)).all (fun x => x.1.isSome)
      && decide ((e :: es).length + ([] : List Keyword).length + (if ([] : List Keyword).isEmpty then 0 else 1) < 30)) = true := by rfl)
    (hline : (apos.endLine == cpos.line) = true := by rfl) (hs : starEach (e :: es) X.env = (false, eval e X.env) :: starEach es X.env := by rfl) (hplain : (backTo cpos (starEach es X.env)).any (·.1) = false := by rfl) :
    PE X (.Call (.Attribute o name apos) (e :: es) [] cpos) (tX G W (mPM T rv ms m)) :=
  (pe_mn pa slot hty hm ho ha hbase hfew hline hs hplain).imp fun σ H Q h => by
    have z := tPM_D hT hop h
    rw [hK, hP, hw] at z
    exact z
theorem dx_pm0 (T : String) {name : Str} {id : String} {r : V → List V → Hp → VK → Prop} {m : O → List O → Option (O × O)} {apos cpos : Pos} (pa : PlainAttrs T) (slot : Slot T name id) (hty : typeOf (.builtin id) = pure (.type "method_descriptor")) (hm : MtR X id r) (hop : NOp G r m)
    (ho : PE X o (tRv G W rv)) (hT : T = "list" ∨ T = "dict" := by first | exact .inl rfl | exact .inr rfl) (hK : G.K = X.K := by rfl) (hP : G.P = X.prog := by rfl) (hw : G.w = X.w := by rfl)
    (hbase : attributeBase o name X.env (eval o X.env) = eval o X.env := by rfl) (hline : (apos.endLine == cpos.line) = true := by rfl) :
    PE X (.Call (.Attribute o name apos) [] [] cpos) (tX G W (mPM T rv mNil m)) :=
  (pe_mn0 pa slot hty hm ho hbase hline).imp fun σ H Q h => by
    have z := tPM_D0 hT hop h
    rw [hK, hP, hw] at z
    exact z
end
/-! ### self.f = e -/
theorem putF_set {fs : List (Str × V)} {ns : List Str} {f : Str} {y : V} (nd : ns.Nodup) : ∀ {j n : Nat}, fs.map (·.1) = ns.take n → ns[j]? = some f → j < fs.length → putF f y fs = fs.set j (f, y) := by
  induction fs generalizing ns with
  | nil => intro j n _ _ e; simp at e
  | cons p fs ih =>
    intro j n e1 e2 e3
    cases ns with
    | nil => simp at e2
    | cons a ns =>
      cases n with
      | zero => simp at e1
      | succ n =>
        simp only [List.map_cons, List.take_succ_cons, List.cons.injEq] at e1
        obtain ⟨h1, h2⟩ := e1
        obtain ⟨n1, n2⟩ := List.nodup_cons.mp nd
        obtain ⟨g, x⟩ := p
        cases j with
        | zero =>
          simp at e2 h1
          subst e2
          subst h1
          simp [putF]
        | succ j =>
          simp only [List.getElem?_cons_succ] at e2
          have hne : g ≠ f := fun z => n1 (by
            rw [show a = f from by rw [← z]; exact h1.symm]
            exact List.mem_of_getElem? e2)
          have := ih n2 h2 e2 (by simpa using e3)
          simp only [putF, if_neg hne, this, List.set_cons_succ]
theorem putF_new {fs : List (Str × V)} {ns : List Str} {f : Str} {y : V} (nd : ns.Nodup) : ∀ {n : Nat}, fs.map (·.1) = ns.take n → ns[fs.length]? = some f → putF f y fs = fs ++ [(f, y)] := by
  induction fs generalizing ns with
  | nil => intro n _ _; rfl
  | cons p fs ih =>
    intro n e1 e2
    cases ns with
    | nil => simp at e2
    | cons a ns =>
      cases n with
      | zero => simp at e1
      | succ n =>
        simp only [List.map_cons, List.take_succ_cons, List.cons.injEq] at e1
        obtain ⟨h1, h2⟩ := e1
        obtain ⟨n1, n2⟩ := List.nodup_cons.mp nd
        obtain ⟨g, x⟩ := p
        simp only [List.length_cons, List.getElem?_cons_succ] at e2
        have hne : g ≠ f := fun z => n1 (by
          rw [show a = f from by rw [← z]; exact h1.symm]
          exact List.mem_of_getElem? e2)
        have := ih n2 h2 e2
        simp only [putF, if_neg hne, this, List.cons_append]
def mFldS (i c j : Nat) (me : En → Res (O × En)) (en : En) : SR := .of (me en) fun r => match r.2.sub i .here with
  | some (.ins c' os) => if c' = c ∧ os.length < 900 then (if j < os.length then .nx (r.2.put i .here (.ins c (os.set j r.1))) else if j = os.length then .nx (r.2.put i .here (.ins c (os ++ [r.1]))) else .stuck) else .stuck
  | _ => .stuck
theorem Owns.names {G : CC} {F H : Hp} {fs : List (Str × V)} {os : List O} {fp : List Addr} (h : Owns G F H (fs.map (·.2)) os fp) : fs.length = os.length := by
  have := h.length
  rwa [List.length_map] at this
theorem take_one {ns : List Str} {n : Nat} {f : Str} (h : ns[n]? = some f) : ns.take (n + 1) = ns.take n ++ [f] := by
  rw [List.take_add_one, h]; rfl
section
variable {X : Cx} {G : CC} {W : WX} {pos p1 p2 : Pos} {e : Expr} {me : En → Res (O × En)}
theorem ds_fld (i c j : Nat) {x f : Str} (T : FldF G c j f) (he : PE X e (tX G W me)) (hN : X.N[i]? = some x := by rfl) (hv : Vis X.env.scope x := by first | exact Or.inl rfl | exact Or.inr (Or.inl rfl) | exact Or.inr (Or.inr rfl))
    (hd : (x == ("__debug__" : Str)) = false := by decide) (hcd : (x == ("__classdict__" : Str)) = false := by decide) (hK : G.K = X.K := by rfl)
    (hs : swapsWith e (some (.Attribute (.Name x p1) f p2)) pos.line X.env = pure false := by rfl) : PS X (.Assign [.Attribute (.Name x p1) f p2] e pos) (tS G W (mFldS i c j me)) :=
  (ps_fld (pe_var hN hv hd hcd) he hs).imp fun D σ H h => by
    obtain ⟨F, B, L, en, fp, s, p⟩ := h
    refine ⟨F, B, L, en, fp, s, ?_⟩
    unfold mFldS at p
    cases ee : me en with
    | stuck => rw [ee] at p; exact p.elim
    | exc x e => rw [ee] at p; exact p
    | ok r =>
      rw [ee] at p
      simp only [SR.of] at p
      intro v F1 H1 x1
      obtain ⟨fp1, g, n1, s1, q1, nd1, fr1⟩ := x1
      have bf1 : ∀ a ∈ g, B a = none := fun a m => s.noB n1 a (List.mem_append_right _ m)
      obtain ⟨b1, b2, b3⟩ := List.nodup_append.mp nd1
      split at p
      · rename_i c' os es
        split at p
        · rename_i hc
          obtain ⟨rfl, hz⟩ := hc
          obtain ⟨w, va, u0, f0, e0, qw, sub, nd0, cont⟩ := s1.holeAt es
          rw [es] at e0
          cases e0
          obtain ⟨v0, hv0, ew⟩ := va
          obtain rfl : w = v0 := ew
          cases qw with
          | @ins a dx fs _ _ fa ha en1 rr =>
            refine ⟨_, hv0, a, _, dx, fs, rfl, ha, hK ▸ T.cl, hK ▸ T.na, by rw [rr.names]; omega, ?_⟩
            have aN : a ∉ fa := (List.nodup_cons.mp nd0).1
            have ag : a ∉ g := fun m => b3 a (sub a (List.mem_cons_self ..)) a m rfl
            have r' : ∀ {fs' : List (Str × V)}, Owns G F1 (upd H1 a (.ins (G.cls c') dx fs')) (fs.map (·.2)) os fa := rr.le (Le.refl F1) fun b u m e => (upd_ne (show b ≠ a from fun z => aN (by rw [← z]; exact m))).trans e
            have q' : ∀ {fs' : List (Str × V)}, Own G F1 (upd H1 a (.ins (G.cls c') dx fs')) v r.1 g := q1.le (Le.refl F1) fun b u m e => (upd_ne (show b ≠ a from fun z => ag (by rw [← z]; exact m))).trans e
            have fin : ∀ {fs' : List (Str × V)} {os' : List O} {fp' : List Addr}, putF f v fs = fs' → fs'.map (·.1) = (G.nms c').take os'.length → Owns G F1 (upd H1 a (.ins (G.cls c') dx fs')) (fs'.map (·.2)) os' fp' → Pt fa g fp' → NPost G F B L H fp D.nx (r.2.put i .here (.ins c' os')) → D.nx σ (upd H1 a (.ins (G.cls c') dx (putF f v fs))) := fun {fs' os' fp'} e1 e2 q pt p => by
              rw [e1]
              have nd2 : (a :: (fa ++ g)).Nodup := by
                rw [← List.cons_append]
                exact List.nodup_append.mpr ⟨nd0, b2, fun x m y m' => b3 x (sub x m) y m'⟩
              obtain ⟨d1, d2⟩ := List.nodup_cons.mp nd2
              have inn : ∀ b ∈ a :: fp', b ∈ (a :: fa) ++ g := fun b m => by
                rcases List.mem_cons.mp m with rfl | m
                · exact List.mem_append_left _ (List.mem_cons_self ..)
                · rcases List.mem_append.mp (pt.sub b m) with m | m
                  · exact List.mem_append_left _ (List.mem_cons_of_mem _ m)
                  · exact List.mem_append_right _ m
              have nn : Nx F1 F1 H1 (upd H1 a (.ins (G.cls c') dx fs')) ((a :: fa) ++ g) ((a :: fp') ++ []) := ⟨Le.refl F1, fun b u e m => (upd_ne fun z => m (by rw [z]; exact List.mem_append_left _ (List.mem_cons_self ..))).trans e, fun b h h' => (h' h).elim, fun b m => .inl (inn b (by rw [List.append_nil] at m; exact m)), s1.lf.upd_own (s1.df a (sub a (List.mem_cons_self ..))).1⟩
              obtain ⟨fpx, s', n', _⟩ := cont F1 (upd H1 a (.ins (G.cls c') dx fs')) (.ins c' os') (a :: fp') [] g nn nd1 (fun b m => ⟨fr1 b m, bf1 b m⟩) (.ins upd_same e2 q)
                (by rw [List.append_nil]; exact List.nodup_cons.mpr ⟨fun m => d1 (pt.sub a m), pt.nd d2⟩)
                (fun b m => by
                  rw [List.append_nil] at m
                  rcases List.mem_append.mp (inn b m) with m | m
                  · exact (s1.df b (sub b m)).1
                  · exact fr1 b m)
              exact p σ F1 _ ⟨fpx, n1.trans (n'.sub fun b m => List.mem_append_left _ m), s'⟩
            have hl := rr.names
            split at p
            · rename_i hj
              have e1 := putF_set (y := v) T.nd en1 T.nm (by rw [hl]; exact hj)
              obtain ⟨fp', q2, m2, d2⟩ := (r' (fs' := fs.set j (f, v))).setAt (q' (fs' := fs.set j (f, v))) hj
              refine fin e1 ?_ (by rw [List.map_set]; exact q2) ⟨m2, d2⟩ p
              rw [List.length_set, List.map_set, en1]
              apply List.ext_getElem?
              intro t
              by_cases ht : j = t
              · subst ht
                rw [List.getElem?_set_self (by rw [List.length_take]; have := (List.getElem?_eq_some_iff.mp T.nm).1; omega), List.getElem?_take, if_pos hj, T.nm]
              · rw [List.getElem?_set_ne ht]
            · split at p
              · rename_i hj
                subst hj
                have e1 := putF_new (y := v) T.nd en1 (by rw [hl]; exact T.nm)
                refine fin e1 ?_ (by rw [List.map_append]; exact r'.append (.one q')) Pt.all p
                rw [List.length_append, List.map_append, en1, List.length_singleton, take_one T.nm]
                rfl
              · exact p.elim
        · exact p.elim
      · exact p.elim
end
end DL

set_option maxHeartbeats 1000000
/-! ET: d.get(k, x), d.setdefault(k, []), e.f, alternatives -/
namespace DL
open PySem PySem.Spec L2
open PyProof.Rows hiding St

/-! ### alternatives -/
theorem _root_.L2.PE.or {X : Cx} {e : Expr} {t t' : TE} (h : PE X e t) (h' : PE X e t') : PE X e (fun σ H Q => t σ H Q ∨ t' σ H Q) := ⟨fun pins s σ H Q I q => q.elim (h.run pins s σ H Q I) (h'.run pins s σ H Q I)⟩
def mAlt {α : Type} (m1 m2 : En → Res α) (en : En) : Res α := match m1 en with
  | .stuck => m2 en
  | r => r
section
variable {X : Cx} {G : CC} {W : WX} {e : Expr}
theorem dp_alt {m1 m2 : En → Res R} (h1 : PE X e (tD G W m1)) (h2 : PE X e (tD G W m2)) : PE X e (tD G W (mAlt m1 m2)) := (h1.or h2).imp fun σ H Q h => by
  obtain ⟨F, B, L, en, fp, s, p⟩ := h
  unfold mAlt at p
  cases e1 : m1 en with
  | stuck => rw [e1] at p; exact .inr ⟨F, B, L, en, fp, s, p⟩
  | exc x e => rw [e1] at p; exact .inl ⟨F, B, L, en, fp, s, by rw [e1]; exact p⟩
  | ok r => rw [e1] at p; exact .inl ⟨F, B, L, en, fp, s, by rw [e1]; exact p⟩
theorem dx_alt {m1 m2 : En → Res (O × En)} (h1 : PE X e (tX G W m1)) (h2 : PE X e (tX G W m2)) : PE X e (tX G W (mAlt m1 m2)) := (h1.or h2).imp fun σ H Q h => by
  obtain ⟨F, B, L, en, fp, s, p⟩ := h
  unfold mAlt at p
  cases e1 : m1 en with
  | stuck => rw [e1] at p; exact .inr ⟨F, B, L, en, fp, s, p⟩
  | exc x e => rw [e1] at p; exact .inl ⟨F, B, L, en, fp, s, by rw [e1]; exact p⟩
  | ok r => rw [e1] at p; exact .inl ⟨F, B, L, en, fp, s, by rw [e1]; exact p⟩
end
/-! ### d.get(k, x) -/
def tGetN (K : PySem.W.Frag) (P : Program) (w : World) (td ty tx : TE) : TE := fun σ H Q => td σ H fun x H1 => ∃ a, x = .ref a ∧ DIsN P w H1 a ∧ ty σ H1 fun y H2 => tx σ H2 fun z H3 => ∃ o, DGetN K P w H3 a y o ∧ Q (o.getD z) H3
theorem pe_getN {X : Cx} {o e f : Expr} {td ty tx : TE} {apos cpos : Pos} {k : Nat} (hr : Room k X.A) (ho : PE X o td) (he : PE X e ty) (hf : PE X f tx) (m : M2 X o "get" apos e f cpos) : PE X (.Call (.Attribute o "get" apos) [e, f] [] cpos) (tGetN X.K X.prog X.w td ty tx) := by
  refine ⟨fun pins s σ H Q I h => ?_⟩
  refine wpAny_Call_method m.base m.few m.line PySem.F.plainAttrs_dict PySem.F.slot_dict_get PySem.F.type_dict_get (thn (ho.run pins s σ H _ I h) fun u s1 z => ?_)
  obtain ⟨x, H1, I1, rx, a, ex, d, q1⟩ := z
  subst ex
  obtain rfl : u = Value.ref a := rx
  obtain ⟨t1, t2, _⟩ := dn_at I1 d
  refine ⟨t1, t2, ?_⟩
  rw [m.trees]
  refine Calls.callWith_builtin rfl (Calls.evalArgs_plain (Calls.spliced_cons (thn (he.run pins s1 σ H1 _ I1 q1) fun iv s2 z2 => ?_)))
  obtain ⟨y, H2, I2, ry, q2⟩ := z2
  refine Calls.spliced_cons (thn (hf.run pins s2 σ H2 _ I2 q2) fun fv s3 z3 => Calls.spliced_nil ?_)
  obtain ⟨z, H3, I3, rz, ov, g, q3⟩ := z3
  exact dn_get2 (by have := hr.un; omega) I3 g ry rz fun w' s4 I4 rw' => ⟨_, H3, I4, rw', q3⟩
def mGet (ma mk mx : En → Res R) (en : En) : Res R := (ma en).bnd fun a => match a.o.dct? with
  | some (t, l) => (mk en).bnd fun k => (mx en).bnd fun d => match k.o.sh? with
    | some kd => if okK t kd then (match dGet l kd with | some u => .ok (R.at u) | none => .ok d) else .stuck
    | none => .stuck
  | none => .stuck
section
variable {X : Cx} {G : CC} {W : WX} {o e f : Expr} {ma mk mx : En → Res R} {apos cpos : Pos} {k : Nat}
theorem dp_get (hr : Room k X.A) (ho : PE X o (tD G W ma)) (he : PE X e (tD G W mk)) (hf : PE X f (tD G W mx)) (hK : G.K = X.K := by rfl) (hP : G.P = X.prog := by rfl) (hw : G.w = X.w := by rfl)
    (m : M2 X o "get" apos e f cpos := by exact ⟨rfl, rfl, rfl, rfl⟩) : PE X (.Call (.Attribute o "get" apos) [e, f] [] cpos) (tD G W (mGet ma mk mx)) := (pe_getN hr ho he hf m).imp fun σ H Q h => by
  obtain ⟨F, B, L, en, fp, s, p⟩ := h
  refine ⟨F, B, L, en, fp, s, ?_⟩
  unfold mGet at p
  cases ea : ma en with
  | stuck => rw [ea] at p; exact p.elim
  | exc x e => rw [ea] at p; exact p
  | ok a =>
    rw [ea] at p
    simp only [Res.bnd] at p
    intro x F1 H1 r1
    obtain ⟨f1, q1⟩ := r1.has
    cases ed : a.o.dct? with
    | none => simp only [ed] at p; exact p.elim
    | some tl =>
      obtain ⟨t, dl⟩ := tl
      simp only [ed] at p
      obtain ⟨c, rfl, dn⟩ := q1.disN r1.nx.le ed
      refine ⟨c, rfl, hP ▸ hw ▸ dn, F1, B, L, en, fp, s.pure r1.nx, ?_⟩
      cases ek : mk en with
      | stuck => rw [ek] at p; exact p.elim
      | exc x e => rw [ek] at p; exact EPost.after (r1.nx.wide0 fp) p
      | ok kr =>
        rw [ek] at p
        simp only at p
        intro y F2 H2 r2
        obtain ⟨f2, q2⟩ := r2.has
        have n12 := r1.nx.trans r2.nx
        refine ⟨F2, B, L, en, fp, s.pure n12, ?_⟩
        cases ex : mx en with
        | stuck => rw [ex] at p; exact p.elim
        | exc x e => rw [ex] at p; exact EPost.after (n12.wide0 fp) p
        | ok d =>
          rw [ex] at p
          simp only at p
          intro z F3 H3 r3
          cases es : kr.o.sh? with
          | none => simp only [es] at p; exact p.elim
          | some kd =>
            simp only [es] at p
            split at p
            · rename_i ok
              rw [O.sh?_eq es] at q2
              have n23 := r2.nx.trans r3.nx
              have q1' := q1.le (H' := H3) n23.ff fun a u _ e => n23.keep a u e
              have k3 := q2.repOf.le r3.nx.ff
              obtain ⟨c', ec, hh⟩ := q1'.dget r3.nx.le ed k3 ok
              cases ec
              rw [← hK, ← hP, ← hw]
              rcases hh with ⟨h1, h2⟩ | ⟨u, v, f', h1, h2, h3⟩
              · rw [h1] at p
                exact ⟨none, h2, p _ F3 H3 (r3.after n12)⟩
              · rw [h1] at p
                exact ⟨some v, h2, p _ F3 H3 ((PR.look r3.nx.le h3).after (n12.trans r3.nx))⟩
            · exact p.elim
end
/-! ### d.setdefault(k, []) as a place -/
section
variable {X : Cx} {pins : List (Addr × Obj)} {σ : St} {H : Hp} {s : Shared} {a : Addr} {y z : V} {u r : Value} {A : Around} {E : Value → Shared → Prop}
/-- it is there -/
def SdF (K : PySem.W.Frag) (P : Program) (w : World) (H : Hp) (a : Addr) (y v : V) : Prop :=
  (∃ kvs k, H a = some (.dK kvs) ∧ y = kV k ∧ valV kvs k = some v) ∨ ∃ kvs k b, H a = some (DN P w a kvs) ∧ KStand K H kvs ∧ y = .ref b ∧ NIs K H k (.ref b) ∧ k.depth ≤ 8 ∧ valN kvs k = some v
/-- it is not there, and stands there from then on -/
def SdM (K : PySem.W.Frag) (P : Program) (w : World) (H : Hp) (a : Addr) (y z : V) (H' : Hp) : Prop :=
  (∃ kvs k, H a = some (.dK kvs) ∧ y = kV k ∧ valV kvs k = none ∧ kvs.length < sizeLine ∧ H' = upd H a (.dK (putK kvs k z))) ∨
    ∃ kvs k b, H a = some (DN P w a kvs) ∧ KStand K H kvs ∧ y = .ref b ∧ NIs K H k (.ref b) ∧ k.depth ≤ 8 ∧ valN kvs k = none ∧ kvs.length < sizeLine ∧ H' = upd H a (DN P w a (putN kvs k b z))
theorem dn_setdF {Q : Value → Shared → Prop} (hu : A.units + 9 < cLine) (I : Inv X pins σ H s) (ry : RelV y u) (rz : RelV z r) {v : V} (h : SdF X.K X.prog X.w H a y v) (q : ∀ (w' : Value) (s' : Shared), Inv X pins σ H s' → RelV v w' → Q w' s') :
    wpAny (model X.prog X.w) A (call (.builtin "dict.setdefault") [.ref a, u, r]) Q E s := by
  rcases h with ⟨kvs, k, e, rfl, h1⟩ | ⟨kvs, k, b, e, st, rfl, eb, ed, h1⟩
  · obtain ⟨z, hd, vs, rel, dd⟩ := dk_of I.hok e
    have hz : vs.length ≤ sizeLine := by rw [← rel.length]; exact z
    refine call_meetsIn PySem.F.slot_dict_setdefault dd.typeIs PySem.F.entry_dict_setdefault (PySem.F.args_dict_setdefault_3 _ _ _) (kt_meets_setdefault (mixKind X.prog X.w) a (kV_is ry) hd r) ⟨vs, dd, hz, fun v' hv => ?_, fun hn h' dd' hs => ?_⟩
    · have q1 := rel.val k
      rw [hv, h1] at q1
      exact q _ _ (I.tok _) q1
    · have q1 := rel.val k
      rw [hn, h1] at q1
      exact (show False from q1).elim
  · cases (show u = Value.ref b from ry)
    obtain ⟨zz, hd, xs, rel, dd⟩ := dn_rd I ⟨.inl e, st⟩
    have hz : xs.length ≤ sizeLine := by rw [← Paired.length rel]; exact zz
    refine call_setdefault_heap (knd := nestedKind X.prog X.w) (hsz := hz) (show A.in1.units + 8 < cLine by rw [Around.in1_units]; omega) (nis_key I eb ed) hd dd (fun p hp => ?_) fun hn h' dd' hs => ?_
    · have q1 := rel.val k
      rw [hp, h1] at q1
      exact q _ _ (I.tok _) q1
    · have q1 := rel.val k
      rw [hn, h1] at q1
      exact (show False from q1).elim
theorem dn_setdM {Q : Value → Shared → Prop} (hu : A.units + 9 < cLine) (I : Inv X pins σ H s) (ry : RelV y u) (rz : RelV z r) {H' : Hp} (h : SdM X.K X.prog X.w H a y z H') (q : ∀ (w' : Value) (s' : Shared), Inv X pins σ H' s' → RelV z w' → Q w' s') :
    wpAny (model X.prog X.w) A (call (.builtin "dict.setdefault") [.ref a, u, r]) Q E s := by
  rcases h with ⟨kvs, k, e, rfl, h1, hl, rfl⟩ | ⟨kvs, k, b, e, st, rfl, eb, ed, h1, hl, rfl⟩
  · exact d_setd I e ry rz hl (fun v hv => by rw [h1] at hv; cases hv) fun _ w' s' I' rw' => q w' s' I' rw'
  · cases (show u = Value.ref b from ry)
    obtain ⟨zz, hd, xs, rel, dd⟩ := dn_rd I ⟨.inl e, st⟩
    have hz : xs.length ≤ sizeLine := by rw [← Paired.length rel]; exact zz
    refine call_setdefault_heap (knd := nestedKind X.prog X.w) (hsz := hz) (show A.in1.units + 8 < cLine by rw [Around.in1_units]; omega) (nis_key I eb ed) hd dd (fun p hp => ?_) fun hn h' dd' hs => ?_
    · have q1 := rel.val k
      rw [hp, h1] at q1
      exact (show False from q1).elim
    · have hl2 : (putN kvs k b z).length ≤ sizeLine := by have := length_putN kvs k b z; omega
      obtain ⟨qo, es, ep, hq, g2, g3, g4, _, g5⟩ := dd'
      exact q _ _ (d_write I (by rw [e]; exact True.intro) hs ⟨qo, hq⟩ (dn_ok ⟨hl2, hd, _, rel.put k b rz, qo, es, ep, hq, g2, g3, g4, g5⟩)) rz
end
def tSdM (K : PySem.W.Frag) (P : Program) (w : World) (td ty tx : TE) : TE := fun σ H Q => td σ H fun x H1 => ∃ a, x = .ref a ∧ DIsN P w H1 a ∧ ty σ H1 fun y H2 => tx σ H2 fun z H3 =>
  (∃ v, SdF K P w H3 a y v ∧ Q v H3) ∨ ∃ H', SdM K P w H3 a y z H' ∧ Q z H'
theorem pe_setdN {X : Cx} {o e f : Expr} {td ty tx : TE} {apos cpos : Pos} {k : Nat} (hr : Room k X.A) (ho : PE X o td) (he : PE X e ty) (hf : PE X f tx) (m : M2 X o "setdefault" apos e f cpos) : PE X (.Call (.Attribute o "setdefault" apos) [e, f] [] cpos) (tSdM X.K X.prog X.w td ty tx) := by
  refine ⟨fun pins s σ H Q I h => ?_⟩
  refine wpAny_Call_method m.base m.few m.line PySem.F.plainAttrs_dict PySem.F.slot_dict_setdefault PySem.F.type_dict_setdefault (thn (ho.run pins s σ H _ I h) fun u s1 z => ?_)
  obtain ⟨x, H1, I1, rx, a, ex, d, q1⟩ := z
  subst ex
  obtain rfl : u = Value.ref a := rx
  obtain ⟨t1, t2, _⟩ := dn_at I1 d
  refine ⟨t1, t2, ?_⟩
  rw [m.trees]
  refine Calls.callWith_builtin rfl (Calls.evalArgs_plain (Calls.spliced_cons (thn (he.run pins s1 σ H1 _ I1 q1) fun iv s2 z2 => ?_)))
  obtain ⟨y, H2, I2, ry, q2⟩ := z2
  refine Calls.spliced_cons (thn (hf.run pins s2 σ H2 _ I2 q2) fun fv s3 z3 => Calls.spliced_nil ?_)
  obtain ⟨z, H3, I3, rz, q3⟩ := z3
  rcases q3 with ⟨v, h1, h2⟩ | ⟨H', h1, h2⟩
  · exact dn_setdF (by have := hr.un; omega) I3 ry rz h1 fun w' s4 I4 rw' => ⟨v, _, I4, rw', h2⟩
  · exact dn_setdM (by have := hr.un; omega) I3 ry rz h1 fun w' s4 I4 rw' => ⟨z, _, I4, rw', h2⟩
/-! ### e.f -/
def O.flds : O → Option (Nat × List O)
  | .ins c os => some (c, os)
  | .sh (.ins c l) => some (c, l.map .sh)
  | _ => none
def mFldE (tab : Nat → Option Nat) (ma : En → Res R) (en : En) : Res R := (ma en).bnd fun a => match a.o.flds with
  | some (c, os) => (match tab c with
    | some j => (match os[j]? with | some u => .ok (R.at u) | none => .stuck)
    | none => .stuck)
  | none => .stuck
/-- the classes that have the field, by number, and where -/
structure FldT (G : CC) (f : Str) (tab : Nat → Option Nat) : Prop where
  ok : ∀ c j, tab c = some j → FldF G c j f
theorem Own.fldsOf {G : CC} {F H : Hp} {v : V} {o : O} {fp : List Addr} (l : Le F H) (h : Own G F H v o fp) {c : Nat} {os : List O} (e : o.flds = some (c, os)) : ∃ a dx fs g, v = .ref a ∧ H a = some (.ins (G.cls c) dx fs) ∧ fs.map (·.1) = (G.nms c).take os.length ∧ Owns G F H (fs.map (·.2)) os g := by
  cases h with
  | sh r =>
    cases r with
    | ins h1 h2 h3 => cases e; exact ⟨_, _, _, [], rfl, l _ _ h1, by rw [List.length_map]; exact h2, Owns.of_sh h3⟩
    | _ => cases e
  | ins h1 h2 h3 => cases e; exact ⟨_, _, _, _, rfl, h1, h2, h3⟩
  | lst _ _ => cases e
  | tup _ _ => cases e
  | dct _ _ _ _ => cases e
  | dcT _ _ _ _ _ => cases e
section
variable {X : Cx} {G : CC} {W : WX} {e : Expr} {ma : En → Res R} {f : Str} {tab : Nat → Option Nat} {pos : Pos}
theorem dp_fld (T : FldT G f tab) (ha : PE X e (tD G W ma)) (hK : G.K = X.K := by rfl) (hb : attributeBase e f X.env (eval e X.env) = eval e X.env := by rfl) : PE X (.Attribute e f pos) (tD G W (mFldE tab ma)) :=
  (pe_fld ha hb).imp fun σ H Q h => by
    obtain ⟨F, B, L, en, fp, s, p⟩ := h
    refine ⟨F, B, L, en, fp, s, ?_⟩
    unfold mFldE at p
    cases ea : ma en with
    | stuck => rw [ea] at p; exact p.elim
    | exc x e => rw [ea] at p; exact p
    | ok a =>
      rw [ea] at p
      simp only [Res.bnd] at p
      intro x F1 H1 r1
      obtain ⟨f1, q1⟩ := r1.has
      cases ef : a.o.flds with
      | none => simp only [ef] at p; exact p.elim
      | some co =>
        obtain ⟨c, os⟩ := co
        simp only [ef] at p
        cases et : tab c with
        | none => simp only [et] at p; exact p.elim
        | some j =>
          simp only [et] at p
          cases eo : os[j]? with
          | none => simp only [eo] at p; exact p.elim
          | some u =>
            simp only [eo] at p
            have T' := T.ok c j et
            obtain ⟨a', dx, fs, g, rfl, h1, h2, h3⟩ := q1.fldsOf r1.nx.le ef
            obtain ⟨w, fw, h4, h5, _⟩ := h3.get eo
            rw [List.getElem?_map] at h4
            exact ⟨a', _, dx, fs, w, rfl, h1, hK ▸ T'.cl, hK ▸ T'.na, lookup_at T'.nd h2 T'.nm h4, p _ F1 H1 ((PR.look r1.nx.le h5).after r1.nx)⟩
end
end DL

set_option maxHeartbeats 1000000
/-! EU: x.setdefault(k, []).append(e) -/
namespace DL
open PySem PySem.Spec L2
open PyProof.Rows hiding St

theorem hole_here {G : CC} {F B H : Hp} {L σ : St} {en : En} {fp : List Addr} (s : SRep G F B H L σ en fp) {i : Nat} {o : O} (e : en.sub i .here = some o) : ∃ v f0, σ[i]? = some (some v) ∧ Own G F H v o f0 ∧ (∀ a ∈ f0, a ∈ fp) ∧ f0.Nodup ∧
    ∀ F' H' o' f', Nx F F' H H' f0 f' → Own G F' H' v o' f' → f'.Nodup → (∀ a ∈ f', F' a = none) → ∃ fp', SRep G F' B H' L σ (en.put i .here o') fp' ∧ Nx F F' H H' fp fp' := by
  obtain ⟨w, ⟨v, h1, h2⟩, hole⟩ := s.holeAt e
  obtain rfl : w = v := h2
  obtain ⟨u, f0, e0, h3, h4, h5, h6⟩ := id hole
  rw [e] at e0
  cases e0
  refine ⟨w, f0, h1, h3, h4, h5, fun F' H' o' f' n q nd fr => ?_⟩
  obtain ⟨fp', s', n', _⟩ := h6 F' H' o' f' [] [] (by rw [List.append_nil, List.append_nil]; exact n) (by rw [List.append_nil]; exact s.nd) (fun _ m => nomatch m) q (by rw [List.append_nil]; exact nd) (by rw [List.append_nil]; exact fr)
  rw [List.append_nil, List.append_nil] at n'
  exact ⟨fp', s', n'⟩
section
variable {G : CC} {F H : Hp} {a : Addr} {b : Bool} {l : List (D × O)} {f0 : List Addr} {y : V} {k : D}
/-- a value under a key, and the dict around it -/
theorem tab_hole (le : Le F H) (h : Own G F H (.ref a) (.dct b l) f0) (ok : okK b k = true) (rk : Rep G F y k) {u : O} (g : dGet l k = some u) : ∃ w fw rest, SdF G.K G.P G.w H a y w ∧ Own G F H w u fw ∧ ((a :: rest) ++ fw).Perm f0 ∧
    ∀ F' H' u' fw', Le F F' → (∀ c x, c ∈ a :: rest → H c = some x → H' c = some x) → Own G F' H' w u' fw' → ∃ f', Own G F' H' (.ref a) (.dct b (dSet l k u')) f' ∧ ((a :: rest) ++ fw').Perm f' := by
  cases h with
  | @dct _ kvs _ fa ha e1 nn r =>
    obtain ⟨kk, rfl, hv⟩ := okK_f (G := G) (F := F) ok
    obtain ⟨w, fw, rest, h1, h2, h3, h4⟩ := Owns.holeK e1 nn r g
    refine ⟨w, fw, rest, .inl ⟨kvs, kk, ha, hv rk, h1⟩, h2, by rw [List.cons_append]; exact h3.cons a, fun F' H' u' fw' l' kp q => ?_⟩
    obtain ⟨f', r', p⟩ := h4 F' H' u' fw' l' (fun c x m => kp c x (List.mem_cons_of_mem _ m)) q
    exact ⟨a :: f', .dct (kp a _ (List.mem_cons_self ..) ha) (by rw [dSet_keys]; exact e1) nn r', by rw [List.cons_append]; exact p.cons a⟩
  | @dcT _ kvs _ fa ha e1 nn q0 r =>
    obtain ⟨kk, ek, dp, hv⟩ := okK_t (G := G) (F := F) ok
    obtain ⟨c, rfl⟩ := hv rk
    obtain ⟨w, fw, rest, h1, h2, h3, h4⟩ := Owns.holeN e1 nn.nd r ek g
    refine ⟨w, fw, rest, .inr ⟨kvs, kk, c, ha, kstand le e1 q0 nn.dp, rfl, Rep.nis le rk ek, dp, h1⟩, h2, by rw [List.cons_append]; exact h3.cons a, fun F' H' u' fw' l' kp q => ?_⟩
    obtain ⟨f', r', p⟩ := h4 F' H' u' fw' l' (fun c x m => kp c x (List.mem_cons_of_mem _ m)) q
    exact ⟨a :: f', .dcT (kp a _ (List.mem_cons_self ..) ha) (by rw [dSet_keys]; exact e1) nn (by rw [dSet_keys]; exact q0.le l') r', by rw [List.cons_append]; exact p.cons a⟩
/-- a key more -/
theorem tab_more (le : Le F H) (h : Own G F H (.ref a) (.dct b l) f0) (ok : okK b k = true) (rk : Rep G F y k) (g : dGet l k = none) (hz : l.length < ML) (z : V) : ∃ fa H', f0 = a :: fa ∧ SdM G.K G.P G.w H a y z H' ∧ (∀ c, c ≠ a → H' c = H c) ∧
    ∀ F' H2 u' g', Le F F' → (∀ c x, c ∈ a :: fa → H' c = some x → H2 c = some x) → a ∉ fa → Own G F' H2 z u' g' → Own G F' H2 (.ref a) (.dct b (l ++ [(k, u')])) (a :: (fa ++ g')) := by
  cases h with
  | @dct _ kvs _ fa ha e1 nn r =>
    obtain ⟨kk, rfl, hv⟩ := okK_f (G := G) (F := F) ok
    have hn : valV kvs kk = none := by
      rcases find_dk e1 r kk with ⟨_, h2⟩ | ⟨u, v, f', h1, _, _⟩
      · exact h2
      · rw [g] at h1; cases h1
    have hlen : kvs.length < sizeLine := by
      have := congrArg List.length e1
      rw [List.length_map, List.length_map] at this
      rw [← this, ← ML_eq]; exact hz
    have ep : putK kvs kk z = kvs ++ [(kk, z)] := putK_new z hn
    refine ⟨fa, _, rfl, .inl ⟨kvs, kk, ha, hv rk, hn, hlen, rfl⟩, fun c hc => upd_ne hc, fun F' H2 u' g' l' kp na q => ?_⟩
    refine .dct (kvs := kvs ++ [(kk, z)]) (kp a _ (List.mem_cons_self ..) (by rw [upd_same, ep])) (by rw [List.map_append, List.map_append, e1]; rfl) ?_ ?_
    · rw [List.map_append]
      refine List.nodup_append.mpr ⟨nn, by simp, fun c m d m' z' => ?_⟩
      simp at m'
      subst m'
      subst z'
      exact valV_not hn m
    · rw [List.map_append, List.map_append]
      exact (r.le l' fun c x m e => kp c x (List.mem_cons_of_mem _ m) ((upd_ne (show c ≠ a from fun z => na (z ▸ m))).trans e)).append (.one q)
  | @dcT _ kvs _ fa ha e1 nn q0 r =>
    obtain ⟨kk, ek, dp, hv⟩ := okK_t (G := G) (F := F) ok
    obtain ⟨c, rfl⟩ := hv rk
    have hn : valN kvs kk = none := by
      rcases find_dn e1 r ek with ⟨_, h2⟩ | ⟨u, v, f', h1, _, _⟩
      · exact h2
      · rw [g] at h1; cases h1
    have hh : hasN kvs kk = false := by rw [valN_has, hn]; rfl
    have hlen : kvs.length < sizeLine := by
      have := nkeys_len e1
      rw [List.length_map, List.length_map] at this
      rw [this, ← ML_eq]; exact hz
    have ep : putN kvs kk c z = kvs ++ [(kk, c, z)] := by unfold putN; rw [hh]; rfl
    refine ⟨fa, _, rfl, .inr ⟨kvs, kk, c, ha, kstand le e1 q0 nn.dp, rfl, Rep.nis le rk ek, dp, hn, hlen, rfl⟩, fun c hc => upd_ne hc, fun F' H2 u' g' l' kp na q => ?_⟩
    refine .dcT (kvs := kvs ++ [(kk, c, z)]) (kp a _ (List.mem_cons_self ..) (by rw [upd_same, ep])) ?_ ⟨?_, fun p m => ?_⟩ ?_ ?_
    · rw [List.map_append, List.map_append]
      exact nkeys_app e1 (by simp only [List.map_cons, List.map_nil, nkeys, ek])
    · rw [List.map_append]
      refine List.nodup_append.mpr ⟨nn.nd, by simp, fun c m d m' z' => ?_⟩
      simp at m'
      subst m'
      subst z'
      obtain ⟨p, mp, ep⟩ := List.mem_map.mp m
      unfold hasN at hh
      rw [List.any_eq_false] at hh
      exact hh p mp (decide_eq_true ep)
    · rcases List.mem_append.mp m with m | m
      · exact nn.dp p m
      · simp at m
        rw [m]
        exact dp
    · rw [List.map_append, List.map_append]
      exact (q0.le l').append (.cons (rk.le l') .nil)
    · rw [List.map_append, List.map_append]
      exact (r.le l' fun c x m e => kp c x (List.mem_cons_of_mem _ m) ((upd_ne (show c ≠ a from fun z => na (z ▸ m))).trans e)).append (.one q)
end
def mSdApp (i : Nat) (mk me : En → Res R) (en : En) : SR := match en.sub i .here with
  | some (.dct b l) => .of (mk en) fun kr => match kr with
    | .own (.sh k) => if okK b k && decide (l.length < ML) then (match dGet l k with
      | some (.lst os) => .of (me en) fun xr => (match xr with
        | .own x => if os.length < ML then .nx (en.put i .here (.dct b (dSet l k (.lst (os ++ [x]))))) else .stuck
        | .bor _ => .stuck)
      | none => .of (me (en.put i .here (.dct b (l ++ [(k, .lst [])])))) fun xr => (match xr with
        | .own x => .nx (en.put i .here (.dct b (l ++ [(k, .lst [x])])))
        | .bor _ => .stuck)
      | some _ => .stuck) else .stuck
    | _ => .stuck
  | _ => .stuck
section
variable {X : Cx} {G : CC} {W : WX} {pos apos cpos p2 apos2 cpos2 spos : Pos} {e f : Expr} {mk me : En → Res R} {k : Nat}
theorem ds_sdapp (i : Nat) {x : Str} (hr : Room k X.A) (he : PE X e (tD G W mk)) (hf : PE X f (tD G W me)) (hN : X.N[i]? = some x := by rfl) (hv : Vis X.env.scope x := by first | exact Or.inl rfl | exact Or.inr (Or.inl rfl) | exact Or.inr (Or.inr rfl))
    (hd : (x == ("__debug__" : Str)) = false := by decide) (hcd : (x == ("__classdict__" : Str)) = false := by decide) (hK : G.K = X.K := by rfl) (hP : G.P = X.prog := by rfl) (hw : G.w = X.w := by rfl)
    (m : M2 X (.Name x pos) "setdefault" apos e (.List [] p2) cpos := by exact ⟨rfl, rfl, rfl, rfl⟩)
    (hbase : attributeBase (.Call (.Attribute (.Name x pos) "setdefault" apos) [e, .List [] p2] [] cpos) "append" X.env (eval (.Call (.Attribute (.Name x pos) "setdefault" apos) [e, .List [] p2] [] cpos) X.env) = eval (.Call (.Attribute (.Name x pos) "setdefault" apos) [e, .List [] p2] [] cpos) X.env := by rfl)
    (hfew : ((backTo cpos2 (starEach [f] X.env)).all (fun x => !x.1) && (backToKw cpos2 (keywordEach [] X.env)).all (fun x => x.1.isSome)
      && decide ([f].length + ([] : List Keyword).length + (if ([] : List Keyword).isEmpty then 0 else 1) < 30)) = true := by rfl)
    (hline : (apos2.endLine == cpos2.line) = true := by rfl) (hst : starEach [f] X.env = (false, eval f X.env) :: starEach [] X.env := by rfl) (hplain : (backTo cpos2 (starEach [] X.env)).any (·.1) = false := by rfl)
    (hs : swapsWith (.Call (.Attribute (.Call (.Attribute (.Name x pos) "setdefault" apos) [e, .List [] p2] [] cpos) "append" apos2) [f] [] cpos2) none spos.line X.env = pure false := by rfl) :
    PS X (.Expr (.Call (.Attribute (.Call (.Attribute (.Name x pos) "setdefault" apos) [e, .List [] p2] [] cpos) "append" apos2) [f] [] cpos2) spos) (tS G W (mSdApp i mk me)) :=
  (ps_expr (pe_mn PySem.F.plainAttrs_list PySem.F.slot_list_append PySem.F.type_list_append mt_append (pe_setdN hr (pe_var hN hv hd hcd) he (pe_lst pa_nil) m) (pa_cons hf pa_nil hst) hbase hfew hline hst hplain) hs).imp fun D σ H h => by
    obtain ⟨F, B, L, en, fp, s, p⟩ := h
    unfold mSdApp at p
    cases e0 : en.sub i .here with
    | none => simp only [e0] at p; exact p.elim
    | some o0 =>
      obtain ⟨v0, f0, hv0, qv, sub, nd0, cont⟩ := hole_here s e0
      cases o0 with
      | dct b l =>
        simp only [e0] at p
        obtain ⟨a, rfl, dn⟩ := qv.disN s.lf (b := b) (l := l) rfl
        refine ⟨_, hv0, a, rfl, hP ▸ hw ▸ dn, F, B, L, en, fp, s, ?_⟩
        cases ek : mk en with
        | stuck => rw [ek] at p; exact p.elim
        | exc x e => rw [ek] at p; exact p
        | ok kr =>
          rw [ek] at p
          simp only [SR.of] at p
          cases kr with
          | bor o => exact p.elim
          | own ko =>
            cases ko with
            | sh kd =>
              simp only at p
              split at p
              · rename_i hc
                rw [Bool.and_eq_true] at hc
                obtain ⟨ok, hz⟩ := hc
                have hz' : l.length < ML := of_decide_eq_true hz
                intro y F1 H1 r1
                obtain ⟨f1, _, q1, _⟩ := id r1
                have rk := q1.repOf
                have n1 := r1.nx
                refine ⟨Nat.zero_le _, fun q hq => ?_⟩
                have n2 : Nx F1 F1 H1 (upd H1 q (.lst [])) [] [q] := Nx.newO n1.le hq [q] fun a m => by rw [List.mem_singleton.mp m]; exact .inr rfl
                have n12 : Nx F F1 H (upd H1 q (.lst [])) [] [q] := n1.trans n2
                have s2 := s.pure n12
                have qv2 : Own G F1 (upd H1 q (.lst [])) (.ref a) (.dct b l) f0 := qv.le n12.ff fun c u _ e => n12.keep c u e
                have le2 := n12.le
                have nd0' : ∀ c ∈ f0, c ≠ q := fun c m z => by
                  obtain ⟨u, hu⟩ := qv.dom c m
                  have := n1.keep c u hu
                  rw [z, hq] at this; cases this
                have fN : ∀ c ∈ f0, F1 c = none := fun c m => (s2.df c (sub c m)).1
                cases eg : dGet l kd with
                | some u =>
                  simp only [eg] at p
                  cases u with
                  | lst os =>
                    simp only at p
                    obtain ⟨w, fw, rest, h1, h2, h3, h4⟩ := tab_hole le2 qv2 ok rk eg
                    refine .inl ⟨w, hK ▸ hP ▸ hw ▸ h1, ?_⟩
                    cases h2 with
                    | @lst lw xs _ fl hl rr =>
                      refine ⟨.inl (.inl ⟨rfl, _, SqL.of hl⟩), F1, B, L, en, fp, s2, ?_⟩
                      cases em : me en with
                      | stuck => rw [em] at p; exact p.elim
                      | exc x e => rw [em] at p; exact EPost.after (n12.drop.wide0 fp) p
                      | ok xr =>
                        rw [em] at p
                        simp only at p
                        cases xr with
                        | bor o => exact p.elim
                        | own x =>
                          simp only at p
                          split at p
                          · rename_i ho
                            intro yv F5 H5 r5
                            obtain ⟨g, n5, q5, nd5, fr5⟩ := r5
                            refine ⟨lw, xs, yv, rfl, rfl, n5.keep _ _ hl, by rw [rr.length, ← ML_eq]; exact ho, ?_⟩
                            -- the whole step
                            have ndp := (h3.nodup_iff).mpr nd0
                            obtain ⟨d1, d2, d3⟩ := List.nodup_append.mp ndp
                            have lwN : lw ∉ fl := (List.nodup_cons.mp d2).1
                            have lwf : lw ∈ f0 := h3.mem_iff.mp (List.mem_append_right _ (List.mem_cons_self ..))
                            have gNew : ∀ c ∈ g, (upd H1 q (.lst [])) c = none := fun c m => (n5.fr c m).resolve_left fun m => nomatch m
                            have f0dom : ∀ c ∈ f0, ∃ u, (upd H1 q (.lst [])) c = some u := fun c m => qv2.dom c m
                            have gf0 : ∀ c ∈ g, c ∉ f0 := fun c m m' => by
                              obtain ⟨u, hu⟩ := f0dom c m'
                              rw [gNew c m] at hu; cases hu
                            have lwg : lw ∉ g := fun m => gf0 lw m lwf
                            have keepNot : ∀ c u, c ≠ lw → (upd H1 q (.lst [])) c = some u → (upd H5 lw (.lst (xs ++ [yv]))) c = some u := fun c u hc e => (upd_ne hc).trans (n5.keep c u e)
                            have rr6 : Owns G F5 (upd H5 lw (.lst (xs ++ [yv]))) (xs ++ [yv]) (os ++ [x]) (fl ++ g) :=
                              (rr.le n5.ff fun c u m e => keepNot c u (fun z => lwN (z ▸ m)) e).append (.one (q5.le (Le.refl F5) fun c u m e => (upd_ne (show c ≠ lw from fun z => lwg (z ▸ m))).trans e))
                            obtain ⟨f6, q6, p6⟩ := h4 F5 (upd H5 lw (.lst (xs ++ [yv]))) (.lst (os ++ [x])) (lw :: (fl ++ g)) n5.ff (fun c u m e => keepNot c u (fun z => d3 c m lw (List.mem_cons_self ..) z) e) (.lst upd_same rr6)
                            have f6in : ∀ c ∈ f6, c ∈ f0 ∨ c ∈ g := fun c m => by
                              rcases List.mem_append.mp (p6.mem_iff.mpr m) with m | m
                              · exact .inl (h3.mem_iff.mp (List.mem_append_left _ m))
                              · rcases List.mem_cons.mp m with rfl | m
                                · exact .inl lwf
                                · rcases List.mem_append.mp m with m | m
                                  · exact .inl (h3.mem_iff.mp (List.mem_append_right _ (List.mem_cons_of_mem _ m)))
                                  · exact .inr m
                            have f5N : ∀ c ∈ f0, F5 c = none := fun c m => by
                              cases e : F5 c with
                              | none => rfl
                              | some u =>
                                rcases n5.nw c (fN c m) (by rw [e]; exact fun z => by cases z) with z | z
                                · obtain ⟨u, hu⟩ := f0dom c m; rw [hu] at z; cases z
                                · cases z
                            have n15 := n12.drop.trans n5
                            have nAll : Nx F F5 H (upd H5 lw (.lst (xs ++ [yv]))) f0 f6 := ⟨n15.ff, fun c u e m => keepNot c u (fun z => m (z ▸ lwf)) (n12.keep c u e), fun c h h' => .inl ((n15.nw c h h').resolve_right fun m => nomatch m), fun c m => by
                              rcases f6in c m with m | m
                              · exact .inl m
                              · exact (n15.fr c m).elim (fun m => nomatch m) .inr, n5.le.upd_own (f5N lw lwf)⟩
                            have nd6 : f6.Nodup := (p6.nodup_iff).mp (by
                              refine List.nodup_append.mpr ⟨d1, List.nodup_cons.mpr ⟨fun m => (List.mem_append.mp m).elim lwN lwg, List.nodup_append.mpr ⟨(List.nodup_cons.mp d2).2, nd5, fun c m d m' z => gf0 d m' (z ▸ h3.mem_iff.mp (List.mem_append_right _ (List.mem_cons_of_mem _ m)))⟩⟩, fun c m d m' z => ?_⟩
                              rcases List.mem_cons.mp m' with rfl | m'
                              · exact d3 c m _ (List.mem_cons_self ..) z
                              · rcases List.mem_append.mp m' with m' | m'
                                · exact d3 c m d (List.mem_cons_of_mem _ m') z
                                · exact gf0 d m' (z ▸ h3.mem_iff.mp (List.mem_append_left _ m)))
                            obtain ⟨fp', s', n'⟩ := cont F5 _ _ f6 nAll q6 nd6 fun c m => (f6in c m).elim (f5N c) (fr5 c)
                            exact p σ F5 _ ⟨fp', n', s'⟩
                          · exact p.elim
                  | _ => simp only at p; exact p.elim
                | none =>
                  simp only [eg] at p
                  obtain ⟨fa, H3, ef0, h1, h2, h3⟩ := tab_more le2 qv2 ok rk eg hz' (.ref q)
                  have aN : a ∉ fa := by rw [ef0] at nd0; exact (List.nodup_cons.mp nd0).1
                  have af0 : a ∈ f0 := by rw [ef0]; exact List.mem_cons_self ..
                  have aq : a ≠ q := nd0' a af0
                  have q3 : H3 q = some (.lst []) := by rw [h2 q aq.symm, upd_same]
                  have leH3 : Le F1 H3 := fun c u e => by
                    rw [h2 c fun z => by rw [z, fN a af0] at e; cases e]
                    exact le2 c u e
                  -- the state behind setdefault
                  have own3 := h3 F1 H3 (.lst []) [q] (Le.refl F1) (fun _ _ _ e => e) aN (.lst q3 .nil)
                  have nq : ∀ c ∈ f0 ++ [q], F1 c = none := fun c m => by
                    rcases List.mem_append.mp m with m | m
                    · exact fN c m
                    · rw [List.mem_singleton.mp m]; exact n1.le.noneOf hq
                  have n3 : Nx F F1 H H3 f0 (f0 ++ [q]) := by
                    refine ⟨n1.ff, fun c u e m => by rw [h2 c fun z => m (z ▸ af0)]; exact n12.keep c u e, fun c h h' => .inl ((n12.nw c h h').resolve_right fun m => nomatch m), fun c m => ?_, leH3⟩
                    rcases List.mem_append.mp m with m | m
                    · exact .inl m
                    · rw [List.mem_singleton.mp m]
                      cases e : H q with
                      | none => exact .inr rfl
                      | some u => rw [n1.keep q u e] at hq; cases hq
                  have ndq : (f0 ++ [q]).Nodup := List.nodup_append.mpr ⟨nd0, by simp, fun c m d m' => by rw [List.mem_singleton.mp m']; exact nd0' c m⟩
                  have ef3 : a :: (fa ++ [q]) = f0 ++ [q] := by rw [ef0]; rfl
                  obtain ⟨fp3, s3, n3'⟩ := cont F1 H3 _ (f0 ++ [q]) n3 (ef3 ▸ own3) ndq nq
                  refine .inr ⟨H3, hK ▸ hP ▸ hw ▸ h1, .inl (.inl ⟨rfl, _, SqL.of q3⟩), F1, B, L, _, fp3, s3, ?_⟩
                  cases em : me (en.put i .here (.dct b (l ++ [(kd, .lst [])]))) with
                  | stuck => rw [em] at p; exact p.elim
                  | exc x e => rw [em] at p; exact EPost.after n3' p
                  | ok xr =>
                    rw [em] at p
                    simp only at p
                    cases xr with
                    | bor o => exact p.elim
                    | own x =>
                      simp only at p
                      intro yv F5 H5 r5
                      obtain ⟨g, n5, q5, nd5, fr5⟩ := r5
                      refine ⟨q, [], yv, rfl, rfl, n5.keep _ _ q3, by decide, ?_⟩
                      have f0dom : ∀ c ∈ f0 ++ [q], ∃ u, H3 c = some u := fun c m => (ef3 ▸ own3).dom c m
                      have gf : ∀ c ∈ g, c ∉ f0 ++ [q] := fun c m m' => by
                        obtain ⟨u, hu⟩ := f0dom c m'
                        rcases n5.fr c m with z | z
                        · cases z
                        · rw [z] at hu; cases hu
                      have qg : q ∉ g := fun m => gf q m (List.mem_append_right _ (by simp))
                      have own6 := h3 F5 (upd H5 q (.lst ([] ++ [yv]))) (.lst [x]) (q :: g) n5.ff (fun c u m e => (upd_ne (show c ≠ q from fun z => nd0' c (by rw [ef0]; exact m) z)).trans (n5.keep c u e)) aN
                        (.lst upd_same (.one (q5.le (Le.refl F5) fun c u m e => (upd_ne (show c ≠ q from fun z => qg (z ▸ m))).trans e)))
                      have ef6 : a :: (fa ++ q :: g) = (f0 ++ [q]) ++ g := by rw [ef0]; simp
                      have f5N : ∀ c ∈ f0 ++ [q], F5 c = none := fun c m => by
                        cases e : F5 c with
                        | none => rfl
                        | some u =>
                          rcases n5.nw c (nq c m) (by rw [e]; exact fun z => by cases z) with z | z
                          · obtain ⟨u, hu⟩ := f0dom c m; rw [hu] at z; cases z
                          · cases z
                      have n6 : Nx F F5 H (upd H5 q (.lst ([] ++ [yv]))) f0 ((f0 ++ [q]) ++ g) := by
                        have t := n3.trans (n5.wide (f0 ++ [q]))
                        refine ⟨t.ff, fun c u e m => ?_, t.nw, t.fr, n5.le.upd_own (f5N q (List.mem_append_right _ (by simp)))⟩
                        have hcq : c ≠ q := fun z => by
                          rw [z] at e
                          rw [n1.keep q u e] at hq; cases hq
                        rw [upd_ne hcq]
                        exact t.hh c u e m
                      obtain ⟨fp', s', n'⟩ := cont F5 _ _ ((f0 ++ [q]) ++ g) n6 (ef6 ▸ own6) (List.nodup_append.mpr ⟨ndq, nd5, fun c m d m' z => gf d m' (z ▸ m)⟩) fun c m => (List.mem_append.mp m).elim (f5N c) (fr5 c)
                      exact p σ F5 _ ⟨fp', n', s'⟩
              · exact p.elim
            | _ => exact p.elim
      | _ => simp only [e0] at p; exact p.elim
end
end DL

set_option maxHeartbeats 1000000
/-! EV: expressions whose parts may change what is one's own; parts are frozen -/
namespace DL
open PySem PySem.Spec L2
open PyProof.Rows hiding St

section
variable {G : CC} {W : WX} {F F' F2 B H H' H2 : Hp} {L σ : St} {en en' : En} {fp fp' : List Addr} {v : V} {d : D}
theorem XR.shI (h : XR G B L F F' H H' σ fp v (.sh d) en') : NR G B L F F' H H' σ fp en' ∧ Rep G F' v d := by
  obtain ⟨fp', f, n, s, q, nd, fr⟩ := h
  cases q with
  | sh r => exact ⟨⟨fp', n.sub fun _ m => List.mem_append_left _ m, s⟩, r⟩
theorem XR.ofS (h : NR G B L F F' H H' σ fp en') (r : Rep G F' v d) : XR G B L F F' H H' σ fp v (.sh d) en' := by
  obtain ⟨fp', n, s⟩ := h
  exact XR.after n (.shared s r)
end
section
variable (G : CC) (W : WX)
def DPost (F B : Hp) (L : St) (H : Hp) (σ : St) (fp : List Addr) (Q : VK) : Res (D × En) → Prop
  | .ok r => ∀ v F' H', NR G B L F F' H H' σ fp r.2 → Rep G F' v r.1 → Q v H'
  | .exc x en' => EPost G W F B L H fp x en'
  | .stuck => False
/-- an expression that may change what is one's own; its thing is frozen -/
def tXD (m : En → Res (D × En)) : TE := fun σ H Q => ∃ F B L en fp, SRep G F B H L σ en fp ∧ DPost G W F B L H σ fp Q (m en)
def AXPost (F B : Hp) (L : St) (H : Hp) (σ : St) (fp : List Addr) (Q : List V → Hp → Prop) : Res (List D × En) → Prop
  | .ok r => ∀ vs F' H', NR G B L F F' H H' σ fp r.2 → Reps G F' vs r.1 → Q vs H'
  | .exc x en' => EPost G W F B L H fp x en'
  | .stuck => False
def tAX (m : En → Res (List D × En)) : TA := fun σ H Q => ∃ F B L en fp, SRep G F B H L σ en fp ∧ AXPost G W F B L H σ fp Q (m en)
end
/-- a frozen thing, as a thing -/
def mUp (m : En → Res (D × En)) (en : En) : Res (O × En) := (m en).bnd fun r => .ok (.sh r.1, r.2)
def mDat (m : En → Res (O × En)) (en : En) : Res (D × En) := (m en).bnd fun r => .ok (r.1.fz, r.2)
/-- a pure expression, its thing frozen -/
def mDatP (m : En → Res R) (en : En) : Res (D × En) := (m en).bnd fun r => match r with
  | .own o => .ok (o.fz, en)
  | .bor _ => .stuck
section
variable {X : Cx} {G : CC} {W : WX} {e : Expr} {es : List Expr}
theorem dd_of {m : En → Res (O × En)} (h : PE X e (tX G W m)) : PE X e (tXD G W (mDat m)) := (dx_fzX h).imp fun σ H Q h => by
  obtain ⟨F, B, L, en, fp, s, p⟩ := h
  refine ⟨F, B, L, en, fp, s, ?_⟩
  unfold mDat at p
  unfold mFzX
  cases ea : m en with
  | stuck => rw [ea] at p; exact p.elim
  | exc x e => rw [ea] at p; exact p
  | ok r => rw [ea] at p; exact fun v F1 H1 r1 => p v F1 H1 r1.shI.1 r1.shI.2
theorem dd_pure {m : En → Res R} (h : PE X e (tD G W m)) : PE X e (tXD G W (mDatP m)) := (dp_fzO h).imp fun σ H Q h => by
  obtain ⟨F, B, L, en, fp, s, p⟩ := h
  refine ⟨F, B, L, en, fp, s, ?_⟩
  unfold mDatP at p
  unfold mFzO
  cases ea : m en with
  | stuck => rw [ea] at p; exact p.elim
  | exc x e => rw [ea] at p; exact p
  | ok r =>
    rw [ea] at p
    cases r with
    | bor o => exact p.elim
    | own o =>
      intro v F1 H1 r1
      have n1 := r1.nx
      obtain ⟨f, q⟩ := r1.has
      exact p v F1 H1 (Nx.toN s n1) q.repOf
theorem dd_x {m : En → Res (D × En)} (h : PE X e (tXD G W m)) : PE X e (tX G W (mUp m)) := h.imp fun σ H Q h => by
  obtain ⟨F, B, L, en, fp, s, p⟩ := h
  refine ⟨F, B, L, en, fp, s, ?_⟩
  unfold mUp at p
  cases ea : m en with
  | stuck => rw [ea] at p; exact p.elim
  | exc x e => rw [ea] at p; exact p
  | ok r => rw [ea] at p; exact fun v F1 H1 n r1 => p v F1 H1 (.ofS n r1)
/-! ### arguments -/
def mNilX (en : En) : Res (List D × En) := .ok ([], en)
def mConsX (m : En → Res (D × En)) (ms : En → Res (List D × En)) (en : En) : Res (List D × En) := (m en).bnd fun r => (ms r.2).bnd fun q => .ok (r.1 :: q.1, q.2)
theorem dax_nil : PA X [] (tAX G W mNilX) := pa_nil.imp fun σ H Q h => by
  obtain ⟨F, B, L, en, fp, s, p⟩ := h
  exact p [] F H (NR.refl s) .nil
theorem dax_cons {m : En → Res (D × En)} {ms : En → Res (List D × En)} (h : PE X e (tXD G W m)) (hs : PA X es (tAX G W ms)) (he : starEach (e :: es) X.env = (false, eval e X.env) :: starEach es X.env := by rfl) : PA X (e :: es) (tAX G W (mConsX m ms)) :=
  (pa_cons h hs he).imp fun σ H Q h => by
    obtain ⟨F, B, L, en, fp, s, p⟩ := h
    refine ⟨F, B, L, en, fp, s, ?_⟩
    unfold mConsX at p
    cases ea : m en with
    | stuck => rw [ea] at p; exact p.elim
    | exc x e => rw [ea] at p; exact p
    | ok a =>
      rw [ea] at p
      rintro x F1 H1 ⟨fp1, n1, s1⟩ r1
      refine ⟨F1, B, L, a.2, fp1, s1, ?_⟩
      simp only [Res.bnd] at p
      cases el : ms a.2 with
      | stuck => rw [el] at p; exact p.elim
      | exc x e => rw [el] at p; exact EPost.after n1 p
      | ok rs =>
        rw [el] at p
        simp only [Res.bnd] at p
        intro vs F2 H2 n2 r2
        obtain ⟨fp2, n2, s2⟩ := n2
        exact p (x :: vs) F2 H2 (NR.after n1 ⟨fp2, n2, s2⟩) (.cons (r1.le n2.ff) r2)
/-! ### two parts, a pure operation behind them -/
/-- of what a pure operation hands: one's own -/
def ownO : Option R → En → Res (O × En)
  | some (.own o), en => .ok (o, en)
  | _, _ => .stuck
theorem vpost_own {F B H : Hp} {L σ : St} {en : En} {fp : List Addr} (s : SRep G F B H L σ en fp) {F₀ H₀ : Hp} {fp₀ : List Addr} (n : Nx F₀ F H₀ H fp₀ fp) {Q : VK} {z : Option R} (p : XPost G W F₀ B L H₀ σ fp₀ Q (ownO z en)) : VPost G F H Q z := by
  cases z with
  | none => exact p.elim
  | some r =>
    cases r with
    | bor o => exact p.elim
    | own o => exact fun v F1 H1 r1 => p v F1 H1 (XR.after n (r1.toX s))
def mOpX (m : O → O → Option R) (ma mb : En → Res (D × En)) (en : En) : Res (O × En) := (ma en).bnd fun a => (mb a.2).bnd fun b => ownO (m (.sh a.1) (.sh b.1)) b.2
def mUnX (m : O → Option R) (ma : En → Res (D × En)) (en : En) : Res (O × En) := (ma en).bnd fun a => ownO (m (.sh a.1)) a.2
variable {ma mb : En → Res (D × En)} {σ : St} {H : Hp} {Q : VK}
theorem tOp_X {r : R2} {m : O → O → Option R} (hd : OpD G r m) (h : tX G W (mOpX m ma mb) σ H Q) : tOp r (tXD G W ma) (tXD G W mb) σ H Q := by
  obtain ⟨F, B, L, en, fp, s, p⟩ := h
  refine ⟨F, B, L, en, fp, s, ?_⟩
  unfold mOpX at p
  cases ea : ma en with
  | stuck => rw [ea] at p; exact p.elim
  | exc x e => rw [ea] at p; exact p
  | ok a =>
    rw [ea] at p
    rintro x F1 H1 ⟨fp1, n1, s1⟩ r1
    refine ⟨F1, B, L, a.2, fp1, s1, ?_⟩
    simp only [Res.bnd] at p
    cases el : mb a.2 with
    | stuck => rw [el] at p; exact p.elim
    | exc x e => rw [el] at p; exact EPost.after n1 p
    | ok b =>
      rw [el] at p
      rintro y F2 H2 ⟨fp2, n2, s2⟩ r2
      exact hd F2 H2 x y _ _ [] [] Q s2.lf (.sh (r1.le n2.ff)) (.sh r2) (vpost_own s2 (n1.trans n2) p)
theorem tUn_X {r : V → Hp → VK → Prop} {m : O → Option R} (hd : UnD G r m) (h : tX G W (mUnX m ma) σ H Q) : tUn r (tXD G W ma) σ H Q := by
  obtain ⟨F, B, L, en, fp, s, p⟩ := h
  refine ⟨F, B, L, en, fp, s, ?_⟩
  unfold mUnX at p
  cases ea : ma en with
  | stuck => rw [ea] at p; exact p.elim
  | exc x e => rw [ea] at p; exact p
  | ok a =>
    rw [ea] at p
    rintro x F1 H1 ⟨fp1, n1, s1⟩ r1
    exact hd F1 H1 x _ [] Q s1.lf (.sh r1) (vpost_own s1 n1 p)
variable {a b c : Expr} {pos : Pos}
theorem dx_op {op : Operator} {r : R2} {m : O → O → Option R} (ho : OpR X (binaryOp op) r) (hd : OpD G r m) (ha : PE X a (tXD G W ma)) (hb : PE X b (tXD G W mb)) : PE X (.BinOp a op b pos) (tX G W (mOpX m ma mb)) :=
  (pe_op ho ha hb).imp fun _ _ _ h => tOp_X hd h
theorem dx_un {op : UnaryOp} {r : V → Hp → VK → Prop} {m : O → Option R} (ho : UnR X (unaryOp op) r) (hd : UnD G r m) (ha : PE X a (tXD G W ma)) : PE X (.UnaryOp op a pos) (tX G W (mUnX m ma)) :=
  (pe_un ho ha).imp fun _ _ _ h => tUn_X hd h
theorem dx_cmp {op : CmpOp} {r : R2} {m : O → O → Option R} (ho : OpR X (compareOp op) r) (hd : OpD G r m) (ha : PE X a (tXD G W ma)) (hb : PE X b (tXD G W mb)) (hm : behindInMarks op b = false) : PE X (.Compare a [op] [b] pos) (tX G W (mOpX m ma mb)) :=
  (pe_cmpR ho ha hb hm).imp fun _ _ _ h => tOp_X hd h
theorem dx_ix {r : R2} {m : O → O → Option R} (hi : IxR X r) (hd : OpD G r m) (ha : PE X a (tXD G W ma)) (hb : PE X b (tXD G W mb)) (hs : PlainIx b := by exact fun _ _ => rfl) : PE X (.Subscript a b pos) (tX G W (mOpX m ma mb)) :=
  (pe_ix hi ha hb hs).imp fun _ _ _ h => tOp_X hd h
/-- x[e], x a slot that stays, e may change others -/
def mIxNX (m : O → O → Option R) (i : Nat) (mb : En → Res (D × En)) (en : En) : Res (O × En) := (mName i en).bnd fun _ => (mb en).bnd fun b => (mName i b.2).bnd fun a => ownO (m a.o (.sh b.1)) b.2
theorem mName_ok {F B : Hp} {L : St} {en : En} {fp : List Addr} (s : SRep G F B H L σ en fp) {i : Nat} {r : R} (e : mName i en = .ok r) : ∃ v f, σ[i]? = some (some v) ∧ Own G F H v r.o f := by
  have e2 : (en[i]?).bind Sl.look = some r := by
    unfold mName at e
    cases e1 : en[i]? with
    | none => rw [e1] at e; cases e
    | some z =>
      rw [e1] at e
      simp only at e
      cases e3 : z.look with
      | none => rw [e3] at e; cases e
      | some q => rw [e3] at e; cases e; exact e3
  obtain ⟨v, hv, h⟩ := s.sl.get s.lb e2
  rcases h with ⟨d, rfl, q⟩ | ⟨o, f, rfl, q⟩
  · exact ⟨v, [], hv, .sh q⟩
  · exact ⟨v, f, hv, q⟩
theorem dx_ixN (i : Nat) {x : Str} {np : Pos} {r : R2} {m : O → O → Option R} (hi : IxR X r) (hd : OpD G r m) (hb : PE X b (tXD G W mb)) (hN : X.N[i]? = some x := by rfl) (hv : Vis X.env.scope x := by first | exact Or.inl rfl | exact Or.inr (Or.inl rfl) | exact Or.inr (Or.inr rfl)) (hdd : (x == ("__debug__" : Str)) = false := by decide)
    (hcd : (x == ("__classdict__" : Str)) = false := by decide) (hs : PlainIx b := by exact fun _ _ => rfl) : PE X (.Subscript (.Name x np) b pos) (tX G W (mIxNX m i mb)) :=
  (pe_ix hi (pe_var hN hv hdd hcd) hb hs).imp fun σ H Q h => by
    obtain ⟨F, B, L, en, fp, s, p⟩ := h
    unfold mIxNX at p
    cases e0 : mName i en with
    | stuck => rw [e0] at p; exact p.elim
    | exc x e => unfold mName at e0; split at e0 <;> first | cases e0 | (split at e0 <;> cases e0)
    | ok r0 =>
      rw [e0] at p
      simp only [Res.bnd] at p
      obtain ⟨v0, f0, hv0, _⟩ := mName_ok s e0
      refine ⟨v0, hv0, F, B, L, en, fp, s, ?_⟩
      cases ea : mb en with
      | stuck => rw [ea] at p; exact p.elim
      | exc x e => rw [ea] at p; exact p
      | ok q =>
        rw [ea] at p
        simp only [Res.bnd] at p
        rintro y F1 H1 ⟨fp1, n1, s1⟩ r1
        cases e1 : mName i q.2 with
        | stuck => rw [e1] at p; exact p.elim
        | exc x e => unfold mName at e1; split at e1 <;> first | cases e1 | (split at e1 <;> cases e1)
        | ok r2 =>
          rw [e1] at p
          obtain ⟨v1, f1, hv1, q1⟩ := mName_ok s1 e1
          rw [hv0] at hv1
          cases hv1
          exact hd F1 H1 v0 y _ _ f1 [] Q s1.lf q1 (.sh r1) (vpost_own s1 n1 p)
/-! ### tests -/
def mTstX (m : En → Res (D × En)) (en : En) : Res (Bool × En) := (m en).bnd fun r => match r.1 with
  | .bl b => .ok (b, r.2)
  | _ => .stuck
theorem tTest_X {m : En → Res (D × En)} {Q : Bool → Hp → Prop} (h : tY G W (mTstX m) σ H Q) : tTest (tXD G W m) σ H Q := by
  obtain ⟨F, B, L, en, fp, s, p⟩ := h
  refine ⟨F, B, L, en, fp, s, ?_⟩
  unfold mTstX at p
  cases e : m en with
  | stuck => rw [e] at p; exact p.elim
  | exc x e' => rw [e] at p; exact p
  | ok r =>
    rw [e] at p
    simp only [Res.bnd] at p
    obtain ⟨d, en1⟩ := r
    intro v F1 H1 n r1
    cases d with
    | bl b =>
      cases r1
      exact ⟨b, rfl, p F1 H1 n⟩
    | _ => exact p.elim
theorem dy_val {m : En → Res (D × En)} (ha : PE X a (tXD G W m)) (he : ∀ whole, isTrue a X.env whole = (do let v ← whole; standAt a.pos; holding [v] (truthy v)) := by intro _; rfl) : PT X a (tY G W (mTstX m)) :=
  (pt_val ha he).imp fun _ _ _ h => tTest_X h
def mUpY (m : En → Res Bool) (en : En) : Res (Bool × En) := (m en).bnd fun b => .ok (b, en)
theorem tUpY {m : En → Res Bool} {Q : Bool → Hp → Prop} (h : tY G W (mUpY m) σ H Q) : tT G W m σ H Q := by
  obtain ⟨F, B, L, en, fp, s, p⟩ := h
  refine ⟨F, B, L, en, fp, s, ?_⟩
  unfold mUpY at p
  cases e : m en with
  | stuck => rw [e] at p; exact p.elim
  | exc x e' => rw [e] at p; exact p
  | ok r => rw [e] at p; exact fun F1 H1 n => p F1 H1 (Nx.toN s n)
theorem dy_of {m : En → Res Bool} (h : PT X a (tT G W m)) : PT X a (tY G W (mUpY m)) := h.imp fun _ _ _ h => tUpY h
theorem dwy_of {m : En → Res Bool} (h : PW X a (tT G W m)) : PW X a (tY G W (mUpY m)) := h.imp fun _ _ _ h => tUpY h
def mAndY (ma mb : En → Res (Bool × En)) (en : En) : Res (Bool × En) := (ma en).bnd fun a => if a.1 then mb a.2 else .ok (false, a.2)
def mOrY (ma mb : En → Res (Bool × En)) (en : En) : Res (Bool × En) := (ma en).bnd fun a => if a.1 then .ok (true, a.2) else mb a.2
def mNotY (ma : En → Res (Bool × En)) (en : En) : Res (Bool × En) := (ma en).bnd fun a => .ok (!a.1, a.2)
theorem YPost.after {F F' B H H' : Hp} {L : St} {fp fp' : List Addr} {Q : Bool → Hp → Prop} (n : Nx F F' H H' fp fp') : ∀ {r : Res (Bool × En)}, YPost G W F B L H σ fp Q r → YPost G W F' B L H' σ fp' Q r
  | .ok _, h => fun F2 H2 z => h F2 H2 (NR.after n z)
  | .exc _ _, h => EPost.after n h
  | .stuck, h => h
theorem XPost.after {F F' B H H' : Hp} {L : St} {fp fp' : List Addr} (n : Nx F F' H H' fp fp') : ∀ {r : Res (O × En)}, XPost G W F B L H σ fp Q r → XPost G W F' B L H' σ fp' Q r
  | .ok _, h => fun v F2 H2 z => h v F2 H2 (XR.after n z)
  | .exc _ _, h => EPost.after n h
  | .stuck, h => h
variable {na nb : En → Res (Bool × En)} {rest : List Expr}
theorem dy_and (ha : PT X a (tY G W na)) (hb : PW X (.BoolOp .And (b :: rest) pos) (tY G W nb)) : PW X (.BoolOp .And (a :: b :: rest) pos) (tY G W (mAndY na nb)) :=
  (pw_and ha hb).imp fun σ H Q h => by
    obtain ⟨F, B, L, en, fp, s, p⟩ := h
    refine ⟨F, B, L, en, fp, s, ?_⟩
    unfold mAndY at p
    cases e : na en with
    | stuck => rw [e] at p; exact p.elim
    | exc x e' => rw [e] at p; exact p
    | ok k =>
      rw [e] at p
      rintro F1 H1 ⟨fp1, n1, s1⟩
      obtain ⟨k, en1⟩ := k
      cases k with
      | true => exact ⟨F1, B, L, en1, fp1, s1, YPost.after n1 p⟩
      | false => exact p F1 H1 ⟨fp1, n1, s1⟩
theorem dy_or (ha : PT X a (tY G W na)) (hb : PW X (.BoolOp .Or (b :: rest) pos) (tY G W nb)) : PW X (.BoolOp .Or (a :: b :: rest) pos) (tY G W (mOrY na nb)) :=
  (pw_or ha hb).imp fun σ H Q h => by
    obtain ⟨F, B, L, en, fp, s, p⟩ := h
    refine ⟨F, B, L, en, fp, s, ?_⟩
    unfold mOrY at p
    cases e : na en with
    | stuck => rw [e] at p; exact p.elim
    | exc x e' => rw [e] at p; exact p
    | ok k =>
      rw [e] at p
      rintro F1 H1 ⟨fp1, n1, s1⟩
      obtain ⟨k, en1⟩ := k
      cases k with
      | true => exact p F1 H1 ⟨fp1, n1, s1⟩
      | false => exact ⟨F1, B, L, en1, fp1, s1, YPost.after n1 p⟩
theorem dy_not (ha : PT X a (tY G W na)) : PT X (.UnaryOp .Not a pos) (tY G W (mNotY na)) :=
  (pt_not ha).imp fun σ H Q h => by
    obtain ⟨F, B, L, en, fp, s, p⟩ := h
    refine ⟨F, B, L, en, fp, s, ?_⟩
    unfold mNotY at p
    cases e : na en with
    | stuck => rw [e] at p; exact p.elim
    | exc x e' => rw [e] at p; exact p
    | ok k => rw [e] at p; exact p
/-- a if t else b -/
def mIfX (t : En → Res (Bool × En)) (ma mb : En → Res (O × En)) (en : En) : Res (O × En) := (t en).bnd fun k => if k.1 then ma k.2 else mb k.2
theorem dx_if {m m' : En → Res (O × En)} (hc : PT X c (tY G W na)) (ha : PE X a (tX G W m)) (hb : PE X b (tX G W m')) : PE X (.IfExp c a b pos) (tX G W (mIfX na m m')) :=
  (pe_ifExp hc ha hb).imp fun σ H Q h => by
    obtain ⟨F, B, L, en, fp, s, p⟩ := h
    refine ⟨F, B, L, en, fp, s, ?_⟩
    unfold mIfX at p
    cases e : na en with
    | stuck => rw [e] at p; exact p.elim
    | exc x e' => rw [e] at p; exact p
    | ok k =>
      rw [e] at p
      rintro F1 H1 ⟨fp1, n1, s1⟩
      obtain ⟨k, en1⟩ := k
      cases k with
      | true => exact ⟨F1, B, L, en1, fp1, s1, XPost.after n1 p⟩
      | false => exact ⟨F1, B, L, en1, fp1, s1, XPost.after n1 p⟩
end
/-! ### calls, displays -/
section
variable {X : Cx} {G : CC} {W : WX} {e : Expr} {es : List Expr} {pos : Pos} {ms : En → Res (List D × En)} {σ : St} {H : Hp} {Q : VK}
def mCallX (m : List O → Option R) (ms : En → Res (List D × En)) (en : En) : Res (O × En) := (ms en).bnd fun q => ownO (m (q.1.map .sh)) q.2
theorem tCB_X {r : List V → Hp → VK → Prop} {m : List O → Option R} (hd : CallD G r m) (h : tX G W (mCallX m ms) σ H Q) : tCB r (tAX G W ms) σ H Q := by
  obtain ⟨F, B, L, en, fp, s, p⟩ := h
  refine ⟨F, B, L, en, fp, s, ?_⟩
  unfold mCallX at p
  cases ea : ms en with
  | stuck => rw [ea] at p; exact p.elim
  | exc x e => rw [ea] at p; exact p
  | ok rs =>
    rw [ea] at p
    rintro vs F1 H1 ⟨fp1, n1, s1⟩ r1
    exact hd F1 H1 vs _ Q s1.lf (Vws.of_reps r1) (vpost_own s1 n1 p)
theorem dx_callB {x : Str} {ids : String} {r : List V → Hp → VK → Prop} {m : List O → Option R} {p : Pos} (hc : CallR X (.builtin ids) r) (hd : CallD G r m) (hm : X.mg x = none) (hv : bootBuiltins x = some (.builtin ids)) (ha : PA X (e :: es) (tAX G W ms))
    (hg : Gl X x := by rfl) (hn : x ≠ "__name__" := by decide) (hdb : (x == ("__debug__" : Str)) = false := by decide) (he : starEach (e :: es) X.env = (false, eval e X.env) :: starEach es X.env := by rfl) (hpl : (backTo pos (starEach es X.env)).any (·.1) = false := by rfl) : PE X (.Call (.Name x p) (e :: es) [] pos) (tX G W (mCallX m ms)) :=
  (pe_callB hc hg hm hv ha hn hdb he hpl).imp fun _ _ _ h => tCB_X hd h
theorem dx_callT {x : Str} {T : String} {r : List V → Hp → VK → Prop} {m : List O → Option R} {p : Pos} (hc : CallR X (.type T) r) (hd : CallD G r m) (hm : X.mg x = none) (hv : bootBuiltins x = some (.type T)) (ha : PA X (e :: es) (tAX G W ms))
    (hg : Gl X x := by rfl) (hn : x ≠ "__name__" := by decide) (hdb : (x == ("__debug__" : Str)) = false := by decide) (he : starEach (e :: es) X.env = (false, eval e X.env) :: starEach es X.env := by rfl) (hpl : (backTo pos (starEach es X.env)).any (·.1) = false := by rfl) : PE X (.Call (.Name x p) (e :: es) [] pos) (tX G W (mCallX m ms)) :=
  (pe_callTy hc hg hm hv ha hn hdb he hpl).imp fun _ _ _ h => tCB_X hd h
def mFnX (n : Nat) (m : List O → FR) (dos : List D) (ms : En → Res (List D × En)) (en : En) : Res (O × En) := (ms en).bnd fun q => if q.1.length + dos.length = n then (match m ((q.1 ++ dos).map .sh) with
  | .ok o => .ok (o, q.2)
  | .exc x => .exc x q.2
  | .stuck => .stuck) else .stuck
theorem tCall_X {n : Nat} {m : List O → FR} {dos : List D} {dvs : List V} (hd : ∀ F, Reps G F dvs dos) (h : tX G W (mFnX n m dos ms) σ H Q) : tCallSD (spP G n m) dvs (WE W) (tAX G W ms) σ H Q := by
  obtain ⟨F, B, L, en, fp, s, p⟩ := h
  refine ⟨F, B, L, en, fp, s, ?_⟩
  unfold mFnX at p
  cases ea : ms en with
  | stuck => rw [ea] at p; exact p.elim
  | exc x e => rw [ea] at p; exact p
  | ok rs =>
    rw [ea] at p
    simp only [Res.bnd] at p
    split at p
    · rename_i hn
      rintro vs F1 H1 ⟨fp1, n1, s1⟩ r1
      have r2 := r1.append (hd F1)
      refine ⟨by rw [r2.length, List.length_append]; exact hn, F1, _, s1.lf, Vws.of_reps r2, ?_⟩
      cases em : m ((rs.1 ++ dos).map .sh) with
      | ok o => rw [em] at p; exact fun v F' H' r => p v F' H' (XR.after n1 (r.toX s1))
      | exc x => rw [em] at p; exact fun cls d F' H' n2 xr => p cls d σ F' H' (NR.after n1 (Nx.toN s1 n2)) xr
      | stuck => rw [em] at p; exact p.elim
    · exact p.elim
theorem dx_fn {k j n : Nat} {x : Str} {m : List O → FR} {dos : List D} {p : Pos} (c : Fnc X.prog X.w X.K X.mg X.base G k x n m dos) (hr : Room j X.A) (tk : Takes X W) (ha : PA X (e :: es) (tAX G W ms)) (hk : k ≤ j := by decide) (hg : Gl X x := by rfl)
    (hdb : (x == ("__debug__" : Str)) = false := by decide) (he : starEach (e :: es) X.env = (false, eval e X.env) :: starEach es X.env := by rfl) (hpl : (backTo pos (starEach es X.env)).any (·.1) = false := by rfl) :
    PE X (.Call (.Name x p) (e :: es) [] pos) (tX G W (mFnX n m dos ms)) := by
  obtain ⟨f, fd, ps, ds, dvs, F, hm, kp, b, d, hd⟩ := c.ex
  exact (pe_callSD F (hr.mono hk) hg hm kp b d (fun σ => passAt tk σ) ha hdb he hpl).imp fun _ _ _ h => tCall_X hd h
def mLstX (ms : En → Res (List D × En)) (en : En) : Res (O × En) := (ms en).bnd fun q => if q.1.length ≤ ML then .ok (.lst (q.1.map .sh), q.2) else .stuck
def mTupX (ms : En → Res (List D × En)) (en : En) : Res (O × En) := (ms en).bnd fun q => if q.1.length ≤ ML then .ok (.sh (.tup q.1), q.2) else .stuck
theorem dx_lst (h : PA X es (tAX G W ms)) : PE X (.List es pos) (tX G W (mLstX ms)) := (pe_lst h).imp fun σ H Q h => by
  obtain ⟨F, B, L, en, fp, s, p⟩ := h
  refine ⟨F, B, L, en, fp, s, ?_⟩
  unfold mLstX at p
  cases ea : ms en with
  | stuck => rw [ea] at p; exact p.elim
  | exc x e => rw [ea] at p; exact p
  | ok q =>
    rw [ea] at p
    simp only [Res.bnd] at p
    split at p
    · rename_i hz
      rintro vs F1 H1 ⟨fp1, n1, s1⟩ r1
      refine ⟨by rw [r1.length, ← ML_eq]; exact hz, fun a ha => vp_lst (G := G) (F := F1) s1.lf ha r1 ?_⟩
      exact fun v F3 H3 r3 => p v F3 H3 (XR.after n1 (r3.toX s1))
    · exact p.elim
theorem dx_tup {x1} (h : PA X es (tAX G W ms)) : PE X (.Tuple es x1 pos) (tX G W (mTupX ms)) := (pe_tup h).imp fun σ H Q h => by
  obtain ⟨F, B, L, en, fp, s, p⟩ := h
  refine ⟨F, B, L, en, fp, s, ?_⟩
  unfold mTupX at p
  cases ea : ms en with
  | stuck => rw [ea] at p; exact p.elim
  | exc x e => rw [ea] at p; exact p
  | ok q =>
    rw [ea] at p
    simp only [Res.bnd] at p
    split at p
    · rename_i hz
      rintro vs F1 H1 ⟨fp1, n1, s1⟩ r1
      refine ⟨by rw [r1.length, ← ML_eq]; exact hz, fun a ha => vp_tup (G := G) (F := F1) s1.lf ha r1 ?_⟩
      exact fun v F3 H3 r3 => p v F3 H3 (XR.after n1 (r3.toX s1))
    · exact p.elim
/-! ### ranges, methods of texts -/
variable {tg : Expr} {p : Pos}
def mRngX1 (ms : En → Res (List D × En)) (en : En) : Res (List D × En) := (ms en).bnd fun q => match q.1 with
  | [.int j] => if okR j then .ok (rangeD 0 j.toNat, q.2) else .stuck
  | _ => .stuck
def mRngX2 (ms : En → Res (List D × En)) (en : En) : Res (List D × En) := (ms en).bnd fun q => match q.1 with
  | [.int i, .int j] => if okR i && okR j then .ok (rangeD i (j - i).toNat, q.2) else .stuck
  | _ => .stuck
theorem di_rangeX1 {a : Expr} (hm : X.mg "range" = none) (ha : PA X [a] (tAX G W ms)) (hg : Gl X "range" := by rfl) (hs : starEach [a] X.env = [(false, eval a X.env)] := by rfl) : PI X tg (.Call (.Name "range" p) [a] [] pos) (tI G W (mRngX1 ms)) :=
  (pi_range1 hg hm ha hs).imp fun σ H R h => by
    obtain ⟨F, B, L, en, fp, s, p⟩ := h
    refine ⟨F, B, L, en, fp, s, ?_⟩
    unfold mRngX1 at p
    cases ea : ms en with
    | stuck => rw [ea] at p; exact p.elim
    | exc x e => rw [ea] at p; exact p
    | ok q =>
      rw [ea] at p
      simp only [Res.bnd] at p
      intro vs F1 H1 n1 r1
      split at p
      · rename_i j e
        rw [e] at r1
        split at p
        · rename_i hj
          cases r1 with
          | cons h t =>
            cases h; cases t
            exact ⟨j, rfl, (okR_lt hj).1, (okR_lt hj).2, p _ F1 H1 n1 iw_range⟩
        · exact p.elim
      · exact p.elim
theorem di_rangeX2 {a b : Expr} (hm : X.mg "range" = none) (ha : PA X [a, b] (tAX G W ms)) (hg : Gl X "range" := by rfl) (hs : starEach [a, b] X.env = [(false, eval a X.env), (false, eval b X.env)] := by rfl) (hs2 : starEach [b] X.env = [(false, eval b X.env)] := by rfl) : PI X tg (.Call (.Name "range" p) [a, b] [] pos) (tI G W (mRngX2 ms)) :=
  (pi_range2 hg hm ha hs hs2).imp fun σ H R h => by
    obtain ⟨F, B, L, en, fp, s, p⟩ := h
    refine ⟨F, B, L, en, fp, s, ?_⟩
    unfold mRngX2 at p
    cases ea : ms en with
    | stuck => rw [ea] at p; exact p.elim
    | exc x e => rw [ea] at p; exact p
    | ok q =>
      rw [ea] at p
      simp only [Res.bnd] at p
      intro vs F1 H1 n1 r1
      split at p
      · rename_i i j e
        rw [e] at r1
        split at p
        · rename_i hj
          rw [Bool.and_eq_true] at hj
          cases r1 with
          | cons h t =>
            cases h
            cases t with
            | cons h t =>
              cases h; cases t
              exact ⟨i, j, rfl, ⟨(okR_lt hj.1).1, (okR_lt hj.1).2, (okR_lt hj.2).1, (okR_lt hj.2).2⟩, p _ F1 H1 n1 iw_range⟩
        · exact p.elim
      · exact p.elim
variable {o : Expr} {ma mb : En → Res (D × En)}
def mS1X (f : List Nat → O → Option R) (ma mb : En → Res (D × En)) (en : En) : Res (O × En) := (ma en).bnd fun a => match a.1 with
  | .str s => (mb a.2).bnd fun b => ownO (f s (.sh b.1)) b.2
  | _ => .stuck
theorem tM1_X {r : V → List V → Hp → VK → Prop} {f : List Nat → O → Option R} (hd : SD1 G r f) (h : tX G W (mS1X f ma mb) σ H Q) : tM1 r (tXD G W ma) (tXD G W mb) σ H Q := by
  obtain ⟨F, B, L, en, fp, s, p⟩ := h
  refine ⟨F, B, L, en, fp, s, ?_⟩
  unfold mS1X at p
  cases ea : ma en with
  | stuck => rw [ea] at p; exact p.elim
  | exc x e => rw [ea] at p; exact p
  | ok a =>
    rw [ea] at p
    simp only [Res.bnd] at p
    obtain ⟨d, en1⟩ := a
    rintro x F1 H1 ⟨fp1, n1, s1⟩ r1
    cases d with
    | str t =>
      cases r1
      refine ⟨⟨_, rfl⟩, F1, B, L, en1, fp1, s1, ?_⟩
      simp only at p
      cases el : mb en1 with
      | stuck => rw [el] at p; exact p.elim
      | exc x e => rw [el] at p; exact EPost.after n1 p
      | ok b =>
        rw [el] at p
        rintro y F2 H2 ⟨fp2, n2, s2⟩ r2
        exact hd F2 H2 t y _ [] Q s2.lf (.sh r2) (vpost_own s2 (n1.trans n2) p)
    | _ => exact p.elim
theorem dx_join {apos pos : Pos} (ho : PE X o (tXD G W ma)) (he : PE X e (tXD G W mb)) (hK : G.K = X.K := by rfl) (hs : starEach [e] X.env = [(false, eval e X.env)] := by rfl) (hbase : attributeBase o "join" X.env (eval o X.env) = eval o X.env := by rfl) (hline : (apos.endLine == pos.line) = true := by rfl) :
    PE X (.Call (.Attribute o "join" apos) [e] [] pos) (tX G W (mS1X joinO ma mb)) := (pe_join ho he hs hbase hline).imp fun _ _ _ h => by
  have := tM1_X (joinO_ok (G := G)) h
  rw [hK] at this
  exact this
end
end DL

set_option maxHeartbeats 1000000
/-! EX: defs that change a thing that is lent to them -/
namespace DL
open PySem PySem.Spec L2
open PyProof.Rows hiding St

/-- how such a def ends: its thing, the lent one -/
inductive FL where
  | ok (o u : O) | exc (x : Ex) (u : O) | stuck
def lentAt (en : En) (j : Nat) : Option O := match en[j]? with
  | some (.lent u) => some u
  | _ => none
def SR.fl (j : Nat) : SR → FL
  | .rt o en => match lentAt en j with | some u => .ok o u | none => .stuck
  | .nx en => match lentAt en j with | some u => .ok (.sh .non) u | none => .stuck
  | .exc x en => match lentAt en j with | some u => .exc x u | none => .stuck
  | _ => .stuck
/-- its slots: the j-th parameter is lent -/
def argsL (j n : Nat) (u : O) (ds : List D) : En := (ds.map fun d => Sl.own (.sh d)).insertIdx j (.lent u) ++ List.replicate n .un
def fnL (j n : Nat) (b : En → SR) (u : O) (ds : List D) : FL := (b (argsL j n u ds)).fl j
section
variable (G : CC)
def FLPost (F H : Hp) (v : V) (f0 : List Addr) (Q : VK) (E : XK) : FL → Prop
  | .ok o u => ∀ y F' H' f' h, Nx F F' H H' f0 (f' ++ h) → Own G F' H' v u f' → Own G F' H' y o h → (f' ++ h).Nodup → (∀ a ∈ f' ++ h, F' a = none) → Q y H'
  | .exc x u => ∀ cls d F' H' f', Nx F F' H H' f0 f' → Own G F' H' v u f' → f'.Nodup → (∀ a ∈ f', F' a = none) → XRep G F' x cls d → E cls d H'
  | .stuck => False
/-- its promise: n parameters, the j-th lent -/
def spL (j n : Nat) (m : O → List D → FL) : Sp := fun vs H Q E => vs.length = n ∧ ∃ F v u f0 ws ds, vs = ws.insertIdx j v ∧ j ≤ ws.length ∧ Le F H ∧ Own G F H v u f0 ∧ f0.Nodup ∧ (∀ a ∈ f0, F a = none) ∧ Reps G F ws ds ∧ FLPost G F H v f0 Q E (m u ds)
end
section
variable {G : CC} {F F' B H H' : Hp} {v : V} {u o : O} {f : List Addr} {ws : List V} {ds : List D}
theorem slsL (q : Own G F H v u f) (n : Nat) : ∀ {j : Nat} {ws : List V} {ds : List D}, Reps G F ws ds → j ≤ ws.length →
    Sls G F B H ((List.replicate ws.length none).insertIdx j (some v) ++ List.replicate n none) ((ws.insertIdx j v).map some ++ List.replicate n none) (argsL j n u ds) f
  | 0, ws, ds, r, _ => by
    have rest : ∀ {ws : List V} {ds : List D}, Reps G F ws ds → Sls G F B H (List.replicate ws.length none ++ List.replicate n none) (ws.map some ++ List.replicate n none) ((ds.map fun d => Sl.own (.sh d)) ++ List.replicate n .un) [] := by
      intro ws ds r
      induction ws generalizing ds with
      | nil => cases r; exact sls_un F B H n
      | cons w ws ih =>
        cases r with
        | cons h t => exact Sls.own (f := []) (.sh h) (ih t)
    have := Sls.lent q (rest r)
    rw [List.append_nil] at this
    exact this
  | j + 1, _, _, .nil, h => by simp at h
  | j + 1, _, _, .cons (v := w) (d := d) h t, hj => by
    have := slsL q n (j := j) t (by simpa using hj)
    exact Sls.own (f := []) (.sh h) this
/-- the lent thing behind the body -/
theorem Sls.lentOf {L σ : St} {en : En} {fp : List Addr} (s : Sls G F B H L σ en fp) : ∀ {j : Nat} {u : O} {v : V}, lentAt en j = some u → L[j]? = some (some v) → ∃ f g, Own G F H v u f ∧ (g ++ f).Perm fp := by
  induction s with
  | nil => intro j u v e; simp [lentAt] at e
  | un _ ih =>
    intro j u v e h
    cases j with
    | zero => simp [lentAt] at e
    | succ j => exact ih (j := j) (by simpa [lentAt] using e) (by simpa using h)
  | @own _ _ f _ _ _ fp _ _ ih =>
    intro j u v e h
    cases j with
    | zero => simp [lentAt] at e
    | succ j =>
      obtain ⟨f1, g1, h1, h2⟩ := ih (j := j) (by simpa [lentAt] using e) (by simpa using h)
      exact ⟨f1, f ++ g1, h1, by rw [List.append_assoc]; exact List.Perm.append_left f h2⟩
  | @lent w o f _ _ _ fp q _ ih =>
    intro j u v e h
    cases j with
    | zero =>
      simp [lentAt] at e
      simp at h
      subst e; subst h
      exact ⟨f, fp, q, List.perm_append_comm⟩
    | succ j =>
      obtain ⟨f1, g1, h1, h2⟩ := ih (j := j) (by simpa [lentAt] using e) (by simpa using h)
      exact ⟨f1, f ++ g1, h1, by rw [List.append_assoc]; exact List.Perm.append_left f h2⟩
  | bor _ _ ih =>
    intro j u v e h
    cases j with
    | zero => simp [lentAt] at e
    | succ j => exact ih (j := j) (by simpa [lentAt] using e) (by simpa using h)
theorem insL_get {v : V} {n j m : Nat} (h : j ≤ m) : ((List.replicate m none).insertIdx j (some v) ++ List.replicate n (none : Option V))[j]? = some (some v) := by
  rw [List.getElem?_append_left (by rw [List.length_insertIdx]; simp only [List.length_replicate]; split <;> omega), List.getElem?_insertIdx_self]
  simp [h]
end
section
variable {P : Program} {w : World} {K : PySem.W.Frag} {mg : Str → Option Value} {base : Heap} {G : CC} {k n : Nat} {x : Str} {b : En → SR}
theorem fpL_body {j : Nat} {F H : Hp} {v : V} {u : O} {f0 : List Addr} {ws : List V} {ds : List D} {Q : VK} {E : XK} {N : List Str} (l : Le F H) (q : Own G F H v u f0) (nd : f0.Nodup) (fr : ∀ a ∈ f0, F a = none) (r : Reps G F ws ds) (hj : j ≤ ws.length)
    (hn : N.length - (ws.insertIdx j v).length = n) (p : FLPost G F H v f0 Q E (fnL j n b u ds)) :
    tS G (fun cls d _ H => E cls d H) b { nx := fun _ H' => Q .non H', rt := Q } (L2.start N (ws.insertIdx j v)) H := by
  unfold L2.start
  rw [hn]
  refine ⟨F, fun _ => none, _, _, f0, ⟨l, fun _ _ h => (nomatch h), slsL q n r hj, nd, fun a m => ⟨fr a m, rfl⟩⟩, ?_⟩
  have get : ∀ {F' H' : Hp} {σ' : St} {en' : En} {fp' : List Addr} {u' : O}, SRep G F' (fun _ => none) H' ((List.replicate ws.length none).insertIdx j (some v) ++ List.replicate n none) σ' en' fp' → lentAt en' j = some u' → ∃ f g, Own G F' H' v u' f ∧ (g ++ f).Perm fp' :=
    fun s e => s.sl.lentOf e (insL_get hj)
  unfold fnL at p
  generalize b (argsL j n u ds) = r at p
  cases r with
  | nx en =>
    simp only [SR.fl] at p
    cases e : lentAt en j with
    | none => rw [e] at p; exact p.elim
    | some u' =>
      rw [e] at p
      rintro σ' F' H' ⟨fp', nx, s⟩
      obtain ⟨f, g, q', pm⟩ := get s e
      have ndf := (List.nodup_append.mp ((pm.nodup_iff).mpr s.nd)).2.1
      have inn : ∀ a ∈ f, a ∈ fp' := fun a m => pm.mem_iff.mp (List.mem_append_right _ m)
      exact p .non F' H' f [] (nx.sub fun a m => inn a (by rwa [List.append_nil] at m)) q' (.sh .non) (by rw [List.append_nil]; exact ndf) fun a m => (s.df a (inn a (by rwa [List.append_nil] at m))).1
  | rt o en =>
    simp only [SR.fl] at p
    cases e : lentAt en j with
    | none => rw [e] at p; exact p.elim
    | some u' =>
      rw [e] at p
      rintro y σ' F' H' ⟨fp', h, nx, s, qo, ndh, frh⟩
      obtain ⟨f, g, q', pm⟩ := get s e
      have inn : ∀ a ∈ f, a ∈ fp' := fun a m => pm.mem_iff.mp (List.mem_append_right _ m)
      obtain ⟨d1, d2, d3⟩ := List.nodup_append.mp ndh
      have ndf := (List.nodup_append.mp ((pm.nodup_iff).mpr d1)).2.1
      refine p y F' H' f h (nx.sub fun a m => ?_) q' qo (List.nodup_append.mpr ⟨ndf, d2, fun a m b m' => d3 a (inn a m) b m'⟩) fun a m => ?_
      · exact (List.mem_append.mp m).elim (fun m => List.mem_append_left _ (inn a m)) fun m => List.mem_append_right _ m
      · exact (List.mem_append.mp m).elim (fun m => (s.df a (inn a m)).1) (frh a)
  | exc x en =>
    simp only [SR.fl] at p
    cases e : lentAt en j with
    | none => rw [e] at p; exact p.elim
    | some u' =>
      rw [e] at p
      rintro cls d σ F' H' ⟨fp', nx, s⟩ xr
      obtain ⟨f, g, q', pm⟩ := get s e
      have ndf := (List.nodup_append.mp ((pm.nodup_iff).mpr s.nd)).2.1
      have inn : ∀ a ∈ f, a ∈ fp' := fun a m => pm.mem_iff.mp (List.mem_append_right _ m)
      exact p cls d F' H' f (nx.sub inn) q' ndf (fun a m => (s.df a (inn a m)).1) xr
  | _ => exact p.elim
structure FncL (P : Program) (w : World) (K : PySem.W.Frag) (mg : Str → Option Value) (base : Heap) (G : CC) (k : Nat) (x : Str) (j n : Nat) (m : O → List D → FL) (dos : List D) : Prop where
  ex : ∃ (f : Addr) (fd : FuncData) (ps : List Str) (ds : List Value) (dvs : List V), FnOk P w K mg base (L2.CX P w) k f fd ps (spL G j n m) ∧ mg x = some (.ref f) ∧ PySem.W.keepIn K (.ref f) = true ∧ Binds K fd ps ds ∧ Vals dvs ds ∧ ∀ F, Reps G F dvs dos
/-- THE RULE of such a def -/
theorem fnL_ok (j : Nat) {qual : Str} {st : Stmt} {f : Addr} {fd : FuncData} {N ps : List Str} (F : Fun K x qual st f fd) (S : FnScope N ps (defScope st))
    (hb : ∀ (cdv : Value) (A : Around) (outer : List Env) (s : Shared) (H : Hp) (E : XK), Room k (A.deeper (envOfC qual (defScope st) s.heap.objs.size f cdv)) →
      Takes (cxOf (L2.CX P w) P w K mg base N qual (defScope st) f cdv A outer s H E) (fun cls d _ H => E cls d H) →
      PSs (cxOf (L2.CX P w) P w K mg base N qual (defScope st) f cdv A outer s H E) (defBody st) (tS G (fun cls d _ H => E cls d H) b)) :
    FnOk P w K mg base (L2.CX P w) (k + 1) f fd ps (spL G j ps.length (fnL j (N.length - ps.length) b)) := by
  refine F.okX S (fun vs H Q E h => h.1) fun cdv A outer s H vs Q E hr h => ?_
  obtain ⟨hl, F0, v, u, f0, ws, ds, rfl, hj, l, q, nd, fr, r, p⟩ := h
  exact ⟨_, hb cdv A outer s H E hr (takes_of rfl rfl rfl rfl), fpL_body l q nd fr r hj (by rw [hl]) p⟩
theorem fnL_okD (j : Nat) {qual : Str} {params : Arguments} {body : List Stmt} {scope : Scope} {dvs : List V} {f : Addr} {fd : FuncData} {N ps : List Str} (F : FunD K x qual params body scope dvs [] f fd) (S : FnScope N ps scope)
    (hb : ∀ (cdv : Value) (A : Around) (outer : List Env) (s : Shared) (H : Hp) (E : XK), Room k (A.deeper (envOfC qual scope s.heap.objs.size f cdv)) →
      Takes (cxOf (L2.CX P w) P w K mg base N qual scope f cdv A outer s H E) (fun cls d _ H => E cls d H) →
      PSs (cxOf (L2.CX P w) P w K mg base N qual scope f cdv A outer s H E) body (tS G (fun cls d _ H => E cls d H) b)) :
    FnOk P w K mg base (L2.CX P w) (k + 1) f fd ps (spL G j ps.length (fnL j (N.length - ps.length) b)) := by
  refine F.ok S (fun vs H Q E h => h.1) fun cdv A outer s H vs Q E hr h => ?_
  obtain ⟨hl, F0, v, u, f0, ws, ds, rfl, hj, l, q, nd, fr, r, p⟩ := h
  exact ⟨_, hb cdv A outer s H E hr (takes_of rfl rfl rfl rfl), fpL_body l q nd fr r hj (by rw [hl]) p⟩
theorem fncL {j : Nat} {f : Addr} {fd : FuncData} {ps : List Str} {m : O → List D → FL} (h : FnOk P w K mg base (L2.CX P w) k f fd ps (spL G j n m)) (hm : mg x = some (.ref f)) (hk : PySem.W.keepIn K (.ref f) = true) (hb : Binds K fd ps []) : FncL P w K mg base G k x j n m [] :=
  ⟨f, fd, ps, [], [], h, hm, hk, hb, .nil, fun _ => .nil⟩
theorem fncLD {j : Nat} {f : Addr} {fd : FuncData} {ps : List Str} {m : O → List D → FL} {dvs : List V} {dos : List D} (h : FnOk P w K mg base (L2.CX P w) k f fd ps (spL G j n m)) (hm : mg x = some (.ref f)) (hk : PySem.W.keepIn K (.ref f) = true)
    (hb : ∃ ds, Vals dvs ds ∧ Binds K fd ps ds) (hd : ∀ F, Reps G F dvs dos) : FncL P w K mg base G k x j n m dos := by
  obtain ⟨ds, h1, h2⟩ := hb
  exact ⟨f, fd, ps, ds, dvs, h, hm, hk, h2, h1, hd⟩
end
/-! ### arguments, one of them lent -/
section
variable (G : CC) (W : WX)
def ALPost (j i : Nat) (F B : Hp) (L : St) (H : Hp) (σ : St) (fp : List Addr) (Q : List V → Hp → Prop) : Res (List D × En) → Prop
  | .ok r => (r.2.sub i .here).isSome = true ∧ j ≤ r.1.length ∧ ∀ v vs F' H', σ[i]? = some (some v) → NR G B L F F' H H' σ fp r.2 → Reps G F' vs r.1 → Q (vs.insertIdx j v) H'
  | .exc x en' => EPost G W F B L H fp x en'
  | .stuck => False
/-- the j-th argument is slot i's thing -/
def tAL (j i : Nat) (m : En → Res (List D × En)) : TA := fun σ H Q => ∃ F B L en fp, SRep G F B H L σ en fp ∧ (en.sub i .here).isSome = true ∧ ALPost G W j i F B L H σ fp Q (m en)
end
theorem Sls.slot {G : CC} {F B H : Hp} {L σ : St} {en : En} {fp : List Addr} (s : SRep G F B H L σ en fp) {i : Nat} (h : (en.sub i .here).isSome = true) : ∃ v, σ[i]? = some (some v) := by
  obtain ⟨u, e⟩ := Option.isSome_iff_exists.mp h
  obtain ⟨v, f0, h1, _⟩ := hole_here s e
  exact ⟨v, h1⟩
section
variable {X : Cx} {G : CC} {W : WX} {e : Expr} {es : List Expr} {pos : Pos} {ms : En → Res (List D × En)} {σ : St} {H : Hp} {Q : VK} {i j : Nat}
theorem dal_here (i : Nat) {x : Str} {p : Pos} (hs : PA X es (tAX G W ms)) (hN : X.N[i]? = some x := by rfl) (hv : Vis X.env.scope x := by first | exact Or.inl rfl | exact Or.inr (Or.inl rfl) | exact Or.inr (Or.inr rfl)) (hd : (x == ("__debug__" : Str)) = false := by decide)
    (hcd : (x == ("__classdict__" : Str)) = false := by decide) (he : starEach (.Name x p :: es) X.env = (false, eval (.Name x p) X.env) :: starEach es X.env := by rfl) : PA X (.Name x p :: es) (tAL G W 0 i ms) :=
  (pa_cons (pe_var hN hv hd hcd) hs he).imp fun σ H Q h => by
    obtain ⟨F, B, L, en, fp, s, hi, p⟩ := h
    obtain ⟨v, hv⟩ := Sls.slot s hi
    refine ⟨v, hv, F, B, L, en, fp, s, ?_⟩
    cases ea : ms en with
    | stuck => rw [ea] at p; exact p.elim
    | exc x e => rw [ea] at p; exact p
    | ok r => rw [ea] at p; exact fun vs F1 H1 n r1 => p.2.2 v vs F1 H1 hv n r1
/-- an argument ahead of the lent one -/
def mConsL (i : Nat) (m : En → Res (D × En)) (ms : En → Res (List D × En)) (en : En) : Res (List D × En) := (m en).bnd fun r => if (r.2.sub i .here).isSome then (ms r.2).bnd fun q => .ok (r.1 :: q.1, q.2) else .stuck
theorem dal_cons {m : En → Res (D × En)} (h : PE X e (tXD G W m)) (hs : PA X es (tAL G W j i ms)) (he : starEach (e :: es) X.env = (false, eval e X.env) :: starEach es X.env := by rfl) : PA X (e :: es) (tAL G W (j + 1) i (mConsL i m ms)) :=
  (pa_cons h hs he).imp fun σ H Q h => by
    obtain ⟨F, B, L, en, fp, s, hi, p⟩ := h
    refine ⟨F, B, L, en, fp, s, ?_⟩
    obtain ⟨v, hv⟩ := Sls.slot s hi
    unfold mConsL at p
    cases ea : m en with
    | stuck => rw [ea] at p; exact p.elim
    | exc x e => rw [ea] at p; exact p
    | ok a =>
      rw [ea] at p
      simp only [Res.bnd] at p
      split at p
      · rename_i hi2
        rintro x F1 H1 ⟨fp1, n1, s1⟩ r1
        refine ⟨F1, B, L, a.2, fp1, s1, hi2, ?_⟩
        cases el : ms a.2 with
        | stuck => rw [el] at p; exact p.elim
        | exc x e => rw [el] at p; exact EPost.after n1 p
        | ok rs =>
          rw [el] at p
          obtain ⟨q1, q2, q3⟩ := p
          refine ⟨q1, Nat.le_of_succ_le_succ q2, fun v vs F2 H2 hv n2 r2 => ?_⟩
          obtain ⟨fp2, n2, s2⟩ := n2
          exact q3 v (x :: vs) F2 H2 hv (NR.after n1 ⟨fp2, n2, s2⟩) (.cons (r1.le n2.ff) r2)
      · exact p.elim
/-! ### calls -/
def mFnL (i j n : Nat) (m : O → List D → FL) (dos : List D) (ms : En → Res (List D × En)) (en : En) : Res (O × En) := if (en.sub i .here).isSome then (ms en).bnd fun q => match q.2.sub i .here with
  | some u => if q.1.length + dos.length + 1 = n ∧ j ≤ q.1.length then (match m u (q.1 ++ dos) with
    | .ok o u' => .ok (o, q.2.put i .here u')
    | .exc x u' => .exc x (q.2.put i .here u')
    | .stuck => .stuck) else .stuck
  | none => .stuck else .stuck
theorem insert_app {ws dvs : List V} {v : V} : ∀ {j : Nat} {ws : List V}, j ≤ ws.length → ws.insertIdx j v ++ dvs = (ws ++ dvs).insertIdx j v
  | 0, _, _ => rfl
  | j + 1, [], h => by simp at h
  | j + 1, w :: ws, h => by
    have := insert_app (dvs := dvs) (v := v) (j := j) (ws := ws) (by simpa using h)
    simp only [List.insertIdx_succ_cons, List.cons_append, this]
/-- the call, once its arguments stand -/
theorem lent_call {n : Nat} {m : O → List D → FL} {dos : List D} {dvs : List V} (hd : ∀ F, Reps G F dvs dos) {F B F₀ H₀ : Hp} {L : St} {en : En} {fp fp₀ : List Addr} (n0 : Nx F₀ F H₀ H fp₀ fp) (s : SRep G F B H L σ en fp) {u : O} (eu : en.sub i .here = some u) {v : V} (hv : σ[i]? = some (some v)) {vs : List V} {ds : List D} (r : Reps G F vs ds)
    (hn : ds.length + dos.length + 1 = n) (hj : j ≤ ds.length) (p : XPost G W F₀ B L H₀ σ fp₀ Q (match m u (ds ++ dos) with
    | .ok o u' => .ok (o, en.put i .here u')
    | .exc x u' => .exc x (en.put i .here u')
    | .stuck => .stuck)) : spL G j n m (vs.insertIdx j v ++ dvs) H Q (WE W σ) := by
  obtain ⟨w, ⟨v', h1, h2⟩, u0, f0, e0, h3, h4, h5, h6⟩ := s.holeAt eu
  obtain rfl : w = v' := h2
  rw [eu] at e0
  cases e0
  rw [hv] at h1
  cases h1
  have hl : j ≤ vs.length := by rw [r.length]; exact hj
  have r2 := r.append (hd F)
  refine ⟨?_, F, v, u, f0, vs ++ dvs, ds ++ dos, insert_app (ws := vs) (dvs := dvs) hl, by rw [List.length_append]; omega, s.lf, h3, h5, fun a m => (s.df a (h4 a m)).1, r2, ?_⟩
  · rw [insert_app (ws := vs) (dvs := dvs) hl, List.length_insertIdx, r2.length, List.length_append]
    split <;> omega
  · cases em : m u (ds ++ dos) with
    | stuck => rw [em] at p; exact p.elim
    | ok o u' =>
      rw [em] at p
      intro y F' H' f' h nx q qo nd fr
      obtain ⟨fp', s', n', nd'⟩ := h6 F' H' u' f' h [] (by rw [List.append_nil]; exact nx) (by rw [List.append_nil]; exact s.nd) (fun _ m => nomatch m) q nd fr
      rw [List.append_nil] at n'
      exact p y F' H' ⟨fp', h, n0.trans n', s', qo, nd', fun a m => fr a (List.mem_append_right _ m)⟩
    | exc x u' =>
      rw [em] at p
      intro cls d F' H' f' nx q nd fr xr
      obtain ⟨fp', s', n', _⟩ := h6 F' H' u' f' [] [] (by rw [List.append_nil, List.append_nil]; exact nx) (by rw [List.append_nil]; exact s.nd) (fun _ m => nomatch m) q (by rw [List.append_nil]; exact nd) (by rw [List.append_nil]; exact fr)
      rw [List.append_nil, List.append_nil] at n'
      exact p cls d σ F' H' ⟨fp', n0.trans n', s'⟩ xr
theorem tCallL {n : Nat} {m : O → List D → FL} {dos : List D} {dvs : List V} (hd : ∀ F, Reps G F dvs dos) (h : tX G W (mFnL i j n m dos ms) σ H Q) : tCallSD (spL G j n m) dvs (WE W) (tAL G W j i ms) σ H Q := by
  obtain ⟨F, B, L, en, fp, s, p⟩ := h
  unfold mFnL at p
  split at p
  · rename_i hi
    refine ⟨F, B, L, en, fp, s, hi, ?_⟩
    cases ea : ms en with
    | stuck => rw [ea] at p; exact p.elim
    | exc x e => rw [ea] at p; exact p
    | ok rs =>
      rw [ea] at p
      simp only [Res.bnd] at p
      cases eu : rs.2.sub i .here with
      | none => rw [eu] at p; exact p.elim
      | some u =>
        rw [eu] at p
        simp only at p
        split at p
        · rename_i hn
          refine ⟨by rw [eu]; rfl, hn.2, fun v vs F1 H1 hv n1 r1 => ?_⟩
          obtain ⟨fp1, n1, s1⟩ := n1
          exact lent_call hd n1 s1 eu hv r1 hn.1 hn.2 p
        · exact p.elim
  · exact p.elim
theorem dx_fnL (i : Nat) {k j' n : Nat} {x : Str} {m : O → List D → FL} {dos : List D} {p : Pos} (c : FncL X.prog X.w X.K X.mg X.base G k x j n m dos) (hr : Room j' X.A) (tk : Takes X W) (ha : PA X (e :: es) (tAL G W j i ms)) (hk : k ≤ j' := by decide) (hg : Gl X x := by rfl)
    (hdb : (x == ("__debug__" : Str)) = false := by decide) (he : starEach (e :: es) X.env = (false, eval e X.env) :: starEach es X.env := by rfl) (hpl : (backTo pos (starEach es X.env)).any (·.1) = false := by rfl) :
    PE X (.Call (.Name x p) (e :: es) [] pos) (tX G W (mFnL i j n m dos ms)) := by
  obtain ⟨f, fd, ps, ds, dvs, F, hm, kp, b, d, hd⟩ := c.ex
  exact (pe_callSD F (hr.mono hk) hg hm kp b d (fun σ => passAt tk σ) ha hdb he hpl).imp fun _ _ _ h => tCallL hd h
end
end DL

set_option maxHeartbeats 1000000
/-! EW: comprehensions whose parts may change what is one's own -/
namespace DL
open PySem PySem.Spec L2
open PyProof.Rows hiding St

/-- [elt for target in .. if ..]: the new list, the state behind -/
def lcX (g : O → En → Option En) (t : En → Res Bool) (elt : En → Res (O × En)) (vs : List Nat) : List D → En → Option (List O × En)
  | [], en => some ([], en)
  | d :: ds, en => match g (.sh d) en with
    | none => none
    | some en1 => match t en1 with
      | .ok true => match elt en1 with
        | .ok (o, en2) => if vs.all fun i => Sl.free? en2[i]? then (lcX g t elt vs ds (wipeE en2 vs)).map fun r => (o :: r.1, r.2) else none
        | _ => none
      | .ok false => if vs.all fun i => Sl.free? en1[i]? then lcX g t elt vs ds (wipeE en1 vs) else none
      | _ => none
def mLcX (it : En → Res (List D × En)) (vs : List Nat) (g : O → En → Option En) (t : En → Res Bool) (elt : En → Res (O × En)) (en : En) : Res (O × En) := (it en).bnd fun q => if vs.all fun i => Sl.free? q.2[i]? then (match lcX g t elt vs q.1 (wipeE q.2 vs) with
    | some r => if r.1.length ≤ ML then .ok (.lst r.1, r.2) else .stuck
    | none => .stuck) else .stuck
section
variable {G : CC} {F B H : Hp} {L σ : St} {en : En} {fp : List Addr}
theorem Sls.anyv (s : Sls G F B H L σ en fp) : ∀ {σ' : St}, σ'.length = σ.length → (∀ j : Nat, en[j]? ≠ some Sl.un → σ'[j]? = σ[j]?) → Sls G F B H L σ' en fp := by
  induction s with
  | nil => intro σ' hl _; cases σ' with | nil => exact .nil | cons _ _ => simp at hl
  | un _ ih =>
    intro σ' hl h
    cases σ' with
    | nil => simp at hl
    | cons y σ' => exact .un (ih (by simpa using hl) fun j hj => by simpa using h (j + 1) (by simpa using hj))
  | own q _ ih =>
    intro σ' hl h
    cases σ' with
    | nil => simp at hl
    | cons y σ' =>
      have e := h 0 (by simp)
      simp at e
      subst e
      exact .own q (ih (by simpa using hl) fun j hj => by simpa using h (j + 1) (by simpa using hj))
  | lent q _ ih =>
    intro σ' hl h
    cases σ' with
    | nil => simp at hl
    | cons y σ' =>
      have e := h 0 (by simp)
      simp at e
      subst e
      exact .lent q (ih (by simpa using hl) fun j hj => by simpa using h (j + 1) (by simpa using hj))
  | bor q _ ih =>
    intro σ' hl h
    cases σ' with
    | nil => simp at hl
    | cons y σ' =>
      have e := h 0 (by simp)
      simp at e
      subst e
      exact .bor q (ih (by simpa using hl) fun j hj => by simpa using h (j + 1) (by simpa using hj))
theorem wipe1_un {en : En} {i j : Nat} (h : en[j]? = some .un) : (wipe1 en i)[j]? = some .un := by
  unfold wipe1
  split
  · exact h
  · by_cases e : i = j
    · subst e
      rw [List.getElem?_set_self (List.getElem?_eq_some_iff.mp h).1]
    · rw [List.getElem?_set_ne e]; exact h
theorem wipeE_un {en : En} : ∀ {vs : List Nat} {j : Nat}, (vs.all fun i => Sl.free? en[i]?) = true → j ∈ vs → (wipeE en vs)[j]? = some .un
  | v :: vs, j, h, m => by
    rw [List.all_cons, Bool.and_eq_true] at h
    by_cases hj : j ∈ vs
    · exact wipe1_un (wipeE_un h.2 hj)
    · have e : j = v := (List.mem_cons.mp m).resolve_right hj
      subst e
      show (wipe1 (wipeE en vs) j)[j]? = some .un
      obtain ⟨y, hy, hf⟩ := Sl.free_ok (wipeE_get h.1 vs)
      unfold wipe1
      rw [hy]
      cases y with
      | lent o => simp [Sl.lent?] at hf
      | _ => simp only; rw [List.getElem?_set_self (List.getElem?_eq_some_iff.mp hy).1]
/-- what stands in slots that are forgotten does not matter -/
theorem SRep.unwipe (s : SRep G F B H L (L2.wipe σ vs) en fp) (h : ∀ j ∈ vs, en[j]? = some Sl.un) : SRep G F B H L σ en fp :=
  ⟨s.lf, s.lb, s.sl.anyv (wipe_length ..).symm fun j hj => (wipe_get fun m => hj (h j m)).symm, s.nd, s.df⟩
end
/-- a list of one's own beside the state, a thing more -/
theorem XR.addLast {G : CC} {B : Hp} {L : St} {F1 F' F2 H1 H' H2 : Hp} {σ2 : St} {fp fp1 fp2 f g : List Addr} {en2 : En} {D : Addr} {os : List O} {y : V} {o : O}
    (n1 : Nx F1 F' H1 H' fp (fp1 ++ f)) (qD : Own G F' H' (.ref D) (.lst os) f) (ndD : (fp1 ++ f).Nodup) (frD : ∀ a ∈ f, F' a = none)
    (n2 : Nx F' F2 H' H2 fp1 (fp2 ++ g)) (s2 : SRep G F2 B H2 L σ2 en2 fp2) (qy : Own G F2 H2 y o g) (nd2 : (fp2 ++ g).Nodup) (fr2 : ∀ a ∈ g, F2 a = none) (hz : os.length < ML) (hbD : B D = none) :
    ∃ acc, H2 D = some (.lst acc) ∧ acc.length < sizeLine ∧ ∃ f', Nx F1 F2 H1 (upd H2 D (.lst (acc ++ [y]))) fp (fp2 ++ f') ∧ SRep G F2 B (upd H2 D (.lst (acc ++ [y]))) L σ2 en2 fp2 ∧ Own G F2 (upd H2 D (.lst (acc ++ [y]))) (.ref D) (.lst (os ++ [o])) f' ∧ (fp2 ++ f').Nodup ∧ ∀ a ∈ f', F2 a = none := by
  cases qD with
  | @lst _ vs _ fl hD r =>
    obtain ⟨d1, d2, d3⟩ := List.nodup_append.mp ndD
    obtain ⟨e1, e2, e3⟩ := List.nodup_append.mp nd2
    have dom : ∀ a ∈ D :: fl, ∃ u, H' a = some u := (Own.lst (G := G) (F := F') hD r).dom
    have out1 : ∀ a ∈ D :: fl, a ∉ fp1 := fun a m m' => d3 a m' a m rfl
    have keep : ∀ a ∈ D :: fl, ∀ u, H' a = some u → H2 a = some u := fun a m u e => n2.hh a u e (out1 a m)
    have new : ∀ a ∈ D :: fl, a ∉ fp2 ++ g := fun a m m' => by
      rcases n2.fr a m' with z | z
      · exact out1 a m z
      · obtain ⟨u, e⟩ := dom a m; rw [e] at z; cases z
    have fr' : ∀ a ∈ D :: fl, F2 a = none := fun a m => by
      cases e : F2 a with
      | none => rfl
      | some u =>
        rcases n2.nw a (frD a m) (by rw [e]; exact fun z => by cases z) with z | z
        · obtain ⟨u, e⟩ := dom a m; rw [e] at z; cases z
        · exact (out1 a m z).elim
    have D2 := keep D (List.mem_cons_self ..) _ hD
    have nDl : D ∉ fl := (List.nodup_cons.mp d2).1
    have Dfp2 : D ∉ fp2 := fun m => new D (List.mem_cons_self ..) (List.mem_append_left _ m)
    have Dg : D ∉ g := fun m => new D (List.mem_cons_self ..) (List.mem_append_right _ m)
    refine ⟨vs, D2, by rw [r.length, ← ML_eq]; exact hz, D :: (fl ++ g), ?_, ?_, ?_, ?_, ?_⟩
    · refine ⟨n1.ff.trans n2.ff, fun a u e m => ?_, fun a h h' => ?_, fun a m => ?_, n2.le.upd_own (fr' D (List.mem_cons_self ..))⟩
      · have e1 := n1.hh a u e m
        have ne : a ≠ D := fun z => by
          rcases n1.fr D (List.mem_append_right _ (List.mem_cons_self ..)) with w | w
          · exact m (z ▸ w)
          · rw [z] at e; rw [e] at w; cases w
        rw [upd_ne ne]
        refine n2.hh a u e1 fun m' => ?_
        rcases n1.fr a (List.mem_append_left _ m') with w | w
        · exact m w
        · rw [e] at w; cases w
      · by_cases w : F' a = none
        · rcases n2.nw a w h' with z | z
          · by_cases m : a ∈ fp
            · exact .inr m
            · cases e : H1 a with
              | none => exact .inl rfl
              | some u => rw [n1.hh a u e m] at z; cases z
          · exact (n1.fr a (List.mem_append_left _ z)).symm
        · exact n1.nw a h w
      · have cases3 : a ∈ D :: fl ∨ a ∈ fp2 ++ g := by
          rcases List.mem_append.mp m with m | m
          · exact .inr (List.mem_append_left _ m)
          · rcases List.mem_cons.mp m with rfl | m
            · exact .inl (List.mem_cons_self ..)
            · rcases List.mem_append.mp m with m | m
              · exact .inl (List.mem_cons_of_mem _ m)
              · exact .inr (List.mem_append_right _ m)
        rcases cases3 with m | m
        · exact n1.fr a (List.mem_append_right _ m)
        · rcases n2.fr a m with z | z
          · exact n1.fr a (List.mem_append_left _ z)
          · by_cases mm : a ∈ fp
            · exact .inl mm
            · cases e : H1 a with
              | none => exact .inr rfl
              | some u => rw [n1.hh a u e mm] at z; cases z
    · exact ⟨s2.lf.upd_own (fr' D (List.mem_cons_self ..)), fun a u e => by
        by_cases z : a = D
        · exfalso
          subst z
          have b := s2.lb a u e
          rw [D2] at b
          rw [hbD] at e; cases e
        · rw [upd_ne z]; exact s2.lb a u e, s2.sl.le (Le.refl _) fun a u m e => by
        rw [upd_ne (show a ≠ D from fun z => Dfp2 (z ▸ m))]; exact e, s2.nd, s2.df⟩
    · refine .lst upd_same (Owns.append (r.le n2.ff fun a u m e => ?_) (.one (qy.le (Le.refl _) fun a u m e => ?_)))
      · rw [upd_ne (show a ≠ D from fun z => nDl (z ▸ m))]; exact keep a (List.mem_cons_of_mem _ m) u e
      · rw [upd_ne (show a ≠ D from fun z => Dg (z ▸ m))]; exact e
    · refine List.nodup_append.mpr ⟨e1, List.nodup_cons.mpr ⟨fun m => (List.mem_append.mp m).elim nDl Dg, List.nodup_append.mpr ⟨(List.nodup_cons.mp d2).2, e2, fun a m b m' z => new a (List.mem_cons_of_mem _ m) (List.mem_append_right _ (z ▸ m'))⟩⟩, fun a m b m' z => ?_⟩
      subst z
      rcases List.mem_cons.mp m' with rfl | m'
      · exact Dfp2 m
      · rcases List.mem_append.mp m' with m' | m'
        · exact new a (List.mem_cons_of_mem _ m') (List.mem_append_left _ m)
        · exact e3 a m a m' rfl
    · intro a m
      rcases List.mem_cons.mp m with rfl | m
      · exact fr' _ (List.mem_cons_self ..)
      · exact (List.mem_append.mp m).elim (fun m => fr' a (List.mem_cons_of_mem _ m)) (fr2 a)
section
variable {X : Cx} {G : CC} {W : WX} {elt tg iter : Expr} {ifs : List Expr} {scope : Scope} {own : List (Str × Nat)} {pos : Pos} {mi : En → Res (List D × En)} {g : O → En → Option En} {t : En → Res Bool} {me : En → Res (O × En)} {is : List Nat}
theorem lcX_cons {vs : List Nat} {en : En} {d : D} {ds : List D} {r : List O × En} (h : lcX g t me vs (d :: ds) en = some r) : ∃ en1, g (.sh d) en = some en1 ∧ ((t en1 = .ok false ∧ (vs.all fun i => Sl.free? en1[i]?) = true ∧ lcX g t me vs ds (wipeE en1 vs) = some r) ∨
    ∃ o en2 os, t en1 = .ok true ∧ me en1 = .ok (o, en2) ∧ (vs.all fun i => Sl.free? en2[i]?) = true ∧ lcX g t me vs ds (wipeE en2 vs) = some (os, r.2) ∧ r.1 = o :: os) := by
  unfold lcX at h
  cases eg : g (.sh d) en with
  | none => simp only [eg] at h; cases h
  | some en1 =>
    simp only [eg] at h
    refine ⟨en1, rfl, ?_⟩
    cases et : t en1 with
    | stuck => simp only [et] at h; cases h
    | exc _ _ => simp only [et] at h; cases h
    | ok k =>
      cases k with
      | false =>
        simp only [et] at h
        split at h
        · rename_i hf; exact .inl ⟨rfl, hf, h⟩
        · cases h
      | true =>
        simp only [et] at h
        cases ee : me en1 with
        | stuck => simp only [ee] at h; cases h
        | exc _ _ => simp only [ee] at h; cases h
        | ok q =>
          obtain ⟨o, en2⟩ := q
          simp only [ee] at h
          split at h
          · rename_i hf
            simp only [Option.map_eq_some_iff] at h
            obtain ⟨r', h1, h2⟩ := h
            subst h2
            exact .inr ⟨o, en2, r'.1, rfl, rfl, hf, h1, rfl⟩
          · cases h
/-- D, the new list, beside the state -/
def LcI (G : CC) (B : Hp) (L : St) (F1 H1 : Hp) (σ : St) (fp : List Addr) (D : Addr) (H' : Hp) (o1 : List O) (en : En) (F' : Hp) : Prop :=
  ∃ fp1 f, Nx F1 F' H1 H' fp (fp1 ++ f) ∧ SRep G F' B H' L σ en fp1 ∧ Own G F' H' (.ref D) (.lst o1) f ∧ (fp1 ++ f).Nodup ∧ ∀ a ∈ f, F' a = none
theorem LcI.move {B : Hp} {L : St} {F1 H1 : Hp} {σ : St} {fp : List Addr} {D : Addr} {H' : Hp} {o1 : List O} {F' : Hp} {fp1 f : List Addr} (n : Nx F1 F' H1 H' fp (fp1 ++ f)) (q : Own G F' H' (.ref D) (.lst o1) f) (nd : (fp1 ++ f).Nodup) (fr : ∀ a ∈ f, F' a = none)
    {F2 H2 : Hp} {fp2 : List Addr} (n2 : Nx F' F2 H' H2 fp1 fp2) {en : En} (s2 : SRep G F2 B H2 L σ en fp2) : LcI G B L F1 H1 σ fp D H2 o1 en F2 := by
  obtain ⟨d1, d2, d3⟩ := List.nodup_append.mp nd
  have out : ∀ a ∈ f, a ∉ fp1 := fun a m m' => d3 a m' a m rfl
  have out2 : ∀ a ∈ f, a ∉ fp2 := fun a m m' => by
    rcases n2.fr a m' with z | z
    · exact out a m z
    · obtain ⟨u, e⟩ := q.dom a m; rw [e] at z; cases z
  refine ⟨fp2, f, n.trans ?_, s2, q.le n2.ff fun a u m e => n2.hh a u e (out a m), List.nodup_append.mpr ⟨s2.nd, d2, fun a m b m' z => out2 b m' (z ▸ m)⟩, fun a m => ?_⟩
  · exact n2.beside f
  · cases e : F2 a with
    | none => rfl
    | some u =>
      rcases n2.nw a (fr a m) (by rw [e]; exact fun z => by cases z) with z | z
      · obtain ⟨u, e⟩ := q.dom a m; rw [e] at z; cases z
      · exact (out a m z).elim
theorem tLc_X {vs : List Nat} {σ : St} {H : Hp} {Q : VK} (hin : ∀ i ∈ is, i ∈ vs) (h : tX G W (mLcX mi vs g t me) σ H Q) : tLc (tI G W mi) (tG G is g) (tT G W0 t) (tX G W0 me) vs σ H Q := by
  obtain ⟨F, B, L, en, fp, s, p⟩ := h
  refine ⟨F, B, L, en, fp, s, ?_⟩
  unfold mLcX at p
  cases ea : mi en with
  | stuck => rw [ea] at p; exact p.elim
  | exc x e => rw [ea] at p; exact p
  | ok ds =>
    obtain ⟨ds, en0⟩ := ds
    rw [ea] at p
    simp only [Res.bnd] at p
    split at p
    · rename_i hfree
      rintro J F1 H1 ⟨fp1, n1, s1⟩ iw D hD
      cases el : lcX g t me vs ds (wipeE en0 vs) with
      | none => simp only [el] at p; exact p.elim
      | some r =>
        simp only [el] at p
        split at p
        · rename_i hz
          obtain ⟨fpw, sw, sub⟩ := s1.wipes hfree
          have hbD : B D = none := s1.lb.noneOf hD
          have nD : D ∉ fpw := fun m => by obtain ⟨u, e⟩ := sw.dom D m; rw [hD] at e; cases e
          have init : LcI G B L F1 H1 (wipe σ vs) fpw D (upd H1 D (.lst [])) [] (wipeE en0 vs) F1 := by
            have nn : Nx F1 F1 H1 (upd H1 D (.lst [])) [] [D] := Nx.newO s1.lf hD [D] fun a m => .inr (by simpa using m)
            refine ⟨fpw, [D], nn.wide fpw, sw.pure nn, .lst upd_same .nil, List.nodup_append.mpr ⟨sw.nd, by simp, fun a m b m' z => ?_⟩, fun a m => ?_⟩
            · rw [List.mem_singleton.mp m'] at z; exact nD (z ▸ m)
            · rw [List.mem_singleton.mp m]; exact s1.lf.noneOf hD
          refine ⟨fun i m H' => m = ds.length - i ∧ i ≤ ds.length ∧ ∃ F' en' o1 o2, LcI G B L F1 H1 (wipe σ vs) fpw D H' o1 en' F' ∧ (∀ j ∈ vs, en'[j]? = some Sl.un) ∧ r.1 = o1 ++ o2 ∧ lcX g t me vs (ds.drop i) en' = some (o2, r.2), ⟨ds.length, by omega, Nat.zero_le _, F1, _, [], r.1, init, fun j m => wipeE_un hfree m, rfl, by rw [List.drop_zero]; exact el⟩, ?_⟩
          rintro i m H' ⟨rfl, hi', F', en', o1, o2, ⟨fp2, f, nx, sx, qD, ndD, frD⟩, hun, eo, e2⟩
          obtain ⟨w1, w2⟩ := iw F' H' nx.ff nx.le sx.lb
          by_cases hlt : i < ds.length
          · right
            have hd : ds[i]? = some ds[i] := List.getElem?_eq_getElem hlt
            obtain ⟨go, yl⟩ := w1 i _ hd
            rw [List.drop_eq_getElem_cons hlt] at e2
            obtain ⟨en1, eg, alt⟩ := lcX_cons e2
            refine ⟨go, fun H2 => ∃ F2 en2 o1 o2, LcI G B L F1 H1 (wipe σ vs) fpw D H2 o1 en2 F2 ∧ (∀ j ∈ vs, en2[j]? = some Sl.un) ∧ r.1 = o1 ++ o2 ∧ lcX g t me vs (ds.drop (i + 1)) en2 = some (o2, r.2), fun H2 q => ⟨ds.length - (i + 1), by omega, rfl, by omega, q⟩, fun x H2 y => ?_⟩
            obtain ⟨F2, n2, rep⟩ := yl x H2 y
            have s2 := sx.pure n2
            refine ⟨F2, B, L, en', fp2, .sh ds[i], [], s2, .sh rep, by rw [List.append_nil]; exact s2.nd, fun _ m => (nomatch m), ?_⟩
            rw [eg]
            intro σ3 fp3 m3 oe s3
            have wo := wipe_out_eq oe hin
            have n23 : Nx F' F2 H' H2 fp2 fp3 := (n2.wide0 fp2).sub fun a m => by have := m3 a m; rwa [List.append_nil] at this
            refine ⟨wo, F2, B, L, en1, fp3, s3, ?_⟩
            rcases alt with ⟨et, hf, e3⟩ | ⟨o, en2, os', et, ee, hf, e3, e4⟩
            · rw [et]
              intro F4 H4 n4
              rw [if_neg Bool.false_ne_true]
              obtain ⟨fp4, s4, sub4⟩ := (s3.pure n4).wipes hf
              rw [wo] at s4
              have n24 : Nx F' F4 H' H4 fp2 fp4 := (n23.trans (n4.wide0 fp3)).sub fun a m => sub4.subset m
              exact ⟨F4, _, o1, o2, LcI.move nx qD ndD frD n24 s4, fun j m => wipeE_un hf m, eo, e3⟩
            · rw [et]
              intro F4 H4 n4
              rw [if_pos rfl]
              refine ⟨F4, B, L, en1, fp3, s3.pure n4, ?_⟩
              rw [ee]
              rintro y F5 H5 ⟨fp5, g5, n5, s5, q5, nd5, fr5⟩
              obtain ⟨fp6, s6, sub6⟩ := s5.wipes hf
              rw [wo] at s6
              obtain ⟨e1, e2', e3'⟩ := List.nodup_append.mp nd5
              have n25 : Nx F' F5 H' H5 fp2 (fp6 ++ g5) := ((n23.trans (n4.wide0 fp3)).trans n5).sub fun a m => (List.mem_append.mp m).elim (fun m => List.mem_append_left _ (sub6.subset m)) fun m => List.mem_append_right _ m
              obtain ⟨acc, h1, h2, f', x1, x2, x3, x4, x5⟩ := XR.addLast nx qD ndD frD n25 s6 q5 (List.nodup_append.mpr ⟨s6.nd, e2', fun a m b m' => e3' a (sub6.subset m) b m'⟩) fr5 (by rw [eo, List.length_append] at hz; simp only at e4; rw [e4, List.length_cons] at hz; omega) hbD
              refine ⟨acc, h1, h2, F5, _, o1 ++ [o], os', ⟨fp6, f', x1, x2, x3, x4, x5⟩, fun j m => wipeE_un hf m, by rw [eo]; simp only at e4; rw [e4, List.append_assoc]; rfl, e3⟩
          · left
            have e : i = ds.length := by omega
            subst e
            refine ⟨w2, ?_⟩
            rw [List.drop_length] at e2
            unfold lcX at e2
            cases e2
            rw [List.append_nil] at eo
            subst eo
            have nn := n1.trans (((Nx.refl s1.lf).sub fun a m => sub.subset m).trans nx)
            exact p _ F' H' ⟨fp2, f, nn, sx.unwipe hun, qD, ndD, frD⟩
        · exact p.elim
    · exact p.elim
theorem dx_lc (hN : X.N.Nodup) (hi : PI X tg iter (tI G W mi)) (ok : BlkOk X.N X.env.scope scope own)
    (hg : ∀ (s : Shared) (H : Hp) (C : Addr) (cl : List (Str × Addr)) (fp : List Addr), PG (X.blk s H scope (compEnvC scope cl C X.env) fp) tg (tG G is g))
    (ht : ∀ (s : Shared) (H : Hp) (C : Addr) (cl : List (Str × Addr)) (fp : List Addr), PTs (X.blk s H scope (compEnvC scope cl C X.env) fp) ifs (tT G W0 t))
    (he : ∀ (s : Shared) (H : Hp) (C : Addr) (cl : List (Str × Addr)) (fp : List Addr), PE (X.blk s H scope (compEnvC scope cl C X.env) fp) elt (tX G W0 me))
    (hin : ∀ i ∈ is, i ∈ own.map (·.2) := by decide) (hc : X.calm = true := by rfl) (hs : ∀ x, foldedSetIterable iter X.env x = pure x := by intro _; rfl) :
    PE X (.ListComp elt [⟨tg, iter, ifs, 0⟩] scope pos) (tX G W (mLcX mi (own.map (·.2)) g t me)) := (pe_lc hc hN hi ok hg ht he hs).imp fun _ _ _ h => tLc_X hin h
theorem ds_setLcX (i : Nat) {y : Str} {py spos : Pos} (hN : X.N.Nodup) (hi : PI X tg iter (tI G W mi)) (ok : BlkOk X.N X.env.scope scope own)
    (hg : ∀ (s : Shared) (H : Hp) (C : Addr) (cl : List (Str × Addr)) (fp : List Addr), PG (X.blk s H scope (compEnvC scope cl C X.env) fp) tg (tG G is g))
    (ht : ∀ (s : Shared) (H : Hp) (C : Addr) (cl : List (Str × Addr)) (fp : List Addr), PTs (X.blk s H scope (compEnvC scope cl C X.env) fp) ifs (tT G W0 t))
    (he : ∀ (s : Shared) (H : Hp) (C : Addr) (cl : List (Str × Addr)) (fp : List Addr), PE (X.blk s H scope (compEnvC scope cl C X.env) fp) elt (tX G W0 me))
    (hin : ∀ i ∈ is, i ∈ own.map (·.2) := by decide) (hy : X.N[i]? = some y := by rfl) (hyl : X.env.scope.names.lookup y = some .local := by rfl)
    (hsw : swapsWith (.ListComp elt [⟨tg, iter, ifs, 0⟩] scope pos) (some (.Name y py)) spos.line X.env = pure true := by exact sw_true rfl rfl rfl (by decide +kernel)) (hc : X.calm = true := by rfl) (hs : ∀ x, foldedSetIterable iter X.env x = pure x := by intro _; rfl) :
    PS X (.Assign [.Name y py] (.ListComp elt [⟨tg, iter, ifs, 0⟩] scope pos) spos) (tS G W (mSet i (mLcX mi (own.map (·.2)) g t me))) :=
  (ps_setLc hc hN hy hyl hsw hi ok hg ht he hs).imp fun D σ H h => tLc_X (Q := fun x H1 => D.nx (σ.set i (some x)) H1) hin (tSet_D h)
end
end DL

set_option maxHeartbeats 1000000
/-! EY: methods of a slot's list or dict, their arguments impure and frozen -/
namespace DL
open PySem PySem.Spec L2
open PyProof.Rows hiding St

/-- x.name(args) -/
def mPMX (T : String) (i : Nat) (ms : En → Res (List D × En)) (m : O → List O → Option (O × O)) (en : En) : Res (O × En) := match en.sub i .here with
  | some u0 => if u0.tn = T then (ms en).bnd fun q => match q.2.sub i .here with
    | some u => match m u (q.1.map .sh) with
      | some (ret, u') => .ok (ret, q.2.put i .here u')
      | none => .stuck
    | none => .stuck
    else .stuck
  | none => .stuck
section
variable {G : CC} {W : WX} {r : V → List V → Hp → VK → Prop} {m : O → List O → Option (O × O)} {ms : En → Res (List D × En)} {σ : St} {H : Hp} {Q : VK} {T : String} {i : Nat}
theorem tPMX_D (hT : T = "list" ∨ T = "dict") (hop : NOp G r m) (h : tX G W (mPMX T i ms m) σ H Q) : tMN G.K G.P G.w T r (tVar i) (tAX G W ms) σ H Q := by
  obtain ⟨F, B, L, en, fp, s, p⟩ := h
  unfold mPMX at p
  cases e0 : en.sub i .here with
  | none => simp only [e0] at p; exact p.elim
  | some u0 =>
    simp only [e0] at p
    split at p
    · rename_i et
      obtain ⟨v, f0, hv, qv, _⟩ := hole_here s e0
      refine ⟨v, hv, qv.tyN hT et, F, B, L, en, fp, s, ?_⟩
      cases em : ms en with
      | stuck => rw [em] at p; exact p.elim
      | exc x e => rw [em] at p; exact p
      | ok rs =>
        rw [em] at p
        simp only [Res.bnd] at p
        rintro vs F2 H2 ⟨fp2, n2, s2⟩ rv
        cases e1 : rs.2.sub i .here with
        | none => simp only [e1] at p; exact p.elim
        | some u =>
          simp only [e1] at p
          cases e3 : m u (rs.1.map .sh) with
          | none => simp only [e3] at p; exact p.elim
          | some ru =>
            obtain ⟨ret, u'⟩ := ru
            simp only [e3] at p
            obtain ⟨w, ⟨v', hv', (hw : w = v')⟩, hole⟩ := s2.holeAt e1
            subst hw
            rw [hv] at hv'
            cases hv'
            exact hole_op n2 s2 hole (Nx.refl s2.lf) (Owns.of_sh rv) List.nodup_nil (fun _ m => nomatch m) hop e1 e3 p
    · exact p.elim
end
section
variable {X : Cx} {G : CC} {W : WX} {r : V → List V → Hp → VK → Prop} {m : O → List O → Option (O × O)} {ms : En → Res (List D × En)} {e : Expr} {es : List Expr} {pos : Pos}
theorem dx_pmX (T : String) (i : Nat) {x : Str} {name : Str} {id : String} {apos cpos : Pos} (pa : PlainAttrs T) (slot : Slot T name id) (hty : typeOf (.builtin id) = pure (.type "method_descriptor")) (hm : MtR X id r) (hop : NOp G r m)
    (ha : PA X (e :: es) (tAX G W ms)) (hN : X.N[i]? = some x := by rfl) (hv : Vis X.env.scope x := by first | exact Or.inl rfl | exact Or.inr (Or.inl rfl) | exact Or.inr (Or.inr rfl)) (hd : (x == ("__debug__" : Str)) = false := by decide)
    (hcd : (x == ("__classdict__" : Str)) = false := by decide) (hT : T = "list" ∨ T = "dict" := by first | exact .inl rfl | exact .inr rfl) (hK : G.K = X.K := by rfl) (hP : G.P = X.prog := by rfl) (hw : G.w = X.w := by rfl)
    (hbase : attributeBase (.Name x pos) name X.env (eval (.Name x pos) X.env) = eval (.Name x pos) X.env := by rfl)
    (hfew : ((backTo cpos (starEach (e :: es) X.env)).all (fun x => !x.1) && (backToKw cpos (keywordEach [] X.env)).all (fun x => x.1.isSome)
      && decide ((e :: es).length + ([] : List Keyword).length + (if ([] : List Keyword).isEmpty then 0 else 1) < 30)) = true := by rfl)
    (hline : (apos.endLine == cpos.line) = true := by rfl) (hs : starEach (e :: es) X.env = (false, eval e X.env) :: starEach es X.env := by rfl) (hplain : (backTo cpos (starEach es X.env)).any (·.1) = false := by rfl) :
    PE X (.Call (.Attribute (.Name x pos) name apos) (e :: es) [] cpos) (tX G W (mPMX T i ms m)) :=
  (pe_mn pa slot hty hm (pe_var hN hv hd hcd) ha hbase hfew hline hs hplain).imp fun σ H Q h => by
    have z := tPMX_D hT hop h
    rw [hK, hP, hw] at z
    exact z
end
end DL

set_option maxHeartbeats 1000000
/-! SA: sets of any size: the masks, the ways within a table -/
namespace SL
open PySem PySem.Spec L2
open PyProof.Rows hiding St

/-- 1 + 5 + .. + 5 ^ (n - 1) -/
def S5 : Nat → Nat
  | 0 => 0
  | n + 1 => 5 * S5 n + 1
theorem S5_pow : ∀ n, 4 * S5 n + 1 = 5 ^ n
  | 0 => rfl
  | n + 1 => by
    have := S5_pow n
    rw [Nat.pow_succ, ← this]
    show 4 * (5 * S5 n + 1) + 1 = _
    omega
theorem S5_dbl (m : Nat) : S5 (2 * m) = S5 m * (5 ^ m + 1) := by
  have h1 := S5_pow (2 * m)
  have h2 := S5_pow m
  have h3 : (5 : Nat) ^ (2 * m) = 5 ^ m * 5 ^ m := by rw [Nat.two_mul, Nat.pow_add]
  rw [h3, ← h2] at h1
  rw [← h2]
  generalize S5 m = x at h1 ⊢
  generalize S5 (2 * m) = y at h1 ⊢
  have e1 : (4 * x + 1) * (4 * x + 1) = 4 * (x * (4 * x + 1 + 1)) + 1 := by
    rw [show x * (4 * x + 1 + 1) = x * (4 * x) + x * 1 + x * 1 from by rw [Nat.mul_add, Nat.mul_add]]
    rw [Nat.add_mul, Nat.mul_add, Nat.mul_assoc, Nat.mul_left_comm x 4 x]
    omega
  omega
theorem S5_par : ∀ n, S5 n % 2 = n % 2
  | 0 => rfl
  | n + 1 => by
    have := S5_par n
    show (5 * S5 n + 1) % 2 = _
    omega
theorem pow5_odd (m : Nat) : ∃ q, 5 ^ m + 1 = 2 * (2 * q + 1) := by
  have h2 := S5_pow m
  exact ⟨S5 m, by omega⟩
theorem odd_div {e a q : Nat} (h : 2 ^ e ∣ a * (2 * q + 1)) : 2 ^ e ∣ a := by
  refine Nat.Coprime.dvd_of_dvd_mul_right ?_ h
  refine Nat.Coprime.pow_left e ?_
  rw [Nat.coprime_iff_gcd_eq_one, Nat.gcd_rec]
  rw [show (2 * q + 1) % 2 = 1 by omega]
  rfl
theorem S5_div : ∀ (e n : Nat), 2 ^ e ∣ S5 n → 2 ^ e ∣ n
  | 0, n, _ => by rw [Nat.pow_zero]; exact Nat.one_dvd n
  | e + 1, n, h => by
    have h2 : 2 ∣ S5 n := Nat.dvd_trans ⟨2 ^ e, by rw [Nat.pow_succ, Nat.mul_comm]⟩ h
    have par := S5_par n
    have he : n % 2 = 0 := by rw [← par]; exact Nat.mod_eq_zero_of_dvd h2
    obtain ⟨m, rfl⟩ : ∃ m, n = 2 * m := ⟨n / 2, by omega⟩
    rw [S5_dbl] at h
    obtain ⟨q, eq⟩ := pow5_odd m
    rw [eq, Nat.pow_succ, Nat.mul_comm 2 (2 * q + 1), ← Nat.mul_assoc] at h
    have h3 := Nat.dvd_of_mul_dvd_mul_right (by decide) h
    have h4 := S5_div e m (odd_div h3)
    rw [Nat.pow_succ, Nat.mul_comm 2 m]
    exact Nat.mul_dvd_mul_right h4 2
/-- a mask: one less than a power of two -/
def MaskG (m : Nat) : Prop := ∃ e, 1 ≤ e ∧ m + 1 = 2 ^ e
theorem lcgI_val (m i : Nat) : ∀ k, lcgI m i k % (m + 1) = (5 ^ k * i + S5 k) % (m + 1)
  | 0 => by simp [S5, lcgI]
  | k + 1 => by
    show (lcgI m i k * 5 + 1) % (m + 1) % (m + 1) = (5 ^ (k + 1) * i + (5 * S5 k + 1)) % (m + 1)
    rw [Nat.mod_mod, Nat.add_mod, Nat.mul_mod, lcgI_val m i k, ← Nat.mul_mod, ← Nat.add_mod]
    congr 1
    rw [Nat.add_mul, Nat.pow_succ, Nat.mul_right_comm]
    omega
theorem lcgI_le {m i : Nat} (hi : i ≤ m) : ∀ k, lcgI m i k ≤ m
  | 0 => hi
  | k + 1 => Nat.le_of_lt_succ (Nat.mod_lt _ (Nat.succ_pos _))
theorem lcgI_inj {m i : Nat} (hm : MaskG m) (hi : i ≤ m) {a b : Nat} (hab : a < b) (hb : b ≤ m) : lcgI m i a ≠ lcgI m i b := by
  intro e
  obtain ⟨x, hx, em⟩ := hm
  have e1 := lcgI_val m i a
  have e2 := lcgI_val m i b
  rw [e, e2] at e1
  obtain ⟨n, rfl⟩ : ∃ n, b = a + n := ⟨b - a, by omega⟩
  -- 5 ^ (a + n) i + S (a + n) = 5 ^ a (5 ^ n i + S n) + S a
  have split : ∀ a, S5 (a + n) = 5 ^ a * S5 n + S5 a := by
    intro a
    induction a with
    | zero => rw [Nat.zero_add, Nat.pow_zero, Nat.one_mul]; rfl
    | succ a ih =>
      rw [Nat.add_right_comm]
      show 5 * S5 (a + n) + 1 = 5 ^ (a + 1) * S5 n + (5 * S5 a + 1)
      rw [ih, Nat.pow_succ, Nat.mul_add, Nat.mul_comm (5 ^ a) 5, Nat.mul_assoc]
      omega
  rw [split, Nat.pow_add] at e1
  have e3 : 5 ^ a * 5 ^ n * i + (5 ^ a * S5 n + S5 a) = (5 ^ a * i + S5 a) + 5 ^ a * ((4 * i + 1) * S5 n) := by
    rw [← S5_pow n]
    generalize 5 ^ a = p
    generalize S5 n = q
    rw [Nat.mul_add p, Nat.mul_one, Nat.add_mul (p * (4 * q)) p i, Nat.add_mul (4 * i) 1 q, Nat.one_mul, Nat.mul_add p]
    have : p * (4 * q) * i = p * (4 * i * q) := by
      rw [Nat.mul_assoc, Nat.mul_assoc, Nat.mul_assoc, Nat.mul_comm q i]
    omega
  rw [e3] at e1
  have d1 : (m + 1) ∣ 5 ^ a * ((4 * i + 1) * S5 n) := by
    have := Nat.sub_mod_eq_zero_of_mod_eq e1
    rw [Nat.add_sub_cancel_left] at this
    exact Nat.dvd_of_mod_eq_zero this
  rw [em] at d1
  have d2 : 2 ^ x ∣ (4 * i + 1) * S5 n := by
    rw [Nat.mul_comm, ← S5_pow a, show 4 * S5 a + 1 = 2 * (2 * S5 a) + 1 by omega] at d1
    exact odd_div d1
  have d3 : 2 ^ x ∣ S5 n := by
    rw [Nat.mul_comm, show 4 * i + 1 = 2 * (2 * i) + 1 by omega] at d2
    exact odd_div d2
  have d4 := S5_div x n d3
  have hn : n < 2 ^ x := by omega
  have := Nat.eq_zero_of_dvd_of_lt d4 hn
  omega
/-- from anywhere each slot is met within a round -/
theorem lcg_meets {m : Nat} (hm : MaskG m) {i j : Nat} (hi : i ≤ m) (hj : j ≤ m) : ∃ k, k ≤ m ∧ lcgI m i k = j := by
  apply Classical.byContradiction
  intro no
  have h1 : ((List.range (m + 1)).map (lcgI m i)).Nodup := by
    rw [List.nodup_iff_pairwise_ne, List.pairwise_map]
    refine List.Pairwise.imp_of_mem (fun {a b} _ hb hab => lcgI_inj hm hi hab (Nat.le_of_lt_succ (List.mem_range.mp hb))) List.pairwise_lt_range
  have h2 := nat_nodup_len (j :: (List.range (m + 1)).map (lcgI m i)) (List.range (m + 1)) (List.nodup_cons.mpr ⟨fun z => ?_, h1⟩) fun x hx => ?_
  · rw [List.length_cons, List.length_map, List.length_range] at h2
    omega
  · obtain ⟨k, hk, e⟩ := List.mem_map.mp z
    exact no ⟨k, Nat.le_of_lt_succ (List.mem_range.mp hk), e⟩
  · rcases List.mem_cons.mp hx with e | hx
    · rw [e]; exact List.mem_range.mpr (Nat.lt_succ_of_le hj)
    · obtain ⟨k, _, e⟩ := List.mem_map.mp hx
      rw [← e]; exact List.mem_range.mpr (Nat.lt_succ_of_le (lcgI_le hi k))
theorem run_meetsG {m : Nat} (hm : MaskG m) (h : Int) {j : Nat} (hj : j ≤ m) : ∃ n, n ≤ m + 12 ∧ runI m (SetTable.bits h) n = j := by
  obtain ⟨k, hk, e⟩ := lcg_meets hm (runI_le m (SetTable.bits h) 12) hj
  exact ⟨12 + k, by omega, by rw [runI_tail (bits_lt h)]; exact e⟩
theorem nth_meetsG {m : Nat} (hm : MaskG m) (h : Int) {j : Nat} (hj : j ≤ m) : ∃ k, k < 10 * SetTable.turns m ∧ way m h k = j := by
  obtain ⟨n, hn, e⟩ := run_meetsG hm h hj
  obtain ⟨k, hk, e2⟩ := run_nth m (SetTable.bits h) n
  exact ⟨k, by unfold SetTable.turns; omega, by unfold way; rw [e2]; exact e⟩
theorem way_leG {m : Nat} {h : Int} {k : Nat} : way m h k ≤ m := by
  have hi : SetTable.bits h % (m + 1) ≤ m := Nat.le_of_lt_succ (Nat.mod_lt _ (Nat.succ_pos _))
  have r := runEnd_bd hi
  have q := nth_in (m := m) k (runAt m (SetTable.bits h % (m + 1)) (SetTable.bits h)) (by
    show SetTable.bits h % (m + 1) + (SetTable.runEnd m (SetTable.bits h % (m + 1)) - SetTable.bits h % (m + 1)) ≤ m
    omega)
  unfold way
  omega
end SL

set_option maxHeartbeats 1000000
/-! SB: a table whose entries are all found again; one put in, all laid anew -/
namespace SL
open PySem PySem.Spec L2
open PyProof.Rows hiding St

structure TabG (t : SetTable) (hs : List Int) : Prop where
  ris : Ris t.place.toList
  dm : t.dummies = #[]
  sz : t.place.size = hs.length
  mok : MaskG t.mask
  bd : ∀ x ∈ t.place.toList, x ≤ t.mask
  reach : ∀ (i : Nat) (h : Int) (j : Nat), hs[i]? = some h → t.place.toList[i]? = some j → ∃ k, way t.mask h k = j ∧ ∀ k', k' < k → way t.mask h k' ∈ t.place.toList
/-- the first empty slot on a way -/
theorem TabG.first {t : SetTable} {hs : List Int} (T : TabG t hs) (hl : hs.length ≤ t.mask) (h : Int) : ∃ K, K < 10 * SetTable.turns t.mask ∧ way t.mask h K ∉ t.place.toList ∧ ∀ k, k < K → way t.mask h k ∈ t.place.toList := by
  obtain ⟨j, hj, hn⟩ := st_missing t.place.toList (t.mask + 1) (by rw [Array.length_toList, T.sz]; omega)
  obtain ⟨k, hk, e⟩ := nth_meetsG T.mok h (Nat.le_of_lt_succ hj)
  obtain ⟨K, h1, h2, h3⟩ := st_least (p := fun k => way t.mask h k ∉ t.place.toList) k (by show way t.mask h k ∉ _; rw [e]; exact hn)
  exact ⟨K, Nat.lt_of_le_of_lt h1 hk, h2, fun k' hk' => Classical.byContradiction (h3 k' hk')⟩
/-- what has the hash stands on the way before it -/
theorem TabG.before {t : SetTable} {hs : List Int} (T : TabG t hs) {h : Int} {K i j : Nat} (hK : way t.mask h K ∉ t.place.toList) (hi : hs[i]? = some h) (hj : t.place.toList[i]? = some j) : ∃ k, k < K ∧ way t.mask h k = j := by
  obtain ⟨k, e, hb⟩ := T.reach i h j hi hj
  refine ⟨k, ?_, e⟩
  rcases Nat.lt_trichotomy k K with c | c | c
  · exact c
  · rw [← c, e] at hK; exact absurd (List.mem_of_getElem? hj) hK
  · exact absurd (hb K c) hK
theorem TabG.put {t : SetTable} {hs : List Int} (T : TabG t hs) {h : Int} {K : Nat} (hK : way t.mask h K ∉ t.place.toList) (hb : ∀ k, k < K → way t.mask h k ∈ t.place.toList) :
    ∃ p t', t.put (way t.mask h K) = (t', p) ∧ p ≤ hs.length ∧ TabG t' (hs.take p ++ h :: hs.drop p) ∧ t'.mask = t.mask ∧ t'.led = t.led ∧ t'.plain = t.plain ∧ t'.fill = hs.length + 1 ∧ t'.moves = t.moves := by
  have hjm : way t.mask h K ≤ t.mask := way_leG
  obtain ⟨j, hj⟩ : ∃ j, j = way t.mask h K := ⟨_, rfl⟩
  rw [← hj] at hK hjm ⊢
  obtain ⟨c1, _, _⟩ := below_cut T.ris j
  have hph : SetTable.below t.place j ≤ hs.length := by rw [← T.sz]; exact c1
  have hpl : SetTable.below t.place j ≤ t.place.toList.length := by rw [Array.length_toList]; exact c1
  have hnp : t.place[SetTable.below t.place j]? ≠ some j := fun e => hK (List.mem_of_getElem? (by rw [Array.getElem?_toList]; exact e))
  have hpp := put_place t j
  have hsize : (t.put j).1.place.size = hs.length + 1 := by
    rw [← Array.length_toList, hpp, len_ins _ hpl, Array.length_toList, T.sz]
  have up : ∀ {x : Nat}, x ∈ t.place.toList → x ∈ (t.put j).1.place.toList := fun hx => by rw [hpp]; exact mem_ins.2 (.inr hx)
  refine ⟨SetTable.below t.place j, (t.put j).1, rfl, hph, ⟨ris_insert T.ris hnp, put_dm T.dm j, ?_, T.mok, fun x hx => ?_, fun i h' j' h1 h2 => ?_⟩, rfl, rfl, rfl, ?_, rfl⟩
  · rw [len_ins _ hph]; exact hsize
  · rw [hpp] at hx
    rcases mem_ins.1 hx with z | z
    · rw [z]; exact hjm
    · exact T.bd x z
  · rw [tins_get hs hph] at h1
    rw [hpp, tins_get _ hpl] at h2
    show ∃ k, way t.mask h' k = j' ∧ ∀ k', k' < k → way t.mask h' k' ∈ (t.put j).1.place.toList
    by_cases c : i < SetTable.below t.place j
    · rw [if_pos c] at h1 h2
      obtain ⟨k, e, z⟩ := T.reach i h' j' h1 h2
      exact ⟨k, e, fun k' hk' => up (z k' hk')⟩
    · rw [if_neg c] at h1 h2
      by_cases d : i = SetTable.below t.place j
      · rw [if_pos d] at h1 h2
        cases h1
        cases h2
        exact ⟨K, hj.symm, fun k' hk' => up (hb k' hk')⟩
      · rw [if_neg d] at h1 h2
        obtain ⟨k, e, z⟩ := T.reach (i - 1) h' j' h1 h2
        exact ⟨k, e, fun k' hk' => up (z k' hk')⟩
  · show (t.put j).1.place.size + (t.put j).1.dummies.size = hs.length + 1
    rw [hsize, put_dm T.dm j] <;> rfl
/-! ### laid anew -/
/-- who sits where, once some hashes are laid -/
structure Sits (m : Nat) (done : List Int) (owner : Array (Option Nat)) : Prop where
  sz : owner.size = m + 1
  at_ : ∀ j k, j ≤ m → oAt owner j = some k → ∃ h K, done[k]? = some h ∧ way m h K = j ∧ ∀ k', k' < K → oAt owner (way m h k') ≠ none
  all : ∀ k, k < done.length → ∃ j, j ≤ m ∧ oAt owner j = some k
  ps : ∃ ps : List Nat, ps.length = done.length ∧ ∀ j, j ≤ m → oAt owner j ≠ none → j ∈ ps
theorem free_findG {m : Nat} (hm : MaskG m) (owner : Array (Option Nat)) (h : Int) {j : Nat} (hj : j ≤ m) (hf : oAt owner j = none) :
    ∃ K, SetTable.layClean.free m owner (SetTable.turns m) (SetTable.bits h % (m + 1)) (SetTable.bits h) = some (way m h K) ∧ oAt owner (way m h K) = none ∧ ∀ k, k < K → oAt owner (way m h k) ≠ none := by
  obtain ⟨n, hn, e⟩ := run_meetsG hm h hj
  have hw : way m h (off m (SetTable.bits h % (m + 1)) (SetTable.bits h) n) = j := by
    unfold way
    rw [nth_off, itL_run]
    exact e
  obtain ⟨K, k1, k2, k3⟩ := st_least (p := fun k => oAt owner (way m h k) = none) _ (show oAt owner (way m h (off m (SetTable.bits h % (m + 1)) (SetTable.bits h) n)) = none by rw [hw]; exact hf)
  refine ⟨K, free_spec m owner (SetTable.turns m) n _ _ K (by unfold SetTable.turns; omega) k1 (fun k hk => ?_) ?_, k2, k3⟩
  · have q := k3 k hk
    cases z : oAt owner (nth m (runAt m (SetTable.bits h % (m + 1)) (SetTable.bits h)) k).j with
    | none => exact absurd z q
    | some _ => rfl
  · have q : oAt owner (nth m (runAt m (SetTable.bits h % (m + 1)) (SetTable.bits h)) K).j = none := k2
    rw [q] <;> rfl
theorem Sits.step {m : Nat} (hm : MaskG m) {done : List Int} {owner : Array (Option Nat)} (W : Sits m done owner) (hl : done.length ≤ m) (h : Int) :
    ∃ j, SetTable.layClean.free m owner (SetTable.turns m) (SetTable.bits h % (m + 1)) (SetTable.bits h) = some j ∧ Sits m (done ++ [h]) (owner.setIfInBounds j (some done.length)) := by
  obtain ⟨ps, hps, hin⟩ := W.ps
  obtain ⟨j0, h0, hn0⟩ := st_missing ps (m + 1) (by omega)
  have hj0 : oAt owner j0 = none := by
    cases z : oAt owner j0 with
    | none => rfl
    | some k => exact absurd (hin j0 (Nat.le_of_lt_succ h0) (by rw [z]; exact fun e => nomatch e)) hn0
  obtain ⟨K, e1, e2, e3⟩ := free_findG hm owner h (Nat.le_of_lt_succ h0) hj0
  have hjm : way m h K ≤ m := way_leG
  have hself := oAt_set_self (some done.length) (show way m h K < owner.size by rw [W.sz]; exact Nat.lt_succ_of_le hjm)
  have mono : ∀ {i : Nat}, oAt owner i ≠ none → oAt (owner.setIfInBounds (way m h K) (some done.length)) i ≠ none := fun {i} hi => by
    by_cases c : i = way m h K
    · rw [c, hself]; exact fun e => nomatch e
    · rw [oAt_set_ne _ c]; exact hi
  refine ⟨way m h K, e1, by rw [Array.size_setIfInBounds]; exact W.sz, fun j k hj e => ?_, fun k hk => ?_, way m h K :: ps, by rw [List.length_cons, List.length_append, hps] <;> rfl, fun j hj e => ?_⟩
  · by_cases c : j = way m h K
    · rw [c, hself] at e
      cases e
      exact ⟨h, K, by rw [List.getElem?_append_right (Nat.le_refl _), Nat.sub_self] <;> rfl, c.symm, fun k' hk' => mono (e3 k' hk')⟩
    · rw [oAt_set_ne _ c] at e
      obtain ⟨h', K', a1, a2, a3⟩ := W.at_ j k hj e
      exact ⟨h', K', by rw [List.getElem?_append_left (List.getElem?_eq_some_iff.mp a1).1]; exact a1, a2, fun k' hk' => mono (a3 k' hk')⟩
  · rw [List.length_append, List.length_singleton] at hk
    by_cases c : k < done.length
    · obtain ⟨j, hj, e⟩ := W.all k c
      exact ⟨j, hj, by rw [oAt_set_ne _ (fun z => by rw [z, e2] at e; cases e)]; exact e⟩
    · rw [show k = done.length by omega]
      exact ⟨way m h K, hjm, hself⟩
  · by_cases c : j = way m h K
    · rw [c]; exact List.mem_cons_self
    · rw [oAt_set_ne _ c] at e; exact List.mem_cons_of_mem _ (hin j hj e)
theorem sits_fold {m : Nat} (hm : MaskG m) : ∀ (rest done : List Int) (owner : Array (Option Nat)), Sits m done owner → done.length + rest.length ≤ m →
    ∃ owner', rest.foldl (stepF m) (some (owner, done.length)) = some (owner', (done ++ rest).length) ∧ Sits m (done ++ rest) owner'
  | [], done, owner, W, _ => ⟨owner, by rw [List.append_nil] <;> rfl, by rw [List.append_nil]; exact W⟩
  | h :: rest, done, owner, W, hl => by
    rw [List.length_cons] at hl
    obtain ⟨j, e, W'⟩ := W.step hm (by omega) h
    have hl' : (done ++ [h]).length = done.length + 1 := by rw [List.length_append] <;> rfl
    obtain ⟨owner', f, W2⟩ := sits_fold hm rest (done ++ [h]) _ W' (by rw [hl']; omega)
    rw [show done ++ [h] ++ rest = done ++ h :: rest by rw [List.append_assoc] <;> rfl] at f W2
    rw [hl'] at f
    exact ⟨owner', by rw [List.foldl_cons, stepF_some e]; exact f, W2⟩
theorem sits_all {m : Nat} (hm : MaskG m) {hs : Array Int} (hn : hs.size ≤ m) : ∃ owner, SetTable.layClean m hs = some owner ∧ Sits m hs.toList owner := by
  have init : Sits m [] (Array.replicate (m + 1) none) := ⟨by simp, fun j k hj e => (by rw [oAt_init hj] at e; cases e), fun k hk => absurd hk (Nat.not_lt_zero _), [], rfl, fun j hj e => absurd (oAt_init hj) e⟩
  obtain ⟨owner, f, W⟩ := sits_fold hm hs.toList [] _ init (by rw [Array.length_toList]; show 0 + hs.size ≤ m; omega)
  rw [List.nil_append] at W
  refine ⟨owner, ?_, W⟩
  rw [layClean_eq]
  have f' : hs.toList.foldl (stepF m) (some (Array.replicate (m + 1) none, 0)) = some (owner, ([] ++ hs.toList).length) := f
  rw [f'] <;> rfl
theorem relaidG (t : SetTable) {hs : Array Int} {wanted M : Nat} (hw : SetTable.sizeAbove wanted - 1 = M) (hM : MaskG M) (hn : hs.size ≤ M) :
    ∃ t' order, t.relaid hs wanted = some (t', order) ∧ order.toList.Perm (List.range hs.size) ∧ TabG t' (order.toList.map fun i => hs.getD i 0) ∧ t'.mask = M ∧ t'.led = t.led ∧ t'.plain = t.plain := by
  obtain ⟨owner, e, W⟩ := sits_all hM hn
  have hr : t.relaid hs wanted = some (tabOf t M owner, ((liveOf M owner).map (·.2)).toArray) := by
    rw [relaid_eq, hw, e] <;> rfl
  have ris := ris_live (fun j => owner.getD j none) (List.range (M + 1)) (by
    unfold Ris
    first | exact List.pairwise_lt_range | exact List.pairwise_lt_range _)
  have r1 : Ris ((liveOf M owner).map (·.1)) := ris.1
  have r2 : ∀ x ∈ (liveOf M owner).map (·.1), x ∈ List.range (M + 1) := ris.2
  have nd : ((liveOf M owner).map (·.1)).Nodup := List.Pairwise.imp (fun h => Nat.ne_of_lt h) r1
  have hlen : (liveOf M owner).length = hs.size := by
    obtain ⟨ps, p1, p2⟩ := W.ps
    have a := nat_nodup_len ((liveOf M owner).map (·.1)) ps nd fun x hx => by
      obtain ⟨⟨y, k⟩, hq, rfl⟩ := List.mem_map.mp hx
      obtain ⟨b1, b2⟩ := (mem_live W.sz).1 hq
      exact p2 y b1 (by rw [b2]; exact fun z => nomatch z)
    have b := nat_nodup_len (List.range hs.size) ((liveOf M owner).map (·.2)) List.nodup_range fun k hk => by
      obtain ⟨j, b1, b2⟩ := W.all k (by rw [Array.length_toList]; exact List.mem_range.mp hk)
      exact List.mem_map.mpr ⟨(j, k), (mem_live W.sz).2 ⟨b1, b2⟩, rfl⟩
    rw [List.length_map, p1] at a
    rw [List.length_map, List.length_range] at b
    have hz : hs.toList.length = hs.size := rfl
    omega
  refine ⟨tabOf t M owner, ((liveOf M owner).map (·.2)).toArray, hr, ?_, ⟨r1, rfl, ?_, hM, fun x hx => Nat.le_of_lt_succ (List.mem_range.mp (r2 x hx)), fun i h j h1 h2 => ?_⟩, rfl, rfl, rfl⟩
  · refine perm_range hs.size _ ?_ fun k hk => ?_
    · show ((liveOf M owner).map (·.2)).length = hs.size
      rw [List.length_map]; exact hlen
    · obtain ⟨j, b1, b2⟩ := W.all k (by rw [Array.length_toList]; exact hk)
      exact List.mem_map.mpr ⟨(j, k), (mem_live W.sz).2 ⟨b1, b2⟩, rfl⟩
  · show ((liveOf M owner).map (·.1)).toArray.size = (((liveOf M owner).map (·.2)).map fun i => hs.getD i 0).length
    rw [List.size_toArray, List.length_map, List.length_map, List.length_map]
  · have h1' : (((liveOf M owner).map (·.2)).map fun i => hs.getD i 0)[i]? = some h := h1
    have h2' : ((liveOf M owner).map (·.1))[i]? = some j := h2
    rw [List.getElem?_map, List.getElem?_map] at h1'
    rw [List.getElem?_map] at h2'
    cases hq : (liveOf M owner)[i]? with
    | none => rw [hq] at h2'; cases h2'
    | some q =>
      obtain ⟨y, k⟩ := q
      rw [hq] at h1' h2'
      cases h2'
      have eh : hs.getD k 0 = h := Option.some.inj h1'
      obtain ⟨b1, b2⟩ := (mem_live W.sz).1 (List.mem_of_getElem? hq)
      obtain ⟨h0, K, a1, a2, a3⟩ := W.at_ _ k b1 b2
      have e0 : hs.getD k 0 = h0 := by rw [Array.getD_eq_getD_getElem?, ← Array.getElem?_toList, a1] <;> rfl
      have ehh : h0 = h := e0.symm.trans eh
      subst ehh
      refine ⟨K, a2, fun k' hk' => ?_⟩
      show way M h0 k' ∈ (liveOf M owner).map (·.1)
      cases z : oAt owner (way M h0 k') with
      | none => exact absurd z (a3 k' hk')
      | some k2 => exact List.mem_map.mpr ⟨(way M h0 k', k2), (mem_live W.sz).2 ⟨way_leG, z⟩, rfl⟩
/-- the sizes that come -/
def sized (m n : Nat) : Bool := SetTable.sizeAbove (SetTable.grown n) == m
theorem sz_5 : sized 32 5 = true := by decide +kernel
theorem sz_19 : sized 128 19 = true := by decide +kernel
theorem sz_77 : sized 512 77 = true := by decide +kernel
theorem sz_307 : sized 2048 307 = true := by decide +kernel
theorem sz_1229 : sized 8192 1229 = true := by decide +kernel
theorem maskG {m e : Nat} (h : m + 1 = 2 ^ e) (he : 1 ≤ e) : MaskG m := ⟨e, he, h⟩
/-- the masks of sets of fewer than 4096 things -/
def Mask5 (m : Nat) : Prop := m = 7 ∨ m = 31 ∨ m = 127 ∨ m = 511 ∨ m = 2047 ∨ m = 8191
theorem Mask5.g {m : Nat} (h : Mask5 m) : MaskG m := by
  rcases h with rfl | rfl | rfl | rfl | rfl | rfl
  · exact ⟨3, by decide, rfl⟩
  · exact ⟨5, by decide, rfl⟩
  · exact ⟨7, by decide, rfl⟩
  · exact ⟨9, by decide, rfl⟩
  · exact ⟨11, by decide, rfl⟩
  · exact ⟨13, by decide, rfl⟩
/-- growth -/
theorem grows {m n : Nat} (h : Mask5 m) (h1 : n * 5 < m * 3) (h2 : (n + 1) * 5 ≥ m * 3) (h3 : n + 1 < 4096) : ∃ M, Mask5 M ∧ SetTable.sizeAbove (SetTable.grown (n + 1)) - 1 = M ∧ SetTable.sizeAbove (SetTable.grown (n + 1)) ≤ 8192 ∧ (n + 1) * 5 < M * 3 := by
  have go : ∀ a b, n + 1 = b → sized (a + 1) b = true → Mask5 a → a ≤ 8191 → b * 5 < a * 3 → ∃ M, Mask5 M ∧ SetTable.sizeAbove (SetTable.grown (n + 1)) - 1 = M ∧ SetTable.sizeAbove (SetTable.grown (n + 1)) ≤ 8192 ∧ (n + 1) * 5 < M * 3 := by
    intro a b e z hm hl hr
    have z' : SetTable.sizeAbove (SetTable.grown b) = a + 1 := by simpa [sized] using z
    rw [e, z']
    exact ⟨a, hm, rfl, by omega, hr⟩
  rcases h with rfl | rfl | rfl | rfl | rfl | rfl
  · exact go 31 5 (by omega) sz_5 (.inr (.inl rfl)) (by decide) (by decide)
  · exact go 127 19 (by omega) sz_19 (.inr (.inr (.inl rfl))) (by decide) (by decide)
  · exact go 511 77 (by omega) sz_77 (.inr (.inr (.inr (.inl rfl)))) (by decide) (by decide)
  · exact go 2047 307 (by omega) sz_307 (.inr (.inr (.inr (.inr (.inl rfl))))) (by decide) (by decide)
  · exact go 8191 1229 (by omega) sz_1229 (.inr (.inr (.inr (.inr (.inr rfl))))) (by decide) (by decide)
  · omega
end SL

set_option maxHeartbeats 2000000
/-! SC: sets of things with keys; one put in -/
namespace SL
open PySem PySem.Spec L2
open PyProof.Rows hiding St

section
variable {K : Type}
/-- a set of things, each with its key -/
structure SetG (w : World) (is : Heap → K → Value → Prop) (hash : K → Int) (h : Heap) (a : Addr) (L : List (Value × K)) (es : Array (Int × Value)) (ep : Nat) (t : SetTable) : Prop where
  ob : ∃ o, h.get? a = some o ∧ o.ExactSet ∧ o.data = .set es ep t
  rows : es.toList = L.map fun p => (hash p.2, p.1)
  tab : TabG t (L.map fun p => hash p.2)
  m5 : Mask5 t.mask
  nd : (L.map (·.2)).Nodup
  el : ∀ p ∈ L, is h p.2 p.1
  led : w.params.followText "set-order" = true ∨ t.led = true
  room : L.length * 5 < t.mask * 3
  few : L.length < 4096
variable {w : World} {is : Heap → K → Value → Prop} {hash : K → Int} {h : Heap} {a : Addr} {L : List (Value × K)} {es : Array (Int × Value)} {ep : Nat} {t : SetTable}
theorem SetG.size (R : SetG w is hash h a L es ep t) : es.size = L.length := by
  have h := congrArg List.length R.rows
  rw [Array.length_toList, List.length_map] at h
  exact h
theorem tab_fits {hs : List Int} {n : Nat} (T : TabG t hs) (hn : hs.length = n) (hl : n ≤ t.mask) : t.fits n = true := by
  unfold SetTable.fits SetTable.fill
  rw [T.dm, Bool.and_eq_true, beq_iff_eq, decide_eq_true_eq]
  show t.place.size = n ∧ t.place.size + 0 ≤ t.mask
  have := T.sz
  omega
theorem SetG.fits (R : SetG w is hash h a L es ep t) : t.fits es.size = true := by
  have h3 := R.room
  rw [R.size]
  exact tab_fits R.tab (List.length_map _) (by omega)
theorem Mask5.le {m : Nat} (h : Mask5 m) : m ≤ 8191 := by
  rcases h with rfl | rfl | rfl | rfl | rfl | rfl <;> decide
theorem SetG.gw (R : SetG w is hash h a L es ep t) : ¬ t.gaveWay = true := by
  unfold SetTable.gaveWay
  have : t.mask % 2 = 1 := by rcases R.m5 with e | e | e | e | e | e <;> rw [e]
  rw [this]
  decide
theorem SetG.entry (R : SetG w is hash h a L es ep t) {i : Nat} {p : Value × K} (e : L[i]? = some p) : es[i]? = some (hash p.2, p.1) := by
  rw [← Array.getElem?_toList, R.rows, List.getElem?_map, e] <;> rfl
/-- a thing stays what it is while the tuples stay -/
structure Stays (is : Heap → K → Value → Prop) : Prop where
  on : ∀ (h h' : Heap) (k : K) (v : Value), (∀ a o vs n, h.get? a = some o → o.data = .seq vs n → h'.get? a = some o) → is h k v → is h' k v
theorem stay_set {h h' : Heap} {a : Addr} {o : Obj} {es : Array (Int × Value)} {ep : Nat} {t : SetTable} (st : Stays is) (ho : h.get? a = some o) (hd : o.data = .set es ep t) (sb : Heap.SameBut a h h') {k : K} {v : Value} (x : is h k v) : is h' k v :=
  st.on h h' k v (fun b ob vs n hb hc => by
    refine (sb.2 b fun e => ?_).trans hb
    rw [e, ho] at hb
    cases hb
    rw [hd] at hc
    cases hc) x
theorem stay_all {h h' : Heap} (st : Stays is) (k0 : ∀ c o, h.get? c = some o → h'.get? c = some o) {k : K} {v : Value} (x : is h k v) : is h' k v := st.on h h' k v (fun b ob vs n hb _ => k0 b ob hb) x
/-- the entries in another order -/
theorem order_rowsG (L : List (Value × K)) (es : Array (Int × Value)) (order : Array Nat) (hr : es.toList = L.map fun p => (hash p.2, p.1)) (hp : order.toList.Perm (List.range L.length)) :
    ∃ L2 : List (Value × K), (order.filterMap (es[·]?)).toList = L2.map (fun p => (hash p.2, p.1)) ∧ L2.Perm L ∧ (L2.map fun p => hash p.2) = order.toList.map fun i => (es.map (·.1)).getD i 0 := by
  have ent : ∀ i (h : i < L.length), es[i]? = some (hash (L[i]).2, (L[i]).1) := fun i h => by
    rw [← Array.getElem?_toList, hr, List.getElem?_map, List.getElem?_eq_getElem h] <;> rfl
  have key : ∀ l : List Nat, (∀ i ∈ l, i < L.length) → ∃ L2 : List (Value × K), l.filterMap (fun i => es[i]?) = L2.map (fun p => (hash p.2, p.1)) ∧ L2 = l.filterMap (fun i => L[i]?) ∧ (L2.map fun p => hash p.2) = l.map fun i => (es.map (·.1)).getD i 0 := by
    intro l
    induction l with
    | nil => intro _; exact ⟨[], rfl, rfl, rfl⟩
    | cons i l ih =>
      intro hl
      have hi := hl i List.mem_cons_self
      obtain ⟨L2, e1, e2, e3⟩ := ih fun j hj => hl j (List.mem_cons_of_mem _ hj)
      refine ⟨L[i] :: L2, ?_, ?_, ?_⟩
      · rw [List.filterMap_cons_some (ent i hi), e1] <;> rfl
      · rw [List.filterMap_cons_some (List.getElem?_eq_getElem hi), e2]
      · rw [List.map_cons, List.map_cons, e3]
        have e5 : (es.map (·.1))[i]? = some (hash (L[i]).2) := by rw [Array.getElem?_map, ent i hi] <;> rfl
        have e4 : (es.map (·.1)).getD i 0 = hash (L[i]).2 := by simp [Array.getD_eq_getD_getElem?, e5]
        rw [e4]
  obtain ⟨L2, e1, e2, e3⟩ := key order.toList fun i hi => List.mem_range.mp (hp.mem_iff.mp hi)
  refine ⟨L2, by first | (rw [Array.toList_filterMap]; exact e1) | simpa using e1, ?_, e3⟩
  have h1 : L2.Perm ((List.range L.length).filterMap fun i => L[i]?) := by
    rw [e2]
    exact hp.filterMap _
  have h2 : ∀ n, n ≤ L.length → (List.range n).filterMap (fun i => L[i]?) = L.take n := by
    intro n
    induction n with
    | zero => intro _; rfl
    | succ n ih =>
      intro hn
      rw [List.range_succ, List.filterMap_append, ih (Nat.le_of_lt hn), List.take_succ, List.getElem?_eq_getElem hn, List.filterMap_cons_some (List.getElem?_eq_getElem hn)] <;> rfl
  rw [h2 L.length (Nat.le_refl _), List.take_length] at h1
  exact h1
/-! ### a thing put in, and room made -/
/-- what stands once the new entry is stored -/
structure Put1 (w : World) (is : Heap → K → Value → Prop) (hash : K → Int) (s : Heap) (a : Addr) (L : List (Value × K)) (es : Array (Int × Value)) (t : SetTable) (x : Value) (k : K) (j : Nat) (p : Nat) (t1 : SetTable) (L1 : List (Value × K)) : Prop where
  pm : L1.Perm ((x, k) :: L)
  put : t.put j = (t1, p)
  rows : (SetTable.insertAt es p (hash k, x)).toList = L1.map fun p => (hash p.2, p.1)
  tab : TabG t1 (L1.map fun p => hash p.2)
  mask : t1.mask = t.mask
  led : t1.led = t.led
  plain : t1.plain = t.plain
  fill : t1.fill = L.length + 1
  nd : (L1.map (·.2)).Nodup
theorem SetG.put1 (R : SetG w is hash h a L es ep t) {x : Value} {k : K} (hm : k ∉ L.map (·.2)) {Kn : Nat} (hK : way t.mask (hash k) Kn ∉ t.place.toList) (hb : ∀ c, c < Kn → way t.mask (hash k) c ∈ t.place.toList) :
    ∃ p t1 L1, Put1 w is hash h a L es t x k (way t.mask (hash k) Kn) p t1 L1 := by
  obtain ⟨p, t1, e1, e2, e3, e4, e5, e6, e7, _⟩ := R.tab.put hK hb
  have pm := put_perm L p (x, k)
  refine ⟨p, t1, L.take p ++ (x, k) :: L.drop p, pm, e1, ?_, ?_, e4, e5, e6, by rw [e7, List.length_map], ?_⟩
  · rw [SetTable.toList_insertAt, R.rows, List.map_append, List.map_cons, List.map_take, List.map_drop]
  · rw [List.map_append, List.map_cons, List.map_take, List.map_drop]; exact e3
  · refine (pm.map (·.2)).nodup_iff.mpr ?_
    rw [List.map_cons]
    exact List.nodup_cons.mpr ⟨hm, R.nd⟩
theorem Put1.size {h : Heap} {x : Value} {k : K} {j p : Nat} {t1 : SetTable} {L1 : List (Value × K)} (q : Put1 w is hash h a L es t x k j p t1 L1) : (SetTable.insertAt es p (hash k, x)).size = L.length + 1 := by
  have h := congrArg List.length q.rows
  rw [Array.length_toList, List.length_map, q.pm.length_eq] at h
  exact h
/-- the table behind the new entry, with another mark of plainness -/
theorem TabG.mark {t : SetTable} {hs : List Int} (T : TabG t hs) (b : Bool) : TabG { t with plain := b } hs := ⟨T.ris, T.dm, T.sz, T.mok, T.bd, T.reach⟩
/-- laid anew -/
theorem relay_rows {t : SetTable} (hrows : es.toList = L.map fun p => (hash p.2, p.1)) {wanted M : Nat} (hw : SetTable.sizeAbove wanted - 1 = M) (hM : MaskG M) (hn : L.length ≤ M) :
    ∃ (t' : SetTable) (order : Array Nat) (L2 : List (Value × K)), t.relaid (es.map (·.1)) wanted = some (t', order) ∧ order.toList.Perm (List.range es.size) ∧ (order.filterMap (es[·]?)).toList = L2.map (fun p => (hash p.2, p.1)) ∧ L2.Perm L ∧ TabG t' (L2.map fun p => hash p.2) ∧ t'.mask = M ∧ t'.led = t.led ∧ t'.plain = t.plain ∧ (order.filterMap (es[·]?)).size = es.size := by
  have hsl : es.size = L.length := by
    have h := congrArg List.length hrows
    rw [Array.length_toList, List.length_map] at h
    exact h
  obtain ⟨t', order, e, hp, T, em, el, ep'⟩ := relaidG t (hs := es.map (·.1)) (wanted := wanted) hw hM (by rw [Array.size_map, hsl]; exact hn)
  rw [Array.size_map] at hp
  obtain ⟨L2, r1, r2, r3⟩ := order_rowsG (hash := hash) L es order hrows (by rw [← hsl]; exact hp)
  rw [← r3] at T
  refine ⟨t', order, L2, e, hp, r1, r2, T, em, el, ep', ?_⟩
  have h := congrArg List.length r1
  rw [Array.length_toList, List.length_map, r2.length_eq] at h
  rw [h, hsl]
end
end SL

set_option maxHeartbeats 4000000
/-! SD: putting in a tuple; putting in an int or a text -/
namespace SL
open PySem PySem.Spec L2
open PyProof.Rows hiding St

section
variable {P : Program} {w : World} {A : Around} {E : Value → Shared → Prop} {s : Shared}
/-! ### questions asked of tuples -/
mutual
theorem ofA_key : ∀ (k : NestedKey) (v : Value) (n : Nat) (s : Shared), NestedIs s.heap k v → k.depth ≤ n → ∀ (A : Around) (E : Value → Shared → Prop) (Q : Bool → Shared → Prop), Q false s → wpAny (model P w) A (ofAClassStatement n v) Q E s
  | .none, _, n, s, x, _ => by cases x; intro A E Q h; cases n <;> exact wpAny_pure h
  | .num i, _, n, s, x, _ => by cases x <;> (intro A E Q h; cases n <;> exact wpAny_pure h)
  | .text y, _, n, s, x, _ => by cases x; intro A E Q h; cases n <;> exact wpAny_pure h
  | .tup ks, _, n, s, x, hn => by
    intro A E Q h
    cases x with
    | @tup a o vs m _ ho hc hd hk =>
      simp only [NestedKey.depth] at hn
      cases n with
      | zero => omega
      | succ n =>
        have hT : s.TypeIs (.ref a) "tuple" := ⟨o, ho, hc⟩
        unfold ofAClassStatement
        refine wpAny_bind (wpAny_typeOf hT ?_)
        dsimp only
        have e : (("tuple" : String) == "tuple") = true := by decide
        simp only [e, if_true, Bool.not_true, Bool.false_eq_true, if_false]
        try refine wpAny_bind (wpAny_pure ?_)
        try simp only [Bool.not_true, Bool.false_eq_true, if_false]
        show wpAny _ _ (seqItems? (.ref a) >>= _) _ _ s
        refine wpAny_bind (wpAny_seqItems ho hd ?_)
        dsimp only
        refine wpAny_bind ?_
        show wpAny _ _ (forIn vs _ _) _ _ s
        rw [← Array.forIn_toList]
        have all := ofA_keys ks vs.toList n s hk (by omega)
        refine wpAny_forIn_list _ (fun rest r s' => r.1 = none ∧ s' = s ∧ ∀ v ∈ rest, ∀ (A : Around) (E : Value → Shared → Prop) (Q : Bool → Shared → Prop), Q false s → wpAny (model P w) A (ofAClassStatement n v) Q E s) _ ?_ ?_ _ _ ⟨rfl, rfl, all⟩
        · rintro v rest r s' ⟨hr, rfl, hall⟩
          refine wpAny_bind (hall v List.mem_cons_self _ _ _ ?_)
          simp only [Bool.false_eq_true, if_false]
          exact wpAny_pure ⟨rfl, rfl, fun u hu' => hall u (List.mem_cons_of_mem _ hu')⟩
        · rintro ⟨r1, r2⟩ s' ⟨hr, rfl, _⟩
          simp only at hr
          subst hr
          exact wpAny_pure h
theorem ofA_keys : ∀ (ks : List NestedKey) (vs : List Value) (n : Nat) (s : Shared), NestedAll s.heap ks vs → NestedKey.depthAll ks ≤ n → ∀ v ∈ vs, ∀ (A : Around) (E : Value → Shared → Prop) (Q : Bool → Shared → Prop), Q false s → wpAny (model P w) A (ofAClassStatement n v) Q E s
  | [], _, n, s, x, _, v, hv => by cases x; cases hv
  | k :: ks, _, n, s, x, hn, v, hv => by
    cases x with
    | cons x1 x2 =>
      simp only [NestedKey.depthAll] at hn
      rcases List.mem_cons.mp hv with e | hv
      · rw [e]; exact ofA_key k _ n s x1 (by omega)
      · exact ofA_keys ks _ n s x2 (by omega) v hv
end
mutual
theorem hashBy_key : ∀ (k : NestedKey) (v : Value) (n : Nat) (s : Shared), NestedIs s.heap k v → ∀ (A : Around) (E : Value → Shared → Prop) (Q : Bool → Shared → Prop), (∀ b, Q b s) → wpAny (model P w) A (hashByValue n v) Q E s
  | .none, _, n, s, x => by cases x; intro A E Q h; cases n <;> exact wpAny_pure (h _)
  | .num i, _, n, s, x => by cases x <;> (intro A E Q h; cases n <;> exact wpAny_pure (h _))
  | .text y, _, n, s, x => by cases x; intro A E Q h; cases n <;> exact wpAny_pure (h _)
  | .tup ks, _, n, s, x => by
    intro A E Q h
    cases x with
    | @tup a o vs m _ ho hc hd hk =>
      cases n with
      | zero => exact wpAny_pure (h _)
      | succ n =>
        have hT : s.TypeIs (.ref a) "tuple" := ⟨o, ho, hc⟩
        unfold hashByValue
        refine wpAny_bind (wpAny_specialOf hT F.slot_tuple_hash.lookup ?_)
        show wpAny _ _ (seqItems? (.ref a) >>= _) _ _ s
        refine wpAny_bind (wpAny_seqItems ho hd ?_)
        refine wpAny_bind ?_
        show wpAny _ _ (forIn vs _ _) _ _ s
        rw [← Array.forIn_toList]
        have all := hashBy_keys ks vs.toList n s hk
        refine wpAny_forIn_list _ (fun rest r s' => s' = s ∧ ∀ v ∈ rest, ∀ (A : Around) (E : Value → Shared → Prop) (Q : Bool → Shared → Prop), (∀ b, Q b s) → wpAny (model P w) A (hashByValue n v) Q E s) _ ?_ ?_ _ _ ⟨rfl, all⟩
        · rintro v rest r s' ⟨rfl, hall⟩
          refine wpAny_bind (hall v List.mem_cons_self _ _ _ fun b => ?_)
          cases b with
          | false =>
            refine wp_if_pos (by decide) ?_
            exact wpAny_pure (wpAny_pure (h _))
          | true =>
            refine wp_if_neg (by decide) ?_
            exact wpAny_pure ⟨rfl, fun u hu' => hall u (List.mem_cons_of_mem _ hu')⟩
        · rintro ⟨r1, r2⟩ s' ⟨rfl, _⟩
          cases r1 with
          | none => exact wpAny_pure (h _)
          | some b => exact wpAny_pure (h _)
theorem hashBy_keys : ∀ (ks : List NestedKey) (vs : List Value) (n : Nat) (s : Shared), NestedAll s.heap ks vs → ∀ v ∈ vs, ∀ (A : Around) (E : Value → Shared → Prop) (Q : Bool → Shared → Prop), (∀ b, Q b s) → wpAny (model P w) A (hashByValue n v) Q E s
  | [], _, n, s, x, v, hv => by cases x; cases hv
  | k :: ks, _, n, s, x, v, hv => by
    cases x with
    | cons x1 x2 =>
      rcases List.mem_cons.mp hv with e | hv
      · rw [e]; exact hashBy_key k _ n s x1
      · exact hashBy_keys ks _ n s x2 v hv
end
/-! ### tuples -/
/-- the value is a tuple, of the key k -/
def isN (h : Heap) (k : NestedKey) (v : Value) : Prop := NestedIs h k v ∧ k.depth ≤ 8 ∧ ∃ b, v = .ref b
theorem isN_stays : Stays isN := ⟨fun _ _ _ _ k0 x => ⟨NestedIs.at k0 _ _ x.1, x.2⟩⟩
variable {a : Addr} {L : List (Value × NestedKey)} {es : Array (Int × Value)} {ep : Nat} {t : SetTable}
/-- a search among tuples shows nothing -/
theorem seen_N {k : NestedKey} {v : Value} (hk : isN s.heap k v) {ys : List Value} (hy : ∀ y ∈ ys, ∃ k', isN s.heap k' y) {Q : Bool → Shared → Prop} (h : Q false s) : wpAny (model P w) A (searchCouldBeSeen v ys) Q E s := by
  obtain ⟨hk1, hk2, b, rfl⟩ := hk
  unfold searchCouldBeSeen
  refine wpAny_bind ?_
  refine wpAny_forIn_list _ (fun rest r s' => r.1 = none ∧ s' = s ∧ ∀ y ∈ rest, ∃ k', isN s.heap k' y) _ ?_ ?_ _ _ ⟨rfl, rfl, hy⟩
  · rintro v rest r s' ⟨hr, rfl, hall⟩
    obtain ⟨k', hc, hd, c, rfl⟩ := hall v List.mem_cons_self
    have rest' : ∀ y ∈ rest, ∃ k', isN s'.heap k' y := fun u hu' => hall u (List.mem_cons_of_mem _ hu')
    dsimp only
    by_cases hv : (b == c || (carriedByValue (.ref b) && carriedByValue (.ref c))) = true
    · refine wp_if_pos hv ?_
      exact wpAny_pure ⟨rfl, rfl, rest'⟩
    · refine wp_if_neg hv ?_
      refine wpAny_bind (quiet_key k _ 8 s' hk1 hk2 _ _ _ ?_)
      simp only [Bool.not_true, Bool.false_eq_true, if_false]
      refine wpAny_bind (quiet_key k' _ 8 s' hc hd _ _ _ ?_)
      simp only [Bool.not_true, Bool.false_eq_true, if_false]
      refine wpAny_bind (ofA_key k _ 8 s' hk1 hk2 _ _ _ ?_)
      simp only [Bool.false_eq_true, if_false]
      refine wpAny_bind (ofA_key k' _ 8 s' hc hd _ _ _ ?_)
      simp only [Bool.false_eq_true, if_false]
      exact wpAny_pure ⟨rfl, rfl, rest'⟩
  · rintro ⟨r1, r2⟩ s' ⟨hr, rfl, _⟩
    simp only at hr
    subst hr
    exact wpAny_pure h
theorem nth_nodummy (m : Nat) : ∀ (n : Nat) (p : SetTable.Probe), p.dummy = none → (nth m p n).dummy = none
  | 0, _, h => h
  | n + 1, p, h => nth_nodummy m n (adv m p) (by unfold adv; split <;> exact h)
abbrev pr (m : Nat) (h : Int) (c : Nat) : SetTable.Probe := nth m (runAt m (SetTable.bits h % (m + 1)) (SetTable.bits h)) c
/-- the search, from the c-th step of the way on -/
theorem search_N (R : SetG w isN (NestedKey.hash w) s.heap a L es ep t) {x : Value} {k : NestedKey} (hx : isN s.heap k x) (hu : A.units + 8 < cLine) {Kn : Nat} (hKf : Kn < 10 * SetTable.turns t.mask)
    (hK : way t.mask (k.hash w) Kn ∉ t.place.toList) (hKb : ∀ c, c < Kn → way t.mask (k.hash w) c ∈ t.place.toList) {Q : SetFound → Shared → Prop}
    (hin : k ∈ L.map (·.2) → Q (.there none) s) (hout : k ∉ L.map (·.2) → Q (.free (way t.mask (k.hash w) Kn) false) s) :
    ∀ (f c : Nat) (stand : Option SetTable.Probe), stand.getD (t.probeStart (k.hash w)) = pr t.mask (k.hash w) c → c ≤ Kn → Kn - c < f →
      (∀ (i : Nat) p, L[i]? = some p → p.2 = k → ∃ c', c ≤ c' ∧ c' < Kn ∧ t.place.toList[i]? = some (way t.mask (k.hash w) c')) →
      wpAny (model P w) A (setSearchFrom a x (k.hash w) true f stand) Q E s
  | 0, c, stand, _, _, hf, _ => absurd hf (Nat.not_lt_zero _)
  | f + 1, c, stand, hst, hc, hf, hre => by
    obtain ⟨o, ho, hex, hd⟩ := R.ob
    rw [setSearchFrom_succ]
    refine wpAny_bind (wpAny_setState_of ho hd R.fits ?_)
    dsimp only
    refine wp_if_neg R.gw ?_
    try refine wpAny_bind (wpAny_pure ?_)
    have hnd : (pr t.mask (k.hash w) c).dummy = none := nth_nodummy _ c _ rfl
    have sh : ∀ q, nth t.mask (pr t.mask (k.hash w) c) q = pr t.mask (k.hash w) (c + q) := fun q => (nth_add t.mask c _ q).symm
    have e1 : ∀ q, (nth t.mask (pr t.mask (k.hash w) c) q).j = way t.mask (k.hash w) (c + q) := fun q => congrArg SetTable.Probe.j (sh q)
    have spec := go_spec t R.tab.ris R.tab.dm (fun i => (es[i]?.map (·.1)).getD 0) (k.hash w) (10 * SetTable.turns t.mask) (Kn - c) _ hnd (by omega)
      (fun q hq => by rw [e1]; exact hKb (c + q) (by omega)) (by rw [e1, show c + (Kn - c) = Kn by omega]; exact hK)
    have hashAt : ∀ (i : Nat) p, L[i]? = some p → (fun i => (es[i]?.map (·.1)).getD 0) i = p.2.hash w := fun i p hp => by
      show (es[i]?.map (·.1)).getD 0 = _
      rw [R.entry hp] <;> rfl
    rcases spec with ⟨q, i, hq, hi, hh, hno, hpr⟩ | ⟨hno, hpr⟩
    · have hpr' : t.probe (fun i => (es[i]?.map (·.1)).getD 0) (k.hash w) (stand.getD (t.probeStart (k.hash w))) = some (.candidate (way t.mask (k.hash w) (c + q)) i (pr t.mask (k.hash w) (c + (q + 1)))) := by
        rw [hst, ← e1, ← sh]
        exact hpr
      rw [hpr']
      dsimp only
      rw [e1] at hi
      have hil : i < L.length := by
        have h1 : i < t.place.toList.length := (List.getElem?_eq_some_iff.mp hi).1
        have h2 := R.tab.sz
        rw [List.length_map] at h2
        rw [Array.length_toList] at h1
        omega
      have hp : L[i]? = some L[i] := List.getElem?_eq_getElem hil
      generalize hpe : L[i] = p at hp
      have hmem : p ∈ L := List.mem_of_getElem? hp
      have hpt := R.el p hmem
      have rest : wpAny (model P w) A (searchRest a x (k.hash w) true f es t (way t.mask (k.hash w) (c + q)) i (pr t.mask (k.hash w) (c + (q + 1)))) Q E s := by
        unfold searchRest
        rw [R.entry hp]
        dsimp only
        obtain ⟨b1, eb1⟩ := hpt.2.2
        obtain ⟨b2, eb2⟩ := hx.2.2
        have eqb : ∀ {Q' : Bool → Shared → Prop}, Q' (decide (p.2 = k)) s → wpAny (model P w) A (eqBool p.1 x) Q' E s := fun h => by
          rw [eb1, eb2]
          exact (nestedKind P w).eqBool (x := p.2) (y := k) hu ⟨eb1 ▸ hpt.1, hpt.2.1⟩ ⟨eb2 ▸ hx.1, hx.2.1⟩ h
        refine wpAny_bind (wpAny_holding (eqb ?_))
        refine wpAny_bind (wpAny_setState_of ho hd R.fits ?_)
        dsimp only
        by_cases hkk : p.2 = k
        · refine wp_if_pos (by simp [hkk]) ?_
          exact wpAny_pure (hin (List.mem_map.mpr ⟨p, hmem, hkk⟩))
        · refine wp_if_neg (by simp [hkk]) ?_
          try refine wpAny_bind (wpAny_pure ?_)
          rw [sameMem]
          dsimp only
          have hsl : t.slot (way t.mask (k.hash w) (c + q)) = .live i := slot_live R.tab.ris hi
          simp only [if_true, hsl, R.entry hp]
          have same : ∀ {Q' : Bool → Shared → Prop}, Q' true s → wpAny (model P w) A (isSame p.1 p.1) Q' E s := fun h => by
            rw [eb1]; exact wpAny_isSame_ref_self h
          refine wpAny_bind (same (wpAny_bind (wpAny_pure ?_)))
          simp only [if_true]
          refine wp_if_neg (by simp [hkk]) ?_
          refine search_N R hx hu hKf hK hKb hin hout f (c + (q + 1)) _ rfl (by omega) (by omega) fun i0 p0 h0 hk0 => ?_
          obtain ⟨c', a1, a2, a3⟩ := hre i0 p0 h0 hk0
          refine ⟨c', ?_, a2, a3⟩
          rcases Nat.lt_or_ge c' (c + q) with z | z
          · exfalso
            refine hno (c' - c) i0 (by omega) (by rw [e1, show c + (c' - c) = c' by omega]; exact a3) ?_
            exact (hashAt i0 p0 h0).trans (congrArg (NestedKey.hash w) hk0)
          · rcases Nat.lt_or_ge (c + q) c' with y | y
            · omega
            · exfalso
              have ec : c' = c + q := Nat.le_antisymm y z
              rw [ec] at a3
              have s0 := slot_live R.tab.ris a3
              rw [hsl] at s0
              injection s0 with s0
              rw [← s0, hp] at h0
              exact hkk ((congrArg Prod.snd (Option.some.inj h0)).trans hk0)
      by_cases hl : t.led = true
      · refine wp_if_neg (by simp [hl]) ?_
        try refine wpAny_bind (wpAny_pure ?_)
        exact rest
      · refine wp_if_pos (by simp [hl]) ?_
        refine wpAny_bind (seen_N hx (fun y hy => ?_) ?_)
        · obtain ⟨e, he, ee⟩ := List.mem_map.mp hy
          have he1 : e ∈ es ∧ e.1 = k.hash w := by simpa using he
          have he2 : e ∈ es.toList := by simpa using he1.1
          rw [R.rows] at he2
          obtain ⟨p2, hp2, e2⟩ := List.mem_map.mp he2
          exact ⟨p2.2, by rw [← ee, ← e2]; exact R.el p2 hp2⟩
        · refine wp_if_neg (by decide) ?_
          try refine wpAny_bind (wpAny_pure ?_)
          exact rest
    · have hpr' : t.probe (fun i => (es[i]?.map (·.1)).getD 0) (k.hash w) (stand.getD (t.probeStart (k.hash w))) = some (.empty (way t.mask (k.hash w) Kn) none) := by
        have e2 : way t.mask (k.hash w) Kn = (nth t.mask (pr t.mask (k.hash w) c) (Kn - c)).j := by rw [e1, show c + (Kn - c) = Kn by omega]
        rw [hst, e2]
        exact hpr
      rw [hpr']
      dsimp only
      refine wpAny_pure (hout fun hm => ?_)
      obtain ⟨p0, h0, hk0⟩ := List.mem_map.mp hm
      obtain ⟨i0, hi0, e0⟩ := List.getElem_of_mem h0
      have h00 : L[i0]? = some p0 := by rw [List.getElem?_eq_getElem hi0, e0]
      obtain ⟨c', a1, a2, a3⟩ := hre i0 p0 h00 hk0
      refine hno (c' - c) i0 (by omega) (by rw [e1, show c + (c' - c) = c' by omega]; exact a3) ?_
      exact (hashAt i0 p0 h00).trans (congrArg (NestedKey.hash w) hk0)
theorem search_N0 (R : SetG w isN (NestedKey.hash w) s.heap a L es ep t) {x : Value} {k : NestedKey} (hx : isN s.heap k x) (hu : A.units + 8 < cLine) {Q : SetFound → Shared → Prop}
    (hin : k ∈ L.map (·.2) → Q (.there none) s)
    (hout : ∀ Kn, k ∉ L.map (·.2) → way t.mask (k.hash w) Kn ∉ t.place.toList → (∀ c, c < Kn → way t.mask (k.hash w) c ∈ t.place.toList) → Q (.free (way t.mask (k.hash w) Kn) false) s) :
    wpAny (model P w) A (setSearch a x (k.hash w) true) Q E s := by
  have hroom := R.room
  obtain ⟨Kn, hKf, hK, hKb⟩ := R.tab.first (by rw [List.length_map]; omega) (k.hash w)
  have hbig : Kn < 100000 := by
    have := Mask5.le R.m5
    have : 10 * SetTable.turns t.mask ≤ 90000 := by unfold SetTable.turns; omega
    omega
  unfold setSearch
  refine search_N R hx hu hKf hK hKb hin (fun hn => hout Kn hn hK hKb) 100000 0 none rfl (Nat.zero_le _) (by omega) fun i p hp hk => ?_
  have hi : (L.map fun p => p.2.hash w)[i]? = some (k.hash w) := by rw [List.getElem?_map, hp, ← hk] <;> rfl
  have hil : i < t.place.toList.length := by
    have h1 : i < L.length := (List.getElem?_eq_some_iff.mp hp).1
    have h2 := R.tab.sz
    rw [List.length_map] at h2
    rw [Array.length_toList]
    omega
  have hj := List.getElem?_eq_getElem hil
  obtain ⟨c, hc, e⟩ := R.tab.before hK hi hj
  exact ⟨c, Nat.zero_le _, hc, by rw [hj, e]⟩
end
end SL

set_option maxHeartbeats 4000000
/-! SE: adding, of either kind -/
namespace SL
open PySem PySem.Spec L2
open PyProof.Rows hiding St

section
variable {P : Program} {w : World} {A : Around} {E : Value → Shared → Prop} {s : Shared}
variable {K : Type} {is : Heap → K → Value → Prop} {hash : K → Int} {a : Addr} {L : List (Value × K)} {es : Array (Int × Value)} {ep : Nat} {t : SetTable}
/-- a table's mark off -/
def offP (b : Bool) (t : SetTable) : SetTable := if b = true then t else { t with plain := false }
theorem offP_tab {b : Bool} {t : SetTable} {hs : List Int} (T : TabG t hs) : TabG (offP b t) hs := by
  unfold offP
  split
  · exact T
  · exact T.mark false
theorem offP_mask {b : Bool} {t : SetTable} : (offP b t).mask = t.mask := by unfold offP; split <;> rfl
theorem offP_led {b : Bool} {t : SetTable} : (offP b t).led = t.led := by unfold offP; split <;> rfl
theorem offP_fill {b : Bool} {t : SetTable} : (offP b t).fill = t.fill := by unfold offP; split <;> rfl
/-- what both ways of adding leave -/
theorem SetG.stored (st : Stays is) (R : SetG w is hash s.heap a L es ep t) {x : Value} {k : K} (hx : is s.heap k x) {j p : Nat} {t1 : SetTable} {L1 : List (Value × K)} (q : Put1 w is hash s.heap a L es t x k j p t1 L1) (b : Bool)
    {o : Obj} (ho : s.heap.get? a = some o) (hex : o.ExactSet) (hd : o.data = .set es ep t) (few : L.length + 1 < 4096) (hf : ¬ (offP b t1).tooFull = true) :
    SetG w is hash (s.heap.update a (Obj.putSet (SetTable.insertAt es p (hash k, x)) (offP b t1))) a L1 (SetTable.insertAt es p (hash k, x)) (ep + 1) (offP b t1) := by
  have sb : Heap.SameBut a s.heap (s.heap.update a (Obj.putSet (SetTable.insertAt es p (hash k, x)) (offP b t1))) := Heap.SameBut.update ..
  refine ⟨⟨_, store_at ho hd, ⟨hex.1, hex.2.1, hex.2.2⟩, rfl⟩, q.rows, offP_tab q.tab, by rw [offP_mask, q.mask]; exact R.m5, q.nd, fun p hp => ?_, by rw [offP_led, q.led]; exact R.led, ?_, by rw [q.pm.length_eq]; exact few⟩
  · rcases List.mem_cons.mp (q.pm.mem_iff.mp hp) with e | hp
    · rw [e]; exact stay_set (is := is) st ho hd sb hx
    · exact stay_set st ho hd sb (R.el p hp)
  · unfold SetTable.tooFull at hf
    rw [decide_eq_true_eq, offP_fill, q.fill] at hf
    rw [q.pm.length_eq]
    show (L.length + 1) * 5 < _
    omega
theorem SetG.regrown (st : Stays is) (R : SetG w is hash s.heap a L es ep t) {x : Value} {k : K} (hx : is s.heap k x) {j p : Nat} {t1 : SetTable} {L1 : List (Value × K)} (q : Put1 w is hash s.heap a L es t x k j p t1 L1) (b : Bool)
    {o : Obj} (ho : s.heap.get? a = some o) (hex : o.ExactSet) (hd : o.data = .set es ep t) (few : L.length + 1 < 4096) (hf : (offP b t1).tooFull = true) :
    ∃ (t' : SetTable) (order : Array Nat) (L2 : List (Value × K)), (offP b t1).relaid ((SetTable.insertAt es p (hash k, x)).map (·.1)) (SetTable.grown (L.length + 1)) = some (t', order) ∧ order.toList.Perm (List.range (L.length + 1)) ∧ L2.Perm ((x, k) :: L) ∧
      SetTable.sizeAbove (SetTable.grown (L.length + 1)) ≤ 8192 ∧ (order.filterMap ((SetTable.insertAt es p (hash k, x))[·]?)).size = L.length + 1 ∧ t'.fits (L.length + 1) = true ∧
      SetG w is hash ((s.heap.update a (Obj.putSet (SetTable.insertAt es p (hash k, x)) (offP b t1))).update a (Obj.putSet (order.filterMap ((SetTable.insertAt es p (hash k, x))[·]?)) t')) a L2 (order.filterMap ((SetTable.insertAt es p (hash k, x))[·]?)) (ep + 1 + 1) t' := by
  have hsz := q.size
  have hfull : (L.length + 1) * 5 ≥ t.mask * 3 := by
    have h := hf
    unfold SetTable.tooFull at h
    rw [decide_eq_true_eq, offP_fill, q.fill, offP_mask, q.mask] at h
    exact h
  obtain ⟨M, hM, e1, e2, e3⟩ := grows R.m5 R.room hfull few
  obtain ⟨t', order, L2, r1, r2, r3, r4, r5, r6, r7, r8, r9⟩ := relay_rows (t := offP b t1) q.rows e1 hM.g (by rw [q.pm.length_eq]; show L.length + 1 ≤ M; omega)
  rw [hsz] at r2 r9
  have hl2 : L2.length = L.length + 1 := r4.length_eq.trans q.pm.length_eq
  have sb1 : Heap.SameBut a s.heap (s.heap.update a (Obj.putSet (SetTable.insertAt es p (hash k, x)) (offP b t1))) := Heap.SameBut.update ..
  have ho1 := store_at (es' := SetTable.insertAt es p (hash k, x)) (t' := offP b t1) ho hd
  generalize s.heap.update a (Obj.putSet (SetTable.insertAt es p (hash k, x)) (offP b t1)) = h1 at sb1 ho1 ⊢
  have sb2 : Heap.SameBut a h1 (h1.update a (Obj.putSet (order.filterMap ((SetTable.insertAt es p (hash k, x))[·]?)) t')) := Heap.SameBut.update ..
  refine ⟨t', order, L2, r1, r2, r4.trans q.pm, e2, r9, tab_fits r5 (by rw [List.length_map]; exact hl2) (by rw [r6]; omega), ⟨_, store_at ho1 rfl, ⟨hex.1, hex.2.1, hex.2.2⟩, rfl⟩, r3, r5, by rw [r6]; exact hM, (r4.map (·.2)).nodup_iff.mpr q.nd, fun p hp => ?_, by rw [r7, offP_led, q.led]; exact R.led, by rw [hl2, r6]; exact e3, by rw [hl2]; exact few⟩
  have el1 : is h1 p.2 p.1 := by
    rcases List.mem_cons.mp ((r4.trans q.pm).mem_iff.mp hp) with e | hp
    · rw [e]; exact stay_set (is := is) st ho hd sb1 hx
    · exact stay_set st ho hd sb1 (R.el p hp)
  exact stay_set st ho1 rfl sb2 el1
end
section
variable {P : Program} {w : World} {A : Around} {E : Value → Shared → Prop} {s : Shared} {a : Addr} {es : Array (Int × Value)} {ep : Nat} {t : SetTable}
/-- adding a tuple -/
theorem add_N {L : List (Value × NestedKey)} (R : SetG w isN (NestedKey.hash w) s.heap a L es ep t) {x : Value} {k : NestedKey} (hx : isN s.heap k x) (hu : A.units + 8 < cLine) (hfew : L.length + 1 < 4096) {Q : Bool → Shared → Prop}
    (hQ : ∀ b h' L' es' ep' t', Heap.SameBut a s.heap h' → SetG w isN (NestedKey.hash w) h' a L' es' ep' t' → (k ∈ L.map (·.2) → L' = L) → (k ∉ L.map (·.2) → L'.Perm ((x, k) :: L)) → Q b { s with heap := h' }) :
    wpAny (model P w) A (setAddHashed a x (k.hash w)) Q E s := by
  obtain ⟨o, ho, hex, hd⟩ := R.ob
  have hsl := R.size
  unfold setAddHashed
  refine wpAny_holding ?_
  rw [show (100000 : Nat) = 99999 + 1 from rfl, setAddHashedIn_succ]
  refine wpAny_bind (wpAny_setState_of ho hd R.fits ?_)
  dsimp only
  obtain ⟨xb, exb⟩ := hx.2.2
  refine wp_if_neg (by rw [exb]; simp [byScan, Value.scannable]) ?_
  try refine wpAny_bind (wpAny_pure ?_)
  refine wpAny_bind (search_N0 R hx hu (fun hm => ?_) fun Kn hm hK hb => ?_)
  · dsimp only
    exact wpAny_pure (hQ false s.heap L es ep t (Heap.SameBut.refl a s.heap) R (fun _ => rfl) fun z => absurd hm z)
  · dsimp only
    refine wpAny_bind (wpAny_setState_of ho hd R.fits ?_)
    dsimp only
    obtain ⟨p, t1, L1, q⟩ := R.put1 (x := x) hm hK hb
    rw [q.put]
    dsimp only
    have hz := q.size
    have tail : ∀ b : Bool, wpAny (model P w) A (do
        storeSet a (SetTable.insertAt es p (k.hash w, x)) (offP b t1)
        if !false && (offP b t1).tooFull then setRelay a (SetTable.grown (es.size + 1))
        return true) Q E s := by
      intro b
      refine wpAny_bind (wpAny_storeSet_of ho hd ?_ (by rw [hz, sizeLine_eq]; omega))
      have ho1 := store_at (es' := SetTable.insertAt es p (k.hash w, x)) (t' := offP b t1) ho hd
      have sb1 : Heap.SameBut a s.heap (s.heap.update a (Obj.putSet (SetTable.insertAt es p (k.hash w, x)) (offP b t1))) := Heap.SameBut.update ..
      by_cases hf : (offP b t1).tooFull = true
      · obtain ⟨t', order, L2, g1, g2, g3, g4, g5, g6, g7⟩ := R.regrown isN_stays hx q b ho hex hd hfew hf
        have sb2 := Heap.SameBut.update (s.heap.update a (Obj.putSet (SetTable.insertAt es p (k.hash w, x)) (offP b t1))) a (Obj.putSet (order.filterMap ((SetTable.insertAt es p (k.hash w, x))[·]?)) t')
        generalize s.heap.update a (Obj.putSet (SetTable.insertAt es p (k.hash w, x)) (offP b t1)) = h1 at sb1 sb2 ho1 g7 ⊢
        have relay : wpAny (model P w) A (setRelay a (SetTable.grown (es.size + 1))) (fun _ s' => wpAny (model P w) A (pure true) Q E s') E { s with heap := h1 } := by
          rw [hsl, setRelay_eq]
          have hfits : (offP b t1).fits (SetTable.insertAt es p (k.hash w, x)).size = true := by
            rw [hz]
            refine tab_fits (offP_tab q.tab) (by rw [List.length_map, q.pm.length_eq]; rfl) ?_
            rw [offP_mask, q.mask]
            have := R.room
            have hm7 : 7 ≤ t.mask := by rcases R.m5 with e | e | e | e | e | e <;> rw [e] <;> decide
            omega
          refine wpAny_bind (wpAny_setState_of ho1 rfl hfits ?_)
          dsimp only
          refine wp_if_neg (by rw [sizeLine_eq]; omega) ?_
          try refine wpAny_bind (wpAny_pure ?_)
          rw [g1]
          dsimp only
          refine wpAny_bind ?_
          refine wp_if_neg (by rw [g5, hz]; simp) ?_
          try refine wpAny_bind (wpAny_pure ?_)
          refine wpAny_pure ?_
          dsimp only
          refine wpAny_storeSet_of ho1 rfl ?_ (by rw [g5, sizeLine_eq]; omega)
          exact wpAny_pure (hQ true _ L2 _ _ t' (sb1.trans sb2) g7 (fun z => absurd z hm) fun _ => g3)
        first
          | (refine wpAny_bind ?_; refine wp_if_pos (by simp [hf]) ?_; exact relay)
          | (refine wp_if_pos (by simp [hf]) ?_; refine wpAny_bind ?_; exact relay)
      · have g := R.stored isN_stays hx q b ho hex hd hfew hf
        first
          | (refine wp_if_neg (by simp [hf]) ?_; exact wpAny_pure (hQ true _ L1 _ _ _ sb1 g (fun z => absurd z hm) fun _ => q.pm))
          | (refine wpAny_bind ?_; refine wp_if_neg (by simp [hf]) ?_; refine wpAny_pure ?_; exact wpAny_pure (hQ true _ L1 _ _ _ sb1 g (fun z => absurd z hm) fun _ => q.pm))
    by_cases hp : t1.plain = true
    · have key : wpAny (model P w) A (hashByValue 8 x) (fun b s' => wpAny (model P w) A (do
        storeSet a (SetTable.insertAt es p (k.hash w, x)) (offP b t1)
        if !false && (offP b t1).tooFull then setRelay a (SetTable.grown (es.size + 1))
        return true) Q E s') E s := hashBy_key k x 8 s hx.1 _ _ _ fun b => tail b
      first
        | (refine wpAny_bind ?_; refine wp_if_pos hp ?_; exact key)
        | (refine wp_if_pos hp (wpAny_bind ?_); exact key)
    · have key := tail true
      first
        | (refine wpAny_bind ?_; refine wp_if_neg hp ?_; exact wpAny_pure key)
        | (refine wp_if_neg hp ?_; exact wpAny_bind (wpAny_pure key))
end
end SL

set_option maxHeartbeats 4000000
/-! SF: adding an int or a text -/
namespace SL
open PySem PySem.Spec L2
open PyProof.Rows hiding St

section
variable {P : Program} {w : World} {A : Around} {E : Value → Shared → Prop} {s : Shared} {a : Addr} {es : Array (Int × Value)} {ep : Nat} {t : SetTable}
/-- the value is an int or a text -/
def isM (_ : Heap) (k : Key) (v : Value) : Prop := keyIs k v = true
theorem isM_stays : Stays isM := ⟨fun _ _ _ _ _ x => x⟩
theorem keyIs_scan {k : Key} {v : Value} (h : keyIs k v = true) : v.scannable = true := by
  rcases keyIs_shape h with ⟨i, t, rfl, rfl⟩ | ⟨x, t, rfl, rfl⟩ <;> rfl
abbrev hashM (w : World) : Key → Int := keyH w
theorem elems_M {L : List (Value × Key)} (R : SetG w isM (hashM w) s.heap a L es ep t) : ElemsOf (mixKind P w) es.toList := fun e he => by
  rw [R.rows] at he
  obtain ⟨p, hp, rfl⟩ := List.mem_map.mp he
  exact ⟨⟨p.2, R.el p hp, rfl⟩, keyIs_scan (R.el p hp)⟩
theorem find_M {L : List (Value × Key)} (R : SetG w isM (hashM w) s.heap a L es ep t) (k : Key) : (∃ j, es.toList.findIdx? (fun e => (mixKind P w).is k e.2) = some j ∧ k ∈ L.map (·.2)) ∨ (es.toList.findIdx? (fun e => (mixKind P w).is k e.2) = none ∧ k ∉ L.map (·.2)) := by
  cases hr : es.toList.findIdx? (fun e => (mixKind P w).is k e.2) with
  | some j =>
    obtain ⟨hj, hpj, _⟩ := List.findIdx?_eq_some_iff_getElem.mp hr
    have he := List.getElem_mem hj
    generalize es.toList[j] = e at hpj he
    rw [R.rows] at he
    obtain ⟨p, hp, rfl⟩ := List.mem_map.mp he
    have : p.2 = k := (mixKind P w).inj p.1 p.2 k (R.el p hp) hpj
    exact .inl ⟨j, rfl, List.mem_map.mpr ⟨p, hp, this⟩⟩
  | none =>
    refine .inr ⟨rfl, fun hm => ?_⟩
    obtain ⟨p, hp, rfl⟩ := List.mem_map.mp hm
    have := List.findIdx?_eq_none_iff.mp hr (hashM w p.2, p.1) (by rw [R.rows]; exact List.mem_map.mpr ⟨p, hp, rfl⟩)
    have h2 : (mixKind P w).is p.2 p.1 = true := R.el p hp
    rw [h2] at this
    cases this
/-- the first free slot on a way -/
theorem freeSlot_of {hs : List Int} (T : TabG t hs) {h : Int} {Kn : Nat} (hKf : Kn < 10 * SetTable.turns t.mask) (hK : way t.mask h Kn ∉ t.place.toList) (hb : ∀ c, c < Kn → way t.mask h c ∈ t.place.toList) : t.freeSlot h = some (way t.mask h Kn, false) := by
  have spec := go_spec t T.ris T.dm (fun _ => h + 1) h (10 * SetTable.turns t.mask) Kn (runAt t.mask (SetTable.bits h % (t.mask + 1)) (SetTable.bits h)) rfl hKf hb hK
  rcases spec with ⟨q, i, hq, hi, hh, _, _⟩ | ⟨_, hpr⟩
  · have : h + 1 = h := hh
    omega
  · have e : t.probe (fun _ => h + 1) h (t.probeStart h) = some (.empty (way t.mask h Kn) none) := hpr
    unfold SetTable.freeSlot
    rw [e] <;> rfl
theorem gave_ok {b : Bool} {Q : Unit → Shared → Prop} {s₁ : Shared} (hq : Q () s₁) : wpAny (model P w) A (match b with | true => rule "set.scan.the-table-gave-way" | false => pure ()) Q E s₁ := by
  cases b <;> first | exact wpAny_pure hq | exact wpAny_rule hq
/-- adding an int or a text -/
theorem add_M {L : List (Value × Key)} (R : SetG w isM (hashM w) s.heap a L es ep t) {x : Value} {k : Key} (hx : keyIs k x = true) (hfew : L.length + 1 < 4096) {Q : Bool → Shared → Prop}
    (hQ : ∀ b h' L' es' ep' t', Heap.SameBut a s.heap h' → SetG w isM (hashM w) h' a L' es' ep' t' → (k ∈ L.map (·.2) → L' = L) → (k ∉ L.map (·.2) → L'.Perm ((x, k) :: L)) → Q b { s with heap := h' }) :
    wpAny (model P w) A (setAddHashed a x (hashM w k)) Q E s := by
  obtain ⟨o, ho, hex, hd⟩ := R.ob
  have hsl := R.size
  have hsc := keyIs_scan hx
  have hel := elems_M (P := P) R
  unfold setAddHashed setAddHashedIn
  refine wpAny_holding (wpAny_bind (wpAny_setState_of ho hd R.fits ?_))
  dsimp only
  rw [byScan_of hsc (by rw [hsl]; unfold scanBound; omega) hel]
  simp only [↓reduceIte]
  unfold setAddByScan
  refine wpAny_bind ?_
  refine wpAny_bind (wpAny_rule ?_)
  refine wpAny_bind (wpAny_setScan_of (knd := mixKind P w) hx ho hd R.fits hel ?_)
  rcases find_M (P := P) R k with ⟨j, e, hm⟩ | ⟨e, hm⟩
  · rw [e]
    dsimp only
    exact wpAny_pure (wpAny_pure (hQ false s.heap L es ep t (Heap.SameBut.refl a s.heap) R (fun _ => rfl) fun z => absurd hm z))
  · rw [e]
    dsimp only
    have hroom := R.room
    obtain ⟨Kn, hKf, hK, hKb⟩ := R.tab.first (by rw [List.length_map]; omega) (hashM w k)
    obtain ⟨p, t1, L1, q⟩ := R.put1 (x := x) hm hK hKb
    have hz := q.size
    have hm7 : 7 ≤ t.mask := by rcases R.m5 with e | e | e | e | e | e <;> rw [e] <;> decide
    have fit1 : t1.fits (SetTable.insertAt es p (hashM w k, x)).size = true := by
      rw [hz]
      refine tab_fits q.tab (by rw [List.length_map, q.pm.length_eq]; rfl) ?_
      rw [q.mask]
      omega
    have lay : layNew t es (hashM w k) x = (SetTable.insertAt es p (hashM w k, x), t1, false, false) := by
      unfold layNew
      have e1 := freeSlot_of R.tab hKf hK hKb
      have e2 := q.put
      simp only [e1, e2]
      unfold SetTable.orStandIn
      rw [fit1]
      rfl
    rw [lay]
    dsimp only
    refine wpAny_bind (gave_ok (b := false) ?_)
    have tail : ∀ b : Bool, ∀ {R' : Option Bool → Shared → Prop}, (∀ h' L' es' ep' t', Heap.SameBut a s.heap h' → SetG w isM (hashM w) h' a L' es' ep' t' → L'.Perm ((x, k) :: L) → R' (some true) { s with heap := h' }) → wpAny (model P w) A (do
        storeSet a (SetTable.insertAt es p (hashM w k, x)) (offP b t1)
        if !false && (offP b t1).tooFull then
          (match (relayAll (offP b t1) (SetTable.insertAt es p (hashM w k, x)) (SetTable.grown (SetTable.insertAt es p (hashM w k, x)).size)).2.2 with | true => rule "set.scan.the-table-gave-way" | false => pure ())
          storeSet a (relayAll (offP b t1) (SetTable.insertAt es p (hashM w k, x)) (SetTable.grown (SetTable.insertAt es p (hashM w k, x)).size)).1 (relayAll (offP b t1) (SetTable.insertAt es p (hashM w k, x)) (SetTable.grown (SetTable.insertAt es p (hashM w k, x)).size)).2.1
          pure (some true)
        else pure (some true)) R' E s := by
      intro b R' hR
      refine wpAny_bind (wpAny_storeSet_of ho hd ?_ (by rw [hz, sizeLine_eq]; omega))
      have ho1 := store_at (es' := SetTable.insertAt es p (hashM w k, x)) (t' := offP b t1) ho hd
      have sb1 : Heap.SameBut a s.heap (s.heap.update a (Obj.putSet (SetTable.insertAt es p (hashM w k, x)) (offP b t1))) := Heap.SameBut.update ..
      by_cases hf : (offP b t1).tooFull = true
      · obtain ⟨t', order, L2, g1, g2, g3, g4, g5, g6, g7⟩ := R.regrown isM_stays (is := isM) hx q b ho hex hd hfew hf
        have ra : relayAll (offP b t1) (SetTable.insertAt es p (hashM w k, x)) (SetTable.grown (SetTable.insertAt es p (hashM w k, x)).size) = (order.filterMap ((SetTable.insertAt es p (hashM w k, x))[·]?), t', false) := by
          rw [hz]
          unfold relayAll
          rw [g1]
          have e1 : coversAll order (SetTable.insertAt es p (hashM w k, x)).size = true := by
            unfold coversAll
            rw [hz]
            exact List.isPerm_iff.mpr g2
          simp only [e1, g5, g6, Bool.and_self, if_true]
        rw [ra]
        have sb2 := Heap.SameBut.update (s.heap.update a (Obj.putSet (SetTable.insertAt es p (hashM w k, x)) (offP b t1))) a (Obj.putSet (order.filterMap ((SetTable.insertAt es p (hashM w k, x))[·]?)) t')
        generalize s.heap.update a (Obj.putSet (SetTable.insertAt es p (hashM w k, x)) (offP b t1)) = h1 at sb1 sb2 ho1 g7 ⊢
        refine wp_if_pos (by simp [hf]) ?_
        refine wpAny_bind (gave_ok (b := false) ?_)
        refine wpAny_bind (wpAny_storeSet_of ho1 rfl ?_ (by rw [g5, sizeLine_eq]; omega))
        exact wpAny_pure (hR _ L2 _ _ t' (sb1.trans sb2) g7 g3)
      · have g := R.stored isM_stays (is := isM) hx q b ho hex hd hfew hf
        refine wp_if_neg (by simp [hf]) ?_
        exact wpAny_pure (hR _ L1 _ _ _ sb1 g q.pm)
    have fin : ∀ h' L' es' ep' t', Heap.SameBut a s.heap h' → SetG w isM (hashM w) h' a L' es' ep' t' → L'.Perm ((x, k) :: L) → wpAny (model P w) A (pure true) Q E { s with heap := h' } := fun h' L' es' ep' t' sb g pm => wpAny_pure (hQ true h' L' es' ep' t' sb g (fun z => absurd z hm) fun _ => pm)
    split
    · refine wpAny_bind ?_
      rw [hashByValue_scannable 8 hsc]
      refine wpAny_pure ?_
      exact tail (plainKind x) fun h' L' es' ep' t' sb g pm => fin h' L' es' ep' t' sb g pm
    · refine wpAny_bind (wpAny_pure ?_)
      exact tail true fun h' L' es' ep' t' sb g pm => fin h' L' es' ep' t' sb g pm
end
end SL

set_option maxHeartbeats 4000000
/-! SG: set(xs), xs a list, a tuple, a text -/
namespace SL
open PySem PySem.Spec L2
open PyProof.Rows hiding St

section
variable {P : Program} {w : World} {A : Around} {E : Value → Shared → Prop} {s : Shared}
abbrev setObj0 (w : World) : Obj := { cls := .type "set", dict := none, data := .set #[] 0 (.fresh 0 0 (!w.params.followText "set-order")) }
/-- what set.__init__ comes to -/
abbrev initTail (P : Program) (w : World) (A : Around) (S : Addr) (v : Value) (R : PySem.Fin → Shared → Prop) (E : Value → Shared → Prop) (s : Shared) : Prop :=
  wpAny (model P w) A (pyIter v) (fun a s' => wpAny (model P w) A (runValue (Code.builtin "set.update.loop" { pos := [Value.ref S, a] })) (fun _ s' => wpAny (model P w) A (ret Value.none) R E s') E s') E s
theorem init_l {S l : Addr} {odict : Option Addr} {items : Array Value} {nl : Nat} {oslots : Array (Option Value)} {R : PySem.Fin → Shared → Prop} (hS : s.heap.get? S = some { cls := .type "set", dict := none, data := .set #[] 0 (.fresh 0 0 (!w.params.followText "set-order")) })
    (hol : s.heap.get? l = some { cls := .type "list", dict := odict, data := .seq items nl, slots := oslots })
    (hloop : initTail P w A S (.ref l) R E s) : wpAny (model P w) A (Builtin.«set.__init__» ⟨[.ref S, .ref l], []⟩) R E s := by
  unfold initTail at hloop
  have hsls := F.sub_list_set
  have hslf := F.sub_list_frozenset
  have hT : s.TypeIs (.ref S) "set" := ⟨_, hS, rfl⟩
  have hne : (Value.type "list" == Value.type "dict") = false := by decide
  unfold Builtin.«set.__init__» noKeywords Builtin.Frozenset.updateFrom
  generalize hPI : pyIter = PI at hloop ⊢
  wp_walk
  refine wpAny_mono hloop (fun a s' h => wpAny_bind (wpAny_mono h (fun _ s' h => wpAny_pure h) fun _ _ h => h)) fun _ _ h => h
theorem init_t {S l : Addr} {odict : Option Addr} {items : Array Value} {nl : Nat} {oslots : Array (Option Value)} {R : PySem.Fin → Shared → Prop} (hS : s.heap.get? S = some { cls := .type "set", dict := none, data := .set #[] 0 (.fresh 0 0 (!w.params.followText "set-order")) })
    (hol : s.heap.get? l = some { cls := .type "tuple", dict := odict, data := .seq items nl, slots := oslots })
    (hloop : initTail P w A S (.ref l) R E s) : wpAny (model P w) A (Builtin.«set.__init__» ⟨[.ref S, .ref l], []⟩) R E s := by
  unfold initTail at hloop
  have hsls := F.sub_tuple_set
  have hslf := F.sub_tuple_frozenset
  have hT : s.TypeIs (.ref S) "set" := ⟨_, hS, rfl⟩
  have hne : (Value.type "tuple" == Value.type "dict") = false := by decide
  unfold Builtin.«set.__init__» noKeywords Builtin.Frozenset.updateFrom
  generalize hPI : pyIter = PI at hloop ⊢
  wp_walk
  refine wpAny_mono hloop (fun a s' h => wpAny_bind (wpAny_mono h (fun _ s' h => wpAny_pure h) fun _ _ h => h)) fun _ _ h => h
theorem init_s {S : Addr} {x : Str} {t : Tok} {R : PySem.Fin → Shared → Prop} (hS : s.heap.get? S = some { cls := .type "set", dict := none, data := .set #[] 0 (.fresh 0 0 (!w.params.followText "set-order")) })
    (hloop : initTail P w A S (.str x t) R E s) : wpAny (model P w) A (Builtin.«set.__init__» ⟨[.ref S, .str x t], []⟩) R E s := by
  unfold initTail at hloop
  have hsls := F.sub_str_set
  have hslf := F.sub_str_frozenset
  have hT : s.TypeIs (.ref S) "set" := ⟨_, hS, rfl⟩
  have hne : (Value.type "str" == Value.type "dict") = false := by decide
  unfold Builtin.«set.__init__» noKeywords Builtin.Frozenset.updateFrom
  generalize hPI : pyIter = PI at hloop ⊢
  wp_walk
  refine wpAny_mono hloop (fun a s' h => wpAny_bind (wpAny_mono h (fun _ s' h => wpAny_pure h) fun _ _ h => h)) fun _ _ h => h
end
/-- a kind of things that sets hold -/
structure Kd (P : Program) (w : World) (K : Type) (is : Heap → K → Value → Prop) (hash : K → Int) (room : Around → Prop) : Prop where
  st : Stays is
  hashed : ∀ {A : Around} {E : Value → Shared → Prop} {s : Shared} {k : K} {v : Value} {Q : Int → Shared → Prop}, room A → is s.heap k v → (∀ tk, s.toks ≤ tk → Q (hash k) { s with toks := tk }) → wpAny (model P w) A (pyHash v) Q E s
  add : ∀ {A : Around} {E : Value → Shared → Prop} {s : Shared} {a : Addr} {L : List (Value × K)} {es : Array (Int × Value)} {ep : Nat} {t : SetTable}, room A → SetG w is hash s.heap a L es ep t → ∀ {x : Value} {k : K}, is s.heap k x → L.length + 1 < 4096 → ∀ {Q : Bool → Shared → Prop},
    (∀ b h' L' es' ep' t', Heap.SameBut a s.heap h' → SetG w is hash h' a L' es' ep' t' → (k ∈ L.map (·.2) → L' = L) → (k ∉ L.map (·.2) → L'.Perm ((x, k) :: L)) → Q b { s with heap := h' }) → wpAny (model P w) A (setAddHashed a x (hash k)) Q E s
theorem kd_N {P : Program} {w : World} : Kd P w NestedKey isN (NestedKey.hash w) (fun A => A.units + 8 < cLine) := ⟨isN_stays, fun hu hk h => pyHash_key _ _ _ _ _ hk.1 (by have := hk.2.1; omega) (h _ (Nat.le_add_right _ _)), fun hu R _ _ hx few _ hQ => add_N R hx (by omega) few hQ⟩
theorem kd_M {P : Program} {w : World} : Kd P w Key isM (hashM w) (fun _ => True) := ⟨isM_stays, fun _ hk h => (mixKind P w).pyHash hk (h _ (Nat.le_succ _)), fun _ R _ _ hx few _ hQ => add_M R hx few hQ⟩
section
variable {P : Program} {w : World} {A : Around} {E : Value → Shared → Prop} {s : Shared} {K : Type} {is : Heap → K → Value → Prop} {hash : K → Int} {room : Around → Prop}
/-- what the set has got from the first i things -/
structure GotG (Pv : Nat → Value → Prop) (ks : List K) (i : Nat) (L : List (Value × K)) : Prop where
  sub : ∀ p ∈ L, ∃ j, j < i ∧ Pv j p.1 ∧ ks[j]? = some p.2
  all : ∀ k ∈ ks.take i, k ∈ L.map (·.2)
  len : L.length ≤ i
theorem GotG.zero (Pv : Nat → Value → Prop) (ks : List K) : GotG Pv ks 0 [] := ⟨fun p h => (by cases h), fun p h => (by simp at h), Nat.le_refl _⟩
theorem GotG.same {Pv : Nat → Value → Prop} {ks : List K} {L : List (Value × K)} {i : Nat} {k : K} (g : GotG Pv ks i L) (h : ks[i]? = some k) (hm : k ∈ L.map (·.2)) : GotG Pv ks (i + 1) L := by
  refine ⟨fun p hp => ?_, fun p hp => ?_, Nat.le_succ_of_le g.len⟩
  · obtain ⟨j, h1, h2⟩ := g.sub p hp
    exact ⟨j, Nat.lt_succ_of_lt h1, h2⟩
  · rw [take_next h] at hp
    rcases List.mem_append.mp hp with z | z
    · exact g.all p z
    · rw [List.mem_singleton.mp z]; exact hm
theorem GotG.more {Pv : Nat → Value → Prop} {ks : List K} {L L' : List (Value × K)} {i : Nat} {k : K} {x : Value} (g : GotG Pv ks i L) (h : ks[i]? = some k) (hv : Pv i x) (pm : L'.Perm ((x, k) :: L)) : GotG Pv ks (i + 1) L' := by
  refine ⟨fun p hp => ?_, fun p hp => ?_, ?_⟩
  · rcases List.mem_cons.mp (pm.mem_iff.mp hp) with e | z
    · rw [e]; exact ⟨i, Nat.lt_succ_self i, hv, h⟩
    · obtain ⟨j, h1, h2⟩ := g.sub p z
      exact ⟨j, Nat.lt_succ_of_lt h1, h2⟩
  · rw [(pm.map (·.2)).mem_iff, List.map_cons]
    rw [take_next h] at hp
    rcases List.mem_append.mp hp with z | z
    · exact List.mem_cons_of_mem _ (g.all p z)
    · rw [List.mem_singleton.mp z]; exact List.mem_cons_self
  · rw [pm.length_eq, List.length_cons]
    exact Nat.succ_le_succ g.len
theorem SetG.keep {h h' : Heap} {a : Addr} {L : List (Value × K)} {es : Array (Int × Value)} {ep : Nat} {t : SetTable} (R : SetG w is hash h a L es ep t) (ha : ∀ o, h.get? a = some o → h'.get? a = some o) (ht : ∀ p ∈ L, is h' p.2 p.1) : SetG w is hash h' a L es ep t := by
  obtain ⟨o, ho, r⟩ := R.ob
  exact ⟨⟨o, ha o ho, r⟩, R.rows, R.tab, R.m5, R.nd, ht, R.led, R.room, R.few⟩
/-- a new set -/
theorem setG_fresh {h : Heap} {a : Addr} (ho : h.get? a = some { cls := .type "set", dict := none, data := .set #[] 0 (.fresh 0 0 (!w.params.followText "set-order")) }) : SetG w is hash h a [] #[] 0 (.fresh 0 0 (!w.params.followText "set-order")) where
  ob := ⟨_, ho, ⟨rfl, rfl, rfl⟩, rfl⟩
  rows := rfl
  tab := ⟨List.Pairwise.nil, rfl, rfl, ⟨3, by decide, rfl⟩, fun x hx => (by cases hx), fun i h j hi => (by simp at hi)⟩
  m5 := .inl rfl
  nd := List.nodup_nil
  el := fun p hp => (by cases hp)
  led := by
    show _ ∨ (!w.params.followText "set-order") = true
    cases w.params.followText "set-order"
    · exact .inr rfl
    · exact .inl rfl
  room := by show 0 * 5 < 7 * 3; decide
  few := by show 0 < 4096; decide
/-- set.update's loop -/
theorem set_update_G (kd : Kd P w K is hash room) {I : Addr} {fp wr : List Addr} {G : Array GenState → Array GenState → Prop} {n : Nat} {Pv : Nat → Value → Prop} {St : Nat → Shared → Prop} {R : Result → Shared → Prop}
    (W : WalksS P w A.in1 I fp wr G n Pv St) (S : Addr) (hSf : S ∉ fp) (ks : List K) (hn : n = ks.length) (hfew : ks.length < 4096)
    (h0 : Heap) (hS0 : h0.get? S = none) (hw0 : ∀ b ∈ wr, h0.get? b = none) (hval : ∀ i v, Pv i v → ∃ k, ks[i]? = some k ∧ is h0 k v) (hr : room A.in1) :
    ∀ (k i : Nat) (s : Shared), n - i = k → i ≤ n → St i s → (∀ b o, h0.get? b = some o → s.heap.get? b = some o) → (∃ L es ep t, SetG w is hash s.heap S L es ep t ∧ GotG Pv ks i L) →
      (∀ s' L es ep t, Moved (S :: wr) G s s' → SetG w is hash s'.heap S L es ep t → GotG Pv ks n L → (∀ b o, h0.get? b = some o → s'.heap.get? b = some o) → R (.ok (.ret .none)) s') →
      codeAny (model P w) A (.builtin "set.update.loop" ⟨[.ref S, .ref I], []⟩) R s := by
  have hSw : S ∉ wr := fun h => hSf (W.sub _ h)
  have hsub : ∀ b ∈ wr, b ∈ S :: wr := fun b hb => List.mem_cons_of_mem _ hb
  have keepM : ∀ {s s' : Shared}, Moved wr G s s' → (∀ b o, h0.get? b = some o → s.heap.get? b = some o) → ∀ b o, h0.get? b = some o → s'.heap.get? b = some o := fun hm hkp b o e =>
    hm.heap b o (fun hb => by rw [hw0 b hb] at e; cases e) (hkp b o e)
  have elem : ∀ {h : Heap} {L : List (Value × K)} {i : Nat}, GotG Pv ks i L → (∀ b o, h0.get? b = some o → h.get? b = some o) → ∀ p ∈ L, is h p.2 p.1 := fun g hkp p hp => by
    obtain ⟨j, _, h2, h3⟩ := g.sub p hp
    obtain ⟨k, e1, e2⟩ := hval j p.1 h2
    rw [h3] at e1
    cases e1
    exact stay_all (is := is) kd.st hkp e2
  intro k
  induction k with
  | zero =>
    intro i s hk' hi hst hkp ⟨L, es, ep, t, hS, g⟩ hR
    have hin : i = n := by omega
    subst hin
    refine codeAny_builtin F.entry_set_update_loop ?_
    rw [Around.under_plainId F.plain_set_update_loop _]
    show wpAny _ A.in1 (pyNext (.ref I) >>= _) _ _ s
    refine wpAny_bind (W.done s _ _ hst fun s' hm => ?_)
    show wpAny _ A.in1 (ret Value.none) _ _ s'
    have hkp' := keepM hm hkp
    exact wpAny_pure (hR s' L es ep t (hm.mono hsub) (hS.keep (fun o e => hm.heap S o hSw e) (elem g hkp')) g hkp')
  | succ k ih =>
    intro i s hk' hi hst hkp ⟨L, es, ep, t, hS, g⟩ hR
    have hlt : i < n := by omega
    refine codeAny_builtin F.entry_set_update_loop ?_
    rw [Around.under_plainId F.plain_set_update_loop _]
    show wpAny _ A.in1 (pyNext (.ref I) >>= _) _ _ s
    refine wpAny_bind (W.item i s _ _ hlt hst fun v s' hP hst' hm => ?_)
    obtain ⟨kk, hp, hx0⟩ := hval i v hP
    have hkp' := keepM hm hkp
    have hS' : SetG w is hash s'.heap S L es ep t := hS.keep (fun o e => hm.heap S o hSw e) (elem g hkp')
    have hx : is s'.heap kk v := stay_all (is := is) kd.st hkp' hx0
    show wpAny _ A.in1 (holding [v] (setAdd S v) >>= _) _ _ s'
    refine wpAny_bind (wpAny_holding ?_)
    unfold setAdd
    refine wpAny_holding ?_
    refine wpAny_bind (kd.hashed hr hx fun tk htk => ?_)
    refine kd.add (s := { s' with toks := tk }) hr hS' hx (by have := g.len; omega) fun b h' L' es' ep' t' hsb hS2 c1 c2 => ?_
    have g' : GotG Pv ks (i + 1) L' := by
      rcases Classical.em (kk ∈ L.map (·.2)) with c | c
      · rw [c1 c]; exact g.same hp c
      · exact g.more hp hP (c2 c)
    have hkp2 : ∀ b o, h0.get? b = some o → h'.get? b = some o := fun b o e => (hsb.2 b (fun z => by rw [z, hS0] at e; cases e)).trans (hkp' b o e)
    refine wpAny_pure ⟨plainId_quiet F.plain_set_update_loop _, ih (i + 1) _ (by omega) hlt (W.frame _ s' _ _ hst' htk fun b hb o e => ?_) hkp2 ⟨L', es', ep', t', hS2, g'⟩ fun s'' L2 es2 ep2 t2 hm'' hS'' g'' hkp'' => ?_⟩
    · rw [hsb.2 b (fun h : b = S => hSf (by rw [← h]; exact hb))]; exact e
    · refine hR s'' L2 es2 ep2 t2 (Moved.trans W.gtrans ((hm.mono hsub).then_heap htk fun b o hb e => ?_) hm'') hS'' g'' hkp''
      rw [hsb.2 b (fun h : b = S => hb (by rw [h]; exact List.mem_cons_self))]; exact e
/-- what is handed to set(..), and its things: those at the i-th place -/
def SrcG (h : Heap) (v : Value) (n : Nat) (Pv : Nat → Value → Prop) : Prop :=
  (∃ l items, v = .ref l ∧ h.IsList l items ∧ items.size = n ∧ Pv = fun i v => items[i]? = some v) ∨ (∃ l items, v = .ref l ∧ h.IsTuple l items ∧ items.size = n ∧ Pv = fun i v => items[i]? = some v) ∨ ∃ x t, v = .str x t ∧ x.cps.size = n ∧ Pv = SignAt x
set_option maxHeartbeats 8000000 in
/-- set(xs) -/
theorem call_set_G (kd : Kd P w K is hash room) {v : Value} {n : Nat} {Pv : Nat → Value → Prop} (ks : List K) {Q : Value → Shared → Prop} (hh : A.handled = none) (hsrc : SrcG s.heap v n Pv) (hn : n = ks.length)
    (hval : ∀ i v, Pv i v → ∃ k, ks[i]? = some k ∧ is s.heap k v) (hfew : ks.length < 4096) (hr : room A.in1.in1.in1)
    (h : ∀ (h' : Heap) (tk : Nat) L es ep t, SetG w is hash h' s.heap.objs.size L es ep t → GotG Pv ks ks.length L → (∀ b o, s.heap.get? b = some o → h'.get? b = some o) → Q (.ref s.heap.objs.size) { s with heap := h', toks := tk }) :
    wpAny (model P w) A (call (.type "set") [v]) Q E s := by
  obtain ⟨c, tl, hmro⟩ := F.called_set.mro
  have hmade := F.called_set.made
  have hsub := F.called_set.sub
  refine wpAny_call (codeAny_of_tree ?_)
  show wpAny _ _ (callAny (.type "set") _) _ _ _
  refine wpAny_pure ⟨Code.quiet_builtin _ (by decide +kernel), codeAny_builtin F.entry_type_call ?_⟩
  rw [Around.under_plain (weight_type_call_type "set" [v] []) rfl]
  have h1 := F.called_set.notType
  have h2 := F.called_set.canCreate
  have hct := F.typeCall_set_1 v
  repeat (any_goals (first | assumption | wp_step))

  refine codeAny_mono (code_set_led1 v (E := E) (Q₁ := fun obj s₁ => obj = .ref s.heap.objs.size ∧ s₁ = { s with heap := s.heap.push (setObj0 w) }) ⟨rfl, rfl⟩) fun r s₁ hr' => ?_
  cases r with
  | error e => exact hr'
  | ok fl =>
    cases fl with
    | ret obj =>
      obtain ⟨rfl, rfl⟩ := hr'
      have hS : (s.heap.push (setObj0 w)).get? s.heap.objs.size = some (setObj0 w) := Heap.get?_push_size _ rfl
      have hT : Shared.TypeIs { s with heap := s.heap.push (setObj0 w) } (.ref s.heap.objs.size) "set" := ⟨_, hS, rfl⟩
      have hli := F.called_set.init.lookup
      have hbi := F.called_set.init.bind (.ref s.heap.objs.size)
      repeat (any_goals (first | assumption | wp_step))

      refine codeAny_mono (codeAny_call_builtin (R := wants (fun r s₂ => r = .none ∧ ∃ h' tk L es ep t, s₂ = { s with heap := h', toks := tk } ∧ SetG w is hash h' s.heap.objs.size L es ep t ∧ GotG Pv ks ks.length L ∧
          (∀ b o, s.heap.get? b = some o → h'.get? b = some o)) E) F.called_set.init.plain F.entry_set_init (check_set_init_1 hT ?_)) fun r₂ s₂ hr₂ => ?_
      · have hz1 : (s.heap.push (setObj0 w)).objs.size = s.heap.objs.size + 1 := Heap.size_push ..
        have none_of : ∀ b, s.heap.objs.size ≤ b → s.heap.get? b = none := fun b hb => by
          cases q : s.heap.get? b with
          | none => rfl
          | some o => exact absurd (Nat.lt_of_lt_of_le (Heap.lt_size q) hb) (Nat.lt_irrefl _)
        have hh3 : A.in1.in1.in1.handled = none := by simp [hh]
        have loop : ∀ {A' : Around} {fp : List Addr} {St : Nat → Heap → Prop} {io : Obj}, Walks P w A'.in1 (s.heap.push (setObj0 w)).objs.size fp [(s.heap.push (setObj0 w)).objs.size] n Pv St → s.heap.objs.size ∉ fp → room A'.in1 → St 0 ((s.heap.push (setObj0 w)).push io) → ∀ {R : Result → Shared → Prop},
            (∀ h' tk L es ep t, SetG w is hash h' s.heap.objs.size L es ep t → GotG Pv ks ks.length L → (∀ b o, s.heap.get? b = some o → h'.get? b = some o) → R (.ok (.ret .none)) { s with heap := h', toks := tk }) →
            codeAny (model P w) A' (.builtin "set.update.loop" ⟨[.ref s.heap.objs.size, .ref (s.heap.push (setObj0 w)).objs.size], []⟩) R { s with heap := (s.heap.push (setObj0 w)).push io } := by
          intro A' fp St io W hSf hr' hst R hR
          refine set_update_G kd W.toS s.heap.objs.size hSf ks hn hfew s.heap (none_of _ (Nat.le_refl _)) (fun b hb => none_of b (by
            rw [List.mem_singleton.mp hb, hz1]
            exact Nat.le_succ _)) hval hr' (n - 0) 0 _ (by omega) (Nat.zero_le _) hst (fun b o e => Heap.get?_push_of_some _ (Heap.get?_push_of_some _ e)) ⟨[], #[], 0, _, setG_fresh (Heap.get?_push_of_some _ hS), GotG.zero Pv ks⟩ ?_
          intro s' L es ep t hm hS' g' hkp
          obtain ⟨h', g2, d', tk', os'⟩ := s'
          have eg : g2 = s.gens := hm.gens
          have ed : d' = s.drawn := hm.drawn
          have eo : os' = s.os := hm.os
          subst eg; subst ed; subst eo
          rw [hn] at g'
          exact hR h' tk' L es ep t hS' g' hkp
        rcases hsrc with ⟨l, items, rfl, hl, ez, eP⟩ | ⟨l, items, rfl, hl, ez, eP⟩ | ⟨x, t, rfl, ez, eP⟩
        · obtain ⟨ol, hol, hcl, nl, hdl⟩ := hl
          obtain ⟨ocls, odict, odata, oslots⟩ := ol
          simp only at hcl hdl
          subst hcl; subst hdl
          have hol' : (s.heap.push (setObj0 w)).get? l = some { cls := .type "list", dict := odict, data := .seq items nl, slots := oslots } := Heap.get?_push_of_some _ hol
          have hl1 : (s.heap.push (setObj0 w)).IsList l items := ⟨_, hol', rfl, nl, rfl⟩
          refine init_l hS hol' ?_
          refine wpAny_pyIter_list hl1 ?_
          refine wpAny_runValue ?_
          have hlS : l < s.heap.objs.size := Heap.lt_size hol
          have hneI : l ≠ (s.heap.push (setObj0 w)).objs.size := by rw [hz1]; exact Nat.ne_of_lt (Nat.lt_succ_of_lt hlS)
          have W := Walks.list (prog := P) (w := w) hh3 (s.heap.push (setObj0 w)).objs.size l hneI items
          rw [ez, ← eP] at W
          refine loop W (by rw [hz1]; simp only [List.mem_cons, List.mem_singleton, List.not_mem_nil, or_false, not_or]; exact ⟨Nat.ne_of_lt (Nat.lt_succ_self _), Nat.ne_of_gt hlS⟩) hr ⟨⟨_, Heap.get?_push_size _ rfl, rfl, rfl⟩, (hl1.push _)⟩ fun h' tk L es ep t g1 g2 g3 => ?_
          show wpAny _ _ (ret Value.none) _ _ _
          exact wpAny_pure ⟨rfl, h', tk, L, es, ep, t, rfl, g1, g2, g3⟩
        · obtain ⟨ol, hol, hcl, nl, hdl⟩ := hl
          obtain ⟨ocls, odict, odata, oslots⟩ := ol
          simp only at hcl hdl
          subst hcl; subst hdl
          have hol' : (s.heap.push (setObj0 w)).get? l = some { cls := .type "tuple", dict := odict, data := .seq items nl, slots := oslots } := Heap.get?_push_of_some _ hol
          have hl1 : (s.heap.push (setObj0 w)).IsTuple l items := ⟨_, hol', rfl, nl, rfl⟩
          refine init_t hS hol' ?_
          refine wpAny_pyIter_tuple hl1 ?_
          refine wpAny_runValue ?_
          have hlS : l < s.heap.objs.size := Heap.lt_size hol
          have hneI : l ≠ (s.heap.push (setObj0 w)).objs.size := by rw [hz1]; exact Nat.ne_of_lt (Nat.lt_succ_of_lt hlS)
          have W := Walks.tuple (prog := P) (w := w) hh3 (s.heap.push (setObj0 w)).objs.size l hneI items
          rw [ez, ← eP] at W
          refine loop W (by rw [hz1]; simp only [List.mem_cons, List.mem_singleton, List.not_mem_nil, or_false, not_or]; exact ⟨Nat.ne_of_lt (Nat.lt_succ_self _), Nat.ne_of_gt hlS⟩) hr ⟨⟨_, Heap.get?_push_size _ rfl, rfl, rfl⟩, (hl1.push _)⟩ fun h' tk L es ep t g1 g2 g3 => ?_
          show wpAny _ _ (ret Value.none) _ _ _
          exact wpAny_pure ⟨rfl, h', tk, L, es, ep, t, rfl, g1, g2, g3⟩
        · refine init_s hS ?_
          refine wpAny_pyIter_str fun io St0 hW hst => ?_
          refine wpAny_runValue ?_
          have W := hW A.in1.in1.in1 hh3
          rw [ez, ← eP] at W
          refine loop W (by
            show s.heap.objs.size ∉ [(s.heap.push (setObj0 w)).objs.size]
            rw [hz1, List.mem_singleton]; exact Nat.ne_of_lt (Nat.lt_succ_self _)) hr hst fun h' tk L es ep t g1 g2 g3 => ?_
          show wpAny _ _ (ret Value.none) _ _ _
          exact wpAny_pure ⟨rfl, h', tk, L, es, ep, t, rfl, g1, g2, g3⟩
      · cases r₂ with
        | error e => exact hr₂
        | ok fl₂ =>
          cases fl₂ with
          | ret r =>
            obtain ⟨rfl, h', tk, L, es, ep, t, rfl, hS', g', hk'⟩ := hr₂
            repeat (any_goals (first | assumption | wp_step))
            exact h _ _ _ _ _ _ hS' g' hk'
          | _ => exact hr₂.elim
    | _ => exact hr'.elim
end
end SL

set_option maxHeartbeats 2000000
/-! SH: the order of ints, texts and flat tuples of such; lists of them sorted -/
namespace SL
open PySem PySem.Spec L2
open PyProof.Rows hiding St

/-- a part of a key -/
abbrev Sc := Sum Int (List Nat)
def scLt : Sc → Sc → Bool
  | .inl i, .inl j => decide (i < j)
  | .inr a, .inr b => decide (a < b)
  | .inl _, .inr _ => true
  | .inr _, .inl _ => false
theorem scLt_irr : ∀ a, scLt a a = false
  | .inl i => decide_eq_false (Int.lt_irrefl i)
  | .inr a => decide_eq_false (List.lt_irrefl a)
theorem scLt_asym : ∀ {a b}, scLt a b = true → scLt b a = false
  | .inl i, .inl j, h => by have := of_decide_eq_true h; exact decide_eq_false (by omega)
  | .inr a, .inr b, h => decide_eq_false (List.lt_asymm (of_decide_eq_true h))
  | .inl _, .inr _, _ => rfl
theorem scLt_tr : ∀ {a b c}, scLt a b = true → scLt b c = true → scLt a c = true
  | .inl i, .inl j, .inl k, h, g => by have := of_decide_eq_true h; have := of_decide_eq_true g; exact decide_eq_true (by omega)
  | .inr a, .inr b, .inr c, h, g => decide_eq_true (List.lt_trans (of_decide_eq_true h) (of_decide_eq_true g))
  | .inl _, .inl _, .inr _, _, _ => rfl
  | .inl _, .inr _, .inr _, _, _ => rfl
theorem scLt_tri : ∀ {a b}, scLt a b = false → scLt b a = false → a = b
  | .inl i, .inl j, h, g => by
    have := of_decide_eq_false h
    have := of_decide_eq_false g
    rw [show i = j by omega]
  | .inr a, .inr b, h, g => by
    have h := of_decide_eq_false h
    have g := of_decide_eq_false g
    rw [List.le_antisymm (List.not_lt.mp g) (List.not_lt.mp h)]
  | .inl _, .inr _, h, _ => by cases h
  | .inr _, .inl _, _, g => by cases g
/-- lists of parts, one after another -/
def fkLt : List Sc → List Sc → Bool
  | [], [] => false
  | [], _ :: _ => true
  | _ :: _, [] => false
  | a :: as, b :: bs => if a = b then fkLt as bs else scLt a b
theorem fkLt_asym : ∀ {a b}, fkLt a b = true → fkLt b a = false
  | [], _ :: _, _ => rfl
  | a :: as, b :: bs, h => by
    unfold fkLt at h ⊢
    by_cases e : a = b
    · rw [if_pos e] at h
      rw [if_pos e.symm]
      exact fkLt_asym h
    · rw [if_neg e] at h
      rw [if_neg fun z => e z.symm]
      exact scLt_asym h
theorem fkLt_irr : ∀ a, fkLt a a = false
  | [] => rfl
  | a :: as => by unfold fkLt; rw [if_pos rfl]; exact fkLt_irr as
theorem fkLt_tri : ∀ {a b}, fkLt a b = false → fkLt b a = false → a = b
  | [], [], _, _ => rfl
  | [], _ :: _, h, _ => by cases h
  | _ :: _, [], _, h => by cases h
  | a :: as, b :: bs, h, g => by
    unfold fkLt at h g
    by_cases e : a = b
    · rw [if_pos e] at h
      rw [if_pos e.symm] at g
      rw [e, fkLt_tri h g]
    · rw [if_neg e] at h
      rw [if_neg fun z => e z.symm] at g
      exact (e (scLt_tri h g)).elim
theorem fkLt_tr : ∀ {a b c}, fkLt a b = true → fkLt b c = true → fkLt a c = true
  | [], _ :: _, _ :: _, _, _ => rfl
  | [], _ :: _, [], _, g => by cases g
  | [], [], _, h, _ => by cases h
  | _ :: _, [], _, h, _ => by cases h
  | _ :: _, _ :: _, [], _, g => by cases g
  | a :: as, b :: bs, c :: cs, h, g => by
    unfold fkLt at h g ⊢
    by_cases e : a = b
    · subst e
      rw [if_pos rfl] at h
      by_cases e2 : a = c
      · rw [if_pos e2] at g ⊢
        exact fkLt_tr h g
      · rw [if_neg e2] at g ⊢
        exact g
    · rw [if_neg e] at h
      by_cases e2 : b = c
      · subst e2
        rw [if_neg e]; exact h
      · rw [if_neg e2] at g
        have t := scLt_tr h g
        rw [if_neg fun z => by rw [z, scLt_irr] at t; cases t]
        exact t
theorem swo_fk {α : Type} (k : α → List Sc) : SrtO.Swo fun x y => fkLt (k x) (k y) := by
  refine ⟨fun x y h => fkLt_asym h, fun x y z h1 h2 => ?_⟩
  cases e : fkLt (k z) (k x) with
  | false => rfl
  | true =>
    exfalso
    cases e2 : fkLt (k x) (k y) with
    | true =>
      have := fkLt_tr e e2
      rw [h2] at this; cases this
    | false =>
      have := fkLt_tri h1 e2
      rw [this] at h2
      rw [h2] at e; cases e
/-! ### the keys of values -/
def scV : Value → Sc
  | .int i _ => .inl i
  | .str x _ => .inr x.cps.toList
  | _ => .inl 0
def fkV (h : Heap) : Value → List Sc
  | .ref a => match h.get? a with
    | some o => match o.data with
      | .seq vs _ => vs.toList.map scV
      | _ => []
    | none => []
  | v => [scV v]
def kdV : Value → Option Bool
  | .int _ _ => some true
  | .str _ _ => some false
  | _ => none
/-- a flat tuple of the shape sh -/
def TupV (h : Heap) (sh : List Bool) (v : Value) : Prop := ∃ a o vs n, v = .ref a ∧ h.get? a = some o ∧ o.cls = .type "tuple" ∧ o.data = .seq vs n ∧ vs.toList.map kdV = sh.map some
/-- values that sort: ints, texts, tuples of a shape -/
inductive Alike (h : Heap) (vs : List Value) : Prop
  | ofI (e : ∀ v ∈ vs, ∃ i t, v = Value.int i t)
  | ofS (e : ∀ v ∈ vs, ∃ x t, v = Value.str x t)
  | ofT {b : Bool} {sh : List Bool} (e : ∀ v ∈ vs, TupV h (b :: sh) v)
theorem TupV.at {h h' : Heap} {sh : List Bool} {v : Value} (x : TupV h sh v) (k : ∀ b o, o.cls = .type "tuple" → h.get? b = some o → h'.get? b = some o) : TupV h' sh v ∧ fkV h' v = fkV h v := by
  obtain ⟨a, o, vs, n, rfl, ho, hc, hd, e⟩ := x
  have ho' := k a o hc ho
  refine ⟨⟨a, o, vs, n, rfl, ho', hc, hd, e⟩, ?_⟩
  simp only [fkV, ho, ho']
section
variable {P : Program} {w : World} {A : Around} {E : Value → Shared → Prop} {s : Shared}
theorem kd_true {v : Value} (h : kdV v = some true) : ∃ i t, v = .int i t := by
  cases v <;> first | exact ⟨_, _, rfl⟩ | cases h
theorem kd_false {v : Value} (h : kdV v = some false) : ∃ i t, v = .str i t := by
  cases v <;> first | exact ⟨_, _, rfl⟩ | cases h
theorem S_inj {x y : Str} (h : x.cps.toList = y.cps.toList) : x = y := by
  cases x; cases y
  congr 1
  exact Array.toList_inj.mp h
/-- two flat tuples compared -/
theorem lex_ok {fin b : Bool} {Q : Bool → Shared → Prop} : ∀ {sh : List Bool} {vs us : List Value} (i : Nat), vs.map kdV = sh.map some → us.map kdV = sh.map some → (fin = false) → Q (fkLt (vs.map scV) (us.map scV)) s → PySem.W.KatLex P w A b fin Q (vs.zip us) i s
  | [], [], [], _, _, _, hf, h => PySem.W.kat_nil (by rw [hf]; exact h)
  | [], _ :: _, _, _, e, _, _, _ => by simp at e
  | [], [], _ :: _, _, _, e, _, _ => by simp at e
  | _ :: _, [], _, _, e, _, _, _ => by simp at e
  | _ :: _, _ :: _, [], _, _, e, _, _ => by simp at e
  | k :: sh, v :: vs, u :: us, i, e1, e2, hf, h => by
    simp only [List.map_cons, List.cons.injEq] at e1 e2
    obtain ⟨k1, e1⟩ := e1
    obtain ⟨k2, e2⟩ := e2
    rw [List.zip_cons_cons]
    rw [List.map_cons, List.map_cons] at h
    unfold fkLt at h
    have next : ∀ {e : Bool}, (e = true → scV v = scV u) → (e = false → ¬ scV v = scV u) → (∀ {c : Bool} {Q' : Bool → Shared → Prop}, Q' (scLt (scV v) (scV u)) s → wpAny (model P w) A (oneLt' c v u) Q' (fun _ _ => False) s) → PySem.W.KatGo P w A b fin Q v u (vs.zip us) i e s := fun h1 h2 h3 =>
      PySem.W.kat_go (fun z => PySem.W.kat_yes (lex_ok (i + 1) e1 e2 hf (by rw [if_pos (h1 z)] at h; exact h))) fun z => PySem.W.kat_no (h3 (by rw [if_neg (h2 z)] at h; exact h))
    cases k with
    | true =>
      obtain ⟨x, t, rfl⟩ := kd_true k1
      obtain ⟨y, t', rfl⟩ := kd_true k2
      refine PySem.W.kat_cons (SeqAt.EqAt.int_int x t y t' P w _ _ ?_)
      exact next (fun z => by have : x = y := by simpa using z
                              rw [this]; rfl) (fun z q => by
          have : ¬ x = y := by simpa using z
          exact this (Sum.inl.inj q)) fun {c Q'} h => TS.oneLt_ints c h
    | false =>
      obtain ⟨x, t, rfl⟩ := kd_false k1
      obtain ⟨y, t', rfl⟩ := kd_false k2
      refine PySem.W.kat_cons (SeqAt.EqAt.str_str x t y t' P w _ _ ?_)
      refine next (fun z => by have : x = y := by simpa using z
                               rw [this]; rfl) (fun z q => by
          have : ¬ x = y := by simpa using z
          exact this (S_inj (Sum.inr.inj q))) fun {c Q'} h => ?_
      cases c with
      | true => exact oneLt_str h
      | false => exact PySem.W.kat_one _ _ (lt_str h)
theorem firsts_ok {h : Heap} {b : Bool} {sh : List Bool} : ∀ {vs : List Value}, (∀ v ∈ vs, TupV h (b :: sh) v) → ∃ fs, PySem.W.KatTups h vs fs ∧ fs.length = vs.length ∧ ∀ f ∈ fs, kdV f = some b
  | [], _ => ⟨[], PySem.W.KatTups.nil, rfl, fun f m => (by cases m)⟩
  | v :: vs, e => by
    obtain ⟨fs, h1, h2, h3⟩ := firsts_ok fun u m => e u (List.mem_cons_of_mem _ m)
    obtain ⟨a, o, xs, n, rfl, ho, hc, hd, hk⟩ := e v (List.mem_cons_self ..)
    cases hx : xs.toList with
    | nil => rw [hx] at hk; simp at hk
    | cons f rest =>
      rw [hx] at hk
      simp only [List.map_cons, List.cons.injEq] at hk
      refine ⟨f :: fs, PySem.W.KatTups.cons ho hc hd (by rw [← Array.getElem?_toList, hx]; rfl) h1, congrArg (· + 1) h2, fun g m => ?_⟩
      rcases List.mem_cons.mp m with rfl | m
      · exact hk.1
      · exact h3 g m
/-- values that sort do sort -/
theorem alike_sortable {a : Addr} {vs : List Value} {h0 : Heap} (h2 : 2 ≤ vs.length) (hA : Alike h0 vs) (k0 : ∀ b o, o.cls = .type "tuple" → h0.get? b = some o → s.heap.get? b = some o) (ha : ∀ o, s.heap.get? a = some o → o.cls ≠ .type "tuple") : SrtO.SortableO P w A s a vs fun v u => fkLt (fkV h0 v) (fkV h0 u) := by
  intro h' keep
  have k1 : ∀ b o, o.cls = .type "tuple" → h0.get? b = some o → h'.get? b = some o := fun b o c e => by
    have e' := k0 b o c e
    exact keep b o (fun z => by subst z; exact ha o e' c) e'
  match vs, h2 with
  | v₁ :: v₂ :: rest, _ =>
    cases hA with
    | ofI e =>
      have hI : ∃ ns, IntsAre (v₁ :: v₂ :: rest) ns := by
        generalize v₁ :: v₂ :: rest = l at e
        induction l with
        | nil => exact ⟨[], .nil⟩
        | cons v l ih =>
          obtain ⟨ns, r⟩ := ih fun u m => e u (List.mem_cons_of_mem _ m)
          obtain ⟨i, t, rfl⟩ := e v (List.mem_cons_self ..)
          exact ⟨i :: ns, .cons i t r⟩
      obtain ⟨ns, hI⟩ := hI
      refine ⟨oneType', fun Q E hq => by rw [keyKind_ints hI]; exact wpAny_pure hq, fun p q hp hq => ?_⟩
      obtain ⟨i, t, ep⟩ := e _ hp
      obtain ⟨j, u, eq⟩ := e _ hq
      show wpAny (model P w) A (keyLt' oneType' p.1 q.1) (fun r s' => s' = _ ∧ r = fkLt (fkV h0 p.1) (fkV h0 q.1)) (fun _ _ => False) _
      rw [ep, eq, keyLt'_oneType]
      refine oneLt_int ⟨rfl, ?_⟩
      show _ = fkLt [.inl i] [.inl j]
      unfold fkLt
      by_cases z : i = j
      · subst z; rw [if_pos rfl]; simp [fkLt]
      · rw [if_neg fun q => z (Sum.inl.inj q)]; rfl
    | ofS e =>
      have hI : ∃ ns, StrsAre (v₁ :: v₂ :: rest) ns := by
        generalize v₁ :: v₂ :: rest = l at e
        induction l with
        | nil => exact ⟨[], .nil⟩
        | cons v l ih =>
          obtain ⟨ns, r⟩ := ih fun u m => e u (List.mem_cons_of_mem _ m)
          obtain ⟨i, t, rfl⟩ := e v (List.mem_cons_self ..)
          exact ⟨i :: ns, .cons i t r⟩
      obtain ⟨ns, hI⟩ := hI
      refine ⟨oneType', fun Q E hq => by rw [keyKind_strs hI]; exact wpAny_pure hq, fun p q hp hq => ?_⟩
      obtain ⟨i, t, ep⟩ := e _ hp
      obtain ⟨j, u, eq⟩ := e _ hq
      show wpAny (model P w) A (keyLt' oneType' p.1 q.1) (fun r s' => s' = _ ∧ r = fkLt (fkV h0 p.1) (fkV h0 q.1)) (fun _ _ => False) _
      rw [ep, eq, keyLt'_oneType]
      refine oneLt_str ⟨rfl, ?_⟩
      show _ = fkLt [.inr i.cps.toList] [.inr j.cps.toList]
      unfold fkLt
      by_cases z : i = j
      · subst z; rw [if_pos rfl]; simp [fkLt, List.lt_irrefl]
      · rw [if_neg fun q => z (S_inj (Sum.inr.inj q))]; rfl
    | @ofT b sh e =>
      have e' : ∀ v ∈ v₁ :: v₂ :: rest, TupV h' (b :: sh) v := fun v m => ((e v m).at k1).1
      obtain ⟨fs, g1, g2, g3⟩ := firsts_ok e'
      have cmp : SrtO.Cmp P w A { s with heap := h' } (tuples' true) (fun p => p.1 ∈ v₁ :: v₂ :: rest) (SrtO.lt2 fun v u => fkLt (fkV h0 v) (fkV h0 u)) := by
        intro p q hp hq
        show wpAny (model P w) A (keyLt' (tuples' true) p.1 q.1) (fun r s' => s' = _ ∧ r = fkLt (fkV h0 p.1) (fkV h0 q.1)) (fun _ _ => False) _
        rw [← ((e _ hp).at k1).2, ← ((e _ hq).at k1).2]
        obtain ⟨a1, o1, xs, n1, ep, ho1, _, hd1, hk1⟩ := e' _ hp
        obtain ⟨a2, o2, ys, n2, eq, ho2, _, hd2, hk2⟩ := e' _ hq
        rw [ep, eq]
        have fx : fkV h' (.ref a1) = xs.toList.map scV := by unfold fkV; simp only [ho1, hd1]
        have fy : fkV h' (.ref a2) = ys.toList.map scV := by unfold fkV; simp only [ho2, hd2]
        rw [fx, fy]
        refine PySem.W.kat_lt (s := { s with heap := h' }) ho1 hd1 ho2 hd2 ?_
        refine lex_ok (s := { s with heap := h' }) 0 hk1 hk2 ?_ ⟨rfl, rfl⟩
        have l1 := congrArg List.length hk1
        have l2 := congrArg List.length hk2
        rw [List.length_map, List.length_map, Array.length_toList] at l1 l2
        exact decide_eq_false (by omega)
      have ne : 0 < fs.length := by rw [g2]; exact Nat.succ_pos _
      refine ⟨tuples' true, fun Q E hq => ?_, cmp⟩
      cases b with
      | true =>
        refine PySem.W.kat_kind (s := { s with heap := h' }) (T := .type "int") g1 ne (fun f hm => ?_) (by rfl) ?_
        · obtain ⟨x, t, rfl⟩ := kd_true (g3 f hm)
          exact PySem.W.Looks.now
        · have z : (Value.type "int" != Value.type "tuple") = true := by first | decide +kernel | rfl | decide
          rw [z]; exact hq
      | false =>
        refine PySem.W.kat_kind (s := { s with heap := h' }) (T := .type "str") g1 ne (fun f hm => ?_) (by rfl) ?_
        · obtain ⟨x, t, rfl⟩ := kd_false (g3 f hm)
          exact PySem.W.Looks.now
        · have z : (Value.type "str" != Value.type "tuple") = true := by first | decide +kernel | rfl | decide
          rw [z]; exact hq
end
end SL

set_option maxHeartbeats 2000000
/-! SI: sorted(..), set(..), len(set(..)) as calls by values -/
namespace SL
open PySem PySem.Spec L2
open PyProof.Rows hiding St

section
variable {P : Program} {w : World} {A : Around} {E : Value → Shared → Prop} {s : Shared}
/-- sorted(v), by what v yields -/
theorem sorted_gen {v : Value} {Q : Value → Shared → Prop} {Good : List Value → Prop}
    (hc : ∀ {Q' : List Value → Shared → Prop}, (∀ s1 vs, (∀ b o, s.heap.get? b = some o → s1.heap.get? b = some o) → s1.gens = s.gens → s1.os = s.os → Good vs → Q' vs s1) → wpAny (model P w) A.in1 (collect v) Q' E s)
    (hg : ∀ vs, Good vs → vs.length ≤ sizeLine ∧ (2 ≤ vs.length → Alike s.heap vs))
    (hQ : ∀ s' p (out : Array Value) (c : Nat) vs, (∀ b o, s.heap.get? b = some o → s'.heap.get? b = some o) → s'.gens = s.gens → s'.os = s.os → s.heap.get? p = none → s'.heap.get? p = some (seqObj "list" out c) → Good vs → out.toList.Perm vs →
      out.toList.Pairwise (fun x y => fkLt (fkV s.heap y) (fkV s.heap x) = false) → Q (.ref p) s') :
    wpAny (model P w) A (call (.builtin "sorted") [v]) Q E s := by
  refine Calls.call_function_entry kind_sorted plain_sorted entry_sorted (args_sorted1 _) ?_
  unfold Builtin.«sorted»
  refine wpAny_bind (m := checkCount "sorted" 1 1 _) (wpAny_pure ?_)
  refine wpAny_bind (hc fun s1 vs k1 g1 o1 good => ?_)
  obtain ⟨hz, hA⟩ := hg vs good
  refine wpAny_bind (wpAny_newList ?_ hz)
  have hoL : (s1.heap.push (seqObj "list" vs.toArray 0)).get? s1.heap.objs.size = some (seqObj "list" vs.toArray 0) := Heap.get?_push_size _ rfl
  have hsz : s.heap.get? s1.heap.objs.size = none := by
    cases e : s.heap.get? s1.heap.objs.size with
    | none => rfl
    | some o => exact absurd (Heap.lt_size (k1 _ _ e)) (Nat.lt_irrefl _)
  refine wpAny_bind (wpAny_holding (wpAny_call_entry (s := { s1 with heap := s1.heap.push (seqObj "list" vs.toArray 0) }) slot_list_sort ⟨_, hoL, rfl⟩ entry_list_sort
    (SrtO.list_sort_ord (s := { s1 with heap := s1.heap.push (seqObj "list" vs.toArray 0) }) (swo_fk (fkV s.heap)) hoL hz (fun h2 => alike_sortable h2 (hA h2) (fun b o _ e => Heap.get?_push_of_some _ (k1 b o e)) fun o e => ?_) fun out a1 a2 => ⟨_, rfl, ?_⟩) (args_list_sort _)))
  · rw [hoL] at e
    cases e
    intro z
    exact absurd (Value.type.inj z) (by decide)
  · obtain ⟨c, hcc⟩ := sortedHeap_at (vs := vs) (out := out.toArray) hoL
    refine wpAny_pure ⟨_, rfl, hQ _ s1.heap.objs.size out.toArray c vs (fun b u e => ?_) g1 o1 hsz hcc good (by simpa using a2.perm) (by simpa using a1)⟩
    have q := k1 b u e
    have hlt := Heap.lt_size q
    show (sortedHeap (s1.heap.push (seqObj "list" vs.toArray 0)) s1.heap.objs.size vs out.toArray).get? b = some u
    rw [sortedHeap_old (Nat.ne_of_lt hlt) (by rw [size_push']; exact Nat.lt_succ_of_lt hlt)]
    exact Heap.get?_push_of_some _ q
end

/-! ### data of the kinds that sort, that sets hold -/
open DL
def scKey : DL.D → Option Sc
  | .int i => some (.inl i)
  | .str s => some (.inr s)
  | _ => none
def scK : Sc → Bool
  | .inl _ => true
  | .inr _ => false
/-- the parts of a flat tuple -/
def partsD : List DL.D → Option (List Sc)
  | [] => some []
  | d :: ds => match scKey d, partsD ds with
    | some a, some l => some (a :: l)
    | _, _ => none
def tupD : DL.D → Option (List Sc)
  | .tup l => partsD l
  | _ => none
/-- the key -/
def dfk (d : DL.D) : List Sc := match scKey d with
  | some a => [a]
  | none => (tupD d).getD []
def isI : DL.D → Bool
  | .int _ => true
  | _ => false
def isS : DL.D → Bool
  | .str _ => true
  | _ => false
/-- things that compare -/
def alk (ds : List DL.D) : Bool := ds.all isI || (ds.all isS || (match ds with
  | [] => true
  | d :: _ => match tupD d with
    | some (a :: l) => ds.all fun e => match tupD e with
      | some l' => l'.map scK == (a :: l).map scK
      | none => false
    | _ => false))
section
variable {X : Cx} {pins : List (Addr × Obj)} {σ : St} {s : Shared} {H : Hp} {G : CC} {F : Hp}
theorem sc_val {v : V} {u : Value} {d : DL.D} {a : Sc} (r : DL.Rep G F v d) (rv : RelV v u) (e : scKey d = some a) : scV u = a ∧ kdV u = some (scK a) := by
  cases r with
  | int i => obtain ⟨t, rfl⟩ := rv; cases e; exact ⟨rfl, rfl⟩
  | str x => obtain ⟨t, rfl⟩ := rv; cases e; exact ⟨rfl, rfl⟩
  | _ => cases e
theorem parts_val : ∀ {vs : List V} {us : List Value} {ds : List DL.D} {l : List Sc}, DL.Reps G F vs ds → Vals vs us → partsD ds = some l → us.map scV = l ∧ us.map kdV = (l.map scK).map some
  | _, _, _, _, .nil, .nil, e => by cases e; exact ⟨rfl, rfl⟩
  | _, _, _, l, .cons (d := d) (ds := ds) h t, .cons r rs, e => by
    unfold partsD at e
    cases e1 : scKey d with
    | none => rw [e1] at e; cases e
    | some a =>
      cases e2 : partsD ds with
      | none => rw [e1, e2] at e; cases e
      | some l' =>
        rw [e1, e2] at e
        cases e
        obtain ⟨z1, z2⟩ := sc_val h r e1
        obtain ⟨y1, y2⟩ := parts_val t rs e2
        exact ⟨by rw [List.map_cons, z1, y1], by rw [List.map_cons, z2, y2]; rfl⟩
theorem tup_val (I : Inv X pins σ H s) (hK : G.K = X.K) (l : DL.Le F H) {v : V} {u : Value} {d : DL.D} {a : List Sc} (r : DL.Rep G F v d) (rv : RelV v u) (e : tupD d = some a) : TupV s.heap (a.map scK) u ∧ fkV s.heap u = a := by
  cases r with
  | @tup p vs ds h q =>
    cases (show u = Value.ref p from rv)
    rw [hK] at h
    obtain ⟨its, r, ⟨o, ho, hc, n, hd⟩, _⟩ := I.tuple (DL.SqT.le l h)
    obtain ⟨z1, z2⟩ := parts_val q r e
    refine ⟨⟨p, o, _, n, rfl, ho, hc, hd, by simpa using z2⟩, ?_⟩
    unfold fkV
    simp only [ho, hd]
    simpa using z1
  | _ => cases e
theorem Pairs.mem {vs : List V} {us : List Value} (r : Vals vs us) : ∀ u ∈ us, ∃ v ∈ vs, RelV v u := by
  induction r with
  | nil => intro u m; cases m
  | cons h _ ih =>
    intro u m
    rcases List.mem_cons.mp m with rfl | m
    · exact ⟨_, List.mem_cons_self .., h⟩
    · obtain ⟨v, m', h'⟩ := ih u m
      exact ⟨v, List.mem_cons_of_mem _ m', h'⟩
theorem reps_mem : ∀ {vs : List V} {ds : List DL.D}, DL.Reps G F vs ds → ∀ v ∈ vs, ∃ d ∈ ds, DL.Rep G F v d
  | _, _, .nil, v, m => by cases m
  | _, _, .cons h t, v, m => by
    rcases List.mem_cons.mp m with rfl | m
    · exact ⟨_, List.mem_cons_self .., h⟩
    · obtain ⟨d, m', h'⟩ := reps_mem t v m
      exact ⟨d, List.mem_cons_of_mem _ m', h'⟩
/-- a value's key is its datum's -/
theorem key_val (I : Inv X pins σ H s) (hK : G.K = X.K) (l : DL.Le F H) {v : V} {u : Value} {d : DL.D} (r : DL.Rep G F v d) (rv : RelV v u) (e : (scKey d).isSome || (tupD d).isSome = true) : fkV s.heap u = dfk d := by
  unfold dfk
  cases e1 : scKey d with
  | some a =>
    obtain ⟨z, _⟩ := sc_val r rv e1
    cases r with
    | int i => obtain ⟨t, rfl⟩ := rv; exact congrArg (fun x => [x]) z
    | str x => obtain ⟨t, rfl⟩ := rv; exact congrArg (fun x => [x]) z
    | _ => cases e1
  | none =>
    cases e2 : tupD d with
    | none => rw [e1, e2] at e; cases e
    | some a => exact (tup_val I hK l r rv e2).2
theorem alk_alike (I : Inv X pins σ H s) (hK : G.K = X.K) (l : DL.Le F H) {vs : List V} {us : List Value} {ds : List DL.D} (r : DL.Reps G F vs ds) (rv : Vals vs us) (e : alk ds = true) : Alike s.heap us ∧ ∀ d ∈ ds, (scKey d).isSome || (tupD d).isSome = true := by
  have back : ∀ u ∈ us, ∃ v d, RelV v u ∧ d ∈ ds ∧ DL.Rep G F v d := fun u m => by
    obtain ⟨v, mv, h⟩ := Pairs.mem rv u m
    obtain ⟨d, md, h'⟩ := reps_mem r v mv
    exact ⟨v, d, h, md, h'⟩
  unfold alk at e
  rw [Bool.or_eq_true, Bool.or_eq_true] at e
  rcases e with e | e | e
  · rw [List.all_eq_true] at e
    refine ⟨.ofI fun u m => ?_, fun d m => ?_⟩
    · obtain ⟨v, d, h, md, h'⟩ := back u m
      have := e d md
      cases h' with
      | int i => exact ⟨i, h.choose, h.choose_spec⟩
      | _ => cases this
    · have := e d m
      cases d <;> first | rfl | cases this
  · rw [List.all_eq_true] at e
    refine ⟨.ofS fun u m => ?_, fun d m => ?_⟩
    · obtain ⟨v, d, h, md, h'⟩ := back u m
      have := e d md
      cases h' with
      | str i => exact ⟨_, h.choose, h.choose_spec⟩
      | _ => cases this
    · have := e d m
      cases d <;> first | rfl | cases this
  · cases ds with
    | nil => cases r; cases rv; exact ⟨.ofI fun v m => (by cases m), fun d m => (by cases m)⟩
    | cons d0 rest =>
      simp only at e
      cases e0 : tupD d0 with
      | none => rw [e0] at e; cases e
      | some a0 =>
        rw [e0] at e
        cases a0 with
        | nil => cases e
        | cons a l0 =>
          simp only [List.all_eq_true] at e
          refine ⟨.ofT (b := scK a) (sh := l0.map scK) fun u m => ?_, fun d m => ?_⟩
          · obtain ⟨v, d, h, md, h'⟩ := back u m
            have := e d md
            cases e3 : tupD d with
            | none => rw [e3] at this; cases this
            | some l' =>
              rw [e3] at this
              have z := (tup_val I hK l h' h e3).1
              rw [beq_iff_eq.mp this] at z
              exact z
          · have := e d m
            cases e3 : tupD d with
            | none => rw [e3] at this; cases this
            | some l' => rw [Bool.or_eq_true]; exact .inr rfl
end
end SL

set_option maxHeartbeats 2000000
/-! SJ: sorted(..), set(..), len of a set: rules by values -/
namespace SL
open PySem PySem.Spec L2
open PyProof.Rows hiding St
open DL (CC)

section
variable {G : CC} {F H : Hp}
theorem perm3 {us out : List Value} (h : us.Perm out) : ∀ {vs : List V} {ds : List DL.D}, Vals vs us → DL.Reps G F vs ds → ∃ ys es, Vals ys out ∧ DL.Reps G F ys es ∧ es.Perm ds := by
  induction h with
  | nil => intro vs ds r q; cases r; cases q; exact ⟨[], [], .nil, .nil, .refl _⟩
  | cons x _ ih =>
    intro vs ds r q
    cases r with
    | cons r1 r =>
      cases q with
      | cons q1 q =>
        obtain ⟨ys, es, a, b, c⟩ := ih r q
        exact ⟨_, _, .cons r1 a, .cons q1 b, c.cons _⟩
  | swap x y l =>
    intro vs ds r q
    cases r with
    | cons r1 r =>
      cases r with
      | cons r2 r =>
        cases q with
        | cons q1 q =>
          cases q with
          | cons q2 q => exact ⟨_, _, .cons r2 (.cons r1 r), .cons q2 (.cons q1 q), .swap _ _ _⟩
  | trans _ _ ih1 ih2 =>
    intro vs ds r q
    obtain ⟨ys, es, a, b, c⟩ := ih1 r q
    obtain ⟨ys2, es2, a2, b2, c2⟩ := ih2 a b
    exact ⟨ys2, es2, a2, b2, c2.trans c⟩
/-- a set, as it stands -/
def SetP (w : World) (a : Addr) (vs : List V) (h : Heap) : Prop := ∃ (K : Type) (hash : K → Int) (L : List (Value × K)) (es : Array (Int × Value)) (ep : Nat) (t : SetTable), SetG w (fun _ _ _ => True) hash h a L es ep t ∧ Vals vs (L.map (·.1))
def SetHO (w : World) (a : Addr) (vs : List V) : HO := .ext (SetP w a vs)
theorem setHO_ok {P : Program} {w : World} {h : Heap} {a : Addr} {vs : List V} (R : SetP w a vs h) : ObjOk P w H h a (SetHO w a vs) := by
  have ⟨K, hash, L, es, ep, t, g, r⟩ := R
  obtain ⟨o, ho, q⟩ := g.ob
  refine ⟨R, ⟨o, ho⟩, fun h1 h2 p k => ?_⟩
  obtain ⟨K, hash, L, es, ep, t, g, r⟩ := p
  exact ⟨K, hash, L, es, ep, t, g.keep (fun o e => k o e) fun _ _ => trivial, r⟩
/-- what is sorted: a list, a text, a set -/
def SortSrc (K : PySem.W.Frag) (w : World) (H : Hp) (v : V) (vs : List V) : Prop :=
  (∃ l, v = .ref l ∧ SqL K H l vs) ∨ (∃ x : Str, v = .str x ∧ x.cps.size ≤ sizeLine ∧ vs = x.cps.toList.map fun c => V.str ⟨#[c]⟩) ∨ ∃ a, v = .ref a ∧ H a = some (SetHO w a vs)
def rSortD (G : CC) : List V → Hp → VK → Prop := fun xs H Q => ∃ v F vs ds, xs = [v] ∧ SortSrc G.K G.w H v vs ∧ DL.Le F H ∧ DL.Reps G F vs ds ∧ alk ds = true ∧
  ∀ p ys es, DL.Reps G F ys es → es.Perm ds → es.Pairwise (fun x y => fkLt (dfk y) (dfk x) = false) → H p = none → Q (.ref p) (upd H p (.lst ys))
theorem keys_map {X : Cx} {pins : List (Addr × Obj)} {σ : St} {s : Shared} (I : Inv X pins σ H s) (hK : G.K = X.K) (l : DL.Le F H) : ∀ {vs : List V} {us : List Value} {ds : List DL.D}, DL.Reps G F vs ds → Vals vs us → (∀ d ∈ ds, (scKey d).isSome || (tupD d).isSome = true) → us.map (fkV s.heap) = ds.map dfk
  | _, _, _, .nil, .nil, _ => rfl
  | _, _, _, .cons h t, .cons r rs, e => by
    rw [List.map_cons, List.map_cons, key_val I hK l h r (e _ (List.mem_cons_self ..)), keys_map I hK l t rs fun d m => e d (List.mem_cons_of_mem _ m)]
theorem chars_vals {x : Str} {acc : Array Value} (h : ItemsOf (SignAt x) acc x.cps.size) : Vals (x.cps.toList.map fun c => V.str ⟨#[c]⟩) acc.toList := by
  have key : ∀ (n : Nat) (l : List Nat) (us : List Value), l.length = us.length → (∀ (i : Nat) (v : Value), us[i]? = some v → ∃ c u, l[i]? = some c ∧ v = Value.str ⟨#[c]⟩ u) → Vals (l.map fun c => V.str ⟨#[c]⟩) us := by
    intro _ l
    induction l with
    | nil => intro us hl _; cases us with | nil => exact .nil | cons _ _ => simp at hl
    | cons c l ih =>
      intro us hl hv
      cases us with
      | nil => simp at hl
      | cons u us =>
        obtain ⟨c', t, e1, e2⟩ := hv 0 u rfl
        have e1 : c = c' := by simpa using e1
        subst e1
        exact .cons ⟨t, e2⟩ (ih us (by simpa using hl) fun i v e => by simpa using hv (i + 1) v (by simpa using e))
  refine key 0 _ _ (by rw [Array.length_toList, Array.length_toList, h.1]) fun i v e => ?_
  obtain ⟨c, u, e1, e2⟩ := h.2 i v (by rw [← Array.getElem?_toList]; exact e)
  exact ⟨c, u, by rw [Array.getElem?_toList]; exact e1, e2⟩
theorem call_sortD {X : Cx} (hc : X.calm = true) (hK : G.K = X.K) (hw : G.w = X.w) : CallR X (.builtin "sorted") (rSortD G) := by
  intro pins s σ H xs us Q I r h
  obtain ⟨v, F, vs, ds, rfl, src, l, rp, ha, q⟩ := h
  obtain ⟨u, rfl, ru⟩ := vals1 r
  have hh := I.ok.hd hc
  refine sorted_gen (Good := fun vs' => ∃ us, Vals vs us ∧ vs'.Perm us ∧ vs'.length ≤ sizeLine) (fun {Q'} hQ' => ?_) (fun vs' good => ?_) fun s' p out c vs' k1 g1 o1 hp hcc good pm pw => ?_
  · rcases src with ⟨a, rfl, hl⟩ | ⟨x, rfl, hz, rfl⟩ | ⟨a, rfl, hs⟩
    · cases (show u = Value.ref a from ru)
      rw [hK] at hl
      obtain ⟨its, rv, pl, hz⟩ := I.list hl
      refine collect_list (vs := its) pl.isList (hQ' _ _ (fun b o e => ?_) rfl rfl ⟨its, rv, .refl _, by rw [← rv.length]; exact hz⟩) (by rw [← rv.length]; exact hz)
      have hlt := Heap.lt_size e
      rw [Heap.get?_update_ne _ _ _ _ (Nat.ne_of_lt hlt)]
      exact Heap.get?_push_of_some _ e
    · obtain ⟨t, rfl⟩ := ru
      refine wpAny_collect_str (by exact hh) x t (fun s1 acc k g d o it => ?_) hz
      have cv := chars_vals it
      exact hQ' _ _ k g o ⟨_, cv, .refl _, by rw [Array.length_toList, it.1]; exact hz⟩
    · cases (show u = Value.ref a from ru)
      have R0 : SetP G.w a vs s.heap := (I.hok a _ hs).1
      obtain ⟨K, hash, L, es, ep, t, g, rv⟩ := R0
      rw [hw] at g
      obtain ⟨o, ho, hex, hd⟩ := g.ob
      have hsz := g.size
      have few := g.few
      refine collect_set (by exact hh) ⟨o, ho, hex.1, hd⟩ g.fits (by rw [hsz]; unfold scanBound; omega) g.tab.ris g.led fun s1 vs' k1 _ g1 o1 pm => ?_
      have e : es.toList.map (·.2) = L.map (·.1) := by rw [g.rows, List.map_map] <;> rfl
      rw [e] at pm
      exact hQ' s1 vs' k1 g1 o1 ⟨_, rv, pm, by rw [pm.length_eq, List.length_map, sizeLine_eq]; omega⟩
  · obtain ⟨us', rv, pm, hz⟩ := good
    refine ⟨hz, fun _ => ?_⟩
    obtain ⟨ys, es, a1, a2, a3⟩ := perm3 pm.symm rv rp
    have al : Alike s.heap us' := (alk_alike I hK l rp rv ha).1
    cases al with
    | ofI e => exact .ofI fun v m => e v (pm.mem_iff.mp m)
    | ofS e => exact .ofS fun v m => e v (pm.mem_iff.mp m)
    | ofT e => exact .ofT fun v m => e v (pm.mem_iff.mp m)
  · obtain ⟨us', rv, pm', hz⟩ := good
    obtain ⟨ys, es, a1, a2, a3⟩ := perm3 (pm.trans pm').symm rv rp
    have ok := (alk_alike I hK l rp rv ha).2
    have keys := keys_map I hK l a2 a1 fun d m => ok d (a3.mem_iff.mp m)
    have hn : H p = none := I.hok.gone hp
    have pw2 : es.Pairwise fun x y => fkLt (dfk y) (dfk x) = false := by
      have z : (out.toList.map (fkV s.heap)).Pairwise fun x y => fkLt y x = false := List.pairwise_map.mpr pw
      rw [keys] at z
      exact List.pairwise_map.mp z
    have J : Inv X pins σ (upd H p (.lst ys)) { s with heap := s'.heap, gens := s'.gens, drawn := s'.drawn, toks := s'.toks } :=
      I.call (ch := []) (Un.laidN k1 hp hn) (I.hok.laidN k1 hn ⟨by rw [a1.length, (pm.trans pm').length_eq, ← pm'.length_eq]; exact hz, out.toList, c, a1, hcc⟩) (by rw [g1]; exact I.bare) (fun _ z => nomatch z)
    have e : s' = { s with heap := s'.heap, gens := s'.gens, drawn := s'.drawn, toks := s'.toks } := by
      cases s'
      cases s
      cases o1
      rfl
    rw [e]
    exact ⟨.ref p, _, J, rfl, q p ys es a2 a3 pw2 hn⟩
def rLenSet (w : World) : List V → Hp → VK → Prop := fun xs H Q => ∃ a vs, xs = [.ref a] ∧ H a = some (SetHO w a vs) ∧ Q (.int vs.length) H
theorem call_lenSet {X : Cx} : CallR X (.builtin "len") (rLenSet X.w) := by
  intro pins s σ H xs us Q I r h
  obtain ⟨a, vs, rfl, hs, q⟩ := h
  obtain ⟨u, rfl, ru⟩ := vals1 r
  cases (show u = Value.ref a from ru)
  have R0 : SetP X.w a vs s.heap := (I.hok a _ hs).1
  obtain ⟨K, hash, L, es, ep, t, g, rv⟩ := R0
  obtain ⟨o, ho, hex, hd⟩ := g.ob
  have e : es.size = vs.length := by rw [g.size, rv.length, List.length_map]
  refine call_len_set ho hex hd g.fits (by have := g.few; rw [g.size]; omega) ?_
  rw [e]
  exact ⟨.int vs.length, H, I.tok _, ⟨_, rfl⟩, q⟩
end
end SL

set_option maxHeartbeats 2000000
/-! SK: set(..) as a rule by values -/
namespace SL
open PySem PySem.Spec L2
open PyProof.Rows hiding St
open DL (CC)

/-- what sets hold here: ints and texts, or flat tuples -/
def setk (ds : List DL.D) : Bool := ds.all (fun d => (scKey d).isSome) || ds.all (fun d => (tupD d).isSome)
def SetSrc (K : PySem.W.Frag) (H : Hp) (v : V) (vs : List V) : Prop :=
  (∃ l, v = .ref l ∧ SqL K H l vs) ∨ (∃ l, v = .ref l ∧ SqT K H l vs) ∨ (∃ x : Str, v = .str x ∧ vs = x.cps.toList.map fun c => V.str ⟨#[c]⟩)
def rSetD (G : CC) : List V → Hp → VK → Prop := fun xs H Q => ∃ v F vs ds, xs = [v] ∧ SetSrc G.K H v vs ∧ DL.Le F H ∧ DL.Reps G F vs ds ∧ setk ds = true ∧ ds.length < 4096 ∧
  ∀ a ys es, H a = none → DL.Reps G F ys es → (∀ e ∈ es, e ∈ ds) → (∀ d ∈ ds, dfk d ∈ es.map dfk) → (es.map dfk).Nodup → Q (.ref a) (upd H a (SetHO G.w a ys))
/-! ### keys -/
def mkSc : Sc → Key
  | .inl i => .inl i
  | .inr s => .inr (SX.S s)
def nkSc : Sc → NestedKey
  | .inl i => .num i
  | .inr s => .text (SX.S s)
theorem SX_inj {a b : List Nat} (h : SX.S a = SX.S b) : a = b := by
  have := congrArg (fun x : Str => x.cps.toList) h
  simpa [SX.S] using this
theorem mkSc_inj {a b : Sc} (h : mkSc a = mkSc b) : a = b := by
  cases a <;> cases b <;> simp only [mkSc] at h
  · rw [Sum.inl.inj h]
  · cases h
  · cases h
  · rw [SX_inj (Sum.inr.inj h)]
theorem nkSc_inj {a b : Sc} (h : nkSc a = nkSc b) : a = b := by
  cases a <;> cases b <;> simp only [nkSc] at h
  · rw [NestedKey.num.inj h]
  · cases h
  · cases h
  · rw [SX_inj (NestedKey.text.inj h)]
theorem map_inj {α β : Type} {f : α → β} (hf : ∀ {a b}, f a = f b → a = b) : ∀ {l m : List α}, l.map f = m.map f → l = m
  | [], [], _ => rfl
  | [], _ :: _, h => by cases h
  | _ :: _, [], h => by cases h
  | a :: l, b :: m, h => by
    rw [List.map_cons, List.map_cons] at h
    obtain ⟨h1, h2⟩ := List.cons.inj h
    rw [hf h1, map_inj hf h2]
section
variable {X : Cx} {pins : List (Addr × Obj)} {σ : St} {s : Shared} {H : Hp} {G : CC} {F : Hp}
theorem isM_of {v : V} {u : Value} {d : DL.D} {a : Sc} (r : DL.Rep G F v d) (rv : RelV v u) (e : scKey d = some a) : keyIs (mkSc a) u = true := by
  cases r with
  | int i => obtain ⟨t, rfl⟩ := rv; cases e; exact keyIs_int i t
  | str x => obtain ⟨t, rfl⟩ := rv; cases e; exact keyIs_str _ t
  | _ => cases e
theorem nkeys_parts : ∀ {ds : List DL.D} {l : List Sc}, partsD ds = some l → DL.nkeys ds = some (l.map nkSc)
  | [], _, e => by cases e; rfl
  | d :: ds, l, e => by
    unfold partsD at e
    cases e1 : scKey d with
    | none => rw [e1] at e; cases e
    | some a =>
      cases e2 : partsD ds with
      | none => rw [e1, e2] at e; cases e
      | some l' =>
        rw [e1, e2] at e
        cases e
        have h1 : DL.nkey d = some (nkSc a) := by
          cases d <;> first | (cases e1; rfl) | cases e1
        unfold DL.nkeys
        rw [h1, nkeys_parts e2] <;> rfl
theorem depth_flat : ∀ l : List Sc, NestedKey.depthAll (l.map nkSc) = 0
  | [] => rfl
  | a :: l => by
    rw [List.map_cons]
    simp only [NestedKey.depthAll, depth_flat l]
    cases a <;> rfl
theorem isN_of (I : Inv X pins σ H s) (hK : G.K = X.K) (l : DL.Le F H) {v : V} {u : Value} {d : DL.D} {a : List Sc} (r : DL.Rep G F v d) (rv : RelV v u) (e : tupD d = some a) : isN s.heap (.tup (a.map nkSc)) u := by
  cases r with
  | @tup p vs ds h q =>
    have e' : partsD ds = some a := e
    have hk : DL.nkey (.tup ds) = some (.tup (a.map nkSc)) := by unfold DL.nkey; rw [nkeys_parts e'] <;> rfl
    have z := DL.Rep.nis l (.tup h q) hk
    rw [hK] at z
    exact ⟨DL.NIs.heap I z rv, by simp only [NestedKey.depth, depth_flat]; omega, p, rv⟩
  | _ => cases e
theorem vals_at : ∀ {vs : List V} {us : List Value} {i : Nat} {u : Value}, Vals vs us → us[i]? = some u → ∃ v, vs[i]? = some v ∧ RelV v u
  | _, _, _, _, .nil, e => by simp at e
  | _, _, 0, _, .cons r _, e => by simp at e; subst e; exact ⟨_, rfl, r⟩
  | _, _, i + 1, u, .cons _ t, e => by
    obtain ⟨v, h1, h2⟩ := vals_at (i := i) (u := u) t (by simpa using e)
    exact ⟨v, by simpa using h1, h2⟩
theorem SetG.triv {w : World} {K : Type} {is : Heap → K → Value → Prop} {hash : K → Int} {h : Heap} {a : Addr} {L : List (Value × K)} {es : Array (Int × Value)} {ep : Nat} {t : SetTable} (g : SetG w is hash h a L es ep t) : SetG w (fun _ _ _ => True) hash h a L es ep t :=
  ⟨g.ob, g.rows, g.tab, g.m5, g.nd, fun _ _ => trivial, g.led, g.room, g.few⟩
/-- what set(..) makes, by its keys -/
theorem call_setK {X : Cx} {pins : List (Addr × Obj)} {σ : St} {s : Shared} {H : Hp} (hc : X.calm = true) (hK : G.K = X.K) (hw : G.w = X.w) (I : Inv X pins σ H s) {v : V} {u : Value} (ru : RelV v u) {vs : List V} {ds : List DL.D} (src : SetSrc X.K H v vs) (l : DL.Le F H) (rp : DL.Reps G F vs ds) {Q : VK} (few : ds.length < 4096)
    {K : Type} {is : Heap → K → Value → Prop} {hash : K → Int} {room : Around → Prop} (kd : Kd X.prog X.w K is hash room) (hr : room X.A.in1.in1.in1) (kf : DL.D → K) (kinj : ∀ d ∈ ds, ∀ e ∈ ds, (kf d = kf e ↔ dfk d = dfk e)) (hval : ∀ (i : Nat) v u d, vs[i]? = some v → ds[i]? = some d → RelV v u → is s.heap (kf d) u)
    (q : ∀ a ys es, H a = none → DL.Reps G F ys es → (∀ e ∈ es, e ∈ ds) → (∀ d ∈ ds, dfk d ∈ es.map dfk) → (es.map dfk).Nodup → Q (.ref a) (upd H a (SetHO G.w a ys))) :
    wpAny (model X.prog X.w) X.A (call (.type "set") [u]) (EP X pins σ Q) X.xe s := by
  have hh := I.ok.hd hc
  have lenD := rp.length
  -- the source
  have srcV : ∃ Pv, SrcG s.heap u vs.length Pv ∧ ∀ i y, Pv i y → ∃ v, vs[i]? = some v ∧ RelV v y := by
    rcases src with ⟨a, rfl, hl⟩ | ⟨a, rfl, hl⟩ | ⟨x, rfl, rfl⟩
    · cases (show u = Value.ref a from ru)
      obtain ⟨its, rv, pl, hz⟩ := I.list hl
      exact ⟨_, .inl ⟨a, its.toArray, rfl, pl.isList, by rw [rv.length]; simp, rfl⟩, fun i y e => vals_at rv (by simpa using e)⟩
    · cases (show u = Value.ref a from ru)
      obtain ⟨its, rv, ⟨o, ho, hcl, n, hd⟩, hz⟩ := I.tuple hl
      exact ⟨_, .inr (.inl ⟨a, its.toArray, rfl, ⟨o, ho, hcl, n, hd⟩, by rw [rv.length]; simp, rfl⟩), fun i y e => vals_at rv (by simpa using e)⟩
    · obtain ⟨t, rfl⟩ := ru
      refine ⟨_, .inr (.inr ⟨x, t, rfl, by simp, rfl⟩), ?_⟩
      rintro i y ⟨c, z, e1, rfl⟩
      exact ⟨.str ⟨#[c]⟩, by rw [List.getElem?_map, Array.getElem?_toList, e1] <;> rfl, ⟨z, rfl⟩⟩
  obtain ⟨Pv, sg, pv⟩ := srcV
  refine call_set_G kd (ds.map kf) (by exact hh) sg (by rw [List.length_map, lenD]) (fun i y e => ?_) (by rw [List.length_map]; exact few) hr fun h' tk L es ep t g got kp => ?_
  · obtain ⟨v1, e1, r1⟩ := pv i y e
    obtain ⟨d, e2, _⟩ := rp.getV e1
    exact ⟨kf d, by rw [List.getElem?_map, e2] <;> rfl, hval i v1 y d e1 e2 r1⟩
  · -- the elements as V and D
    have each : ∀ p ∈ L, ∃ v1 d, RelV v1 p.1 ∧ DL.Rep G F v1 d ∧ d ∈ ds ∧ kf d = p.2 := fun p hp => by
      obtain ⟨j, _, h2, h3⟩ := got.sub p hp
      obtain ⟨v1, e1, r1⟩ := pv j p.1 h2
      obtain ⟨d, e2, rr⟩ := rp.getV e1
      rw [List.getElem?_map, e2] at h3
      exact ⟨v1, d, r1, rr, List.mem_of_getElem? e2, Option.some.inj h3⟩
    have build : ∀ L : List (Value × K), (∀ p ∈ L, ∃ v1 d, RelV v1 p.1 ∧ DL.Rep G F v1 d ∧ d ∈ ds ∧ kf d = p.2) → ∃ ys es, Vals ys (L.map (·.1)) ∧ DL.Reps G F ys es ∧ (∀ e ∈ es, e ∈ ds) ∧ es.map kf = L.map (·.2) := by
      intro L
      induction L with
      | nil => intro _; exact ⟨[], [], .nil, .nil, fun e m => (by cases m), rfl⟩
      | cons p L ih =>
        intro h
        obtain ⟨ys, es, a1, a2, a3, a4⟩ := ih fun q m => h q (List.mem_cons_of_mem _ m)
        obtain ⟨v1, d, b1, b2, b3, b4⟩ := h p (List.mem_cons_self ..)
        refine ⟨v1 :: ys, d :: es, .cons b1 a1, .cons b2 a2, fun e m => ?_, by rw [List.map_cons, List.map_cons, a4, b4]⟩
        rcases List.mem_cons.mp m with rfl | m
        · exact b3
        · exact a3 e m
    obtain ⟨ys, es', a1, a2, a3, a4⟩ := build L each
    have hn : H s.heap.objs.size = none := I.hok.fresh (Nat.le_refl _)
    have ok : ObjOk X.prog X.w (upd H s.heap.objs.size (SetHO G.w s.heap.objs.size ys)) h' s.heap.objs.size (SetHO G.w s.heap.objs.size ys) := setHO_ok (P := X.prog) (H := upd H s.heap.objs.size (SetHO G.w s.heap.objs.size ys)) ⟨K, hash, L, es, ep, t, by rw [hw]; exact g.triv, a1⟩
    refine ⟨.ref s.heap.objs.size, upd H s.heap.objs.size (SetHO G.w s.heap.objs.size ys), I.laid (t' := tk) kp (Nat.le_refl _) ok, rfl, q _ ys es' hn a2 a3 (fun d m => ?_) ?_⟩
    · have : kf d ∈ es'.map kf := by
        rw [a4]
        exact got.all _ (by rw [List.take_length]; exact List.mem_map.mpr ⟨d, m, rfl⟩)
      obtain ⟨e, me, ee⟩ := List.mem_map.mp this
      exact List.mem_map.mpr ⟨e, me, (kinj e (a3 e me) d m).mp ee⟩
    · have nd : (es'.map kf).Nodup := by rw [a4]; exact g.nd
      have nd2 := List.pairwise_map.mp nd
      refine List.pairwise_map.mpr (List.Pairwise.imp_of_mem (fun {a b} ma mb hab z => hab ((kinj a (a3 a ma) b (a3 b mb)).mpr z)) nd2)
theorem call_setD {X : Cx} (hc : X.calm = true) (hK : G.K = X.K) (hw : G.w = X.w) (hu : X.A.in1.in1.in1.units + 8 < cLine) : CallR X (.type "set") (rSetD G) := by
  intro pins s σ H xs us Q I r h
  obtain ⟨v, F, vs, ds, rfl, src, l, rp, ha, few, q⟩ := h
  obtain ⟨u, rfl, ru⟩ := vals1 r
  rw [hK] at src
  unfold setk at ha
  rw [Bool.or_eq_true, List.all_eq_true, List.all_eq_true] at ha
  have rep_at : ∀ (i : Nat) v d, vs[i]? = some v → ds[i]? = some d → DL.Rep G F v d := fun i v d e1 e2 => by
    obtain ⟨d', e3, rr⟩ := rp.getV e1
    rw [e2] at e3
    cases e3
    exact rr
  rcases ha with ha | ha
  · have val : ∀ d ∈ ds, ∃ a, scKey d = some a := fun d m => Option.isSome_iff_exists.mp (ha d m)
    refine call_setK hc hK hw I ru src l rp few (kd_M (P := X.prog) (w := X.w)) trivial (fun d => mkSc ((scKey d).getD (.inl 0))) (fun d m e m' => ?_) (fun i v u d e1 e2 rv => ?_) q
    · obtain ⟨a, ea⟩ := val d m
      obtain ⟨b, eb⟩ := val e m'
      have fa : dfk d = [a] := by unfold dfk; rw [ea]
      have fb : dfk e = [b] := by unfold dfk; rw [eb]
      rw [ea, eb, fa, fb]
      exact ⟨fun z => (by have z' : a = b := mkSc_inj z
                          rw [z']), fun z => (by rw [(List.cons.inj z).1])⟩
    · obtain ⟨a, ea⟩ := val d (List.mem_of_getElem? e2)
      have := isM_of (rep_at i v d e1 e2) rv ea
      show keyIs _ u = true
      rw [ea]
      exact this
  · have val : ∀ d ∈ ds, ∃ a, tupD d = some a := fun d m => Option.isSome_iff_exists.mp (ha d m)
    have dk : ∀ {d a}, tupD d = some a → dfk d = a := fun {d a} e => by
      cases d with
      | tup l =>
        show (tupD (.tup l)).getD [] = a
        rw [e] <;> rfl
      | _ => cases e
    refine call_setK hc hK hw I ru src l rp few (kd_N (P := X.prog) (w := X.w)) hu (fun d => .tup (((tupD d).getD []).map nkSc)) (fun d m e m' => ?_) (fun i v u d e1 e2 rv => ?_) q
    · obtain ⟨a, ea⟩ := val d m
      obtain ⟨b, eb⟩ := val e m'
      rw [ea, eb, dk ea, dk eb]
      exact ⟨fun z => map_inj nkSc_inj (NestedKey.tup.inj z), fun z => by rw [z]⟩
    · obtain ⟨a, ea⟩ := val d (List.mem_of_getElem? e2)
      have := isN_of I hK l (rep_at i v d e1 e2) rv ea
      show isN s.heap (.tup (((tupD d).getD []).map nkSc)) u
      rw [ea]
      exact this
end
end SL

set_option maxHeartbeats 2000000
/-! SM: len(set(e)), sorted(set(e)), sorted(e) as data -/
namespace DL
open PySem PySem.Spec L2 SL
open PyProof.Rows hiding St

def hasK (k : List Sc) (ks : List (List Sc)) : Bool := ks.any fun x => decide (x = k)
theorem hasK_iff {k : List Sc} {ks : List (List Sc)} : hasK k ks = true ↔ k ∈ ks := by
  unfold hasK
  rw [List.any_eq_true]
  exact ⟨fun ⟨x, m, e⟩ => of_decide_eq_true e ▸ m, fun m => ⟨k, m, decide_eq_true rfl⟩⟩
/-- each key once -/
def dnub : List D → List D
  | [] => []
  | d :: ds => if hasK (dfk d) (ds.map dfk) then dnub ds else d :: dnub ds
abbrev dle (x y : D) : Bool := !fkLt (dfk y) (dfk x)
def sortD (l : List D) : List D := l.mergeSort dle
theorem dnub_sub : ∀ {l : List D} {d : D}, d ∈ dnub l → d ∈ l
  | [], _, h => h
  | a :: l, d, h => by
    unfold dnub at h
    split at h
    · exact List.mem_cons_of_mem _ (dnub_sub h)
    · rcases List.mem_cons.mp h with e | h
      · rw [e]; exact List.mem_cons_self ..
      · exact List.mem_cons_of_mem _ (dnub_sub h)
theorem dnub_all : ∀ {l : List D} {k : List Sc}, k ∈ (dnub l).map dfk ↔ k ∈ l.map dfk
  | [], _ => Iff.rfl
  | a :: l, k => by
    unfold dnub
    split
    · rename_i h
      rw [dnub_all, List.map_cons, List.mem_cons]
      exact ⟨.inr, fun z => z.elim (fun e => e ▸ hasK_iff.mp h) id⟩
    · rw [List.map_cons, List.map_cons, List.mem_cons, List.mem_cons, dnub_all]
theorem dnub_nd : ∀ l : List D, ((dnub l).map dfk).Nodup
  | [] => List.nodup_nil
  | a :: l => by
    unfold dnub
    split
    · exact dnub_nd l
    · rename_i h
      rw [List.map_cons]
      exact List.nodup_cons.mpr ⟨fun z => h (hasK_iff.mpr (dnub_all.mp z)), dnub_nd l⟩
theorem sortD_perm (l : List D) : (sortD l).Perm l := List.mergeSort_perm l _
theorem sortD_sorted (l : List D) : (sortD l).Pairwise fun x y => fkLt (dfk y) (dfk x) = false := by
  have h := List.pairwise_mergeSort (le := dle) (fun a b c h1 h2 => ?_) (fun a b => ?_) l
  · exact h.imp fun z => by simpa [dle] using z
  · simp only [dle, Bool.not_eq_true'] at h1 h2 ⊢
    exact (swo_fk dfk).tr _ _ _ h1 h2
  · simp only [dle, Bool.or_eq_true, Bool.not_eq_true']
    cases e : fkLt (dfk b) (dfk a) with
    | false => exact .inl rfl
    | true => exact .inr (fkLt_asym e)
/-- two sorted rows of the same keys -/
theorem keys_eq : ∀ {l m : List (List Sc)}, l.Perm m → l.Pairwise (fun x y => fkLt y x = false) → m.Pairwise (fun x y => fkLt y x = false) → l = m
  | [], m, h, _, _ => (List.Perm.nil_eq h)
  | a :: l, [], h, _, _ => by have := h.length_eq; simp at this
  | a :: l, b :: m, h, hl, hm => by
    have e : a = b := by
      obtain ⟨hl1, _⟩ := List.pairwise_cons.mp hl
      obtain ⟨hm1, _⟩ := List.pairwise_cons.mp hm
      rcases List.mem_cons.mp (h.mem_iff.mp (List.mem_cons_self ..)) with z | z
      · exact z
      · rcases List.mem_cons.mp (h.mem_iff.mpr (List.mem_cons_self ..)) with y | y
        · exact y.symm
        · exact fkLt_tri (hm1 a z) (hl1 b y)
    subst e
    rw [keys_eq h.cons_inv (List.pairwise_cons.mp hl).2 (List.pairwise_cons.mp hm).2]
theorem list_eq : ∀ {l m : List D}, l.map dfk = m.map dfk → (∀ d ∈ l, ∀ e ∈ m, dfk d = dfk e → d = e) → l = m
  | [], [], _, _ => rfl
  | [], _ :: _, h, _ => by cases h
  | _ :: _, [], h, _ => by cases h
  | a :: l, b :: m, h, i => by
    rw [List.map_cons, List.map_cons] at h
    obtain ⟨h1, h2⟩ := List.cons.inj h
    rw [i a (List.mem_cons_self ..) b (List.mem_cons_self ..) h1, list_eq h2 fun d hd e he => i d (List.mem_cons_of_mem _ hd) e (List.mem_cons_of_mem _ he)]
theorem sorted_eq {l m : List D} (hp : (l.map dfk).Perm (m.map dfk)) (hl : l.Pairwise fun x y => fkLt (dfk y) (dfk x) = false) (hm : m.Pairwise fun x y => fkLt (dfk y) (dfk x) = false) (i : ∀ d ∈ l, ∀ e ∈ m, dfk d = dfk e → d = e) : l = m :=
  list_eq (keys_eq hp (List.pairwise_map.mpr hl) (List.pairwise_map.mpr hm)) i
/-! ### a key tells the thing -/
theorem scKey_inj {d e : D} {a : Sc} (h : scKey d = some a) (g : scKey e = some a) : d = e := by
  cases d <;> first | cases h | skip
  all_goals (cases e <;> first | cases g | skip)
  all_goals first | rfl
theorem partsD_inj : ∀ {l m : List D} {a : List Sc}, partsD l = some a → partsD m = some a → l = m
  | [], [], _, _, _ => rfl
  | [], e :: m, _, h, g => by
    cases h
    unfold partsD at g
    cases e1 : scKey e <;> rw [e1] at g
    · cases g
    · cases e2 : partsD m <;> rw [e2] at g <;> cases g
  | d :: l, [], _, h, g => by
    cases g
    unfold partsD at h
    cases e1 : scKey d <;> rw [e1] at h
    · cases h
    · cases e2 : partsD l <;> rw [e2] at h <;> cases h
  | d :: l, e :: m, a, h, g => by
    unfold partsD at h g
    cases e1 : scKey d with
    | none => rw [e1] at h; cases h
    | some x =>
      cases e2 : partsD l with
      | none => rw [e1, e2] at h; cases h
      | some xs =>
        cases e3 : scKey e with
        | none => rw [e3] at g; cases g
        | some y =>
          cases e4 : partsD m with
          | none => rw [e3, e4] at g; cases g
          | some ys =>
            rw [e1, e2] at h
            rw [e3, e4] at g
            cases h
            obtain ⟨z1, z2⟩ := List.cons.inj (Option.some.inj g)
            subst z1; subst z2
            rw [scKey_inj e1 e3, partsD_inj e2 e4]
theorem tupD_inj {d e : D} {a : List Sc} (h : tupD d = some a) (g : tupD e = some a) : d = e := by
  cases d with
  | tup l => cases e with
    | tup m => rw [partsD_inj (l := l) (m := m) h g]
    | _ => cases g
  | _ => cases h
theorem dfk_tup {d : D} {a : List Sc} (h : tupD d = some a) : dfk d = a := by
  cases d with
  | tup l => show (tupD (.tup l)).getD [] = a; rw [h] <;> rfl
  | _ => cases h
theorem dfk_sc {d : D} {a : Sc} (h : scKey d = some a) : dfk d = [a] := by unfold dfk; rw [h]
theorem setk_inj {ds : List D} (h : setk ds = true) : ∀ d ∈ ds, ∀ e ∈ ds, dfk d = dfk e → d = e := by
  unfold setk at h
  rw [Bool.or_eq_true, List.all_eq_true, List.all_eq_true] at h
  intro d hd e he z
  rcases h with h | h
  · obtain ⟨a, ea⟩ := Option.isSome_iff_exists.mp (h d hd)
    obtain ⟨b, eb⟩ := Option.isSome_iff_exists.mp (h e he)
    rw [dfk_sc ea, dfk_sc eb] at z
    rw [(List.cons.inj z).1] at ea
    exact scKey_inj ea eb
  · obtain ⟨a, ea⟩ := Option.isSome_iff_exists.mp (h d hd)
    obtain ⟨b, eb⟩ := Option.isSome_iff_exists.mp (h e he)
    rw [dfk_tup ea, dfk_tup eb] at z
    rw [z] at ea
    exact tupD_inj ea eb
theorem alk_setk {ds : List D} (h : alk ds = true) : setk ds = true := by
  unfold alk at h
  unfold setk
  rw [Bool.or_eq_true, Bool.or_eq_true] at h
  rw [Bool.or_eq_true, List.all_eq_true, List.all_eq_true]
  rcases h with h | h | h
  · rw [List.all_eq_true] at h
    exact .inl fun d m => by have := h d m; cases d <;> first | rfl | cases this
  · rw [List.all_eq_true] at h
    exact .inl fun d m => by have := h d m; cases d <;> first | rfl | cases this
  · cases ds with
    | nil => exact .inl fun d m => by cases m
    | cons d0 rest =>
      simp only at h
      cases e0 : tupD d0 with
      | none => rw [e0] at h; cases h
      | some a0 =>
        rw [e0] at h
        cases a0 with
        | nil => cases h
        | cons a l0 =>
          simp only [List.all_eq_true] at h
          refine .inr fun d m => ?_
          have := h d m
          cases e3 : tupD d with
          | none => rw [e3] at this; cases this
          | some l' => rfl
/-- a part of things that compare -/
theorem alk_sub {ds es : List D} (h : alk ds = true) (sub : ∀ e ∈ es, e ∈ ds) : alk es = true := by
  unfold alk at h ⊢
  rw [Bool.or_eq_true, Bool.or_eq_true] at h ⊢
  rcases h with h | h | h
  · exact .inl (List.all_eq_true.mpr fun e m => List.all_eq_true.mp h e (sub e m))
  · exact .inr (.inl (List.all_eq_true.mpr fun e m => List.all_eq_true.mp h e (sub e m)))
  · refine .inr (.inr ?_)
    cases ds with
    | nil => cases es with | nil => rfl | cons e es => exact (nomatch sub e (List.mem_cons_self ..))
    | cons d0 rest =>
      simp only at h
      cases e0 : tupD d0 with
      | none => rw [e0] at h; cases h
      | some a0 =>
        rw [e0] at h
        cases a0 with
        | nil => cases h
        | cons a l0 =>
          simp only [List.all_eq_true] at h
          cases es with
          | nil => rfl
          | cons e es =>
            have h0 := h e (sub e (List.mem_cons_self ..))
            simp only
            cases e3 : tupD e with
            | none => rw [e3] at h0; cases h0
            | some l' =>
              rw [e3] at h0
              have h0 := beq_iff_eq.mp h0
              cases l' with
              | nil => simp at h0
              | cons b l' =>
                simp only [List.all_eq_true]
                intro x m
                have := h x (sub x m)
                cases e4 : tupD x with
                | none => rw [e4] at this; cases this
                | some l2 =>
                  rw [e4] at this
                  rw [h0]
                  exact this
/-! ### the rules -/
/-- what set(..) goes through -/
def O.setS (o : O) : Option (List D) := match o.seq? with
  | some l => some l
  | none => match o.str? with
    | some s => some (chars s)
    | none => none
def lenSetO (o : O) : Option R := match o.setS with
  | some ds => if setk ds && decide (ds.length < 4096) then rInt (dnub ds).length else none
  | none => none
def sortSetO (o : O) : Option R := match o.setS with
  | some ds => if alk ds && decide (ds.length < 4096) then rLst (sortD (dnub ds)) else none
  | none => none
def O.sortS (o : O) : Option (List D) := match o.lst? with
  | some l => some l
  | none => match o.str? with
    | some s => if s.length ≤ ML then some (chars s) else none
    | none => none
def sortO (o : O) : Option R := match o.sortS with
  | some ds => if alk ds then rLst (sortD ds) else none
  | none => none
section
variable {G : CC} {F H : Hp} {v : V} {o : O} {f : List Addr}
theorem reps_chars (s : List Nat) : Reps G F (s.map fun c => V.str ⟨#[c]⟩) (chars s) := by
  unfold chars
  induction s with
  | nil => exact .nil
  | cons c s ih => exact .cons (by have := Rep.str (G := G) (F := F) [c]; exact this) ih
theorem Own.setSrc (l : Le F H) (h : Own G F H v o f) {ds : List D} (e : o.setS = some ds) : ∃ vs, SetSrc G.K H v vs ∧ Reps G F vs ds := by
  unfold O.setS at e
  cases e1 : o.seq? with
  | some l1 =>
    rw [e1] at e
    cases e
    obtain ⟨a, vs, rfl, s, r⟩ := h.seqOf l e1
    rcases s with s | s
    · exact ⟨vs, .inl ⟨a, rfl, s⟩, r⟩
    · exact ⟨vs, .inr (.inl ⟨a, rfl, s⟩), r⟩
  | none =>
    rw [e1] at e
    simp only at e
    cases e2 : o.str? with
    | none => rw [e2] at e; cases e
    | some s =>
      rw [e2] at e
      cases e
      rw [O.str?_eq e2] at h
      rw [h.strV]
      refine ⟨_, .inr (.inr ⟨SX.S s, rfl, rfl⟩), ?_⟩
      have e3 : (SX.S s).cps.toList = s := by simp [SX.S]
      rw [e3]
      exact reps_chars s
theorem Own.sortSrc {w : World} (l : Le F H) (h : Own G F H v o f) {ds : List D} (e : o.sortS = some ds) : ∃ vs, SortSrc G.K w H v vs ∧ Reps G F vs ds := by
  unfold O.sortS at e
  cases e1 : o.lst? with
  | some l1 =>
    rw [e1] at e
    cases e
    obtain ⟨a, vs, rfl, s, r⟩ := h.lstOf l e1
    exact ⟨vs, .inl ⟨a, rfl, s⟩, r⟩
  | none =>
    rw [e1] at e
    simp only at e
    cases e2 : o.str? with
    | none => rw [e2] at e; cases e
    | some s =>
      rw [e2] at e
      simp only at e
      split at e
      · rename_i hz
        cases e
        rw [O.str?_eq e2] at h
        rw [h.strV]
        have e3 : (SX.S s).cps.toList = s := by simp [SX.S]
        refine ⟨_, .inr (.inl ⟨SX.S s, rfl, ?_, rfl⟩), ?_⟩
        · rw [← ML_eq, ← Array.length_toList, e3]; exact hz
        · rw [e3]; exact reps_chars s
      · cases e
end
section
variable {X : Cx} {G : CC} {W : WX} {e : Expr} {m : En → Res R} {pos pos2 p p2 : Pos} {k : Nat}
theorem room_in {k : Nat} (hr : Room k X.A) : X.A.in1.in1.in1.units + 8 < cLine := by
  have := hr.units
  simp only [Around.in1_units]
  omega
/-- sorted(e) -/
theorem dp_sorted (hm : X.mg "sorted" = none) (ha : PE X e (tD G W m)) (hK : G.K = X.K := by rfl) (hw : G.w = X.w := by rfl) (hc : X.calm = true := by rfl) (hg : Gl X "sorted" := by rfl) (he : starEach [e] X.env = [(false, eval e X.env)] := by rfl) :
    PE X (.Call (.Name "sorted" p) [e] [] pos) (tD G W (mUn sortO m)) :=
  (pe_callB (call_sortD hc hK hw) hg hm (by decide +kernel) (pa_cons ha pa_nil he) (by decide) (by decide) he (by rfl)).imp fun σ H Q h => by
    obtain ⟨F, B, L, en, fp, s, p⟩ := h
    refine ⟨F, B, L, en, fp, s, ?_⟩
    unfold mUn at p
    cases ea : m en with
    | stuck => rw [ea] at p; exact p.elim
    | exc x e => rw [ea] at p; exact p
    | ok a =>
      rw [ea] at p
      intro x F1 H1 r1
      obtain ⟨f, q1⟩ := r1.has
      have p' : PPost G W F B L H fp Q (.of (sortO a.o)) := p
      unfold sortO at p'
      cases es : a.o.sortS with
      | none => rw [es] at p'; exact p'.elim
      | some ds =>
        rw [es] at p'
        simp only at p'
        split at p'
        · rename_i hk
          obtain ⟨vs, src, rp⟩ := q1.sortSrc (w := G.w) r1.nx.le es
          refine ⟨x, F1, vs, ds, rfl, src, r1.nx.le, rp, hk, fun q ys es' r2 pm pw hq => ?_⟩
          have e2 : es' = sortD ds := sorted_eq ((pm.trans (sortD_perm ds).symm).map dfk) pw (sortD_sorted ds) fun d hd e he z => setk_inj (alk_setk hk) d (pm.mem_iff.mp hd) e ((sortD_perm ds).mem_iff.mp he) z
          rw [e2] at r2
          exact vp_lst (G := G) r1.nx.le hq r2 fun v F3 H3 r3 => p' v F3 H3 (r3.after r1.nx)
        · exact p'.elim
/-- a set made of what m hands, looked at by a call -/
theorem tOfSet {r : List V → Hp → VK → Prop} {z : O → Option R} {σ : St} {H : Hp} {Q : VK}
    (hz : ∀ o w, z o = some w → ∃ ds, o.setS = some ds ∧ setk ds = true ∧ ds.length < 4096)
    (hd : ∀ F H2 a ys es ds o, o.setS = some ds → Le F H2 → Reps G F ys es → (∀ e ∈ es, e ∈ ds) → (∀ d ∈ ds, dfk d ∈ es.map dfk) → (es.map dfk).Nodup → H2 a = some (SetHO G.w a ys) → VPost G F H2 Q (z o) → r [.ref a] H2 Q)
    (h : tD G W (mUn z m) σ H Q) : tCB r (tCons (tCB (rSetD G) (tCons (tD G W m) tNil)) tNil) σ H Q := by
  obtain ⟨F, B, L, en, fp, s, p⟩ := h
  refine ⟨F, B, L, en, fp, s, ?_⟩
  unfold mUn at p
  cases ea : m en with
  | stuck => rw [ea] at p; exact p.elim
  | exc x e => rw [ea] at p; exact p
  | ok a =>
    rw [ea] at p
    intro x F1 H1 r1
    obtain ⟨f, q1⟩ := r1.has
    have p' : PPost G W F B L H fp Q (.of (z a.o)) := p
    cases ez : z a.o with
    | none => rw [ez] at p'; exact p'.elim
    | some w =>
      obtain ⟨ds, es, hk, few⟩ := hz _ _ ez
      obtain ⟨vs, src, rp⟩ := q1.setSrc r1.nx.le es
      refine ⟨x, F1, vs, ds, rfl, src, r1.nx.le, rp, hk, few, fun q ys es' hq r2 a1 a2 a3 => ?_⟩
      have n : Nx F1 F1 H1 (upd H1 q (SetHO G.w q ys)) [] [] := Nx.newO r1.nx.le hq [] fun _ m => nomatch m
      refine hd F1 _ q ys es' ds a.o es n.le r2 a1 a2 a3 upd_same ?_
      rw [ez] at p' ⊢
      exact fun v F3 H3 r3 => p' v F3 H3 (r3.after (r1.nx.trans n))
theorem set_len {es ds : List D} (a1 : ∀ e ∈ es, e ∈ ds) (a2 : ∀ d ∈ ds, dfk d ∈ es.map dfk) (a3 : (es.map dfk).Nodup) : (es.map dfk).Perm ((dnub ds).map dfk) := by
  refine (List.perm_ext_iff_of_nodup a3 (dnub_nd ds)).mpr fun k => ?_
  rw [dnub_all]
  constructor
  · intro m
    obtain ⟨e, me, rfl⟩ := List.mem_map.mp m
    exact List.mem_map.mpr ⟨e, a1 e me, rfl⟩
  · intro m
    obtain ⟨d, md, rfl⟩ := List.mem_map.mp m
    exact a2 d md
/-- len(set(e)) -/
theorem dp_lenSet (hr : Room k X.A) (hm : X.mg "len" = none) (hm2 : X.mg "set" = none) (ha : PE X e (tD G W m)) (hK : G.K = X.K := by rfl) (hw : G.w = X.w := by rfl) (hc : X.calm = true := by rfl) (hg : Gl X "len" := by rfl) (hg2 : Gl X "set" := by rfl)
    (he : starEach [e] X.env = [(false, eval e X.env)] := by rfl) (he2 : starEach [.Call (.Name "set" p2) [e] [] pos2] X.env = [(false, eval (.Call (.Name "set" p2) [e] [] pos2) X.env)] := by rfl) :
    PE X (.Call (.Name "len" p) [.Call (.Name "set" p2) [e] [] pos2] [] pos) (tD G W (mUn lenSetO m)) :=
  (pe_callB call_lenSet hg hm (by decide +kernel) (pa_cons (pe_callTy (call_setD (G := G) hc hK hw (room_in hr)) hg2 hm2 (by decide +kernel) (pa_cons ha pa_nil he) (by decide) (by decide) he (by rfl)) pa_nil he2) (by decide) (by decide) he2 (by rfl)).imp fun σ H Q h => by
    refine tOfSet (z := lenSetO) (fun o w e => ?_) (fun F H2 a ys es ds o eo l r2 a1 a2 a3 ha p => ?_) h
    · unfold lenSetO at e
      split at e
      · rename_i ds eo
        split at e
        · rename_i hk
          rw [Bool.and_eq_true] at hk
          exact ⟨ds, eo, hk.1, of_decide_eq_true hk.2⟩
        · cases e
      · cases e
    · unfold lenSetO at p
      rw [eo] at p
      simp only at p
      split at p
      · refine ⟨a, ys, rfl, by rw [← hw]; exact ha, ?_⟩
        have e1 : ys.length = (dnub ds).length := by
          have := (set_len a1 a2 a3).length_eq
          rw [List.length_map, List.length_map] at this
          rw [r2.length, this]
        rw [e1]
        exact vp_sh l (.int _) p
      · exact p.elim
/-- sorted(set(e)) -/
theorem dp_sortSet (hr : Room k X.A) (hm : X.mg "sorted" = none) (hm2 : X.mg "set" = none) (ha : PE X e (tD G W m)) (hK : G.K = X.K := by rfl) (hw : G.w = X.w := by rfl) (hc : X.calm = true := by rfl) (hg : Gl X "sorted" := by rfl) (hg2 : Gl X "set" := by rfl)
    (he : starEach [e] X.env = [(false, eval e X.env)] := by rfl) (he2 : starEach [.Call (.Name "set" p2) [e] [] pos2] X.env = [(false, eval (.Call (.Name "set" p2) [e] [] pos2) X.env)] := by rfl) :
    PE X (.Call (.Name "sorted" p) [.Call (.Name "set" p2) [e] [] pos2] [] pos) (tD G W (mUn sortSetO m)) :=
  (pe_callB (call_sortD (G := G) hc hK hw) hg hm (by decide +kernel) (pa_cons (pe_callTy (call_setD (G := G) hc hK hw (room_in hr)) hg2 hm2 (by decide +kernel) (pa_cons ha pa_nil he) (by decide) (by decide) he (by rfl)) pa_nil he2) (by decide) (by decide) he2 (by rfl)).imp fun σ H Q h => by
    refine tOfSet (z := sortSetO) (fun o w e => ?_) (fun F H2 a ys es ds o eo l r2 a1 a2 a3 ha p => ?_) h
    · unfold sortSetO at e
      split at e
      · rename_i ds eo
        split at e
        · rename_i hk
          rw [Bool.and_eq_true] at hk
          exact ⟨ds, eo, alk_setk hk.1, of_decide_eq_true hk.2⟩
        · cases e
      · cases e
    · unfold sortSetO at p
      rw [eo] at p
      simp only at p
      split at p
      · rename_i hk
        rw [Bool.and_eq_true] at hk
        have alk2 : alk es = true := alk_sub hk.1 a1
        refine ⟨.ref a, F, ys, es, rfl, .inr (.inr ⟨a, rfl, ha⟩), l, r2, alk2, fun q ys2 es2 r3 pm pw hq => ?_⟩
        have inj := setk_inj (alk_setk hk.1)
        have e2 : es2 = sortD (dnub ds) := sorted_eq (((pm.map dfk).trans (set_len a1 a2 a3)).trans ((sortD_perm (dnub ds)).symm.map dfk)) pw (sortD_sorted _) fun d hd e he z => inj d (a1 d (pm.mem_iff.mp hd)) e (dnub_sub ((sortD_perm _).mem_iff.mp he)) z
        rw [e2] at r3
        exact vp_lst (G := G) l hq r3 p
      · exact p.elim
end
end DL

set_option maxHeartbeats 2000000
/-! SN: list(text); more sources of comprehensions -/
namespace DL
open PySem PySem.Spec L2 SL
open PyProof.Rows hiding St

def listS (o : O) : Option R := match o.str? with
  | some s => if s.length ≤ ML then rLst (chars s) else none
  | none => none
def rListS : List V → Hp → VK → Prop := fun xs H Q => ∃ x : Str, xs = [.str x] ∧ x.cps.size ≤ sizeLine ∧ ∀ l, H l = none → Q (.ref l) (upd H l (.lst (x.cps.toList.map fun c => V.str ⟨#[c]⟩)))
theorem call_listS {X : Cx} (hc : X.calm = true) : CallR X (.type "list") rListS := by
  intro pins s σ H xs us Q I r h
  obtain ⟨x, rfl, hz, q⟩ := h
  obtain ⟨u, rfl, t, rfl⟩ := vals1 r
  refine call_list_str (I.ok.hd hc) x t (fun h' tk acc c k e it => ?_) hz
  have cv := chars_vals it
  have hn : H s.heap.objs.size = none := I.hok.fresh (Nat.le_refl _)
  have hl : (x.cps.toList.map fun c => V.str ⟨#[c]⟩).length ≤ sizeLine := by rw [List.length_map, Array.length_toList]; exact hz
  exact ⟨.ref s.heap.objs.size, _, I.laid (t' := tk) k (Nat.le_refl _) (show ObjOk X.prog X.w _ h' _ (.lst _) from ⟨hl, acc.toList, c, cv, by rw [Array.toArray_toList]; exact e⟩), rfl, q _ hn⟩
theorem listS_ok {G : CC} : CallD G rListS (fn1 listS) := fn1_ok fun F H v o f Q l ha p => by
  unfold listS at p
  cases e2 : o.str? with
  | none => rw [e2] at p; exact p.elim
  | some s =>
    rw [e2] at p
    simp only at p
    split at p
    · rename_i hz
      rw [O.str?_eq e2] at ha
      rw [ha.strV]
      have e3 : (SX.S s).cps.toList = s := by simp [SX.S]
      refine ⟨SX.S s, rfl, by rw [← ML_eq, ← Array.length_toList, e3]; exact hz, fun q hq => ?_⟩
      rw [e3]
      exact vp_lst (G := G) l hq (reps_chars s) p
    · exact p.elim
abbrev rListA (K : PySem.W.Frag) : List V → Hp → VK → Prop := fun xs H Q => (∃ p ys, xs = [.ref p] ∧ (SqL K H p ys ∨ SqT K H p ys) ∧ ∀ l, H l = none → Q (.ref l) (upd H l (.lst ys))) ∨ rListS xs H Q
theorem call_listA {X : Cx} (hc : X.calm = true) : CallR X (.type "list") (rListA X.K) := CallR.or (r := fun xs H Q => ∃ p ys, xs = [.ref p] ∧ (SqL X.K H p ys ∨ SqT X.K H p ys) ∧ ∀ l, H l = none → Q (.ref l) (upd H l (.lst ys))) call_list_of (call_listS hc)
def listA : List O → Option R := orC (fn1 listO) (fn1 listS)
theorem listA_ok {G : CC} : CallD G (rListA G.K) listA := listO_ok.or listS_ok
/-! ### sources -/
section
variable {X : Cx} {G : CC} {W : WX} {tg a b : Expr} {ma mb : En → Res R} {p pos : Pos}
def mJRng2 (ma mb : En → Res R) (en : En) : Res (List D) := (ma en).bnd fun r => (mb en).bnd fun q => match r.o.int?, q.o.int? with
  | some i, some j => if okR i && okR j then .ok (rangeD i (j - i).toNat) else .stuck
  | _, _ => .stuck
theorem dj_range2 (hm : X.mg "range" = none) (ha : PE X a (tD G W ma)) (hb : PE X b (tD G W mb)) (hg : Gl X "range" := by rfl) (hs : starEach [a, b] X.env = [(false, eval a X.env), (false, eval b X.env)] := by rfl) (hs2 : starEach [b] X.env = [(false, eval b X.env)] := by rfl) :
    PI X tg (.Call (.Name "range" p) [a, b] [] pos) (tJ G W (mJRng2 ma mb)) :=
  (pi_range2 hg hm (pa_cons ha (pa_cons hb pa_nil hs2) (by rw [hs, hs2])) hs hs2).imp fun σ H R h => by
    obtain ⟨F, B, L, en, fp, s, p⟩ := h
    refine ⟨F, B, L, en, fp, s, ?_⟩
    unfold mJRng2 at p
    cases ea : ma en with
    | stuck => rw [ea] at p; exact p.elim
    | exc x e => rw [ea] at p; exact p
    | ok r =>
      rw [ea] at p
      intro x F1 H1 r1
      refine ⟨F1, B, L, en, fp, s.pure r1.nx, ?_⟩
      simp only [Res.bnd] at p
      cases eb : mb en with
      | stuck => rw [eb] at p; exact p.elim
      | exc x e => rw [eb] at p; exact EPost.after (r1.nx.wide0 fp) p
      | ok q =>
        rw [eb] at p
        simp only at p
        intro y F2 H2 r2
        obtain ⟨f, q1⟩ := r1.has
        obtain ⟨g, q2⟩ := r2.has
        split at p
        · rename_i i j e1 e2
          split at p
          · rename_i hj
            rw [Bool.and_eq_true] at hj
            rw [O.int?_eq e1] at q1
            rw [O.int?_eq e2] at q2
            exact ⟨i, j, by rw [q1.intV, q2.intV], ⟨(okR_lt hj.1).1, (okR_lt hj.1).2, (okR_lt hj.2).1, (okR_lt hj.2).2⟩, p _ F2 H2 (r1.nx.trans r2.nx) iw_range⟩
          · exact p.elim
        · exact p.elim
end
end DL

set_option maxHeartbeats 2000000
/-! SS: the newer functions reckoned by simp -/
namespace DL
open PySem PySem.Spec L2 SL
open PyProof.Rows hiding St

section
variable {en : En} {m : En → Res R} {ms : En → Res (List R)} {mx my : En → Res (O × En)} {md me : En → Res (D × En)} {mds : En → Res (List D × En)} {f : O → O → Option R} {h : O → Option R} {hs : List O → Option R} {i j n : Nat} {d : D} {o u : O} {r : R}
  {na nb : En → Res (Bool × En)} {nt : En → Res Bool} {a b : En → SR}
@[simp] theorem s_dat : mDat mx en = (mx en).bnd fun r => .ok (r.1.fz, r.2) := rfl
@[simp] theorem s_datP : mDatP m en = (m en).bnd fun r => match r with
  | .own o => .ok (o.fz, en)
  | .bor _ => .stuck := rfl
@[simp] theorem s_up : mUp md en = (md en).bnd fun r => .ok (.sh r.1, r.2) := rfl
@[simp] theorem s_nilX : mNilX en = .ok ([], en) := rfl
@[simp] theorem s_consX : mConsX md mds en = (md en).bnd fun r => (mds r.2).bnd fun q => .ok (r.1 :: q.1, q.2) := rfl
@[simp] theorem s_consL : mConsL i md mds en = (md en).bnd fun r => if (r.2.sub i .here).isSome then (mds r.2).bnd fun q => .ok (r.1 :: q.1, q.2) else .stuck := rfl
@[simp] theorem s_ownO1 : ownO (some (.own o)) en = .ok (o, en) := rfl
@[simp] theorem s_opX : mOpX f md me en = (md en).bnd fun a => (me a.2).bnd fun b => ownO (f (.sh a.1) (.sh b.1)) b.2 := rfl
@[simp] theorem s_unX : mUnX h md en = (md en).bnd fun a => ownO (h (.sh a.1)) a.2 := rfl
@[simp] theorem s_ixNX : mIxNX f i md en = (mName i en).bnd fun _ => (md en).bnd fun b => (mName i b.2).bnd fun a => ownO (f a.o (.sh b.1)) b.2 := rfl
@[simp] theorem s_tstX : mTstX md en = (md en).bnd fun r => match r.1 with
  | .bl b => .ok (b, r.2)
  | _ => .stuck := rfl
@[simp] theorem s_upY : mUpY nt en = (nt en).bnd fun b => .ok (b, en) := rfl
@[simp] theorem s_andY : mAndY na nb en = (na en).bnd fun a => if a.1 then nb a.2 else .ok (false, a.2) := rfl
@[simp] theorem s_orY : mOrY na nb en = (na en).bnd fun a => if a.1 then .ok (true, a.2) else nb a.2 := rfl
@[simp] theorem s_notY : mNotY na en = (na en).bnd fun a => .ok (!a.1, a.2) := rfl
@[simp] theorem s_ifX : mIfX na mx my en = (na en).bnd fun k => if k.1 then mx k.2 else my k.2 := rfl
@[simp] theorem s_ifY : mIfY na a b en = .of (na en) fun r => if r.1 then a r.2 else b r.2 := rfl
@[simp] theorem s_callX : mCallX hs mds en = (mds en).bnd fun q => ownO (hs (q.1.map .sh)) q.2 := rfl
@[simp] theorem s_fnX {mf : List O → FR} {dos : List D} : mFnX n mf dos mds en = (mds en).bnd fun q => if q.1.length + dos.length = n then (match mf ((q.1 ++ dos).map .sh) with
  | .ok o => .ok (o, q.2)
  | .exc x => .exc x q.2
  | .stuck => .stuck) else .stuck := rfl
@[simp] theorem s_lstX : mLstX mds en = (mds en).bnd fun q => if q.1.length ≤ ML then .ok (.lst (q.1.map .sh), q.2) else .stuck := rfl
@[simp] theorem s_tupX : mTupX mds en = (mds en).bnd fun q => if q.1.length ≤ ML then .ok (.sh (.tup q.1), q.2) else .stuck := rfl
@[simp] theorem s_rngX1 : mRngX1 mds en = (mds en).bnd fun q => match q.1 with
  | [.int j] => if okR j then .ok (rangeD 0 j.toNat, q.2) else .stuck
  | _ => .stuck := rfl
@[simp] theorem s_s1X {g : List Nat → O → Option R} : mS1X g md me en = (md en).bnd fun a => match a.1 with
  | .str s => (me a.2).bnd fun b => ownO (g s (.sh b.1)) b.2
  | _ => .stuck := rfl
@[simp] theorem s_fzX : mFzX mx en = (mx en).bnd fun r => .ok (.sh r.1.fz, r.2) := rfl
@[simp] theorem s_fnLc {mf : O → List D → FL} {dos : List D} : mFnL i j n mf dos mds en = if (en.sub i .here).isSome then (mds en).bnd fun q => match q.2.sub i .here with
  | some u => if q.1.length + dos.length + 1 = n ∧ j ≤ q.1.length then (match mf u (q.1 ++ dos) with
    | .ok o u' => .ok (o, q.2.put i .here u')
    | .exc x u' => .exc x (q.2.put i .here u')
    | .stuck => .stuck) else .stuck
  | none => .stuck else .stuck := rfl
@[simp] theorem s_pmX {T : String} {g : O → List O → Option (O × O)} : mPMX T i mds g en = match en.sub i .here with
  | some u0 => if u0.tn = T then (mds en).bnd fun q => match q.2.sub i .here with
    | some u => (match g u (q.1.map .sh) with
      | some (ret, u') => .ok (ret, q.2.put i .here u')
      | none => .stuck)
    | none => .stuck
    else .stuck
  | none => .stuck := rfl
@[simp] theorem s_pm {T : String} {rv : En → Res (Nat × Acc × En)} {g : O → List O → Option (O × O)} : mPM T rv ms g en = (rv en).bnd fun p => match p.2.2.sub p.1 p.2.1 with
  | some u => if u.tn = T then (ms p.2.2).bnd fun rs => match owns rs with
    | some os => (match g u os with
      | some (ret, u') => .ok (ret, p.2.2.put p.1 p.2.1 u')
      | none => .stuck)
    | none => .stuck
    else .stuck
  | none => .stuck := rfl
@[simp] theorem s_rvN : rvN i en = if (en.sub i .here).isSome then .ok (i, .here, en) else .stuck := rfl
@[simp] theorem s_setI {rv : En → Res (Nat × Acc × En)} {mk : En → Res R} : mSetI rv mk mx en = .of (mx en) fun r => .of (rv r.2) fun p => .of (mk p.2.2) fun k => match k, p.2.2.sub p.1 p.2.1 with
  | .own (.sh kd), some u => (match oSetA u [.sh kd, r.1] with
    | some (_, u') => .nx (p.2.2.put p.1 p.2.1 u')
    | none => .stuck)
  | _, _ => .stuck := rfl
@[simp] theorem s_lcX {it : En → Res (List D × En)} {vs : List Nat} {g : O → En → Option En} : mLcX it vs g nt mx en = (it en).bnd fun q => if vs.all fun i => Sl.free? q.2[i]? then (match lcX g nt mx vs q.1 (wipeE q.2 vs) with
    | some r => if r.1.length ≤ ML then .ok (.lst r.1, r.2) else .stuck
    | none => .stuck) else .stuck := rfl
@[simp] theorem s_rng2 {m2 : En → Res R} : mJRng2 m m2 en = (m en).bnd fun r => (m2 en).bnd fun q => match r.o.int?, q.o.int? with
  | some i, some j => if okR i && okR j then .ok (rangeD i (j - i).toNat) else .stuck
  | _, _ => .stuck := rfl
@[simp] theorem s_sub : En.sub en i .here = match en[i]? with
  | some z => z.mine
  | none => none := by
  unfold En.sub
  cases en[i]? with
  | none => rfl
  | some z => simp only [Option.bind_some]; cases z.mine <;> rfl
@[simp] theorem s_putE : En.put en i .here o = match en[i]? with
  | some z => (match z.mine with
    | some _ => en.set i (z.put o)
    | none => en)
  | none => en := by
  unfold En.put
  cases en[i]? with
  | none => rfl
  | some z => simp only; cases z.mine with
    | none => rfl
    | some u => simp only; cases u <;> rfl
@[simp] theorem s_mine1 : Sl.mine (.own o) = some o := rfl
@[simp] theorem s_mine2 : Sl.mine (.lent o) = some o := rfl
@[simp] theorem s_put2 : Sl.put (.lent u) o = .lent o := rfl
@[simp] theorem s_look4 {l : List O} : Sl.look (.lent (.lst l)) = some (.bor (.lst l)) := rfl
@[simp] theorem s_look5 {l : List O} : Sl.look (.bor (.lst l)) = some (.bor (.lst l)) := rfl
@[simp] theorem s_argsL0 {ds : List D} : argsL 0 n u ds = .lent u :: ((ds.map fun d => Sl.own (.sh d)) ++ List.replicate n .un) := rfl
@[simp] theorem s_fl1 : SR.fl j (.rt o en) = match lentAt en j with | some u => .ok o u | none => .stuck := rfl
@[simp] theorem s_fl2 : SR.fl j (.nx en) = match lentAt en j with | some u => .ok (.sh .non) u | none => .stuck := rfl
@[simp] theorem s_lentAt0 : lentAt (.lent u :: en) 0 = some u := rfl
@[simp] theorem s_tn {l : List O} : O.tn (.lst l) = "list" := rfl
@[simp] theorem s_arg1L {l : List O} : arg1 (.lst l) = .bor (.lst l) := rfl
@[simp] theorem s_lstS2 {l : List O} : Sl.lst? (some (.lent (.lst l))) = some l := rfl
end
/-! ### index, in, len, by what they were -/
theorem ixA_of {a b : O} {r : R} (h : ixO a b = some r) : ixA a b = some r := by unfold ixA orR; rw [h]
theorem inA_of {k : Bool} {a b : O} {r : R} (h : inO k a b = some r) : inA k a b = some r := by unfold inA orR; rw [h]
@[simp] theorem lenA_1 {o : O} : lenA [o] = match lenQ o with | some r => some r | none => lenD o := by
  unfold lenA orC
  rw [s_fn1, s_fn1]
  all_goals (cases lenQ o <;> rfl)
theorem lenA_of {o : O} {r : R} (h : lenQ o = some r) : lenA [o] = some r := by rw [lenA_1, h]
theorem ixA_L {l : List D} {n : Nat} {d : D} (h : l[n]? = some d) : ixA (.sh (.lst l)) (.sh (.int n)) = some (.own (.sh d)) := ixA_of (ixO_L h)
theorem ixA_T {l : List D} {n : Nat} {d : D} (h : l[n]? = some d) : ixA (.sh (.tup l)) (.sh (.int n)) = some (.own (.sh d)) := ixA_of (ixO_T h)
theorem ixA_S {s : List Nat} {n c : Nat} (h : s[n]? = some c) (hz : s.length ≤ ML) : ixA (.sh (.str s)) (.sh (.int n)) = some (.own (.sh (.str [c]))) := ixA_of (ixO_S h hz)
/-- an own list -/
theorem ixA_O {l : List O} {n : Nat} {o : O} (h : l[n]? = some o) : ixA (.lst l) (.sh (.int n)) = some (R.at o) := by
  refine ixA_of ?_
  unfold ixO orR ixQ
  simp only [O.items, O.int?]
  rw [L2.atI_nat h]
  rfl
theorem ixA_T4 {a b c d : D} : ixA (.sh (.tup [a, b, c, d])) (.sh (.int 0)) = some (.own (.sh a)) ∧ ixA (.sh (.tup [a, b, c, d])) (.sh (.int 1)) = some (.own (.sh b)) ∧ ixA (.sh (.tup [a, b, c, d])) (.sh (.int 2)) = some (.own (.sh c)) ∧ ixA (.sh (.tup [a, b, c, d])) (.sh (.int 3)) = some (.own (.sh d)) :=
  ⟨ixA_T (n := 0) rfl, ixA_T (n := 1) rfl, ixA_T (n := 2) rfl, ixA_T (n := 3) rfl⟩
end DL

set_option maxHeartbeats 4000000
namespace DL
open PySem PySem.Spec L2
open PyProof.Rows hiding St
namespace k92
def top (i : Nat) : Stmt := PySem.Challenge.pw_letterwend_k92_rules_by_hand.main.body.getD i (.Pass ⟨0, 0, 0, 0⟩)
def ownT (_ : Ty) : Option Bool := none
def tab_list : Ty → Option Bool := tabB "list" ownT
def tab_str : Ty → Option Bool := tabB "str" ownT
def tab_tuple : Ty → Option Bool := tabB "tuple" ownT
def clsF (K : PySem.W.Frag) : Nat → Addr
  | 0 => He.ga K "NoRules"
  | 1 => He.ga K "NoWord"
  | _ => 0
def nmsF : Nat → List Str := fun _ => []
structure Txt (K : PySem.W.Frag) (mg : Str → Option Value) (G : CC) : Prop where
  kk : G.K = K
  b_all : mg "all" = none
  b_isinstance : mg "isinstance" = none
  b_len : mg "len" = none
  b_list : mg "list" = none
  b_max : mg "max" = none
  b_range : mg "range" = none
  b_set : mg "set" = none
  b_str : mg "str" = none
  b_sum : mg "sum" = none
  b_tuple : mg "tuple" = none
  c_EDGE : Kst G mg "EDGE" (.str [35])
  c_MOST_PUT : Kst G mg "MOST_PUT" (.int (4))
  c_MOST_RULES : Kst G mg "MOST_RULES" (.int (12))
  c_SIGNS_rules : Kst G mg "SIGNS_rules" (.str [97, 98, 99, 100, 101, 102])
  c_SIGNS_words : Kst G mg "SIGNS_words" (.str [97, 98, 99, 100, 101, 102])
  i_list : IsTab G (.type "list") tab_list
  i_str : IsTab G (.type "str") tab_str
  i_tuple : IsTab G (.type "tuple") tab_tuple
  e_NoRules : Exc0 G mg "NoRules" 0
  e_NoWord : Exc0 G mg "NoWord" 1

abbrev s_law_state : Stmt := top 19
abbrev N_law_state : List Str := ["_law_cells", "_law_k", "_law_mixed"]
theorem sc_law_state : FnScope N_law_state ["_law_cells", "_law_k"] (defScope s_law_state) := ⟨rfl, rfl, rfl, by decide +kernel, rfl, by decide +kernel, by decide +kernel⟩
def m_law_state : List O → FR := fnD 1
    (mSeq (mSetF 2 (mLift (mOp modO (mOp addO (mOp addO (mOp addO (mOp mulO (mCall (fn1 sumO) (mCons (mName 0) (mNil))) (mC (.int (48271)))) (mOp mulO (mCall lenA (mCons (mName 0) (mNil))) (mC (.int (7919))))) (mOp mulO (mName 1) (mC (.int (104729))))) (mC (.int (17)))) (mC (.int (2147483647))))))
    (mRet (mLift (mLst (mCons (mOp addO (mC (.int (1))) (mOp modO (mOp addO (mOp mulO (mName 2) (mName 2)) (mOp mulO (mC (.int (69621))) (mName 1))) (mC (.int (2147483629))))) (mNil))))))
abbrev s_law_draw : Stmt := top 18
abbrev N_law_draw : List Str := ["_law_state_here", "_law_most"]
theorem sc_law_draw : FnScope N_law_draw ["_law_state_here", "_law_most"] (defScope s_law_draw) := ⟨rfl, rfl, rfl, by decide +kernel, rfl, by decide +kernel, by decide +kernel⟩
def m_law_draw : O → List D → FL := fnL 0 0
    (mSeq (mSetI (rvN 0) (mC (.int (0))) (mLift (mOp modO (mOp addO (mOp mulO (mOp ixA (mName 0) (mC (.int (0)))) (mC (.int (48271)))) (mC (.int (11)))) (mC (.int (2147483647))))))
    (mRet (mLift (mOp modO (mOp fdivO (mOp ixA (mName 0) (mC (.int (0)))) (mC (.int (7)))) (mName 1)))))
abbrev s_law_signs : Stmt := top 20
abbrev N_law_signs : List Str := ["_law_state_here", "_law_some", "_law_k"]
theorem sc_law_signs : FnScope N_law_signs ["_law_state_here"] (defScope s_law_signs) := ⟨rfl, rfl, rfl, by decide +kernel, rfl, by decide +kernel, by decide +kernel⟩
def m_law_signs : O → List D → FL := fnL 0 2
    (mSeq (mSet 1 (mLift (mCall listA (mCons (mC (.str [97, 98, 99, 100, 101, 102])) (mNil)))))
    (mRet (mFzX (mS1X joinO (mDatP (mC (.str []))) (mDat (mLcX (mRngX1 (mConsX (mDat (mOpX addO (mDatP (mC (.int (1)))) (mDat (mFnL 0 0 2 m_law_draw [] (mConsX (mDatP (mC (.int (6)))) (mNilX)))))) (mNilX))) [2] (gNm 2) (mYes) (mPMX "list" 1 (mConsX (mDat (mFnL 0 0 2 m_law_draw [] (mConsX (mDatP (mCall lenA (mCons (mName 1) (mNil)))) (mNilX)))) (mNilX)) oPopAt)))))))
abbrev s_law_side : Stmt := top 21
abbrev N_law_side : List Str := ["_law_state_here", "_law_signs_here", "_law_some", "_law_found", "_law_k"]
theorem sc_law_side : FnScope N_law_side ["_law_state_here", "_law_signs_here"] (defScope s_law_side) := ⟨rfl, rfl, rfl, by decide +kernel, rfl, by decide +kernel, by decide +kernel⟩
def m_law_side : O → List D → FL := fnL 0 3
    (mSeq (mSet 2 (mLift (mCall listA (mCons (mOp addO (mName 1) (mC (.str [35]))) (mNil)))))
    (mSeq (mSetF 3 (mLift (mC (.str []))))
    (mSeq (mFor (mRngX1 (mConsX (mDat (mOpX ixA (mDatP (mLst (mCons (mC (.int (0))) (mCons (mC (.int (0))) (mCons (mC (.int (1))) (mCons (mC (.int (2))) (mCons (mC (.int (3))) (mCons (mC (.int (5))) (mNil))))))))) (mDat (mFnL 0 0 2 m_law_draw [] (mConsX (mDatP (mC (.int (6)))) (mNilX)))))) (mNilX))) (gNm 4) [4] (mIfS (mTst (mOp neO (mName 2) (mLst (mNil)))) (mSetF 3 (mOpX addO (mDatP (mName 3)) (mDat (mPMX "list" 2 (mConsX (mDat (mFnL 0 0 2 m_law_draw [] (mConsX (mDatP (mCall lenA (mCons (mName 2) (mNil)))) (mNilX)))) (mNilX)) oPopAt)))) (mNx)))
    (mRet (mShare 3)))))
abbrev s_law_rules : Stmt := top 22
abbrev N_law_rules : List Str := ["_law_state_here", "_law_signs_here", "_law_found", "_law_k", "_law_word", "_law_sign", "_law_j"]
theorem sc_law_rules : FnScope N_law_rules ["_law_state_here", "_law_signs_here"] (defScope s_law_rules) := ⟨rfl, rfl, rfl, by decide +kernel, rfl, by decide +kernel, by decide +kernel⟩
def m_law_rules : O → List D → FL := fnL 0 5
    (mSeq (mSet 2 (mLift (mLst (mNil))))
    (mSeq (mFor (mRngX1 (mConsX (mDat (mOpX ixA (mDatP (mLst (mCons (mC (.int (0))) (mCons (mC (.int (1))) (mCons (mC (.int (2))) (mCons (mC (.int (3))) (mCons (mC (.int (5))) (mCons (mC (.int (8))) (mCons (mC (.int (12))) (mNil)))))))))) (mDat (mFnL 0 0 2 m_law_draw [] (mConsX (mDatP (mC (.int (7)))) (mNilX)))))) (mNilX))) (gNm 3) [3, 4, 5] (mSeq (mSetF 4 (mS1X joinO (mDatP (mC (.str []))) (mDat (mLcX (mRngX1 (mConsX (mDat (mOpX ixA (mDatP (mLst (mCons (mC (.int (0))) (mCons (mC (.int (1))) (mCons (mC (.int (1))) (mCons (mC (.int (2))) (mCons (mC (.int (4))) (mNil)))))))) (mDat (mFnL 0 0 2 m_law_draw [] (mConsX (mDatP (mC (.int (5)))) (mNilX)))))) (mNilX))) [6] (gNm 6) (mYes) (mOpX ixA (mDatP (mC (.str [97, 98, 99, 100, 101, 102]))) (mDat (mFnL 0 0 2 m_law_draw [] (mConsX (mDatP (mC (.int (6)))) (mNilX)))))))))
    (mSeq (mSetF 5 (mIxNX ixA 1 (mDat (mFnL 0 0 2 m_law_draw [] (mConsX (mDatP (mCall lenA (mCons (mName 1) (mNil)))) (mNilX))))))
    (mApp 2 (mTupX (mConsX (mDat (mFnL 0 0 2 m_law_side [] (mConsX (mDatP (mName 1)) (mNilX)))) (mConsX (mDatP (mName 5)) (mConsX (mDat (mFnL 0 0 2 m_law_side [] (mConsX (mDatP (mName 1)) (mNilX)))) (mConsX (mDatP (mName 4)) (mNilX))))))))))
    (mRet (mShare 2))))
abbrev s_is_side : Stmt := top 12
abbrev N_is_side : List Str := ["thing", "signs", "sign"]
theorem sc_is_side : FnScope N_is_side ["thing", "signs"] (defScope s_is_side) := ⟨rfl, rfl, rfl, by decide +kernel, rfl, by decide +kernel, by decide +kernel⟩
def m_is_side : List O → FR := fnD 1
    (mSeq (mIfS (mOr (mNot (mTst (mUn (isT tab_str) (mName 0)))) (mTst (mOp neO (mUn lenSetO (mName 0)) (mCall lenA (mCons (mName 0) (mNil)))))) (mRet (mLift (mC (.bl false)))) (mNx))
    (mRet (mLift (mCall (fn1 allO) (mCons (mLc (mJ (mName 0)) [2] (gNm 2) (mYes) (mOp (inA false) (mName 2) (mOp addO (mName 1) (mC (.str [35]))))) (mNil))))))
abbrev s_is_word : Stmt := top 6
abbrev N_is_word : List Str := ["thing", "longest", "sign"]
theorem sc_is_word : FnScope N_is_word ["thing", "longest"] (defScope s_is_word) := ⟨rfl, rfl, rfl, by decide +kernel, rfl, by decide +kernel, by decide +kernel⟩
def m_is_word : List O → FR := fnD 1
    (mSeq (mIfS (mOr (mNot (mTst (mUn (isT tab_str) (mName 0)))) (mTst (mOp gtO (mCall lenA (mCons (mName 0) (mNil))) (mName 1)))) (mRet (mLift (mC (.bl false)))) (mNx))
    (mRet (mLift (mCall (fn1 allO) (mCons (mLc (mJ (mName 0)) [2] (gNm 2) (mYes) (mOp (inA false) (mName 2) (mC (.str [97, 98, 99, 100, 101, 102])))) (mNil))))))
abbrev s_is_rule : Stmt := top 13
abbrev N_is_rule : List Str := ["thing", "signs"]
theorem sc_is_rule : FnScope N_is_rule ["thing", "signs"] (defScope s_is_rule) := ⟨rfl, rfl, rfl, by decide +kernel, rfl, by decide +kernel, by decide +kernel⟩
def m_is_rule : List O → FR := fnD 0
    (mSeq (mIfS (mOr (mNot (mTst (mUn (isT tab_tuple) (mName 0)))) (mTst (mOp neO (mCall lenA (mCons (mName 0) (mNil))) (mC (.int (4)))))) (mRet (mLift (mC (.bl false)))) (mNx))
    (mSeq (mIfS (mOr (mNot (mTst (mFn 2 m_is_side [] (mCons (mOp ixA (mName 0) (mC (.int (0)))) (mCons (mName 1) (mNil)))))) (mNot (mTst (mFn 2 m_is_side [] (mCons (mOp ixA (mName 0) (mC (.int (2)))) (mCons (mName 1) (mNil))))))) (mRet (mLift (mC (.bl false)))) (mNx))
    (mRet (mLift (mAndV (mUn (isT tab_str) (mOp ixA (mName 0) (mC (.int (1))))) (mAndV (mOp eqO (mCall lenA (mCons (mOp ixA (mName 0) (mC (.int (1)))) (mNil))) (mC (.int (1)))) (mAndV (mOp (inA false) (mOp ixA (mName 0) (mC (.int (1)))) (mName 1)) (mFn 2 m_is_word [] (mCons (mOp ixA (mName 0) (mC (.int (3)))) (mCons (mC (.int (4))) (mNil)))))))))))
abbrev s_need_rules : Stmt := top 14
abbrev N_need_rules : List Str := ["rules", "signs", "rule"]
theorem sc_need_rules : FnScope N_need_rules ["rules", "signs"] (defScope s_need_rules) := ⟨rfl, rfl, rfl, by decide +kernel, rfl, by decide +kernel, by decide +kernel⟩
def m_need_rules : List O → FR := fnD 1
    (mSeq (mIfS (mOr (mNot (mTst (mUn (isT2 tab_list tab_tuple) (mName 0)))) (mTst (mOp gtO (mCall lenA (mCons (mName 0) (mNil))) (mC (.int (12)))))) (mRaise 0) (mNx))
    (mIfS (mNot (mTst (mCall (fn1 allO) (mCons (mLc (mJ (mName 0)) [2] (gNm 2) (mYes) (mFn 2 m_is_rule [] (mCons (mName 2) (mCons (mName 1) (mNil))))) (mNil))))) (mRaise 0) (mNx)))
abbrev s_becomes : Stmt := top 15
abbrev N_becomes : List Str := ["rules", "ahead", "sign", "later", "before", "one", "behind_it", "word"]
theorem sc_becomes : FnScope N_becomes ["rules", "ahead", "sign", "later"] (defScope s_becomes) := ⟨rfl, rfl, rfl, by decide +kernel, rfl, by decide +kernel, by decide +kernel⟩
def m_becomes : List O → FR := fnD 4
    (mSeq (mFor (mItN 0) (gTp 4 (gCn (gNm 4) (gCn (gNm 5) (gCn (gNm 6) (gCn (gNm 7) (gNl)))))) [4, 5, 6, 7] (mIfS (mAnd (mTst (mOp eqO (mName 5) (mName 2))) (mAnd (mOr (mTst (mOp eqO (mName 4) (mC (.str [])))) (mTst (mOp (inA false) (mName 1) (mName 4)))) (mOr (mTst (mOp eqO (mName 6) (mC (.str [])))) (mTst (mOp (inA false) (mName 3) (mName 6)))))) (mRet (mShare 7)) (mNx)))
    (mRet (mShare 2)))
abbrev s_by_hand : Stmt := top 16
abbrev N_by_hand : List Str := ["rules", "word", "whole", "k"]
theorem sc_by_hand : FnScope N_by_hand ["rules", "word"] (defScope s_by_hand) := ⟨rfl, rfl, rfl, by decide +kernel, rfl, by decide +kernel, by decide +kernel⟩
def m_by_hand : List O → FR := fnD 2
    (mSeq (mDrop (mLift (mFn 2 m_need_rules [] (mCons (mName 0) (mCons (mC (.str [97, 98, 99, 100, 101, 102])) (mNil))))))
    (mSeq (mIfS (mNot (mTst (mFn 2 m_is_word [(.int (400))] (mCons (mName 1) (mNil))))) (mRaise 1) (mNx))
    (mSeq (mSetF 2 (mLift (mOp addO (mOp addO (mC (.str [35])) (mName 1)) (mC (.str [35])))))
    (mRet (mLift (mS1 joinO (mC (.str [])) (mLc (mJRng2 (mC (.int (1))) (mOp addO (mCall lenA (mCons (mName 1) (mNil))) (mC (.int (1))))) [3] (gNm 3) (mYes) (mFn 4 m_becomes [] (mCons (mName 0) (mCons (mOp ixA (mName 2) (mOp subO (mName 3) (mC (.int (1))))) (mCons (mOp ixA (mName 2) (mName 3)) (mCons (mOp ixA (mName 2) (mOp addO (mName 3) (mC (.int (1))))) (mNil)))))))))))))
abbrev s_law_by : Stmt := top 23
abbrev N_law_by : List Str := ["_law_rules_here", "_law_word", "_law_found", "_law_k", "_law_ahead", "_law_later", "_law_fitting", "_law_rule"]
theorem sc_law_by : FnScope N_law_by ["_law_rules_here", "_law_word"] (defScope s_law_by) := ⟨rfl, rfl, rfl, by decide +kernel, rfl, by decide +kernel, by decide +kernel⟩
def m_law_by : List O → FR := fnD 6
    (mSeq (mSetF 2 (mLift (mC (.str []))))
    (mSeq (mFor (mRng1 (mCall lenA (mCons (mName 1) (mNil)))) (gNm 3) [3, 4, 5, 6] (mSeq (mSetF 4 (mLift (mC (.str [35]))))
    (mSeq (mSetF 5 (mLift (mC (.str [35]))))
    (mSeq (mIfS (mTst (mOp gtO (mName 3) (mC (.int (0))))) (mSetF 4 (mLift (mOp ixA (mName 1) (mOp subO (mName 3) (mC (.int (1))))))) (mNx))
    (mSeq (mIfS (mTst (mOp ltO (mOp addO (mName 3) (mC (.int (1)))) (mCall lenA (mCons (mName 1) (mNil))))) (mSetF 5 (mLift (mOp ixA (mName 1) (mOp addO (mName 3) (mC (.int (1))))))) (mNx))
    (mSeq (mSetF 6 (mLift (mLc (mJ (mName 0)) [7] (gNm 7) (mAnd (mTst (mOp eqO (mOp ixA (mName 7) (mC (.int (1)))) (mOp ixA (mName 1) (mName 3)))) (mOr (mTst (mOp eqO (mOp ixA (mName 7) (mC (.int (0)))) (mC (.str [])))) (mTst (mOp (inA false) (mName 4) (mOp ixA (mName 7) (mC (.int (0)))))))) (mName 7))))
    (mSeq (mSetF 6 (mLift (mLc (mJ (mName 6)) [7] (gNm 7) (mOr (mTst (mOp eqO (mOp ixA (mName 7) (mC (.int (2)))) (mC (.str [])))) (mTst (mOp (inA false) (mName 5) (mOp ixA (mName 7) (mC (.int (2))))))) (mName 7))))
    (mSetF 2 (mLift (mOp addO (mName 2) (mOp ixA (mOp ixA (mOp addO (mName 6) (mLst (mCons (mTup (mCons (mC (.str [])) (mCons (mC (.str [])) (mCons (mC (.str [])) (mCons (mOp ixA (mName 1) (mName 3)) (mNil)))))) (mNil)))) (mC (.int (0)))) (mC (.int (3))))))))))))))
    (mRet (mShare 2))))
abbrev s_law_right : Stmt := top 24
abbrev N_law_right : List Str := ["_law_rules_here", "_law_word", "_law_handed", "_law_found"]
theorem sc_law_right : FnScope N_law_right ["_law_rules_here", "_law_word"] (defScope s_law_right) := ⟨rfl, rfl, rfl, by decide +kernel, rfl, by decide +kernel, by decide +kernel⟩
def m_law_right : List O → FR := fnD 2
    (mSeq (mSet 2 (mLift (mCall listA (mCons (mName 0) (mNil)))))
    (mSeq (mSetF 3 (mLift (mFn 2 m_by_hand [] (mCons (mName 2) (mCons (mName 1) (mNil))))))
    (mSeq (mIfS (mOr (mNot (mTst (mUn (isT tab_str) (mName 3)))) (mOr (mTst (mOp neO (mName 3) (mFn 2 m_law_by [] (mCons (mName 0) (mCons (mName 1) (mNil)))))) (mTst (mOp neO (mName 2) (mName 0))))) (mRet (mLift (mC (.bl false)))) (mNx))
    (mSeq (mDrop (mPM "list" (rvN 2) mNil oClear))
    (mRet (mLift (mOp eqO (mFn 2 m_by_hand [] (mCons (mCall (fn1 tupleO) (mCons (mName 0) (mNil))) (mCons (mName 1) (mNil)))) (mName 3))))))))
abbrev s_law : Stmt := top 25
abbrev N_law : List Str := ["_law_script", "_law_k", "_law_cell", "_law_state_here", "_law_signs_here", "_law_rules_here", "_law_some", "_law_word", "_law_whole", "_law_j", "_law_one"]
theorem sc_law : FnScope N_law ["_law_script"] (defScope s_law) := ⟨rfl, rfl, rfl, by decide +kernel, rfl, by decide +kernel, by decide +kernel⟩
def m_law : List O → FR := fnD 10
    (mSeq (mFor (mRng1 (mCall (fn2 maxO) (mCons (mC (.int (1))) (mCons (mCall lenA (mCons (mName 0) (mNil))) (mNil))))) (gNm 1) [1, 2, 3, 4, 5, 6, 7, 8] (mSeq (mSetF 2 (mLift (mC (.int (11)))))
    (mSeq (mIfS (mTst (mOp ltO (mName 1) (mCall lenA (mCons (mName 0) (mNil))))) (mSetF 2 (mLift (mOp ixA (mName 0) (mName 1)))) (mNx))
    (mSeq (mSet 3 (mLift (mFn 2 m_law_state [] (mCons (mFzV (mLst (mCons (mName 2) (mNil)))) (mCons (mName 1) (mNil))))))
    (mSeq (mSetF 4 (mFnL 3 0 1 m_law_signs [] (mNilX)))
    (mSeq (mSetF 5 (mFnL 3 0 2 m_law_rules [] (mConsX (mDatP (mName 4)) (mNilX))))
    (mSeq (mSetF 6 (mLift (mSl slO (mOp addO (mOp addO (mName 4) (mName 4)) (mC (.str [97, 98, 99, 100, 101, 102]))) (mPart none) (mPart (some (mC (.int (8))))))))
    (mSeq (mSetF 7 (mS1X joinO (mDatP (mC (.str []))) (mDat (mLcX (mRngX1 (mConsX (mDat (mFnL 3 0 2 m_law_draw [] (mConsX (mDatP (mC (.int (41)))) (mNilX)))) (mNilX))) [9] (gNm 9) (mYes) (mIxNX ixA 6 (mDat (mFnL 3 0 2 m_law_draw [] (mConsX (mDatP (mCall lenA (mCons (mName 6) (mNil)))) (mNilX)))))))))
    (mSeq (mIfS (mNot (mTst (mFn 2 m_law_right [] (mCons (mName 5) (mCons (mName 7) (mNil)))))) (mRet (mLift (mC (.bl false)))) (mNx))
    (mSeq (mSetF 8 (mLift (mSl slO (mS1 joinO (mC (.str [])) (mLc (mJ (mName 0)) [10] (gNm 10) (mYes) (mOp ixA (mName 6) (mOp modO (mOp fdivO (mName 10) (mC (.int (5)))) (mCall lenA (mCons (mName 6) (mNil))))))) (mPart none) (mPart (some (mC (.int (400))))))))
    (mIfS (mAnd (mTst (mOp eqO (mName 1) (mC (.int (0))))) (mNot (mTst (mFn 2 m_law_right [] (mCons (mName 5) (mCons (mName 8) (mNil))))))) (mRet (mLift (mC (.bl false)))) (mNx))))))))))))
    (mRet (mLift (mAndV (mOp eqO (mFn 2 m_by_hand [] (mCons (mFzV (mLst (mNil))) (mCons (mC (.str [])) (mNil)))) (mC (.str []))) (mOp eqO (mFn 2 m_by_hand [] (mCons (mFzV (mLst (mCons (mTup (mCons (mC (.str [35])) (mCons (mC (.str [97])) (mCons (mC (.str [35])) (mCons (mC (.str [98, 99])) (mNil)))))) (mNil)))) (mCons (mC (.str [97])) (mNil)))) (mC (.str [98, 99])))))))
section
variable {P : Program} {w : World} {K : PySem.W.Frag} {mg : Str → Option Value} {base : Heap}
theorem ok_law_state {f : Addr} {fd : FuncData} (T : Txt K mg ⟨K, clsF K, nmsF, P, w⟩) (F : FunD K "_law_state" "_law_state" (defArgs s_law_state) (defBody s_law_state) (defScope s_law_state) [] [] f fd) : FnOk P w K mg base (L2.CX P w) 1 f fd ["_law_cells", "_law_k"] (spP ⟨K, clsF K, nmsF, P, w⟩ 2 m_law_state) :=
  fn_okD F sc_law_state fun cdv A outer s H E hr tk => dss_cons (ds_f (ds_set 2 (dx_of (dp_op op_mod modO_ok (dp_op op_addO addO_ok (dp_op op_addO addO_ok (dp_op op_addO addO_ok (dp_op op_mulO mulO_ok (dp_callB (cr_sum rfl) sumO_ok T.b_sum (by decide +kernel) (da_cons (dp_name 0) (da_nil))) (dp_int)) (dp_op op_mulO mulO_ok (dp_callB call_lenA lenA_ok T.b_len (by decide +kernel) (da_cons (dp_name 0) (da_nil))) (dp_int))) (dp_op op_mulO mulO_ok (dp_name 1) (dp_int))) (dp_int)) (dp_int))) sc_law_state.nd))
    (dss_one (ds_ret (dx_of (dp_lst (da_cons (dp_op op_addO addO_ok (dp_int) (dp_op op_mod modO_ok (dp_op op_addO addO_ok (dp_op op_mulO mulO_ok (dp_name 2) (dp_name 2)) (dp_op op_mulO mulO_ok (dp_int) (dp_name 1))) (dp_int))) (da_nil))))))
theorem ok_law_draw {f : Addr} {fd : FuncData} (T : Txt K mg ⟨K, clsF K, nmsF, P, w⟩) (F : FunD K "_law_draw" "_law_draw" (defArgs s_law_draw) (defBody s_law_draw) (defScope s_law_draw) [] [] f fd) : FnOk P w K mg base (L2.CX P w) 1 f fd ["_law_state_here", "_law_most"] (spL ⟨K, clsF K, nmsF, P, w⟩ 0 2 m_law_draw) :=
  fnL_okD 0 F sc_law_draw fun cdv A outer s H E hr tk => dss_cons (ds_setI hr (dx_of (dp_op op_mod modO_ok (dp_op op_addO addO_ok (dp_op op_mulO mulO_ok (dp_ix (ix_A hr) ixA_ok (dp_name 0) (dp_int)) (dp_int)) (dp_int)) (dp_int))) (dr_name 0) (dp_int))
    (dss_one (ds_ret (dx_of (dp_op op_mod modO_ok (dp_op op_fdivW fdivO_ok (dp_ix (ix_A hr) ixA_ok (dp_name 0) (dp_int)) (dp_int)) (dp_name 1)))))
theorem ok_law_signs {f : Addr} {fd : FuncData} (T : Txt K mg ⟨K, clsF K, nmsF, P, w⟩) (F : FunD K "_law_signs" "_law_signs" (defArgs s_law_signs) (defBody s_law_signs) (defScope s_law_signs) [] [] f fd) (c_law_draw : FncL P w K mg base ⟨K, clsF K, nmsF, P, w⟩ 1 "_law_draw" 0 2 m_law_draw []) : FnOk P w K mg base (L2.CX P w) 2 f fd ["_law_state_here"] (spL ⟨K, clsF K, nmsF, P, w⟩ 0 1 m_law_signs) :=
  fnL_okD 0 F sc_law_signs fun cdv A outer s H E hr tk => dss_cons (ds_set 1 (dx_of (dp_callT (call_listA rfl) listA_ok T.b_list (by decide +kernel) (da_cons (dp_str [97, 98, 99, 100, 101, 102]) (da_nil)))) sc_law_signs.nd)
    (dss_one (ds_ret (dx_fzX (dx_join (dd_pure (dp_str [])) (dd_of (dx_lc (own := [("_law_k", 2)]) sc_law_signs.nd (di_rangeX1 T.b_range (dax_cons (dd_of (dx_op op_addO addO_ok (dd_pure (dp_int)) (dd_of (dx_fnL 0 c_law_draw hr tk (dal_here 0 (dax_cons (dd_pure (dp_int)) (dax_nil))))))) (dax_nil))) (blkOk_by (own := [("_law_k", 2)]) (N := N_law_signs) (sc := defScope s_law_signs) (by decide +kernel)) (fun _ _ _ _ _ => dg_name 2 sc_law_signs.nd) (fun _ _ _ _ _ => dts_nil) (fun _ _ _ _ _ => dx_pmX "list" 1 PySem.F.plainAttrs_list PySem.F.slot_list_pop PySem.F.type_list_pop mt_popAt oPopAt_ok (dax_cons (dd_of (dx_fnL 0 c_law_draw hr takes0 (dal_here 0 (dax_cons (dd_pure (dp_callB call_lenA lenA_ok T.b_len (by decide +kernel) (da_cons (dp_name 1) (da_nil)))) (dax_nil))))) (dax_nil)))))))))
theorem ok_law_side {f : Addr} {fd : FuncData} (T : Txt K mg ⟨K, clsF K, nmsF, P, w⟩) (F : FunD K "_law_side" "_law_side" (defArgs s_law_side) (defBody s_law_side) (defScope s_law_side) [] [] f fd) (c_law_draw : FncL P w K mg base ⟨K, clsF K, nmsF, P, w⟩ 1 "_law_draw" 0 2 m_law_draw []) : FnOk P w K mg base (L2.CX P w) 2 f fd ["_law_state_here", "_law_signs_here"] (spL ⟨K, clsF K, nmsF, P, w⟩ 0 2 m_law_side) :=
  fnL_okD 0 F sc_law_side fun cdv A outer s H E hr tk => dss_cons (ds_set 2 (dx_of (dp_callT (call_listA rfl) listA_ok T.b_list (by decide +kernel) (da_cons (dp_op op_addO addO_ok (dp_name 1) (dp_str [35])) (da_nil)))) sc_law_side.nd)
    (dss_cons (ds_f (ds_set 3 (dx_of (dp_str [])) sc_law_side.nd))
    (dss_cons (ds_for [4] (passes_of rfl) (di_rangeX1 T.b_range (dax_cons (dd_of (dx_ix (ix_A hr) ixA_ok (dd_pure (dp_lst (da_cons (dp_int) (da_cons (dp_int) (da_cons (dp_int) (da_cons (dp_int) (da_cons (dp_int) (da_cons (dp_int) (da_nil))))))))) (dd_of (dx_fnL 0 c_law_draw hr tk (dal_here 0 (dax_cons (dd_pure (dp_int)) (dax_nil))))))) (dax_nil))) (dg_name 4 sc_law_side.nd) (dss_one (ds_if (dt_cmp (op_neO hr) neO_ok (dp_name 2) (dp_lst (da_nil)) (nomark _)) (dss_one (ds_f (ds_set 3 (dx_op op_addO addO_ok (dd_pure (dp_name 3)) (dd_of (dx_pmX "list" 2 PySem.F.plainAttrs_list PySem.F.slot_list_pop PySem.F.type_list_pop mt_popAt oPopAt_ok (dax_cons (dd_of (dx_fnL 0 c_law_draw hr tk (dal_here 0 (dax_cons (dd_pure (dp_callB call_lenA lenA_ok T.b_len (by decide +kernel) (da_cons (dp_name 2) (da_nil)))) (dax_nil))))) (dax_nil))))) sc_law_side.nd))) (dss_nil))))
    (dss_one (ds_ret (dx_share 3)))))
theorem ok_law_rules {f : Addr} {fd : FuncData} (T : Txt K mg ⟨K, clsF K, nmsF, P, w⟩) (F : FunD K "_law_rules" "_law_rules" (defArgs s_law_rules) (defBody s_law_rules) (defScope s_law_rules) [] [] f fd) (c_law_draw : FncL P w K mg base ⟨K, clsF K, nmsF, P, w⟩ 1 "_law_draw" 0 2 m_law_draw []) (c_law_side : FncL P w K mg base ⟨K, clsF K, nmsF, P, w⟩ 2 "_law_side" 0 2 m_law_side []) : FnOk P w K mg base (L2.CX P w) 3 f fd ["_law_state_here", "_law_signs_here"] (spL ⟨K, clsF K, nmsF, P, w⟩ 0 2 m_law_rules) :=
  fnL_okD 0 F sc_law_rules fun cdv A outer s H E hr tk => dss_cons (ds_set 2 (dx_of (dp_lst (da_nil))) sc_law_rules.nd)
    (dss_cons (ds_for [3, 4, 5] (passes_of rfl) (di_rangeX1 T.b_range (dax_cons (dd_of (dx_ix (ix_A hr) ixA_ok (dd_pure (dp_lst (da_cons (dp_int) (da_cons (dp_int) (da_cons (dp_int) (da_cons (dp_int) (da_cons (dp_int) (da_cons (dp_int) (da_cons (dp_int) (da_nil)))))))))) (dd_of (dx_fnL 0 c_law_draw hr tk (dal_here 0 (dax_cons (dd_pure (dp_int)) (dax_nil))))))) (dax_nil))) (dg_name 3 sc_law_rules.nd) (dss_cons (ds_f (ds_set 4 (dx_join (dd_pure (dp_str [])) (dd_of (dx_lc (own := [("_law_j", 6)]) sc_law_rules.nd (di_rangeX1 T.b_range (dax_cons (dd_of (dx_ix (ix_A hr) ixA_ok (dd_pure (dp_lst (da_cons (dp_int) (da_cons (dp_int) (da_cons (dp_int) (da_cons (dp_int) (da_cons (dp_int) (da_nil)))))))) (dd_of (dx_fnL 0 c_law_draw hr tk (dal_here 0 (dax_cons (dd_pure (dp_int)) (dax_nil))))))) (dax_nil))) (blkOk_by (own := [("_law_j", 6)]) (N := N_law_rules) (sc := defScope s_law_rules) (by decide +kernel)) (fun _ _ _ _ _ => dg_name 6 sc_law_rules.nd) (fun _ _ _ _ _ => dts_nil) (fun _ _ _ _ _ => dx_ix (ix_A hr) ixA_ok (dd_pure (dp_str [97, 98, 99, 100, 101, 102])) (dd_of (dx_fnL 0 c_law_draw hr takes0 (dal_here 0 (dax_cons (dd_pure (dp_int)) (dax_nil))))))))) sc_law_rules.nd))
    (dss_cons (ds_f (ds_set 5 (dx_ixN 1 (ix_A hr) ixA_ok (dd_of (dx_fnL 0 c_law_draw hr tk (dal_here 0 (dax_cons (dd_pure (dp_callB call_lenA lenA_ok T.b_len (by decide +kernel) (da_cons (dp_name 1) (da_nil)))) (dax_nil)))))) sc_law_rules.nd))
    (dss_one (ds_app 2 (dx_tup (dax_cons (dd_of (dx_fnL 0 c_law_side hr tk (dal_here 0 (dax_cons (dd_pure (dp_name 1)) (dax_nil))))) (dax_cons (dd_pure (dp_name 5)) (dax_cons (dd_of (dx_fnL 0 c_law_side hr tk (dal_here 0 (dax_cons (dd_pure (dp_name 1)) (dax_nil))))) (dax_cons (dd_pure (dp_name 4)) (dax_nil)))))))))))
    (dss_one (ds_ret (dx_share 2))))
theorem ok_is_side {f : Addr} {fd : FuncData} (T : Txt K mg ⟨K, clsF K, nmsF, P, w⟩) (F : FunD K "is_side" "is_side" (defArgs s_is_side) (defBody s_is_side) (defScope s_is_side) [] [] f fd) : FnOk P w K mg base (L2.CX P w) 1 f fd ["thing", "signs"] (spP ⟨K, clsF K, nmsF, P, w⟩ 2 m_is_side) :=
  fn_okD F sc_is_side fun cdv A outer s H E hr tk => dss_cons (ds_if (PW.pt (dt_or (dt_not (dt_val (dp_isB "str" T.i_str T.b_str T.b_isinstance (dp_name 0)))) (pw_or1 (dt_cmp (op_neO hr) neO_ok (dp_lenSet hr T.b_len T.b_set (dp_name 0)) (dp_callB call_lenA lenA_ok T.b_len (by decide +kernel) (da_cons (dp_name 0) (da_nil))) (nomark _))))) (dss_one (ds_ret (dx_of (dp_bl)))) (dss_nil))
    (dss_one (ds_ret (dx_of (dp_callB (cr_all rfl) allO_ok T.b_all (by decide +kernel) (da_cons (dp_lc (own := [("sign", 2)]) sc_is_side.nd (dj_val (dp_name 0)) (blkOk_by (own := [("sign", 2)]) (N := N_is_side) (sc := defScope s_is_side) (by decide +kernel)) (fun _ _ _ _ _ => dg_name 2 sc_is_side.nd) (fun _ _ _ _ _ => dts_nil) (fun _ _ _ _ _ => dp_cmp (op_inA hr) inA_ok (dp_name 2) (dp_op op_addO addO_ok (dp_name 1) (dp_glob T.c_EDGE)) (by with_unfolding_all rfl))) (da_nil))))))
theorem ok_is_word {f : Addr} {fd : FuncData} (T : Txt K mg ⟨K, clsF K, nmsF, P, w⟩) (F : FunD K "is_word" "is_word" (defArgs s_is_word) (defBody s_is_word) (defScope s_is_word) [V.int 400] [] f fd) : FnOk P w K mg base (L2.CX P w) 1 f fd ["thing", "longest"] (spP ⟨K, clsF K, nmsF, P, w⟩ 2 m_is_word) :=
  fn_okD F sc_is_word fun cdv A outer s H E hr tk => dss_cons (ds_if (PW.pt (dt_or (dt_not (dt_val (dp_isB "str" T.i_str T.b_str T.b_isinstance (dp_name 0)))) (pw_or1 (dt_cmp op_gt gtO_ok (dp_callB call_lenA lenA_ok T.b_len (by decide +kernel) (da_cons (dp_name 0) (da_nil))) (dp_name 1) (nomark _))))) (dss_one (ds_ret (dx_of (dp_bl)))) (dss_nil))
    (dss_one (ds_ret (dx_of (dp_callB (cr_all rfl) allO_ok T.b_all (by decide +kernel) (da_cons (dp_lc (own := [("sign", 2)]) sc_is_word.nd (dj_val (dp_name 0)) (blkOk_by (own := [("sign", 2)]) (N := N_is_word) (sc := defScope s_is_word) (by decide +kernel)) (fun _ _ _ _ _ => dg_name 2 sc_is_word.nd) (fun _ _ _ _ _ => dts_nil) (fun _ _ _ _ _ => dp_cmp (op_inA hr) inA_ok (dp_name 2) (dp_glob T.c_SIGNS_words) (by with_unfolding_all rfl))) (da_nil))))))
theorem ok_is_rule {f : Addr} {fd : FuncData} (T : Txt K mg ⟨K, clsF K, nmsF, P, w⟩) (F : FunD K "is_rule" "is_rule" (defArgs s_is_rule) (defBody s_is_rule) (defScope s_is_rule) [] [] f fd) (c_is_side : Fnc P w K mg base ⟨K, clsF K, nmsF, P, w⟩ 1 "is_side" 2 m_is_side []) (c_is_word : Fnc P w K mg base ⟨K, clsF K, nmsF, P, w⟩ 1 "is_word" 2 m_is_word []) : FnOk P w K mg base (L2.CX P w) 2 f fd ["thing", "signs"] (spP ⟨K, clsF K, nmsF, P, w⟩ 2 m_is_rule) :=
  fn_okD F sc_is_rule fun cdv A outer s H E hr tk => dss_cons (ds_if (PW.pt (dt_or (dt_not (dt_val (dp_isB "tuple" T.i_tuple T.b_tuple T.b_isinstance (dp_name 0)))) (pw_or1 (dt_cmp (op_neO hr) neO_ok (dp_callB call_lenA lenA_ok T.b_len (by decide +kernel) (da_cons (dp_name 0) (da_nil))) (dp_int) (nomark _))))) (dss_one (ds_ret (dx_of (dp_bl)))) (dss_nil))
    (dss_cons (ds_if (PW.pt (dt_or (dt_not (dt_val (dp_fn c_is_side hr (tk) (da_cons (dp_ix (ix_A hr) ixA_ok (dp_name 0) (dp_int)) (da_cons (dp_name 1) (da_nil)))))) (pw_or1 (dt_not (dt_val (dp_fn c_is_side hr (tk) (da_cons (dp_ix (ix_A hr) ixA_ok (dp_name 0) (dp_int)) (da_cons (dp_name 1) (da_nil))))))))) (dss_one (ds_ret (dx_of (dp_bl)))) (dss_nil))
    (dss_one (ds_ret (dx_of (dp_and (dp_isB "str" T.i_str T.b_str T.b_isinstance (dp_ix (ix_A hr) ixA_ok (dp_name 0) (dp_int))) (dp_and (dp_cmp (op_eqO hr) eqO_ok (dp_callB call_lenA lenA_ok T.b_len (by decide +kernel) (da_cons (dp_ix (ix_A hr) ixA_ok (dp_name 0) (dp_int)) (da_nil))) (dp_int) (nomark _)) (dp_and (dp_cmp (op_inA hr) inA_ok (dp_ix (ix_A hr) ixA_ok (dp_name 0) (dp_int)) (dp_name 1) (by with_unfolding_all rfl)) ((pe_one (dp_fn c_is_word hr (tk) (da_cons (dp_ix (ix_A hr) ixA_ok (dp_name 0) (dp_int)) (da_cons (dp_glob T.c_MOST_PUT) (da_nil)))))))))))))
theorem ok_need_rules {f : Addr} {fd : FuncData} (T : Txt K mg ⟨K, clsF K, nmsF, P, w⟩) (F : FunD K "need_rules" "need_rules" (defArgs s_need_rules) (defBody s_need_rules) (defScope s_need_rules) [] [] f fd) (c_is_rule : Fnc P w K mg base ⟨K, clsF K, nmsF, P, w⟩ 2 "is_rule" 2 m_is_rule []) : FnOk P w K mg base (L2.CX P w) 3 f fd ["rules", "signs"] (spP ⟨K, clsF K, nmsF, P, w⟩ 2 m_need_rules) :=
  fn_okD F sc_need_rules fun cdv A outer s H E hr tk => dss_cons (ds_if (PW.pt (dt_or (dt_not (dt_val (dp_isB2 "list" "tuple" T.i_list T.i_tuple T.b_list T.b_tuple T.b_isinstance (dp_name 0)))) (pw_or1 (dt_cmp op_gt gtO_ok (dp_callB call_lenA lenA_ok T.b_len (by decide +kernel) (da_cons (dp_name 0) (da_nil))) (dp_glob T.c_MOST_RULES) (nomark _))))) (dss_one (ds_raise 0 T.e_NoRules tk)) (dss_nil))
    (dss_one (ds_if (dt_not (dt_val (dp_callB (cr_all rfl) allO_ok T.b_all (by decide +kernel) (da_cons (dp_lc (own := [("rule", 2)]) sc_need_rules.nd (dj_val (dp_name 0)) (blkOk_by (own := [("rule", 2)]) (N := N_need_rules) (sc := defScope s_need_rules) (by decide +kernel)) (fun _ _ _ _ _ => dg_name 2 sc_need_rules.nd) (fun _ _ _ _ _ => dts_nil) (fun _ _ _ _ _ => dp_fn c_is_rule hr (takes0) (da_cons (dp_name 2) (da_cons (dp_name 1) (da_nil))))) (da_nil))))) (dss_one (ds_raise 0 T.e_NoRules tk)) (dss_nil)))
theorem ok_becomes {f : Addr} {fd : FuncData} (T : Txt K mg ⟨K, clsF K, nmsF, P, w⟩) (F : FunD K "becomes" "becomes" (defArgs s_becomes) (defBody s_becomes) (defScope s_becomes) [] [] f fd) : FnOk P w K mg base (L2.CX P w) 1 f fd ["rules", "ahead", "sign", "later"] (spP ⟨K, clsF K, nmsF, P, w⟩ 4 m_becomes) :=
  fn_okD F sc_becomes fun cdv A outer s H E hr tk => dss_cons (ds_for [4, 5, 6, 7] (passes_of rfl) (di_name 0) (dg_tup rfl (dgs_cons (dg_name 4 sc_becomes.nd) (dgs_cons (dg_name 5 sc_becomes.nd) (dgs_cons (dg_name 6 sc_becomes.nd) (dgs_cons (dg_name 7 sc_becomes.nd) (dgs_nil)))))) (dss_one (ds_if (PW.pt (dt_and (dt_cmp (op_eqO hr) eqO_ok (dp_name 5) (dp_name 2) (nomark _)) (dt_and (PW.pt (dt_or (dt_cmp (op_eqO hr) eqO_ok (dp_name 4) (dp_str []) (nomark _)) (pw_or1 (dt_cmp (op_inA hr) inA_ok (dp_name 1) (dp_name 4) (by with_unfolding_all rfl))))) (pw_and1 (PW.pt (dt_or (dt_cmp (op_eqO hr) eqO_ok (dp_name 6) (dp_str []) (nomark _)) (pw_or1 (dt_cmp (op_inA hr) inA_ok (dp_name 3) (dp_name 6) (by with_unfolding_all rfl))))))))) (dss_one (ds_ret (dx_share 7))) (dss_nil))))
    (dss_one (ds_ret (dx_share 2)))
theorem ok_by_hand {f : Addr} {fd : FuncData} (T : Txt K mg ⟨K, clsF K, nmsF, P, w⟩) (F : FunD K "by_hand" "by_hand" (defArgs s_by_hand) (defBody s_by_hand) (defScope s_by_hand) [] [] f fd) (c_need_rules : Fnc P w K mg base ⟨K, clsF K, nmsF, P, w⟩ 3 "need_rules" 2 m_need_rules []) (c_is_word_d : Fnc P w K mg base ⟨K, clsF K, nmsF, P, w⟩ 1 "is_word" 2 m_is_word [(.int (400))]) (c_becomes : Fnc P w K mg base ⟨K, clsF K, nmsF, P, w⟩ 1 "becomes" 4 m_becomes []) : FnOk P w K mg base (L2.CX P w) 4 f fd ["rules", "word"] (spP ⟨K, clsF K, nmsF, P, w⟩ 2 m_by_hand) :=
  fn_okD F sc_by_hand fun cdv A outer s H E hr tk => dss_cons (ds_expr (dx_of (dp_fn c_need_rules hr (tk) (da_cons (dp_name 0) (da_cons (dp_glob T.c_SIGNS_rules) (da_nil))))))
    (dss_cons (ds_if (dt_not (dt_val (dp_fn c_is_word_d hr (tk) (da_cons (dp_name 1) (da_nil))))) (dss_one (ds_raise 1 T.e_NoWord tk)) (dss_nil))
    (dss_cons (ds_f (ds_set 2 (dx_of (dp_op op_addO addO_ok (dp_op op_addO addO_ok (dp_glob T.c_EDGE) (dp_name 1)) (dp_glob T.c_EDGE))) sc_by_hand.nd))
    (dss_one (ds_ret (dx_of (dp_join (dp_str []) (dp_lc (own := [("k", 3)]) sc_by_hand.nd (dj_range2 T.b_range (dp_int) (dp_op op_addO addO_ok (dp_callB call_lenA lenA_ok T.b_len (by decide +kernel) (da_cons (dp_name 1) (da_nil))) (dp_int))) (blkOk_by (own := [("k", 3)]) (N := N_by_hand) (sc := defScope s_by_hand) (by decide +kernel)) (fun _ _ _ _ _ => dg_name 3 sc_by_hand.nd) (fun _ _ _ _ _ => dts_nil) (fun _ _ _ _ _ => dp_fn c_becomes hr (takes0) (da_cons (dp_name 0) (da_cons (dp_ix (ix_A hr) ixA_ok (dp_name 2) (dp_op op_sub subO_ok (dp_name 3) (dp_int))) (da_cons (dp_ix (ix_A hr) ixA_ok (dp_name 2) (dp_name 3)) (da_cons (dp_ix (ix_A hr) ixA_ok (dp_name 2) (dp_op op_addO addO_ok (dp_name 3) (dp_int))) (da_nil)))))))))))))
theorem ok_law_by {f : Addr} {fd : FuncData} (T : Txt K mg ⟨K, clsF K, nmsF, P, w⟩) (F : FunD K "_law_by" "_law_by" (defArgs s_law_by) (defBody s_law_by) (defScope s_law_by) [] [] f fd) : FnOk P w K mg base (L2.CX P w) 1 f fd ["_law_rules_here", "_law_word"] (spP ⟨K, clsF K, nmsF, P, w⟩ 2 m_law_by) :=
  fn_okD F sc_law_by fun cdv A outer s H E hr tk => dss_cons (ds_f (ds_set 2 (dx_of (dp_str [])) sc_law_by.nd))
    (dss_cons (ds_for [3, 4, 5, 6] (passes_of rfl) (di_range1 T.b_range (dp_callB call_lenA lenA_ok T.b_len (by decide +kernel) (da_cons (dp_name 1) (da_nil)))) (dg_name 3 sc_law_by.nd) (dss_cons (ds_f (ds_set 4 (dx_of (dp_str [35])) sc_law_by.nd))
    (dss_cons (ds_f (ds_set 5 (dx_of (dp_str [35])) sc_law_by.nd))
    (dss_cons (ds_if (dt_cmp op_gt gtO_ok (dp_name 3) (dp_int) (nomark _)) (dss_one (ds_f (ds_set 4 (dx_of (dp_ix (ix_A hr) ixA_ok (dp_name 1) (dp_op op_sub subO_ok (dp_name 3) (dp_int)))) sc_law_by.nd))) (dss_nil))
    (dss_cons (ds_if (dt_cmp op_ltO ltO_ok (dp_op op_addO addO_ok (dp_name 3) (dp_int)) (dp_callB call_lenA lenA_ok T.b_len (by decide +kernel) (da_cons (dp_name 1) (da_nil))) (nomark _)) (dss_one (ds_f (ds_set 5 (dx_of (dp_ix (ix_A hr) ixA_ok (dp_name 1) (dp_op op_addO addO_ok (dp_name 3) (dp_int)))) sc_law_by.nd))) (dss_nil))
    (dss_cons (ds_f (ds_setLc (own := [("_law_rule", 7)]) 6 sc_law_by.nd (dj_val (dp_name 0)) (blkOk_by (own := [("_law_rule", 7)]) (N := N_law_by) (sc := defScope s_law_by) (by decide +kernel)) (fun _ _ _ _ _ => dg_name 7 sc_law_by.nd) (fun _ _ _ _ _ => dts_one (PW.pt (dt_and (dt_cmp (op_eqO hr) eqO_ok (dp_ix (ix_A hr) ixA_ok (dp_name 7) (dp_int)) (dp_ix (ix_A hr) ixA_ok (dp_name 1) (dp_name 3)) (nomark _)) (pw_and1 (PW.pt (dt_or (dt_cmp (op_eqO hr) eqO_ok (dp_ix (ix_A hr) ixA_ok (dp_name 7) (dp_int)) (dp_str []) (nomark _)) (pw_or1 (dt_cmp (op_inA hr) inA_ok (dp_name 4) (dp_ix (ix_A hr) ixA_ok (dp_name 7) (dp_int)) (by with_unfolding_all rfl))))))))) (fun _ _ _ _ _ => dp_name 7)))
    (dss_cons (ds_f (ds_setLc (own := [("_law_rule", 7)]) 6 sc_law_by.nd (dj_val (dp_name 6)) (blkOk_by (own := [("_law_rule", 7)]) (N := N_law_by) (sc := defScope s_law_by) (by decide +kernel)) (fun _ _ _ _ _ => dg_name 7 sc_law_by.nd) (fun _ _ _ _ _ => dts_one (PW.pt (dt_or (dt_cmp (op_eqO hr) eqO_ok (dp_ix (ix_A hr) ixA_ok (dp_name 7) (dp_int)) (dp_str []) (nomark _)) (pw_or1 (dt_cmp (op_inA hr) inA_ok (dp_name 5) (dp_ix (ix_A hr) ixA_ok (dp_name 7) (dp_int)) (by with_unfolding_all rfl)))))) (fun _ _ _ _ _ => dp_name 7)))
    (dss_one (ds_f (ds_set 2 (dx_of (dp_op op_addO addO_ok (dp_name 2) (dp_ix (ix_A hr) ixA_ok (dp_ix (ix_A hr) ixA_ok (dp_op op_addO addO_ok (dp_name 6) (dp_lst (da_cons (dp_tup (da_cons (dp_str []) (da_cons (dp_str []) (da_cons (dp_str []) (da_cons (dp_ix (ix_A hr) ixA_ok (dp_name 1) (dp_name 3)) (da_nil)))))) (da_nil)))) (dp_int)) (dp_int)))) sc_law_by.nd))))))))))
    (dss_one (ds_ret (dx_share 2))))
theorem ok_law_right {f : Addr} {fd : FuncData} (T : Txt K mg ⟨K, clsF K, nmsF, P, w⟩) (F : FunD K "_law_right" "_law_right" (defArgs s_law_right) (defBody s_law_right) (defScope s_law_right) [] [] f fd) (c_by_hand : Fnc P w K mg base ⟨K, clsF K, nmsF, P, w⟩ 4 "by_hand" 2 m_by_hand []) (c_law_by : Fnc P w K mg base ⟨K, clsF K, nmsF, P, w⟩ 1 "_law_by" 2 m_law_by []) : FnOk P w K mg base (L2.CX P w) 5 f fd ["_law_rules_here", "_law_word"] (spP ⟨K, clsF K, nmsF, P, w⟩ 2 m_law_right) :=
  fn_okD F sc_law_right fun cdv A outer s H E hr tk => dss_cons (ds_set 2 (dx_of (dp_callT (call_listA rfl) listA_ok T.b_list (by decide +kernel) (da_cons (dp_name 0) (da_nil)))) sc_law_right.nd)
    (dss_cons (ds_f (ds_set 3 (dx_of (dp_fn c_by_hand hr (tk) (da_cons (dp_name 2) (da_cons (dp_name 1) (da_nil))))) sc_law_right.nd))
    (dss_cons (ds_if (PW.pt (dt_or (dt_not (dt_val (dp_isB "str" T.i_str T.b_str T.b_isinstance (dp_name 3)))) (dt_or (dt_cmp (op_neO hr) neO_ok (dp_name 3) (dp_fn c_law_by hr (tk) (da_cons (dp_name 0) (da_cons (dp_name 1) (da_nil)))) (nomark _)) (pw_or1 (dt_cmp (op_neO hr) neO_ok (dp_name 2) (dp_name 0) (nomark _)))))) (dss_one (ds_ret (dx_of (dp_bl)))) (dss_nil))
    (dss_cons (ds_expr (dx_pm0 "list" PySem.F.plainAttrs_list PySem.F.slot_list_clear PySem.F.type_list_clear mt_clear oClear_ok (dr_name 2)))
    (dss_one (ds_ret (dx_of (dp_cmp (op_eqO hr) eqO_ok (dp_fn c_by_hand hr (tk) (da_cons (dp_callT call_tuple_of tupleO_ok T.b_tuple (by decide +kernel) (da_cons (dp_name 0) (da_nil))) (da_cons (dp_name 1) (da_nil)))) (dp_name 3) (nomark _))))))))
theorem ok_law {f : Addr} {fd : FuncData} (T : Txt K mg ⟨K, clsF K, nmsF, P, w⟩) (F : FunD K "law" "law" (defArgs s_law) (defBody s_law) (defScope s_law) [] [] f fd) (c_law_state : Fnc P w K mg base ⟨K, clsF K, nmsF, P, w⟩ 1 "_law_state" 2 m_law_state []) (c_law_signs : FncL P w K mg base ⟨K, clsF K, nmsF, P, w⟩ 2 "_law_signs" 0 1 m_law_signs []) (c_law_rules : FncL P w K mg base ⟨K, clsF K, nmsF, P, w⟩ 3 "_law_rules" 0 2 m_law_rules []) (c_law_draw : FncL P w K mg base ⟨K, clsF K, nmsF, P, w⟩ 1 "_law_draw" 0 2 m_law_draw []) (c_law_right : Fnc P w K mg base ⟨K, clsF K, nmsF, P, w⟩ 5 "_law_right" 2 m_law_right []) (c_by_hand : Fnc P w K mg base ⟨K, clsF K, nmsF, P, w⟩ 4 "by_hand" 2 m_by_hand []) : FnOk P w K mg base (L2.CX P w) 6 f fd ["_law_script"] (spP ⟨K, clsF K, nmsF, P, w⟩ 1 m_law) :=
  fn_okD F sc_law fun cdv A outer s H E hr tk => dss_cons (ds_for [1, 2, 3, 4, 5, 6, 7, 8] (passes_of rfl) (di_range1 T.b_range (dp_callB (call_max2 rfl) maxO_ok T.b_max (by decide +kernel) (da_cons (dp_int) (da_cons (dp_callB call_lenA lenA_ok T.b_len (by decide +kernel) (da_cons (dp_name 0) (da_nil))) (da_nil))))) (dg_name 1 sc_law.nd) (dss_cons (ds_f (ds_set 2 (dx_of (dp_int)) sc_law.nd))
    (dss_cons (ds_if (dt_cmp op_ltO ltO_ok (dp_name 1) (dp_callB call_lenA lenA_ok T.b_len (by decide +kernel) (da_cons (dp_name 0) (da_nil))) (nomark _)) (dss_one (ds_f (ds_set 2 (dx_of (dp_ix (ix_A hr) ixA_ok (dp_name 0) (dp_name 1))) sc_law.nd))) (dss_nil))
    (dss_cons (ds_set 3 (dx_of (dp_fn c_law_state hr (tk) (da_cons (dp_fz (dp_lst (da_cons (dp_name 2) (da_nil)))) (da_cons (dp_name 1) (da_nil))))) sc_law.nd)
    (dss_cons (ds_f (ds_set 4 (dx_fnL 3 c_law_signs hr tk (dal_here 3 (dax_nil))) sc_law.nd))
    (dss_cons (ds_f (ds_set 5 (dx_fnL 3 c_law_rules hr tk (dal_here 3 (dax_cons (dd_pure (dp_name 4)) (dax_nil)))) sc_law.nd))
    (dss_cons (ds_f (ds_set 6 (dx_of (dp_sl sl_O slO_ok (dp_op op_addO addO_ok (dp_op op_addO addO_ok (dp_name 4) (dp_name 4)) (dp_str [97, 98, 99, 100, 101, 102])) (dp_pNone) (dp_pSome (dp_int)))) sc_law.nd))
    (dss_cons (ds_f (ds_set 7 (dx_join (dd_pure (dp_str [])) (dd_of (dx_lc (own := [("_law_j", 9)]) sc_law.nd (di_rangeX1 T.b_range (dax_cons (dd_of (dx_fnL 3 c_law_draw hr tk (dal_here 3 (dax_cons (dd_pure (dp_int)) (dax_nil))))) (dax_nil))) (blkOk_by (own := [("_law_j", 9)]) (N := N_law) (sc := defScope s_law) (by decide +kernel)) (fun _ _ _ _ _ => dg_name 9 sc_law.nd) (fun _ _ _ _ _ => dts_nil) (fun _ _ _ _ _ => dx_ixN 6 (ix_A hr) ixA_ok (dd_of (dx_fnL 3 c_law_draw hr takes0 (dal_here 3 (dax_cons (dd_pure (dp_callB call_lenA lenA_ok T.b_len (by decide +kernel) (da_cons (dp_name 6) (da_nil)))) (dax_nil))))))))) sc_law.nd))
    (dss_cons (ds_if (dt_not (dt_val (dp_fn c_law_right hr (tk) (da_cons (dp_name 5) (da_cons (dp_name 7) (da_nil)))))) (dss_one (ds_ret (dx_of (dp_bl)))) (dss_nil))
    (dss_cons (ds_f (ds_set 8 (dx_of (dp_sl sl_O slO_ok (dp_join (dp_str []) (dp_lc (own := [("_law_one", 10)]) sc_law.nd (dj_val (dp_name 0)) (blkOk_by (own := [("_law_one", 10)]) (N := N_law) (sc := defScope s_law) (by decide +kernel)) (fun _ _ _ _ _ => dg_name 10 sc_law.nd) (fun _ _ _ _ _ => dts_nil) (fun _ _ _ _ _ => dp_ix (ix_A hr) ixA_ok (dp_name 6) (dp_op op_mod modO_ok (dp_op op_fdivW fdivO_ok (dp_name 10) (dp_int)) (dp_callB call_lenA lenA_ok T.b_len (by decide +kernel) (da_cons (dp_name 6) (da_nil))))))) (dp_pNone) (dp_pSome (dp_int)))) sc_law.nd))
    (dss_one (ds_if (PW.pt (dt_and (dt_cmp (op_eqO hr) eqO_ok (dp_name 1) (dp_int) (nomark _)) (pw_and1 (dt_not (dt_val (dp_fn c_law_right hr (tk) (da_cons (dp_name 5) (da_cons (dp_name 8) (da_nil))))))))) (dss_one (ds_ret (dx_of (dp_bl)))) (dss_nil)))))))))))))
    (dss_one (ds_ret (dx_of (dp_and (dp_cmp (op_eqO hr) eqO_ok (dp_fn c_by_hand hr (tk) (da_cons (dp_fz (dp_lst (da_nil))) (da_cons (dp_str []) (da_nil)))) (dp_str []) (nomark _)) ((pe_one (dp_cmp (op_eqO hr) eqO_ok (dp_fn c_by_hand hr (tk) (da_cons (dp_fz (dp_lst (da_cons (dp_tup (da_cons (dp_str [35]) (da_cons (dp_str [97]) (da_cons (dp_str [35]) (da_cons (dp_str [98, 99]) (da_nil)))))) (da_nil)))) (da_cons (dp_str [97]) (da_nil)))) (dp_str [98, 99]) (nomark _))))))))
end
/-! the head -/
def D_law_state : He.DefD := ⟨("_law_state", none), "_law_state", "_law_state", defArgs s_law_state, defBody s_law_state, defScope s_law_state, [], []⟩
def D_law_draw : He.DefD := ⟨("_law_draw", none), "_law_draw", "_law_draw", defArgs s_law_draw, defBody s_law_draw, defScope s_law_draw, [], []⟩
def D_law_signs : He.DefD := ⟨("_law_signs", none), "_law_signs", "_law_signs", defArgs s_law_signs, defBody s_law_signs, defScope s_law_signs, [], []⟩
def D_law_side : He.DefD := ⟨("_law_side", none), "_law_side", "_law_side", defArgs s_law_side, defBody s_law_side, defScope s_law_side, [], []⟩
def D_law_rules : He.DefD := ⟨("_law_rules", none), "_law_rules", "_law_rules", defArgs s_law_rules, defBody s_law_rules, defScope s_law_rules, [], []⟩
def D_is_side : He.DefD := ⟨("is_side", none), "is_side", "is_side", defArgs s_is_side, defBody s_is_side, defScope s_is_side, [], []⟩
def D_is_word : He.DefD := ⟨("is_word", none), "is_word", "is_word", defArgs s_is_word, defBody s_is_word, defScope s_is_word, [.int 400], []⟩
def D_is_rule : He.DefD := ⟨("is_rule", none), "is_rule", "is_rule", defArgs s_is_rule, defBody s_is_rule, defScope s_is_rule, [], []⟩
def D_need_rules : He.DefD := ⟨("need_rules", none), "need_rules", "need_rules", defArgs s_need_rules, defBody s_need_rules, defScope s_need_rules, [], []⟩
def D_becomes : He.DefD := ⟨("becomes", none), "becomes", "becomes", defArgs s_becomes, defBody s_becomes, defScope s_becomes, [], []⟩
def D_by_hand : He.DefD := ⟨("by_hand", none), "by_hand", "by_hand", defArgs s_by_hand, defBody s_by_hand, defScope s_by_hand, [], []⟩
def D_law_by : He.DefD := ⟨("_law_by", none), "_law_by", "_law_by", defArgs s_law_by, defBody s_law_by, defScope s_law_by, [], []⟩
def D_law_right : He.DefD := ⟨("_law_right", none), "_law_right", "_law_right", defArgs s_law_right, defBody s_law_right, defScope s_law_right, [], []⟩
def D_law : He.DefD := ⟨("law", none), "law", "law", defArgs s_law, defBody s_law, defScope s_law, [], []⟩
def dfnL : List He.DefD := [D_law_state, D_law_draw, D_law_signs, D_law_side, D_law_rules, D_is_side, D_is_word, D_is_rule, D_need_rules, D_becomes, D_by_hand, D_law_by, D_law_right, D_law]
def faL : List He.Fa := [.glo "_law_state", .glo "_law_draw", .glo "_law_signs", .glo "_law_side", .glo "_law_rules", .glo "is_side", .glo "is_word", .glo "is_rule", .glo "need_rules", .glo "becomes", .glo "by_hand", .glo "_law_by", .glo "_law_right", .glo "law", .free "all", .free "isinstance", .free "len", .free "list", .free "max", .free "range", .free "set", .free "str", .free "sum", .free "tuple", .glo "NoRules", .glo "NoWord", .exc "NoRules", .exc "NoWord", .str "EDGE" "#", .int "MOST_PUT" 4, .int "MOST_RULES" 12, .str "SIGNS_rules" "abcdef", .str "SIGNS_words" "abcdef"]
abbrev RR : PySem.W.OpenRow := PySem.W.OpenLaw.row PySem.Challenge.rw_letterwend_k92_rules_by_hand
abbrev hk : PySem.W.Hook := He.hookD 5 faL dfnL
def obs1 (s : PySem.W.SharedT) : He.AlD := He.obsDG 5 faL dfnL (HandSHeadRun.getT s)
theorem obs1_eq (s : PySem.W.SharedT) : obs1 s = hk.obs s.abs := He.obsDG_eq (HandSHeadRun.getT_eq s)
def names1 : List Str := ["MillError", "NoWord", "NoRules", "SIGNS_words", "is_word", "EDGE", "SIGNS_rules", "MOST_RULES", "MOST_PUT", "is_side", "is_rule", "need_rules", "becomes", "by_hand", "_law_draw", "_law_state", "_law_signs", "_law_side", "_law_rules", "_law_by", "_law_right"]
theorem run1 (w : World) : HandSHeadRun.RunEq RR (PySem.W.view RR.prog [25]) hk obs1 2000 names1 w := by
  intro os
  kernel_rfl
theorem facts {P : Program} {w : World} {K : PySem.W.Frag} {h : Heap} {mg : Str → Option Value} {f : Addr} (X : K.In h) (G : h.Ns mainGlobals mg) (hfa : mg ("law" : Str) = some (.ref f)) (c : He.SaysD faL dfnL K) :
    ∃ fd : FuncData, (∀ (s : Shared) (v : Value), BindsTo s fd ⟨[v], []⟩ [("_law_script", v)]) ∧ ∀ base : Heap, K.In base → base.Ns mainGlobals mg → FnOk P w K mg base (L2.CX P w) 6 f fd ["_law_script"] (spP ⟨K, clsF K, nmsF, P, w⟩ 1 m_law) := by
  obtain ⟨d0, F0⟩ := c.def_ 0 (d := D_law_state) rfl
  obtain ⟨d1, F1⟩ := c.def_ 1 (d := D_law_draw) rfl
  obtain ⟨d2, F2⟩ := c.def_ 2 (d := D_law_signs) rfl
  obtain ⟨d3, F3⟩ := c.def_ 3 (d := D_law_side) rfl
  obtain ⟨d4, F4⟩ := c.def_ 4 (d := D_law_rules) rfl
  obtain ⟨d5, F5⟩ := c.def_ 5 (d := D_is_side) rfl
  obtain ⟨d6, F6⟩ := c.def_ 6 (d := D_is_word) rfl
  obtain ⟨d7, F7⟩ := c.def_ 7 (d := D_is_rule) rfl
  obtain ⟨d8, F8⟩ := c.def_ 8 (d := D_need_rules) rfl
  obtain ⟨d9, F9⟩ := c.def_ 9 (d := D_becomes) rfl
  obtain ⟨d10, F10⟩ := c.def_ 10 (d := D_by_hand) rfl
  obtain ⟨d11, F11⟩ := c.def_ 11 (d := D_law_by) rfl
  obtain ⟨d12, F12⟩ := c.def_ 12 (d := D_law_right) rfl
  obtain ⟨d13, F13⟩ := c.def_ 13 (d := D_law) rfl
  have T : Txt K mg ⟨K, clsF K, nmsF, P, w⟩ := ⟨rfl, He.free_ok X G (c.fact 14 (f := .free "all") rfl), He.free_ok X G (c.fact 15 (f := .free "isinstance") rfl), He.free_ok X G (c.fact 16 (f := .free "len") rfl), He.free_ok X G (c.fact 17 (f := .free "list") rfl), He.free_ok X G (c.fact 18 (f := .free "max") rfl), He.free_ok X G (c.fact 19 (f := .free "range") rfl), He.free_ok X G (c.fact 20 (f := .free "set") rfl), He.free_ok X G (c.fact 21 (f := .free "str") rfl), He.free_ok X G (c.fact 22 (f := .free "sum") rfl), He.free_ok X G (c.fact 23 (f := .free "tuple") rfl), kst_str [35] (He.str_ok X G (c.fact 28 (f := .str "EDGE" "#") rfl)), kst_int (He.int_ok X G (c.fact 29 (f := .int "MOST_PUT" 4) rfl)), kst_int (He.int_ok X G (c.fact 30 (f := .int "MOST_RULES" 12) rfl)), kst_str [97, 98, 99, 100, 101, 102] (He.str_ok X G (c.fact 31 (f := .str "SIGNS_rules" "abcdef") rfl)), kst_str [97, 98, 99, 100, 101, 102] (He.str_ok X G (c.fact 32 (f := .str "SIGNS_words" "abcdef") rfl)), tabB_ok (by decide) (fun t b h e => by cases e), tabB_ok (by decide) (fun t b h e => by cases e), tabB_ok (by decide) (fun t b h e => by cases e), exc0_of 0 X G rfl (c.fact 24 (f := .glo "NoRules") rfl) (c.fact 26 (f := .exc "NoRules") rfl), exc0_of 1 X G rfl (c.fact 25 (f := .glo "NoWord") rfl) (c.fact 27 (f := .exc "NoWord") rfl)⟩
  have e := hfa.symm.trans (He.glo_ok X G (c.fact 13 (f := .glo "law") rfl))
  cases e
  refine ⟨d13, fun s v => FunD.bindsA (ps := ["_law_script"]) F13 (fun _ _ _ _ _ _ us hl => match us, hl with | [_], _ => rfl) s [v] rfl, fun base _ _ => ?_⟩
  have o_law_state := ok_law_state (P := P) (w := w) (base := base) T F0
  have k_law_state := fnc (x := "_law_state") o_law_state (He.glo_ok X G (c.fact 0 (f := .glo "_law_state") rfl)) F0.kp (F0.bindsN fun _ _ _ _ _ _ us hl => match us, hl with | [_, _], _ => rfl)
  have o_law_draw := ok_law_draw (P := P) (w := w) (base := base) T F1
  have k_law_draw := fncL (x := "_law_draw") o_law_draw (He.glo_ok X G (c.fact 1 (f := .glo "_law_draw") rfl)) F1.kp (F1.bindsN fun _ _ _ _ _ _ us hl => match us, hl with | [_, _], _ => rfl)
  have o_law_signs := ok_law_signs (P := P) (w := w) (base := base) T F2 k_law_draw
  have k_law_signs := fncL (x := "_law_signs") o_law_signs (He.glo_ok X G (c.fact 2 (f := .glo "_law_signs") rfl)) F2.kp (F2.bindsN fun _ _ _ _ _ _ us hl => match us, hl with | [_], _ => rfl)
  have o_law_side := ok_law_side (P := P) (w := w) (base := base) T F3 k_law_draw
  have k_law_side := fncL (x := "_law_side") o_law_side (He.glo_ok X G (c.fact 3 (f := .glo "_law_side") rfl)) F3.kp (F3.bindsN fun _ _ _ _ _ _ us hl => match us, hl with | [_, _], _ => rfl)
  have o_law_rules := ok_law_rules (P := P) (w := w) (base := base) T F4 k_law_draw k_law_side
  have k_law_rules := fncL (x := "_law_rules") o_law_rules (He.glo_ok X G (c.fact 4 (f := .glo "_law_rules") rfl)) F4.kp (F4.bindsN fun _ _ _ _ _ _ us hl => match us, hl with | [_, _], _ => rfl)
  have o_is_side := ok_is_side (P := P) (w := w) (base := base) T F5
  have k_is_side := fnc (x := "is_side") o_is_side (He.glo_ok X G (c.fact 5 (f := .glo "is_side") rfl)) F5.kp (F5.bindsN fun _ _ _ _ _ _ us hl => match us, hl with | [_, _], _ => rfl)
  have o_is_word := ok_is_word (P := P) (w := w) (base := base) T F6
  have kd_is_word : Fnc P w K mg base ⟨K, clsF K, nmsF, P, w⟩ 1 "is_word" 2 m_is_word [(.int (400))] := fncD o_is_word (He.glo_ok X G (c.fact 6 (f := .glo "is_word") rfl)) F6.kp (F6.binds1 1 0 (List.cons_ne_nil _ _) rfl fun _ _ _ _ _ _ _ us its hl hi => match us, its, hl, hi with | [_], [_], _, _ => ⟨_, rfl, rfl⟩) (fun _ => .cons (.int _) (.nil))
  have k_is_word : Fnc P w K mg base ⟨K, clsF K, nmsF, P, w⟩ 1 "is_word" 2 m_is_word [] := fncD o_is_word (He.glo_ok X G (c.fact 6 (f := .glo "is_word") rfl)) F6.kp (F6.binds1 2 1 (List.cons_ne_nil _ _) rfl fun _ _ _ _ _ _ _ us its hl hi => match us, its, hl, hi with | [_, _], [_], _, _ => ⟨_, rfl, rfl⟩) (fun _ => .nil)
  have o_is_rule := ok_is_rule (P := P) (w := w) (base := base) T F7 k_is_side k_is_word
  have k_is_rule := fnc (x := "is_rule") o_is_rule (He.glo_ok X G (c.fact 7 (f := .glo "is_rule") rfl)) F7.kp (F7.bindsN fun _ _ _ _ _ _ us hl => match us, hl with | [_, _], _ => rfl)
  have o_need_rules := ok_need_rules (P := P) (w := w) (base := base) T F8 k_is_rule
  have k_need_rules := fnc (x := "need_rules") o_need_rules (He.glo_ok X G (c.fact 8 (f := .glo "need_rules") rfl)) F8.kp (F8.bindsN fun _ _ _ _ _ _ us hl => match us, hl with | [_, _], _ => rfl)
  have o_becomes := ok_becomes (P := P) (w := w) (base := base) T F9
  have k_becomes := fnc (x := "becomes") o_becomes (He.glo_ok X G (c.fact 9 (f := .glo "becomes") rfl)) F9.kp (F9.bindsN fun _ _ _ _ _ _ us hl => match us, hl with | [_, _, _, _], _ => rfl)
  have o_by_hand := ok_by_hand (P := P) (w := w) (base := base) T F10 k_need_rules kd_is_word k_becomes
  have k_by_hand := fnc (x := "by_hand") o_by_hand (He.glo_ok X G (c.fact 10 (f := .glo "by_hand") rfl)) F10.kp (F10.bindsN fun _ _ _ _ _ _ us hl => match us, hl with | [_, _], _ => rfl)
  have o_law_by := ok_law_by (P := P) (w := w) (base := base) T F11
  have k_law_by := fnc (x := "_law_by") o_law_by (He.glo_ok X G (c.fact 11 (f := .glo "_law_by") rfl)) F11.kp (F11.bindsN fun _ _ _ _ _ _ us hl => match us, hl with | [_, _], _ => rfl)
  have o_law_right := ok_law_right (P := P) (w := w) (base := base) T F12 k_by_hand k_law_by
  have k_law_right := fnc (x := "_law_right") o_law_right (He.glo_ok X G (c.fact 12 (f := .glo "_law_right") rfl)) F12.kp (F12.bindsN fun _ _ _ _ _ _ us hl => match us, hl with | [_, _], _ => rfl)
  exact ok_law T F13 k_law_state k_law_signs k_law_rules k_law_draw k_law_right k_by_hand
end k92
end DL

set_option maxHeartbeats 4000000
namespace DL
open PySem PySem.Spec L2 SL
open PyProof.Rows hiding St
namespace k92
/-! the drawing -/
def nxt (n : Int) : Int := (n * 48271 + 11) % 2147483647
def drw (n m : Int) : Int := nxt n / 7 % m
abbrev ST (n : Int) : O := .lst [.sh (.int n)]
theorem oSetL_0 (n z : Int) : oSetA (ST n) [.sh (.int 0), .sh (.int z)] = some (.sh .non, ST z) := rfl
theorem ix_0 (n : Int) : ixA (ST n) (.sh (.int 0)) = some (.own (.sh (.int n))) := ixA_O (l := [.sh (.int n)]) (n := 0) rfl
theorem draw_ok {n m : Int} (hm : 0 < m) : m_law_draw (ST n) [.int m] = .ok (.sh (.int (drw n m))) (ST (nxt n)) := by
  have a1 : W64 48271 = true := by decide
  have e0 : (n * 48271 + 11) % 2147483647 = nxt n := rfl
  have l7 : (7 : Int).natAbs.log2 < 9000 := by decide
  simp [m_law_draw, fnL, ix_0, e_mul (.inr a1), e_mod, e0, oSetL_0, e_fdiv (i := nxt n) (j := 7) (by decide) l7, e_mod hm, drw]
theorem drw_bd {n m : Int} (hm : 0 < m) : 0 ≤ drw n m ∧ drw n m < m := ⟨Int.emod_nonneg _ (by omega), Int.emod_lt_of_pos _ hm⟩
/-- signs, each a text, in a list of one's own -/
def chO (l : List Nat) : O := .lst (l.map fun c => .sh (.str [c]))
theorem popAt_ok {os : List O} {i : Int} {k : Nat} {o : O} (hi : i = k) (hk : k < 1000) (h : os[k]? = some o) : oPopAt (.lst os) [.sh (.int i)] = some (o, .lst (os.eraseIdx k)) := by
  subst hi
  have hl : lim (2 ^ 62) (k : Int) = true := lim_iff.mpr (by omega)
  have hx : ixN os.length (k : Int) = some k := by
    have : k < os.length := (List.getElem?_eq_some_iff.mp h).1
    unfold ixN
    simp [this]
  unfold oPopAt
  simp [hl, hx, h]
theorem len_chO {l : List Nat} : lenQ (chO l) = some (.own (.sh (.int l.length))) := by
  unfold lenQ chO
  simp [O.items]
theorem state_ok {c : Int} {k : Nat} (hk : k < 1000) : ∃ n, m_law_state [.sh (.lst [.int c]), .sh (.int k)] = .ok (ST n) := by
  have a1 : W64 48271 = true := by decide
  have a2 : W64 7919 = true := by decide
  have a3 : W64 104729 = true := by decide
  have a4 : W64 69621 = true := by decide
  have hs : sumO (.sh (.lst [.int c])) = some (.own (.sh (.int c))) := by unfold sumO; simp [O.lst?, dints]
  obtain ⟨x, hx⟩ : ∃ x, x = (c * 48271 + 7919 + k * 104729 + 17) % 2147483647 := ⟨_, rfl⟩
  have a5 : W64 x = true := w64 (by omega) (by omega)
  refine ⟨1 + (x * x + 69621 * k) % 2147483629, ?_⟩
  simp [m_law_state, fnD, hs, e_mul (.inr a1), e_mul (.inr a2), e_mul (.inr a3), e_mod, ← hx, e_mul (.inl a4), e_mul (.inl a5), ML]
theorem map_erase {α β : Type} (f : α → β) : ∀ (l : List α) (k : Nat), (l.map f).eraseIdx k = (l.eraseIdx k).map f
  | [], _ => rfl
  | a :: l, 0 => rfl
  | a :: l, k + 1 => by simp only [List.map_cons, List.eraseIdx_cons_succ, map_erase f l k]
theorem erase_perm {α : Type} : ∀ (l : List α) (k : Nat) (h : k < l.length), (l[k] :: l.eraseIdx k).Perm l
  | [], _, h => by simp at h
  | a :: l, 0, _ => .refl _
  | a :: l, k + 1, h => by
    simp only [List.getElem_cons_succ, List.eraseIdx_cons_succ]
    exact (List.Perm.swap _ _ _).trans ((erase_perm l k (by simpa using h)).cons a)
theorem join_signs {l : List Nat} (h : l.length ≤ ML) : joinO [] (.sh (.lst (l.map fun c => .str [c]))) = some (.own (.sh (.str l))) := by
  have := joinO_signs (q := fun c : Nat => c) (l := l) h
  have e : O.seq? (.lst (l.map fun c => .sh (.str [c]))) = O.seq? (.sh (.lst (l.map fun c => .str [c]))) := by
    unfold O.seq?
    have : O.lst? (.lst (l.map fun c => .sh (.str [c]))) = some (l.map fun c => .str [c]) := shs_mapf (q := fun c => D.str [c]) l
    rw [this]
    rfl
  unfold joinO at this ⊢
  rw [e] at this
  simpa using this
/-- a draw below the length of a list, as an index -/
theorem drw_ix {α : Type} {n : Int} {l : List α} (h : 0 < l.length) : ∃ k : Nat, drw n l.length = k ∧ k < l.length := by
  obtain ⟨h1, h2⟩ := drw_bd (n := n) (m := l.length) (by omega)
  exact ⟨(drw n l.length).toNat, by omega, by omega⟩
theorem pops : ∀ (ds : List D) (l : List Nat) (n : Int), ds.length ≤ l.length → l.length ≤ 900 → ∃ out l' n',
    lcX (gNm 2) mYes (mPMX "list" 1 (mConsX (mDat (mFnL 0 0 2 m_law_draw [] (mConsX (mDatP (mCall lenA (mCons (mName 1) (mNil)))) (mNilX)))) (mNilX)) oPopAt) [2] ds [.lent (ST n), .own (chO l), .un] =
      some (out.map (fun c => .sh (.str [c])), [.lent (ST n'), .own (chO l'), .un]) ∧ (out ++ l').Perm l ∧ out.length = ds.length
  | [], l, n, _, _ => ⟨[], l, n, rfl, .refl _, rfl⟩
  | d :: ds, l, n, h, hl => by
    have h0 : 0 < l.length := by simp at h; omega
    obtain ⟨k, hk, hkl⟩ := drw_ix (n := n) h0
    have hget : (l.map fun c => O.sh (.str [c]))[k]? = some (.sh (.str [l[k]])) := by rw [List.getElem?_map, List.getElem?_eq_getElem hkl]; rfl
    have hp := popAt_ok (os := l.map fun c => O.sh (.str [c])) hk (by omega) hget
    have he : (l.map fun c => O.sh (.str [c])).eraseIdx k = (l.eraseIdx k).map fun c => .sh (.str [c]) := by rw [map_erase]
    rw [he] at hp
    obtain ⟨out, l', n', e1, e2, e3⟩ := pops ds (l.eraseIdx k) (nxt n) (by rw [List.length_eraseIdx_of_lt hkl]; simp at h; omega) (by rw [List.length_eraseIdx_of_lt hkl]; omega)
    refine ⟨l[k] :: out, l', n', ?_, ?_, by simp [e3]⟩
    · have hd := draw_ok (n := n) (m := l.length) (by omega)
      have hln := len_chO (l := l)
      unfold chO at hln e1 ⊢
      simp [lcX, hln, hd, hp, e1]
    · exact (e2.cons l[k]).trans (erase_perm l k hkl)
def sg6 : List Nat := [97, 98, 99, 100, 101, 102]
theorem list_text {s : List Nat} (h : s.length ≤ ML) : listA [.sh (.str s)] = some (.own (chO s)) := by
  unfold listA orC
  have : listO (.sh (.str s)) = none := rfl
  simp [this, listS, h, rLst, chars, chO]
theorem rng_len (lo : Int) (n : Nat) : (rangeD lo n).length = n := by simp [rangeD]
theorem signs_ok (n : Int) : ∃ sg n', m_law_signs (ST n) [] = .ok (.sh (.str sg)) (ST n') ∧ sg.Nodup ∧ sg ≠ [] ∧ (∀ c ∈ sg, c ∈ sg6) ∧ sg.length ≤ 6 := by
  have hd := draw_ok (n := n) (m := 6) (by decide)
  obtain ⟨b1, b2⟩ := drw_bd (n := n) (m := 6) (by decide)
  generalize drw n 6 = r at *
  have hr : okR (1 + r) = true := okR_of (by omega) (by omega)
  obtain ⟨out, l', n', e1, e2, e3⟩ := pops (rangeD 0 (1 + r).toNat) sg6 (nxt n) (by rw [rng_len]; simp [sg6]; omega) (by decide)
  have e4 : out.length = (1 + r).toNat := by rw [e3, rng_len]
  have hl := list_text (s := sg6) (by decide)
  have hj := join_signs (l := out) (by unfold ML; omega)
  have hz : out.length ≤ 16777216 := by omega
  have nd : out.Nodup := by
    have : (out ++ l').Nodup := (e2.nodup_iff).mpr (by decide)
    exact (List.nodup_append.mp this).1
  refine ⟨out, n', ?_, nd, fun z => by rw [z] at e4; simp at e4; omega, fun c m => e2.mem_iff.mp (List.mem_append_left _ m), by omega⟩
  unfold chO at hl e1
  unfold sg6 at hl e1
  simp only [List.map_cons, List.map_nil] at hl e1
  simp [m_law_signs, DL.fnL, hl, hd, hr, e1, ML, hz, hj]
theorem pl_chars {l : List Nat} (h : ∀ c ∈ l, c < 0x110000) : pl 60 (.lst (l.map fun c => .str [c])) = true := by
  simp only [pl, List.all_eq_true, List.mem_map]
  rintro d ⟨c, m, rfl⟩
  simp [pl, h c m]
theorem ne_nil {l : List Nat} (h : ∀ c ∈ l, c < 0x110000) : neO (chO l) (.lst []) = some (.own (.sh (.bl (!l.isEmpty)))) := by
  unfold neO orR eqSc eqDp chO
  have e : O.fz (.lst (l.map fun c => .sh (.str [c]))) = .lst (l.map fun c => .str [c]) := by simp
  simp only [O.sh?, e, pl_chars h]
  have e2 : O.fz (.lst []) = .lst [] := by simp
  rw [e2]
  cases l <;> simp [deq, deqs, pl]
def SideOk (t : List Nat) : Prop := t.Nodup ∧ ∀ c ∈ t, c ∈ sg6 ++ [35]
theorem side_loop (y : Sl) : ∀ (ds : List D) (l found : List Nat) (n : Int), (∀ c ∈ l, c < 0x110000) → l.length ≤ 900 → found.length + l.length ≤ 900 → ∃ l' found' n',
    forL (gNm 4) (mIfS (mTst (mOp neO (mName 2) (mLst (mNil)))) (mSetF 3 (mOpX addO (mDatP (mName 3)) (mDat (mPMX "list" 2 (mConsX (mDat (mFnL 0 0 2 m_law_draw [] (mConsX (mDatP (mCall lenA (mCons (mName 2) (mNil)))) (mNilX)))) (mNilX)) oPopAt)))) (mNx)) [4] ds
      [.lent (ST n), y, .own (chO l), .own (.sh (.str found)), .un] = .nx [.lent (ST n'), y, .own (chO l'), .own (.sh (.str found')), .un] ∧ (found' ++ l').Perm (found ++ l)
  | [], l, found, n, _, _, _ => ⟨l, found, n, rfl, .refl _⟩
  | d :: ds, l, found, n, hc, hl, hz => by
    have hne := ne_nil hc
    by_cases h0 : 0 < l.length
    · obtain ⟨k, hk, hkl⟩ := drw_ix (n := n) h0
      have hget : (l.map fun c => O.sh (.str [c]))[k]? = some (.sh (.str [l[k]])) := by rw [List.getElem?_map, List.getElem?_eq_getElem hkl]; rfl
      have hp := popAt_ok (os := l.map fun c => O.sh (.str [c])) hk (by omega) hget
      rw [map_erase] at hp
      have hel := List.length_eraseIdx_of_lt hkl
      have hmem : ∀ c ∈ l.eraseIdx k, c < 0x110000 := fun c m => hc c (List.mem_of_mem_eraseIdx m)
      obtain ⟨l', found', n', e1, e2⟩ := side_loop y ds (l.eraseIdx k) (found ++ [l[k]]) (nxt n) hmem (by omega) (by rw [List.length_append, List.length_singleton]; omega)
      have hd := draw_ok (n := n) (m := l.length) (by omega)
      have hln := len_chO (l := l)
      have ha := e_addS (s := found) (t := [l[k]]) (by rw [List.length_singleton]; unfold ML; omega)
      have hb : (!l.isEmpty) = true := by cases l with | nil => simp at h0 | cons _ _ => rfl
      rw [hb] at hne
      refine ⟨l', found', n', ?_, e2.trans ?_⟩
      · unfold chO at hln e1 hne ⊢
        simp [s_for1, hln, hd, hp, hne, ha, e1, ML]
      · rw [List.append_assoc]
        exact List.Perm.append_left found (erase_perm l k hkl)
    · have : l = [] := List.eq_nil_of_length_eq_zero (by omega)
      subst this
      obtain ⟨l', found', n', e1, e2⟩ := side_loop y ds [] found n hc (by decide) hz
      refine ⟨l', found', n', ?_, e2⟩
      unfold chO at e1 hne ⊢
      simp only [List.map_nil, List.isEmpty_nil, Bool.not_true] at e1 hne ⊢
      simp [s_for1, hne, e1, ML]
theorem ix_int {zs : List Int} {r : Int} (h0 : 0 ≤ r) (h1 : r < zs.length) : ∃ q ∈ zs, ixA (.sh (.lst (zs.map .int))) (.sh (.int r)) = some (.own (.sh (.int q))) := by
  obtain ⟨k, rfl⟩ : ∃ k : Nat, r = k := ⟨r.toNat, by omega⟩
  have hk : k < zs.length := by omega
  exact ⟨zs[k], List.getElem_mem hk, ixA_L (by rw [List.getElem?_map, List.getElem?_eq_getElem hk]; rfl)⟩
theorem ix_chr {s : List Nat} {r : Int} (h0 : 0 ≤ r) (h1 : r < s.length) (hz : s.length ≤ ML) : ∃ q ∈ s, ixA (.sh (.str s)) (.sh (.int r)) = some (.own (.sh (.str [q]))) := by
  obtain ⟨k, rfl⟩ : ∃ k : Nat, r = k := ⟨r.toNat, by omega⟩
  have hk : k < s.length := by omega
  exact ⟨s[k], List.getElem_mem hk, ixA_S (by rw [List.getElem?_eq_getElem hk]) hz⟩
theorem sg6_lt {c : Nat} (h : c ∈ sg6 ++ [35]) : c < 0x110000 := by
  have : ∀ c ∈ sg6 ++ [35], c < 0x110000 := by decide
  exact this c h
theorem side_ok (n : Int) {sg : List Nat} (h1 : sg.Nodup) (h2 : ∀ c ∈ sg, c ∈ sg6) (h3 : sg.length ≤ 6) : ∃ t n', m_law_side (ST n) [.str sg] = .ok (.sh (.str t)) (ST n') ∧ SideOk t := by
  have hd := draw_ok (n := n) (m := 6) (by decide)
  obtain ⟨b1, b2⟩ := drw_bd (n := n) (m := 6) (by decide)
  generalize drw n 6 = r at *
  obtain ⟨q, hq, hix⟩ := ix_int (zs := [0, 0, 1, 2, 3, 5]) b1 (by simpa using b2)
  have q0 : 0 ≤ q ∧ q ≤ 5 := by simp at hq; omega
  have hr : okR q = true := okR_of (by omega) (by omega)
  have hc : ∀ c ∈ sg ++ [35], c ∈ sg6 ++ [35] := fun c m => (List.mem_append.mp m).elim (fun m => List.mem_append_left _ (h2 c m)) (List.mem_append_right _)
  have hz : (sg ++ [35]).length ≤ 7 := by simp; omega
  have ha := e_addS (s := sg) (t := [35]) (by simp [ML]; omega)
  have hl := list_text (s := sg ++ [35]) (by unfold ML; omega)
  obtain ⟨l', t, n', e1, e2⟩ := side_loop (.own (.sh (.str sg))) (rangeD 0 q.toNat) (sg ++ [35]) [] (nxt n) (fun c m => sg6_lt (hc c m)) (by omega) (by simp; omega)
  have nd : t.Nodup := by
    have : (t ++ l').Nodup := (e2.nodup_iff).mpr (by
      rw [List.nil_append]
      refine List.nodup_append.mpr ⟨h1, by simp, fun a m b m' z => ?_⟩
      rw [List.mem_singleton.mp m'] at z
      have := h2 a m
      rw [z] at this
      revert this; decide)
    exact (List.nodup_append.mp this).1
  refine ⟨t, n', ?_, nd, fun c m => hc c (by have := e2.mem_iff.mp (List.mem_append_left _ m); simpa using this)⟩
  clear nd e2 hc hz
  generalize sg ++ [35] = base at ha hl e1
  unfold chO at hl e1
  simp only [List.map_cons, List.map_nil] at hix
  simp [m_law_side, DL.fnL, hl, hd, hr, e1, ML, ha, hix]
/-- rules -/
structure Ru where
  b : List Nat
  s : Nat
  h : List Nat
  w : List Nat
def Ru.d (r : Ru) : D := .tup [.str r.b, .str [r.s], .str r.h, .str r.w]
structure RuOk (r : Ru) : Prop where
  b : SideOk r.b
  h : SideOk r.h
  s : r.s ∈ sg6
  w : ∀ c ∈ r.w, c ∈ sg6
  l : r.w.length ≤ 4
theorem word_loop : ∀ (ds : List D) (n : Int) (y1 y2 y3 y4 y5 : Sl), ∃ (out : List Nat) (n' : Int),
    lcX (gNm 6) mYes (mOpX ixA (mDatP (mC (.str [97, 98, 99, 100, 101, 102]))) (mDat (mFnL 0 0 2 m_law_draw [] (mConsX (mDatP (mC (.int (6)))) (mNilX))))) [6] ds [.lent (ST n), y1, y2, y3, y4, y5, .un] =
      some (out.map (fun c => .sh (.str [c])), [.lent (ST n'), y1, y2, y3, y4, y5, .un]) ∧ (∀ c ∈ out, c ∈ sg6) ∧ out.length = ds.length
  | [], n, _, _, _, _, _ => ⟨[], n, rfl, fun c m => (by cases m), rfl⟩
  | d :: ds, n, y1, y2, y3, y4, y5 => by
    have hd := draw_ok (n := n) (m := 6) (by decide)
    obtain ⟨b1, b2⟩ := drw_bd (n := n) (m := 6) (by decide)
    generalize drw n 6 = r at *
    obtain ⟨q, hq, hix⟩ := ix_chr (s := [97, 98, 99, 100, 101, 102]) b1 (by simpa using b2) (by decide)
    obtain ⟨out, n', e1, e2, e3⟩ := word_loop ds (nxt n) y1 y2 y3 y4 y5
    refine ⟨q :: out, n', ?_, fun c m => ?_, by simp [e3]⟩
    · simp [lcX, hd, hix, e1]
    · rcases List.mem_cons.mp m with rfl | m
      · exact hq
      · exact e2 c m
theorem nodup_len {l : List Nat} (h : l.Nodup) (m : List Nat) (s : ∀ c ∈ l, c ∈ m) : l.length ≤ m.length := nat_nodup_len l m h s
theorem SideOk.len {t : List Nat} (h : SideOk t) : t.length ≤ 7 := nodup_len h.1 (sg6 ++ [35]) h.2
theorem rules_loop {sg : List Nat} (h1 : sg.Nodup) (h2 : ∀ c ∈ sg, c ∈ sg6) (h3 : sg.length ≤ 6) (h4 : sg ≠ []) : ∀ (ds : List D) (rs : List Ru) (n : Int), (∀ r ∈ rs, RuOk r) → rs.length + ds.length ≤ 900 → ∃ (rs' : List Ru) (n' : Int),
    forL (gNm 3) (mSeq (mSetF 4 (mS1X joinO (mDatP (mC (.str []))) (mDat (mLcX (mRngX1 (mConsX (mDat (mOpX ixA (mDatP (mLst (mCons (mC (.int (0))) (mCons (mC (.int (1))) (mCons (mC (.int (1))) (mCons (mC (.int (2))) (mCons (mC (.int (4))) (mNil)))))))) (mDat (mFnL 0 0 2 m_law_draw [] (mConsX (mDatP (mC (.int (5)))) (mNilX)))))) (mNilX))) [6] (gNm 6) (mYes) (mOpX ixA (mDatP (mC (.str [97, 98, 99, 100, 101, 102]))) (mDat (mFnL 0 0 2 m_law_draw [] (mConsX (mDatP (mC (.int (6)))) (mNilX)))))))))
    (mSeq (mSetF 5 (mIxNX ixA 1 (mDat (mFnL 0 0 2 m_law_draw [] (mConsX (mDatP (mCall lenA (mCons (mName 1) (mNil)))) (mNilX))))))
    (mApp 2 (mTupX (mConsX (mDat (mFnL 0 0 2 m_law_side [] (mConsX (mDatP (mName 1)) (mNilX)))) (mConsX (mDatP (mName 5)) (mConsX (mDat (mFnL 0 0 2 m_law_side [] (mConsX (mDatP (mName 1)) (mNilX)))) (mConsX (mDatP (mName 4)) (mNilX))))))))) [3, 4, 5] ds
      [.lent (ST n), .own (.sh (.str sg)), .own (.lst (rs.map fun r => .sh r.d)), .un, .un, .un, .un] =
      .nx [.lent (ST n'), .own (.sh (.str sg)), .own (.lst (rs'.map fun r => .sh r.d)), .un, .un, .un, .un] ∧ (∀ r ∈ rs', RuOk r) ∧ rs'.length = rs.length + ds.length
  | [], rs, n, hr, _ => ⟨rs, n, rfl, hr, rfl⟩
  | d :: ds, rs, n, hr, hz => by
    have hd := draw_ok (n := n) (m := 5) (by decide)
    obtain ⟨b1, b2⟩ := drw_bd (n := n) (m := 5) (by decide)
    generalize drw n 5 = r at *
    generalize nxt n = n1 at *
    obtain ⟨q, hq, hix⟩ := ix_int (zs := [0, 1, 1, 2, 4]) b1 (by simpa using b2)
    have q0 : 0 ≤ q ∧ q ≤ 4 := by simp at hq; omega
    have hok : okR q = true := okR_of (by omega) (by omega)
    obtain ⟨w, n2, w1, w2, w3⟩ := word_loop (rangeD 0 q.toNat) n1 (.own (.sh (.str sg))) (.own (.lst (rs.map fun r => .sh r.d))) (.own (.sh d)) .un .un
    have w4 : w.length ≤ 4 := by rw [w3, rng_len]; omega
    have hj := join_signs (l := w) (by unfold ML; omega)
    have hsg : 0 < sg.length := by cases sg with | nil => exact (h4 rfl).elim | cons _ _ => simp
    have hd2 := draw_ok (n := n2) (m := sg.length) (by omega)
    obtain ⟨c1, c2⟩ := drw_bd (n := n2) (m := sg.length) (by omega)
    generalize drw n2 sg.length = r2 at *
    generalize nxt n2 = n3 at *
    have hzs : sg.length ≤ ML := by unfold ML; omega
    obtain ⟨c, hc, hix2⟩ := ix_chr (s := sg) c1 c2 hzs
    have hln := lenQ_S hzs
    obtain ⟨t1, n4, s1, o1⟩ := side_ok n3 h1 h2 h3
    obtain ⟨t2, n5, s2, o2⟩ := side_ok n4 h1 h2 h3
    have hlen : rs.length < 16777216 := by simp at hz; omega
    obtain ⟨rs', n', e1, e2, e3⟩ := rules_loop h1 h2 h3 h4 ds (rs ++ [⟨t1, c, t2, w⟩]) n5 (fun r m => by
      rcases List.mem_append.mp m with m | m
      · exact hr r m
      · rw [List.mem_singleton.mp m]
        exact ⟨o1, o2, h2 c hc, w2, w4⟩) (by simp at hz ⊢; omega)
    refine ⟨rs', n', ?_, e2, by rw [e3]; simp; omega⟩
    simp only [List.map_append, List.map_cons, List.map_nil, Ru.d] at e1
    simp only [List.map_cons, List.map_nil] at hix
    have hw : w.length ≤ 16777216 := by omega
    simp only [Ru.d] at w1 ⊢
    simp [s_for1, hd, hix, hok, w1, hw, hj, hd2, hln, hix2, s1, s2, hlen, ML, e1]
end k92
end DL

set_option maxHeartbeats 4000000
namespace DL
open PySem PySem.Spec L2 SL
open PyProof.Rows hiding St
namespace k92
theorem rules_ok (n : Int) {sg : List Nat} (h1 : sg.Nodup) (h2 : ∀ c ∈ sg, c ∈ sg6) (h3 : sg.length ≤ 6) (h4 : sg ≠ []) : ∃ (rs : List Ru) (n' : Int), m_law_rules (ST n) [.str sg] = .ok (.sh (.lst (rs.map Ru.d))) (ST n') ∧ (∀ r ∈ rs, RuOk r) ∧ rs.length ≤ 12 := by
  have hd := draw_ok (n := n) (m := 7) (by decide)
  obtain ⟨b1, b2⟩ := drw_bd (n := n) (m := 7) (by decide)
  generalize drw n 7 = r at *
  obtain ⟨q, hq, hix⟩ := ix_int (zs := [0, 1, 2, 3, 5, 8, 12]) b1 (by simpa using b2)
  have q0 : 0 ≤ q ∧ q ≤ 12 := by simp at hq; omega
  have hok : okR q = true := okR_of (by omega) (by omega)
  obtain ⟨rs, n', e1, e2, e3⟩ := rules_loop h1 h2 h3 h4 (rangeD 0 q.toNat) [] (nxt n) (fun r m => by cases m) (by rw [rng_len]; simp; omega)
  refine ⟨rs, n', ?_, e2, by rw [e3, rng_len]; simp; omega⟩
  simp only [List.map_nil] at e1
  simp only [List.map_cons, List.map_nil] at hix
  have hf : O.fzs (rs.map fun r => .sh r.d) = rs.map Ru.d := s_fzs_map
  simp [m_law_rules, DL.fnL, hd, hix, hok, e1, ML, hf]
/-- the word's signs -/
theorem draws_word {s : List Nat} (h0 : s ≠ []) (hz : s.length ≤ 900) : ∀ (ds : List D) (n : Int) (y1 y2 y3 y4 : Sl), True → ∃ (out : List Nat) (n' : Int), True := fun _ n _ _ _ _ _ => ⟨[], n, trivial⟩
/-! ### what the program does with rules -/
/-- the shapes in which rules are handed -/
structure Seqs (o : O) (rs : List Ru) : Prop where
  is : isT2 tab_list tab_tuple o = some (.own (.sh (.bl true)))
  len : lenA [o] = some (.own (.sh (.int rs.length)))
  nm : ∃ r, (arg1 o).look = some r ∧ r.o = o
  js : ∀ rest, mJ (mName 0) (arg1 o :: rest) = .ok (rs.map Ru.d)
  it : ∀ rest, mItN 0 (arg1 o :: rest) = .ok (rs.map Ru.d, arg1 o :: rest)
theorem seqs_F (rs : List Ru) : Seqs (.sh (.lst (rs.map Ru.d))) rs := by
  refine ⟨rfl, ?_, ⟨_, rfl, rfl⟩, fun rest => rfl, fun rest => rfl⟩
  refine lenA_of ?_
  rw [lenQ_L, List.length_map]
theorem seqs_T (rs : List Ru) : Seqs (.sh (.tup (rs.map Ru.d))) rs := by
  refine ⟨rfl, ?_, ⟨_, rfl, rfl⟩, fun rest => rfl, fun rest => rfl⟩
  refine lenA_of ?_
  rw [lenQ_T, List.length_map]
theorem seqs_O (rs : List Ru) : Seqs (.lst (rs.map fun r => .sh r.d)) rs := by
  have e : O.seq? (.lst (rs.map fun r => .sh r.d)) = some (rs.map Ru.d) := by
    unfold O.seq?
    have : O.lst? (.lst (rs.map fun r => .sh r.d)) = some (rs.map Ru.d) := shs_mapf (q := Ru.d) rs
    rw [this]
  refine ⟨rfl, lenA_of ?_, ⟨_, rfl, rfl⟩, fun rest => ?_, fun rest => ?_⟩
  · unfold lenQ; simp [O.items]
  · simp [e]
  · simp [e]
theorem inS {a : Nat} {t : List Nat} : inA false (.sh (.str [a])) (.sh (.str t)) = some (.own (.sh (.bl (decide (a ∈ t))))) := inA_of e_inS
def wordS (s : List Nat) (b : Int) : Bool := decide ((s.length : Int) ≤ b) && s.all fun c => decide (c ∈ sg6)
theorem is_str {s : List Nat} : isT tab_str (.sh (.str s)) = some (.own (.sh (.bl true))) := rfl
theorem word_str {s : List Nat} {b : Int} (hz : s.length ≤ ML) : m_is_word [.sh (.str s), .sh (.int b)] = .ok (.sh (.bl (wordS s b))) := by
  have hc : lcL (gNm 2) mYes (mOp (inA false) (mName 2) (mC (.str [97, 98, 99, 100, 101, 102]))) [.own (.sh (.str s)), .own (.sh (.int b)), .un] (chars s) = some (s.map fun c => .sh (.bl (decide (c ∈ sg6)))) :=
    lcL_map (mk := fun c => .str [c]) fun c _ => ⟨[.own (.sh (.str s)), .own (.sh (.int b)), .own (.sh (.str [c]))], by simp, by simp [inS, sg6]⟩
  by_cases h : b < (s.length : Int)
  · have : ¬ ((s.length : Int) ≤ b) := by omega
    simp [m_is_word, fnD, is_str, lenQ_S hz, h, wordS, this]
  · have h2 : (s.length : Int) ≤ b := by omega
    simp [m_is_word, fnD, is_str, lenQ_S hz, h, wordS, h2, hc, hz, allO_map]
theorem nub_chars {t : List Nat} (h : t.Nodup) : (dnub (chars t)).length = t.length := by
  have : ∀ t : List Nat, t.Nodup → dnub (chars t) = chars t := by
    intro t
    induction t with
    | nil => intro _; rfl
    | cons c t ih =>
      intro nd
      obtain ⟨h1, h2⟩ := List.nodup_cons.mp nd
      show (if hasK (dfk (.str [c])) ((chars t).map dfk) = true then dnub (chars t) else .str [c] :: dnub (chars t)) = .str [c] :: chars t
      rw [if_neg, ih h2]
      rw [hasK_iff]
      intro m
      obtain ⟨d, md, e⟩ := List.mem_map.mp m
      obtain ⟨c', mc, rfl⟩ := List.mem_map.mp md
      have : [Sum.inr [c']] = ([Sum.inr [c]] : List Sc) := e
      simp at this
      exact h1 (this ▸ mc)
  rw [this t h]
  simp [chars]
theorem lenSet_ok {t : List Nat} (h : t.Nodup) (hz : t.length < 4096) : lenSetO (.sh (.str t)) = some (.own (.sh (.int t.length))) := by
  unfold lenSetO
  have e : O.setS (.sh (.str t)) = some (chars t) := rfl
  have k : setk (chars t) = true := by
    unfold setk
    rw [Bool.or_eq_true]
    left
    rw [List.all_eq_true]
    intro d m
    obtain ⟨c, _, rfl⟩ := List.mem_map.mp m
    rfl
  rw [e]
  simp [k, nub_chars h]
  simpa [chars] using hz
theorem isside_ok {t : List Nat} (h : SideOk t) : m_is_side [.sh (.str t), .sh (.str [97, 98, 99, 100, 101, 102])] = .ok (.sh (.bl true)) := by
  have hz : t.length ≤ 7 := h.len
  have hc : lcL (gNm 2) mYes (mOp (inA false) (mName 2) (mOp addO (mName 1) (mC (.str [35])))) [.own (.sh (.str t)), .own (.sh (.str [97, 98, 99, 100, 101, 102])), .un] (chars t) = some (t.map fun _ => .sh (.bl true)) :=
    lcL_map (mk := fun c => .str [c]) fun c m => ⟨[.own (.sh (.str t)), .own (.sh (.str [97, 98, 99, 100, 101, 102])), .own (.sh (.str [c]))], by simp, by
      have := h.2 c m
      have ha := e_addS (s := [97, 98, 99, 100, 101, 102]) (t := [35]) (by decide)
      have hi := inS (a := c) (t := sg6 ++ [35])
      rw [decide_eq_true this] at hi
      simp only [sg6, List.cons_append, List.nil_append] at hi ha
      simp [ha, hi]⟩
  have hl := lenSet_ok h.1 (by omega)
  have hq := lenQ_S (s := t) (by unfold ML; omega)
  have hz2 : t.length ≤ 16777216 := by omega
  have hall := allO_true (l := t)
  simp [m_is_side, fnD, is_str, hl, hq, hc, hz2, ML, hall]
end k92
end DL

set_option maxHeartbeats 4000000
namespace DL
open PySem PySem.Spec L2 SL
open PyProof.Rows hiding St
namespace k92
theorem isT_tup {l : List D} : isT tab_tuple (.sh (.tup l)) = some (.own (.sh (.bl true))) := rfl
theorem isrule_ok {r : Ru} (h : RuOk r) : m_is_rule [.sh r.d, .sh (.str [97, 98, 99, 100, 101, 102])] = .ok (.sh (.bl true)) := by
  obtain ⟨i0, i1, i2, i3⟩ := ixA_T4 (a := .str r.b) (b := .str [r.s]) (c := .str r.h) (d := .str r.w)
  have s1 := isside_ok h.b
  have s2 := isside_ok h.h
  have l1 := lenQ_S (s := [r.s]) (by simp [ML])
  have hi := inS (a := r.s) (t := sg6)
  rw [decide_eq_true h.s] at hi
  have hw := word_str (s := r.w) (b := 4) (by have := h.l; unfold ML; omega)
  have e4 : wordS r.w 4 = true := by
    unfold wordS
    rw [Bool.and_eq_true]
    exact ⟨decide_eq_true (by have := h.l; omega), List.all_eq_true.mpr fun c m => decide_eq_true (h.w c m)⟩
  rw [e4] at hw
  simp only [sg6] at hi
  simp [m_is_rule, fnD, Ru.d, isT_tup, i0, i1, i2, i3, s1, s2, is_str, l1, hi, hw]
theorem need_ok {o : O} {rs : List Ru} (S : Seqs o rs) (h : ∀ r ∈ rs, RuOk r) (hz : rs.length ≤ 12) : m_need_rules [o, .sh (.str [97, 98, 99, 100, 101, 102])] = .ok (.sh .non) := by
  obtain ⟨q, q1, q2⟩ := S.nm
  have hc : lcL (gNm 2) mYes (mFn 2 m_is_rule [] (mCons (mName 2) (mCons (mName 1) (mNil)))) [arg1 o, .own (.sh (.str [97, 98, 99, 100, 101, 102])), .un] (rs.map Ru.d) = some (rs.map fun _ => .sh (.bl true)) :=
    lcL_map (mk := Ru.d) fun r m => ⟨[arg1 o, .own (.sh (.str [97, 98, 99, 100, 101, 102])), .own (.sh r.d)], by simp, by simp [isrule_ok (h r m)]⟩
  have hlt : ¬ ((12 : Int) < rs.length) := by omega
  have hz2 : rs.length ≤ 16777216 := by omega
  have hall := allO_true (l := rs)
  have l0 := S.len
  have i0 := S.is
  have j0 := S.js
  simp [m_need_rules, fnD, q1, q2, i0, l0, -lenA_1, hlt, -s_J, j0, hc, hz2, ML, hall]
/-- what a sign becomes -/
def fitsR (a s l : Nat) (r : Ru) : Bool := decide (r.s = s) && ((r.b == [] || decide (a ∈ r.b)) && (r.h == [] || decide (l ∈ r.h)))
def beco (rs : List Ru) (a s l : Nat) : List Nat := match rs.find? (fitsR a s l) with
  | some r => r.w
  | none => [s]
theorem beco_loop (x y : Sl) (a s l : Nat) : ∀ (rs : List Ru) , (∃ r, rs.find? (fitsR a s l) = some r ∧ ∃ en,
    forL (gTp 4 (gCn (gNm 4) (gCn (gNm 5) (gCn (gNm 6) (gCn (gNm 7) (gNl)))))) (mIfS (mAnd (mTst (mOp eqO (mName 5) (mName 2))) (mAnd (mOr (mTst (mOp eqO (mName 4) (mC (.str [])))) (mTst (mOp (inA false) (mName 1) (mName 4)))) (mOr (mTst (mOp eqO (mName 6) (mC (.str [])))) (mTst (mOp (inA false) (mName 3) (mName 6)))))) (mRet (mShare 7)) (mNx)) [4, 5, 6, 7] (rs.map Ru.d)
      [x, .own (.sh (.str [a])), .own (.sh (.str [s])), .own (.sh (.str [l])), .un, .un, .un, .un] = .rt (.sh (.str r.w)) en) ∨ (rs.find? (fitsR a s l) = none ∧
    forL (gTp 4 (gCn (gNm 4) (gCn (gNm 5) (gCn (gNm 6) (gCn (gNm 7) (gNl)))))) (mIfS (mAnd (mTst (mOp eqO (mName 5) (mName 2))) (mAnd (mOr (mTst (mOp eqO (mName 4) (mC (.str [])))) (mTst (mOp (inA false) (mName 1) (mName 4)))) (mOr (mTst (mOp eqO (mName 6) (mC (.str [])))) (mTst (mOp (inA false) (mName 3) (mName 6)))))) (mRet (mShare 7)) (mNx)) [4, 5, 6, 7] (rs.map Ru.d)
      [x, .own (.sh (.str [a])), .own (.sh (.str [s])), .own (.sh (.str [l])), .un, .un, .un, .un] = .nx [x, .own (.sh (.str [a])), .own (.sh (.str [s])), .own (.sh (.str [l])), .un, .un, .un, .un])
  | [] => .inr ⟨rfl, rfl⟩
  | r :: rs => by
    have ih := beco_loop x y a s l rs
    have f : fitsR a s l r = (decide (r.s = s) && ((r.b == [] || decide (a ∈ r.b)) && (r.h == [] || decide (l ∈ r.h)))) := rfl
    by_cases h : fitsR a s l r = true
    · refine .inl ⟨r, by simp [h], ?_⟩
      rw [f] at h
      simp only [Bool.and_eq_true, Bool.or_eq_true, beq_iff_eq, decide_eq_true_eq] at h
      obtain ⟨h1, h2, h3⟩ := h
      refine ⟨[x, .own (.sh (.str [a])), .own (.sh (.str [s])), .own (.sh (.str [l])), .own (.sh (.str r.b)), .own (.sh (.str [r.s])), .own (.sh (.str r.h)), .own (.sh (.str r.w))], ?_⟩
      by_cases c1 : r.b = []
      · by_cases c2 : r.h = []
        · simp [s_for1, Ru.d, h1, c1, c2, inS]
        · have h3 := h3.resolve_left c2
          simp [s_for1, Ru.d, h1, c1, c2, inS, h3]
      · have h2 := h2.resolve_left c1
        by_cases c2 : r.h = []
        · simp [s_for1, Ru.d, h1, c1, c2, inS, h2]
        · have h3 := h3.resolve_left c2
          simp [s_for1, Ru.d, h1, c1, c2, inS, h2, h3]
    · have hn : (r :: rs).find? (fitsR a s l) = rs.find? (fitsR a s l) := by simp [List.find?_cons, h]
      rw [hn]
      have skip : ∀ z, forL (gTp 4 (gCn (gNm 4) (gCn (gNm 5) (gCn (gNm 6) (gCn (gNm 7) (gNl)))))) (mIfS (mAnd (mTst (mOp eqO (mName 5) (mName 2))) (mAnd (mOr (mTst (mOp eqO (mName 4) (mC (.str [])))) (mTst (mOp (inA false) (mName 1) (mName 4)))) (mOr (mTst (mOp eqO (mName 6) (mC (.str [])))) (mTst (mOp (inA false) (mName 3) (mName 6)))))) (mRet (mShare 7)) (mNx)) [4, 5, 6, 7] (rs.map Ru.d)
          [x, .own (.sh (.str [a])), .own (.sh (.str [s])), .own (.sh (.str [l])), .un, .un, .un, .un] = z → forL (gTp 4 (gCn (gNm 4) (gCn (gNm 5) (gCn (gNm 6) (gCn (gNm 7) (gNl)))))) (mIfS (mAnd (mTst (mOp eqO (mName 5) (mName 2))) (mAnd (mOr (mTst (mOp eqO (mName 4) (mC (.str [])))) (mTst (mOp (inA false) (mName 1) (mName 4)))) (mOr (mTst (mOp eqO (mName 6) (mC (.str [])))) (mTst (mOp (inA false) (mName 3) (mName 6)))))) (mRet (mShare 7)) (mNx)) [4, 5, 6, 7] ((r :: rs).map Ru.d)
          [x, .own (.sh (.str [a])), .own (.sh (.str [s])), .own (.sh (.str [l])), .un, .un, .un, .un] = z := fun z e => by
        rw [f] at h
        by_cases c0 : r.s = s
        · by_cases c1 : r.b = []
          · have c2 : ¬ r.h = [] := fun c2 => h (by simp [c0, c1, c2])
            have c3 : ¬ l ∈ r.h := fun c3 => h (by simp [c0, c1, c3])
            simp [s_for1, Ru.d, inS, c0, c1, c2, c3, e]
          · by_cases c3 : a ∈ r.b
            · have c2 : ¬ r.h = [] := fun c2 => h (by simp [c0, c3, c2])
              have c4 : ¬ l ∈ r.h := fun c4 => h (by simp [c0, c3, c4])
              simp [s_for1, Ru.d, inS, c0, c1, c2, c3, c4, e]
            · simp [s_for1, Ru.d, inS, c0, c1, c3, e]
        · simp [s_for1, Ru.d, inS, c0, e]
      rcases ih with ⟨r', e1, en, e2⟩ | ⟨e1, e2⟩
      · exact .inl ⟨r', e1, en, skip _ e2⟩
      · exact .inr ⟨e1, skip _ e2⟩
theorem becomes_ok {o : O} {rs : List Ru} (S : Seqs o rs) (a s l : Nat) : m_becomes [o, .sh (.str [a]), .sh (.str [s]), .sh (.str [l])] = .ok (.sh (.str (beco rs a s l))) := by
  have it := S.it
  rcases beco_loop (arg1 o) .un a s l rs with ⟨r, e1, en, e2⟩ | ⟨e1, e2⟩
  · simp [m_becomes, fnD, -s_itN, it, e2, beco, e1]
  · simp [m_becomes, fnD, -s_itN, it, e2, beco, e1]
end k92
end DL

set_option maxHeartbeats 4000000
namespace DL
open PySem PySem.Spec L2 SL
open PyProof.Rows hiding St
namespace k92
theorem joinL_flat : ∀ l : List (List Nat), TL.joinL [] l = l.flatten
  | [] => rfl
  | [a] => by simp [TL.joinL]
  | a :: b :: l => by
    have := joinL_flat (b :: l)
    simp only [TL.joinL, List.nil_append, List.flatten_cons] at this ⊢
    rw [this]
/-- a comprehension with a test, each item told -/
theorem lcL_filter {α : Type} {g : O → En → Option En} {t : En → Res Bool} {elt : En → Res R} {en : En} {mk : α → D} {q : α → O} {p : α → Bool} : ∀ {l : List α}, (∀ x ∈ l, ∃ en1, g (.sh (mk x)) en = some en1 ∧ t en1 = .ok (p x) ∧ elt en1 = .ok (.own (q x))) → lcL g t elt en (l.map mk) = some ((l.filter p).map q)
  | [], _ => rfl
  | a :: l, h => by
    obtain ⟨en1, h1, h2, h3⟩ := h a (List.mem_cons_self ..)
    have ih := lcL_filter (l := l) fun x m => h x (List.mem_cons_of_mem _ m)
    cases e : p a <;> simp [lcL, h1, h2, h3, ih, e]
/-- the word with the edge about it -/
def edged (w : List Nat) (i : Nat) : Nat := (35 :: w ++ [35]).getD i 0
def byH (rs : List Ru) (w : List Nat) (n : Nat) : List Nat := ((List.range n).map fun i => beco rs (edged w i) (edged w (i + 1)) (edged w (i + 2))).flatten
theorem beco_len {rs : List Ru} (h : ∀ r ∈ rs, RuOk r) (a s l : Nat) : (beco rs a s l).length ≤ 4 := by
  unfold beco
  cases e : rs.find? (fitsR a s l) with
  | none => simp
  | some r => exact (h r (List.mem_of_find?_eq_some e)).l
theorem byH_len {rs : List Ru} (h : ∀ r ∈ rs, RuOk r) (w : List Nat) : ∀ n, (byH rs w n).length ≤ 4 * n
  | 0 => by simp [byH]
  | n + 1 => by
    have ih := byH_len h w n
    unfold byH at ih ⊢
    rw [List.range_succ, List.map_append, List.flatten_append, List.length_append]
    have := beco_len h (edged w n) (edged w (n + 1)) (edged w (n + 2))
    simp only [List.map_cons, List.map_nil, List.flatten_cons, List.flatten_nil, List.append_nil]
    omega
theorem byH_succ (rs : List Ru) (w : List Nat) (n : Nat) : byH rs w (n + 1) = byH rs w n ++ beco rs (edged w n) (edged w (n + 1)) (edged w (n + 2)) := by
  unfold byH
  rw [List.range_succ, List.map_append, List.flatten_append]
  simp
theorem edged_at {w : List Nat} {i : Nat} (h : i < w.length + 2) (hz : w.length ≤ 400) : ixA (.sh (.str (35 :: w ++ [35]))) (.sh (.int i)) = some (.own (.sh (.str [edged w i]))) := by
  have hl : i < (35 :: w ++ [35]).length := by simp; omega
  refine ixA_S ?_ (by simp [ML]; omega)
  unfold edged
  rw [List.getD_eq_getElem?_getD, List.getElem?_eq_getElem hl]
  rfl
theorem byhand_ok {o : O} {rs : List Ru} {w : List Nat} (S : Seqs o rs) (h : ∀ r ∈ rs, RuOk r) (hn : rs.length ≤ 12) (hw : ∀ c ∈ w, c ∈ sg6) (hz : w.length ≤ 400) : m_by_hand [o, .sh (.str w)] = .ok (.sh (.str (byH rs w w.length))) := by
  obtain ⟨q, q1, q2⟩ := S.nm
  have hneed := need_ok S h hn
  have hword := word_str (s := w) (b := 400) (by unfold ML; omega)
  have e4 : wordS w 400 = true := by
    unfold wordS
    rw [Bool.and_eq_true]
    exact ⟨decide_eq_true (by omega), List.all_eq_true.mpr fun c m => decide_eq_true (hw c m)⟩
  rw [e4] at hword
  have a1 := e_addS (s := [35]) (t := w) (by simp [ML]; omega)
  have a2 := e_addS (s := 35 :: w) (t := [35]) (by simp [ML]; omega)
  have l1 := lenQ_S (s := w) (by unfold ML; omega)
  have r1 : okR 1 = true := okR_of (by omega) (by omega)
  have r2 : okR ((w.length : Int) + 1) = true := okR_of (by omega) (by omega)
  have hn2 : ((w.length : Int) + 1 - 1).toNat = w.length := by omega
  have hc : lcL (gNm 3) mYes (mFn 4 m_becomes [] (mCons (mName 0) (mCons (mOp ixA (mName 2) (mOp subO (mName 3) (mC (.int (1))))) (mCons (mOp ixA (mName 2) (mName 3)) (mCons (mOp ixA (mName 2) (mOp addO (mName 3) (mC (.int (1))))) (mNil)))))) [arg1 o, .own (.sh (.str w)), .own (.sh (.str (35 :: w ++ [35]))), .un] (rangeD 1 w.length) =
      some ((List.range w.length).map fun i => .sh (.str (beco rs (edged w i) (edged w (i + 1)) (edged w (i + 2))))) := by
    unfold rangeD
    refine lcL_map (mk := fun i : Nat => D.int (1 + (i : Int))) fun i m => ?_
    have hi : i < w.length := List.mem_range.mp m
    have x0 := edged_at (w := w) (i := i) (by omega) hz
    have x1 := edged_at (w := w) (i := i + 1) (by omega) hz
    have x2 := edged_at (w := w) (i := i + 2) (by omega) hz
    have z0 : (1 : Int) + (i : Int) - 1 = (i : Int) := by omega
    have z1 : (1 : Int) + (i : Int) = ((i + 1 : Nat) : Int) := by omega
    have z2 : (1 : Int) + (i : Int) + 1 = ((i + 2 : Nat) : Int) := by omega
    refine ⟨[arg1 o, .own (.sh (.str w)), .own (.sh (.str (35 :: w ++ [35]))), .own (.sh (.int (1 + (i : Int))))], by simp, ?_⟩
    generalize 35 :: w ++ [35] = W at *
    have hb := becomes_ok S (edged w i) (edged w (i + 1)) (edged w (i + 2))
    simp only [s_fn, s_cons, s_nil, s_name, List.getElem?_cons_zero, List.getElem?_cons_succ, q1, s_bnd_ok, s_op, s_look1, s_ro, s_c, e_sub, s_of, e_add, z0, z2, x0, x2]
    rw [z1, x1]
    simp [q2, hb]
  have hj := joinO_own (s := []) (q := fun i => beco rs (edged w i) (edged w (i + 1)) (edged w (i + 2))) (l := List.range w.length) (by
    have : (((List.range w.length).map fun i => beco rs (edged w i) (edged w (i + 1)) (edged w (i + 2))).map (·.length)).sum = (byH rs w w.length).length := by
      unfold byH
      rw [List.length_flatten]
    rw [this]
    have := byH_len h w w.length
    simp [ML]
    omega)
  rw [joinL_flat] at hj
  have hz2 : w.length ≤ 16777216 := by omega
  generalize 35 :: w ++ [35] = W at *
  simp [m_by_hand, fnD, q1, q2, hneed, hword, a1, a2, l1, r1, r2, hn2, hc, ML, hz2, hj, byH]
end k92
end DL

set_option maxHeartbeats 4000000
namespace DL
open PySem PySem.Spec L2 SL
open PyProof.Rows hiding St
namespace k92
theorem find_filter {α : Type} (p : α → Bool) : ∀ l : List α, l.find? p = (l.filter p).head?
  | [] => rfl
  | a :: l => by
    cases e : p a with
    | true => rw [List.find?_cons, e, List.filter_cons, e]; rfl
    | false => rw [List.find?_cons, e, List.filter_cons, e]; simpa using find_filter p l
def hd (s : Nat) : List Ru → List Nat
  | [] => [s]
  | r :: _ => r.w
theorem beco_hd (rs : List Ru) (a s l : Nat) : beco rs a s l = hd s (rs.filter (fitsR a s l)) := by
  unfold beco
  rw [find_filter]
  cases rs.filter (fitsR a s l) <;> rfl
theorem t_and {na nb : En → Res Bool} {en : En} {b1 b2 : Bool} (h1 : na en = .ok b1) (h2 : nb en = .ok b2) : mAnd na nb en = .ok (b1 && b2) := by
  rw [s_and, h1, s_bnd_ok, h2]; cases b1 <;> rfl
theorem t_or {na nb : En → Res Bool} {en : En} {b1 b2 : Bool} (h1 : na en = .ok b1) (h2 : nb en = .ok b2) : mOr na nb en = .ok (b1 || b2) := by
  rw [s_or, h1, s_bnd_ok, h2]; cases b1 <;> rfl
theorem byBody {rs : List Ru} {w : List Nat} {i : Nat} (hn : rs.length ≤ 900) (hz : w.length ≤ 400) (hi : i < w.length) (found : List Nat) (hf : found.length ≤ 4000) (hb : (beco rs (edged w i) (edged w (i + 1)) (edged w (i + 2))).length ≤ 4) : ∃ y4 y5 y6 : O,
    (mSeq (mSetF 4 (mLift (mC (.str [35]))))
    (mSeq (mSetF 5 (mLift (mC (.str [35]))))
    (mSeq (mIfS (mTst (mOp gtO (mName 3) (mC (.int (0))))) (mSetF 4 (mLift (mOp ixA (mName 1) (mOp subO (mName 3) (mC (.int (1))))))) (mNx))
    (mSeq (mIfS (mTst (mOp ltO (mOp addO (mName 3) (mC (.int (1)))) (mCall lenA (mCons (mName 1) (mNil))))) (mSetF 5 (mLift (mOp ixA (mName 1) (mOp addO (mName 3) (mC (.int (1))))))) (mNx))
    (mSeq (mSetF 6 (mLift (mLc (mJ (mName 0)) [7] (gNm 7) (mAnd (mTst (mOp eqO (mOp ixA (mName 7) (mC (.int (1)))) (mOp ixA (mName 1) (mName 3)))) (mOr (mTst (mOp eqO (mOp ixA (mName 7) (mC (.int (0)))) (mC (.str [])))) (mTst (mOp (inA false) (mName 4) (mOp ixA (mName 7) (mC (.int (0)))))))) (mName 7))))
    (mSeq (mSetF 6 (mLift (mLc (mJ (mName 6)) [7] (gNm 7) (mOr (mTst (mOp eqO (mOp ixA (mName 7) (mC (.int (2)))) (mC (.str [])))) (mTst (mOp (inA false) (mName 5) (mOp ixA (mName 7) (mC (.int (2))))))) (mName 7))))
    (mSetF 2 (mLift (mOp addO (mName 2) (mOp ixA (mOp ixA (mOp addO (mName 6) (mLst (mCons (mTup (mCons (mC (.str [])) (mCons (mC (.str [])) (mCons (mC (.str [])) (mCons (mOp ixA (mName 1) (mName 3)) (mNil)))))) (mNil)))) (mC (.int (0)))) (mC (.int (3))))))))))))) [.own (.sh (.lst (rs.map Ru.d))), .own (.sh (.str w)), .own (.sh (.str found)), .own (.sh (.int i)), .un, .un, .un, .un] =
      .nx [.own (.sh (.lst (rs.map Ru.d))), .own (.sh (.str w)), .own (.sh (.str (found ++ beco rs (edged w i) (edged w (i + 1)) (edged w (i + 2))))), .own (.sh (.int i)), .own y4, .own y5, .own y6, .un] := by
  have hzm : w.length ≤ ML := by unfold ML; omega
  have hln := lenQ_S hzm
  -- the signs
  have e1 : edged w (i + 1) = w[i] := by
    unfold edged
    rw [List.getD_eq_getElem?_getD, List.cons_append, List.getElem?_cons_succ, List.getElem?_append_left hi, List.getElem?_eq_getElem hi]
    rfl
  have x1 : ixA (.sh (.str w)) (.sh (.int i)) = some (.own (.sh (.str [edged w (i + 1)]))) := by
    rw [e1]; exact ixA_S (List.getElem?_eq_getElem hi) hzm
  have h0 : (if (0 : Int) < i then (Sl.own (.sh (.str [w.getD (i - 1) 0]))) else .own (.sh (.str [35]))) = .own (.sh (.str [edged w i])) := by
    cases i with
    | zero => simp [edged]
    | succ j =>
      rw [if_pos (by omega)]
      have : edged w (j + 1) = w.getD j 0 := by
        unfold edged
        rw [List.getD_eq_getElem?_getD, List.getD_eq_getElem?_getD, List.cons_append, List.getElem?_cons_succ, List.getElem?_append_left (by omega)]
      rw [this]
      rfl
  have x0 : 0 < i → ixA (.sh (.str w)) (.sh (.int ((i : Int) - 1))) = some (.own (.sh (.str [edged w i]))) := fun z => by
    obtain ⟨j, rfl⟩ : ∃ j, i = j + 1 := ⟨i - 1, by omega⟩
    have hj : j < w.length := by omega
    have : edged w (j + 1) = w[j] := by
      unfold edged
      rw [List.getD_eq_getElem?_getD, List.cons_append, List.getElem?_cons_succ, List.getElem?_append_left hj, List.getElem?_eq_getElem hj]
      rfl
    rw [this, show ((j + 1 : Nat) : Int) - 1 = (j : Int) by omega]
    exact ixA_S (List.getElem?_eq_getElem hj) hzm
  have x2 : i + 1 < w.length → ixA (.sh (.str w)) (.sh (.int ((i : Int) + 1))) = some (.own (.sh (.str [edged w (i + 2)]))) := fun z => by
    have : edged w (i + 2) = w[i + 1] := by
      unfold edged
      rw [List.getD_eq_getElem?_getD, List.cons_append, List.getElem?_cons_succ, List.getElem?_append_left z, List.getElem?_eq_getElem z]
      rfl
    rw [this, show (i : Int) + 1 = ((i + 1 : Nat) : Int) by omega]
    exact ixA_S (List.getElem?_eq_getElem z) hzm
  have y0 : ¬ 0 < i → edged w i = 35 := fun z => by
    have : i = 0 := by omega
    subst this; rfl
  have y2 : ¬ i + 1 < w.length → edged w (i + 2) = 35 := fun z => by
    have : i + 1 = w.length := by omega
    unfold edged
    rw [List.getD_eq_getElem?_getD, List.cons_append, List.getElem?_cons_succ, this, List.getElem?_append_right (Nat.le_refl _)]
    simp
  generalize edged w i = a at *
  generalize edged w (i + 1) = s at *
  generalize edged w (i + 2) = l at *
  -- the two comprehensions
  let p1 : Ru → Bool := fun r => (r.s == s) && (r.b == [] || decide (a ∈ r.b))
  let p2 : Ru → Bool := fun r => r.h == [] || decide (l ∈ r.h)
  have hfit : (rs.filter p1).filter p2 = rs.filter (fitsR a s l) := by
    rw [List.filter_filter]
    congr 1
    funext r
    show ((r.h == [] || decide (l ∈ r.h)) && (decide (r.s = s) && (r.b == [] || decide (a ∈ r.b)))) = (decide (r.s = s) && ((r.b == [] || decide (a ∈ r.b)) && (r.h == [] || decide (l ∈ r.h))))
    cases decide (r.s = s) <;> cases (r.b == [] || decide (a ∈ r.b)) <;> cases (r.h == [] || decide (l ∈ r.h)) <;> rfl
  have c1 : ∀ y5 : Sl, lcL (gNm 7) (mAnd (mTst (mOp eqO (mOp ixA (mName 7) (mC (.int (1)))) (mOp ixA (mName 1) (mName 3)))) (mOr (mTst (mOp eqO (mOp ixA (mName 7) (mC (.int (0)))) (mC (.str [])))) (mTst (mOp (inA false) (mName 4) (mOp ixA (mName 7) (mC (.int (0)))))))) (mName 7)
      [.own (.sh (.lst (rs.map Ru.d))), .own (.sh (.str w)), .own (.sh (.str found)), .own (.sh (.int i)), .own (.sh (.str [a])), y5, .un, .un] (rs.map Ru.d) = some ((rs.filter p1).map fun r => .sh r.d) := fun y5 =>
    lcL_filter (mk := Ru.d) (q := fun r => .sh r.d) (p := p1) fun r _ => by
      obtain ⟨i0, i1, i2, i3⟩ := ixA_T4 (a := .str r.b) (b := .str [r.s]) (c := .str r.h) (d := .str r.w)
      refine ⟨[.own (.sh (.lst (rs.map Ru.d))), .own (.sh (.str w)), .own (.sh (.str found)), .own (.sh (.int i)), .own (.sh (.str [a])), y5, .un, .own (.sh r.d)], by simp, ?_, by simp⟩
      refine t_and ?_ (t_or ?_ ?_)
      · simp [Ru.d, i1, x1]
      · simp [Ru.d, i0]
      · simp [Ru.d, i0, inS]
  have c2 : ∀ y4 : Sl, lcL (gNm 7) (mOr (mTst (mOp eqO (mOp ixA (mName 7) (mC (.int (2)))) (mC (.str [])))) (mTst (mOp (inA false) (mName 5) (mOp ixA (mName 7) (mC (.int (2))))))) (mName 7)
      [.own (.sh (.lst (rs.map Ru.d))), .own (.sh (.str w)), .own (.sh (.str found)), .own (.sh (.int i)), y4, .own (.sh (.str [l])), .own (.sh (.lst ((rs.filter p1).map Ru.d))), .un] ((rs.filter p1).map Ru.d) = some (((rs.filter p1).filter p2).map fun r => .sh r.d) := fun y4 =>
    lcL_filter (mk := Ru.d) (q := fun r => .sh r.d) (p := p2) fun r _ => by
      obtain ⟨i0, i1, i2, i3⟩ := ixA_T4 (a := .str r.b) (b := .str [r.s]) (c := .str r.h) (d := .str r.w)
      refine ⟨[.own (.sh (.lst (rs.map Ru.d))), .own (.sh (.str w)), .own (.sh (.str found)), .own (.sh (.int i)), y4, .own (.sh (.str [l])), .own (.sh (.lst ((rs.filter p1).map Ru.d))), .own (.sh r.d)], by simp, ?_, by simp⟩
      refine t_or ?_ ?_
      · simp [Ru.d, i2]
      · simp [Ru.d, i2, inS]
  rw [hfit] at c2
  -- the first that fits
  obtain ⟨fit, hfd⟩ : ∃ fit, fit = rs.filter (fitsR a s l) := ⟨_, rfl⟩
  obtain ⟨fit1, hf1⟩ : ∃ fit1, fit1 = rs.filter p1 := ⟨_, rfl⟩
  rw [← hf1] at c1 c2
  rw [← hfd] at c2
  have hb2 : beco rs a s l = hd s fit := by rw [hfd]; exact beco_hd rs a s l
  have hl1 : fit1.length ≤ 16777216 := by have := List.length_filter_le p1 rs; rw [hf1]; omega
  have hl2 : fit.length ≤ 900 := by have := List.length_filter_le (fitsR a s l) rs; rw [hfd]; omega
  have hadd : addO (.sh (.lst (fit.map Ru.d))) (.lst [.sh (.tup [.str [], .str [], .str [], .str [s]])]) = some (.own (.lst ((fit.map Ru.d ++ [D.tup [.str [], .str [], .str [], .str [s]]]).map .sh))) := by
    have := e_addLo (x := fit.map Ru.d) (y := [.tup [.str [], .str [], .str [], .str [s]]]) (by simp [ML]; omega)
    simpa using this
  have hix : ∃ t, ixA (.lst ((fit.map Ru.d ++ [D.tup [.str [], .str [], .str [], .str [s]]]).map .sh)) (.sh (.int 0)) = some (.own (.sh t)) ∧ ixA (.sh t) (.sh (.int 3)) = some (.own (.sh (.str (beco rs a s l)))) := by
    have h0 : ∀ (l : List D) (d : D), l[0]? = some d → ixA (.lst (l.map .sh)) (.sh (.int 0)) = some (.own (.sh d)) := fun l d e => by
      have := ixA_O (l := l.map .sh) (n := 0) (o := .sh d) (by rw [List.getElem?_map, e]; rfl)
      exact this
    rw [hb2]
    cases fit with
    | nil => exact ⟨.tup [.str [], .str [], .str [], .str [s]], h0 _ _ rfl, ixA_T (n := 3) rfl⟩
    | cons r _ => exact ⟨r.d, h0 _ _ rfl, ixA_T (n := 3) rfl⟩
  obtain ⟨t, t1, t2⟩ := hix
  have hfa := e_addS (s := found) (t := beco rs a s l) (by unfold ML; omega)
  generalize fit.map Ru.d ++ [D.tup [.str [], .str [], .str [], .str [s]]] = lst at hadd t1
  generalize beco rs a s l = res at *
  have m1 : O.fzs (fit1.map fun r => .sh r.d) = fit1.map Ru.d := s_fzs_map
  have m2 : O.fzs (fit.map fun r => .sh r.d) = fit.map Ru.d := s_fzs_map
  have hl3 : fit.length ≤ 16777216 := by omega
  refine ⟨.sh (.str [a]), .sh (.str [l]), .sh (.lst (fit.map Ru.d)), ?_⟩
  by_cases z0 : 0 < i
  · have z0' : (0 : Int) < i := by omega
    by_cases z2 : i + 1 < w.length
    · have z2' : (i : Int) + 1 < w.length := by omega
      simp [z0', x0 z0, hln, z2', x2 z2, c1, c2, hl1, hl3, ML, shs, m1, m2, x1, hadd, t1, t2, hfa, z0]
    · have z2' : ¬ (i : Int) + 1 < w.length := by omega
      have := y2 z2
      subst this
      simp [z0', x0 z0, hln, z2', c1, c2, hl1, hl3, ML, shs, m1, m2, x1, hadd, t1, t2, hfa, z0]
  · have z0' : ¬ (0 : Int) < i := by omega
    have := y0 z0
    subst this
    by_cases z2 : i + 1 < w.length
    · have z2' : (i : Int) + 1 < w.length := by omega
      simp [z0', hln, z2', x2 z2, c1, c2, hl1, hl3, ML, shs, m1, m2, x1, hadd, t1, t2, hfa, z0]
    · have z2' : ¬ (i : Int) + 1 < w.length := by omega
      have := y2 z2
      subst this
      simp [z0', hln, z2', c1, c2, hl1, hl3, ML, shs, m1, m2, x1, hadd, t1, t2, hfa, z0]
end k92
end DL

set_option maxHeartbeats 4000000
namespace DL
open PySem PySem.Spec L2 SL
open PyProof.Rows hiding St
namespace k92
theorem lawby_ok {rs : List Ru} {w : List Nat} (h : ∀ r ∈ rs, RuOk r) (hn : rs.length ≤ 900) (hz : w.length ≤ 400) : m_law_by [.sh (.lst (rs.map Ru.d)), .sh (.str w)] = .ok (.sh (.str (byH rs w w.length))) := by
  have hln := lenQ_S (s := w) (by unfold ML; omega)
  have hr : okR (w.length : Int) = true := okR_of (by omega) (by omega)
  have step : ∀ (i : Nat) (en : En) (d : D), en = [.own (.sh (.lst (rs.map Ru.d))), .own (.sh (.str w)), .own (.sh (.str (byH rs w (0 + i)))), .un, .un, .un, .un, .un] → (rangeD 0 w.length)[i]? = some d → ∃ en1 en', gNm 3 (.sh d) en = some en1 ∧ (mSeq (mSetF 4 (mLift (mC (.str [35]))))
    (mSeq (mSetF 5 (mLift (mC (.str [35]))))
    (mSeq (mIfS (mTst (mOp gtO (mName 3) (mC (.int (0))))) (mSetF 4 (mLift (mOp ixA (mName 1) (mOp subO (mName 3) (mC (.int (1))))))) (mNx))
    (mSeq (mIfS (mTst (mOp ltO (mOp addO (mName 3) (mC (.int (1)))) (mCall lenA (mCons (mName 1) (mNil))))) (mSetF 5 (mLift (mOp ixA (mName 1) (mOp addO (mName 3) (mC (.int (1))))))) (mNx))
    (mSeq (mSetF 6 (mLift (mLc (mJ (mName 0)) [7] (gNm 7) (mAnd (mTst (mOp eqO (mOp ixA (mName 7) (mC (.int (1)))) (mOp ixA (mName 1) (mName 3)))) (mOr (mTst (mOp eqO (mOp ixA (mName 7) (mC (.int (0)))) (mC (.str [])))) (mTst (mOp (inA false) (mName 4) (mOp ixA (mName 7) (mC (.int (0)))))))) (mName 7))))
    (mSeq (mSetF 6 (mLift (mLc (mJ (mName 6)) [7] (gNm 7) (mOr (mTst (mOp eqO (mOp ixA (mName 7) (mC (.int (2)))) (mC (.str [])))) (mTst (mOp (inA false) (mName 5) (mOp ixA (mName 7) (mC (.int (2))))))) (mName 7))))
    (mSetF 2 (mLift (mOp addO (mName 2) (mOp ixA (mOp ixA (mOp addO (mName 6) (mLst (mCons (mTup (mCons (mC (.str [])) (mCons (mC (.str [])) (mCons (mC (.str [])) (mCons (mOp ixA (mName 1) (mName 3)) (mNil)))))) (mNil)))) (mC (.int (0)))) (mC (.int (3))))))))))))) en1 = .nx en' ∧
      wipeE en' [3, 4, 5, 6] = [.own (.sh (.lst (rs.map Ru.d))), .own (.sh (.str w)), .own (.sh (.str (byH rs w (0 + i + 1)))), .un, .un, .un, .un, .un] := by
    intro i en d p e
    subst p
    rw [Nat.zero_add]
    have hi : i < w.length := by
      have := (List.getElem?_eq_some_iff.mp e).1
      rwa [rng_len] at this
    have hd : d = .int i := by
      unfold rangeD at e
      rw [List.getElem?_map, List.getElem?_range hi] at e
      have := Option.some.inj e
      rw [← this]
      simp
    subst hd
    obtain ⟨y4, y5, y6, eb⟩ := byBody (rs := rs) (w := w) (i := i) hn hz hi (byH rs w i) (by have := byH_len h w i; omega) (beco_len h _ _ _)
    refine ⟨[.own (.sh (.lst (rs.map Ru.d))), .own (.sh (.str w)), .own (.sh (.str (byH rs w i))), .own (.sh (.int i)), .un, .un, .un, .un], _, by simp, eb, ?_⟩
    rw [byH_succ]
    simp
  obtain ⟨en, e1, e2⟩ := forL_inv (fun k en => en = [.own (.sh (.lst (rs.map Ru.d))), .own (.sh (.str w)), .own (.sh (.str (byH rs w k))), .un, .un, .un, .un, .un]) (en := [.own (.sh (.lst (rs.map Ru.d))), .own (.sh (.str w)), .own (.sh (.str [])), .un, .un, .un, .un, .un]) 0 step rfl
  rw [rng_len, Nat.zero_add] at e2
  subst e2
  simp [m_law_by, fnD, hln, hr, e1]
theorem list_rules (rs : List Ru) : listA [.sh (.lst (rs.map Ru.d))] = some (.own (.lst (rs.map fun r => .sh r.d))) := by
  unfold listA orC
  have : listO (.sh (.lst (rs.map Ru.d))) = some (.own (.lst (rs.map fun r => .sh r.d))) := by
    unfold listO
    have e : O.seq? (.sh (.lst (rs.map Ru.d))) = some (rs.map Ru.d) := rfl
    rw [e]
    simp [rLst, Function.comp_def]
  simp [this]
theorem pl_rule {r : Ru} (h : RuOk r) (n : Nat) : pl (n + 1) r.d = true := by
  have hb : ∀ c ∈ r.b, c < 0x110000 := fun c m => sg6_lt (h.b.2 c m)
  have hh : ∀ c ∈ r.h, c < 0x110000 := fun c m => sg6_lt (h.h.2 c m)
  have hs : r.s < 0x110000 := sg6_lt (List.mem_append_left _ h.s)
  have hw : ∀ c ∈ r.w, c < 0x110000 := fun c m => sg6_lt (List.mem_append_left _ (h.w c m))
  have all : ∀ {l : List Nat}, (∀ c ∈ l, c < 0x110000) → (l.all fun c => decide (c < 1114112)) = true := fun h => List.all_eq_true.mpr fun c m => decide_eq_true (h c m)
  simp only [Ru.d, pl, List.all_cons, List.all_nil, Bool.and_true, all hb, all hh, all hw, decide_eq_true hs, Bool.and_self]
theorem ne_rules {rs : List Ru} (h : ∀ r ∈ rs, RuOk r) : neO (.lst (rs.map fun r => .sh r.d)) (.sh (.lst (rs.map Ru.d))) = some (.own (.sh (.bl false))) := by
  have hp : pl 60 (.lst (rs.map Ru.d)) = true := by
    simp only [pl, List.all_eq_true, List.mem_map]
    rintro d ⟨r, m, rfl⟩
    exact pl_rule (h r m) 58
  have hr := deq_refl 60 _ hp
  have e : O.fz (.lst (rs.map fun r => .sh r.d)) = .lst (rs.map Ru.d) := by simp [Function.comp_def]
  unfold neO orR eqSc eqDp
  simp only [O.sh?, e, s_fz1, hp, hr]
  rfl
theorem right_ok {rs : List Ru} {w : List Nat} (h : ∀ r ∈ rs, RuOk r) (hn : rs.length ≤ 12) (hw : ∀ c ∈ w, c ∈ sg6) (hz : w.length ≤ 400) : m_law_right [.sh (.lst (rs.map Ru.d)), .sh (.str w)] = .ok (.sh (.bl true)) := by
  have b1 := byhand_ok (seqs_O rs) h hn hw hz
  have b2 := byhand_ok (seqs_T rs) h hn hw hz
  have hl := list_rules rs
  have hb := lawby_ok h (by omega) hz
  have hne := ne_rules h
  have hcl : oClear (.lst (rs.map fun r => .sh r.d)) [] = some (.sh .non, .lst []) := rfl
  simp [m_law_right, fnD, hl, b1, is_str, hb, hne, hcl, b2, tuple_L]
end k92
end DL

set_option maxHeartbeats 4000000
namespace DL
open PySem PySem.Spec L2 SL
open PyProof.Rows hiding St
namespace k92
theorem words_loop {s : List Nat} (h0 : 0 < s.length) (hz : s.length ≤ 900) : ∀ (ds : List D) (n : Int) (y0 y1 y2 y4 y5 : Sl), ∃ (out : List Nat) (n' : Int),
    lcX (gNm 9) mYes (mIxNX ixA 6 (mDat (mFnL 3 0 2 m_law_draw [] (mConsX (mDatP (mCall lenA (mCons (mName 6) (mNil)))) (mNilX))))) [9] ds [y0, y1, y2, .own (ST n), y4, y5, .own (.sh (.str s)), .un, .un, .un, .un] =
      some (out.map (fun c => .sh (.str [c])), [y0, y1, y2, .own (ST n'), y4, y5, .own (.sh (.str s)), .un, .un, .un, .un]) ∧ (∀ c ∈ out, c ∈ s) ∧ out.length = ds.length
  | [], n, _, _, _, _, _ => ⟨[], n, rfl, fun c m => (by cases m), rfl⟩
  | d :: ds, n, y0, y1, y2, y4, y5 => by
    have hd := draw_ok (n := n) (m := s.length) (by omega)
    obtain ⟨b1, b2⟩ := drw_bd (n := n) (m := s.length) (by omega)
    generalize drw n s.length = r at *
    have hzs : s.length ≤ ML := by unfold ML; omega
    have hln := lenQ_S hzs
    obtain ⟨q, hq, hix⟩ := ix_chr (s := s) b1 b2 hzs
    obtain ⟨out, n', e1, e2, e3⟩ := words_loop h0 hz ds (nxt n) y0 y1 y2 y4 y5
    refine ⟨q :: out, n', ?_, fun c m => ?_, by simp [e3]⟩
    · simp [lcX, hd, hln, hix, e1]
    · rcases List.mem_cons.mp m with rfl | m
      · exact hq
      · exact e2 c m
/-- a turn of the law -/
theorem turn_ok {ns : List Int} (hl : ns.length ≤ 63) {k : Nat} (hk : k < 64) : ∃ y1 y2 y3 y4 y5 y6 y7 y8 : O,
    (mSeq (mSetF 2 (mLift (mC (.int (11)))))
    (mSeq (mIfS (mTst (mOp ltO (mName 1) (mCall lenA (mCons (mName 0) (mNil))))) (mSetF 2 (mLift (mOp ixA (mName 0) (mName 1)))) (mNx))
    (mSeq (mSet 3 (mLift (mFn 2 m_law_state [] (mCons (mFzV (mLst (mCons (mName 2) (mNil)))) (mCons (mName 1) (mNil))))))
    (mSeq (mSetF 4 (mFnL 3 0 1 m_law_signs [] (mNilX)))
    (mSeq (mSetF 5 (mFnL 3 0 2 m_law_rules [] (mConsX (mDatP (mName 4)) (mNilX))))
    (mSeq (mSetF 6 (mLift (mSl slO (mOp addO (mOp addO (mName 4) (mName 4)) (mC (.str [97, 98, 99, 100, 101, 102]))) (mPart none) (mPart (some (mC (.int (8))))))))
    (mSeq (mSetF 7 (mS1X joinO (mDatP (mC (.str []))) (mDat (mLcX (mRngX1 (mConsX (mDat (mFnL 3 0 2 m_law_draw [] (mConsX (mDatP (mC (.int (41)))) (mNilX)))) (mNilX))) [9] (gNm 9) (mYes) (mIxNX ixA 6 (mDat (mFnL 3 0 2 m_law_draw [] (mConsX (mDatP (mCall lenA (mCons (mName 6) (mNil)))) (mNilX)))))))))
    (mSeq (mIfS (mNot (mTst (mFn 2 m_law_right [] (mCons (mName 5) (mCons (mName 7) (mNil)))))) (mRet (mLift (mC (.bl false)))) (mNx))
    (mSeq (mSetF 8 (mLift (mSl slO (mS1 joinO (mC (.str [])) (mLc (mJ (mName 0)) [10] (gNm 10) (mYes) (mOp ixA (mName 6) (mOp modO (mOp fdivO (mName 10) (mC (.int (5)))) (mCall lenA (mCons (mName 6) (mNil))))))) (mPart none) (mPart (some (mC (.int (400))))))))
    (mIfS (mAnd (mTst (mOp eqO (mName 1) (mC (.int (0))))) (mNot (mTst (mFn 2 m_law_right [] (mCons (mName 5) (mCons (mName 8) (mNil))))))) (mRet (mLift (mC (.bl false)))) (mNx)))))))))))
      [.own (.sh (.lst (ns.map .int))), .own (.sh (.int k)), .un, .un, .un, .un, .un, .un, .un, .un, .un] =
      .nx [.own (.sh (.lst (ns.map .int))), .own y1, .own y2, .own y3, .own y4, .own y5, .own y6, .own y7, .own y8, .un, .un] := by
  -- the cell
  obtain ⟨c, hc⟩ : ∃ c : Int, (if (k : Int) < ns.length then ns.getD k 0 else 11) = c := ⟨_, rfl⟩
  have x0 : (k : Int) < ns.length → ixA (.sh (.lst (ns.map .int))) (.sh (.int k)) = some (.own (.sh (.int c))) := fun z => by
    rw [if_pos z] at hc
    have hk2 : k < ns.length := by omega
    refine ixA_L ?_
    rw [List.getElem?_map, List.getElem?_eq_getElem hk2, ← hc, List.getD_eq_getElem?_getD, List.getElem?_eq_getElem hk2]
    rfl
  have y0 : ¬ (k : Int) < ns.length → c = 11 := fun z => by rw [if_neg z] at hc; exact hc.symm
  obtain ⟨n, hst⟩ := state_ok (c := c) (k := k) (by omega)
  obtain ⟨sg, n1, s1, s2, s3, s4, s5⟩ := signs_ok n
  obtain ⟨rs, n2, r1, r2, r3⟩ := rules_ok n1 s2 s4 s5 s3
  -- some signs
  obtain ⟨some_, hsome⟩ : ∃ t, t = (sg ++ sg ++ [97, 98, 99, 100, 101, 102]).take 8 := ⟨_, rfl⟩
  have a1 := e_addS (s := sg) (t := sg) (by unfold ML; omega)
  have a2 := e_addS (s := sg ++ sg) (t := [97, 98, 99, 100, 101, 102]) (by simp [ML]; omega)
  have a3 : slO (.sh (.str (sg ++ sg ++ [97, 98, 99, 100, 101, 102]))) none (some 8) = some (.own (.sh (.str some_))) := by
    rw [slO_S (by simp [ML]; omega), cut_to (by decide), hsome]; rfl
  have sl1 : some_.length ≤ 8 := by rw [hsome]; simp; omega
  have sl0 : 0 < some_.length := by rw [hsome]; simp; omega
  have sm : ∀ c ∈ some_, c ∈ sg6 := fun c m => by
    rw [hsome] at m
    have m := List.mem_of_mem_take m
    rcases List.mem_append.mp m with m | m
    · rcases List.mem_append.mp m with m | m <;> exact s4 c m
    · exact m
  generalize sg ++ sg ++ [97, 98, 99, 100, 101, 102] = base at a2 a3
  generalize sg ++ sg = base2 at a1 a2
  -- the drawn word
  have hd := draw_ok (n := n2) (m := 41) (by decide)
  obtain ⟨b1, b2⟩ := drw_bd (n := n2) (m := 41) (by decide)
  generalize drw n2 41 = len at *
  generalize nxt n2 = n3 at *
  have hr : okR len = true := okR_of (by omega) (by omega)
  obtain ⟨w, n4, w1, w2, w3⟩ := words_loop sl0 (by omega) (rangeD 0 len.toNat) n3 (.own (.sh (.lst (ns.map .int)))) (.own (.sh (.int k))) (.own (.sh (.int c))) (.own (.sh (.str sg))) (.own (.sh (.lst (rs.map Ru.d))))
  have w4 : w.length ≤ 40 := by rw [w3, rng_len]; omega
  have hj := join_signs (l := w) (by unfold ML; omega)
  have hwr := right_ok r2 r3 (fun c m => sm c (w2 c m)) (show w.length ≤ 400 by omega)
  have hwz : w.length ≤ 16777216 := by omega
  -- the whole one
  have hlen := lenQ_S (s := some_) (by unfold ML; omega)
  have l5 : (5 : Int).natAbs.log2 < 9000 := by decide
  obtain ⟨f, hf⟩ : ∃ f : Int → Nat, f = fun z => some_.getD (z / 5 % (some_.length : Int)).toNat 0 := ⟨_, rfl⟩
  have hfz : ∀ z, some_.getD (z / 5 % (some_.length : Int)).toNat 0 = f z := fun z => by rw [hf]
  have hcomp : lcL (gNm 10) mYes (mOp ixA (mName 6) (mOp modO (mOp fdivO (mName 10) (mC (.int (5)))) (mCall lenA (mCons (mName 6) (mNil)))))
      [.own (.sh (.lst (ns.map .int))), .own (.sh (.int k)), .own (.sh (.int c)), .own (ST n4), .own (.sh (.str sg)), .own (.sh (.lst (rs.map Ru.d))), .own (.sh (.str some_)), .own (.sh (.str w)), .un, .un, .un] (ns.map .int) =
      some (ns.map fun z => .sh (.str [f z])) :=
    lcL_map (mk := D.int) fun z _ => by
      have m0 : (0 : Int) < some_.length := by omega
      have hm := ixO_Sm (s := some_) (a := z / 5) (n := some_.length) rfl m0 (by unfold ML; omega)
      rw [hfz] at hm
      refine ⟨[.own (.sh (.lst (ns.map .int))), .own (.sh (.int k)), .own (.sh (.int c)), .own (ST n4), .own (.sh (.str sg)), .own (.sh (.lst (rs.map Ru.d))), .own (.sh (.str some_)), .own (.sh (.str w)), .un, .un, .own (.sh (.int z))], by simp, ?_⟩
      simp [e_fdiv (i := z) (j := 5) (by decide) l5, hlen, e_mod m0, ixA_of hm]
  obtain ⟨whole, hwh⟩ : ∃ t, t = ns.map f := ⟨_, rfl⟩
  have hwl : whole.length ≤ 63 := by rw [hwh, List.length_map]; exact hl
  have hwm : ∀ c ∈ whole, c ∈ sg6 := fun c m => by
    rw [hwh] at m
    obtain ⟨z, _, rfl⟩ := List.mem_map.mp m
    have m0 : (0 : Int) < some_.length := by omega
    have p0 := Int.emod_nonneg (z / 5) (show (some_.length : Int) ≠ 0 by omega)
    have p1 := Int.emod_lt_of_pos (z / 5) m0
    have p2 : (z / 5 % (some_.length : Int)).toNat < some_.length := by omega
    rw [← hfz, List.getD_eq_getElem?_getD, List.getElem?_eq_getElem p2]
    exact sm _ (List.getElem_mem p2)
  have hj2 : joinO [] (.lst (ns.map fun z => .sh (.str [f z]))) = some (.own (.sh (.str whole))) := by
    have := joinO_signs (q := f) (l := ns) (by unfold ML; omega)
    rw [this, hwh]
  have hcut : slO (.sh (.str whole)) none (some 400) = some (.own (.sh (.str whole))) := by
    rw [slO_S (by unfold ML; omega), cut_to (by decide), List.take_of_length_le (by simp; omega)]
  have hwr2 := right_ok r2 r3 hwm (show whole.length ≤ 400 by omega)
  have hnz : ns.length ≤ 16777216 := by omega
  clear hwh hsome hf hfz hc hk
  have hln : lenQ (.sh (.lst (ns.map .int))) = some (.own (.sh (.int ns.length))) := by rw [lenQ_L, List.length_map]
  generalize (k : Int) = kk at *
  refine ⟨.sh (.int kk), .sh (.int c), ST n4, .sh (.str sg), .sh (.lst (rs.map Ru.d)), .sh (.str some_), .sh (.str w), .sh (.str whole), ?_⟩
  by_cases z : kk < ns.length
  · have x := x0 z
    by_cases k0 : kk = 0
    · simp [z, x, hst, s1, r1, a1, a2, a3, hd, hr, w1, ML, hwz, hj, hwr, hcomp, hj2, hcut, hwr2, hnz]
    · simp [z, x, hst, s1, r1, a1, a2, a3, hd, hr, w1, ML, hwz, hj, hwr, hcomp, hj2, hcut, hwr2, hnz, k0]
  · have e11 := y0 z
    subst e11
    by_cases k0 : kk = 0
    · simp [z, hst, s1, r1, a1, a2, a3, hd, hr, w1, ML, hwz, hj, hwr, hcomp, hj2, hcut, hwr2, hnz]
    · simp [z, hst, s1, r1, a1, a2, a3, hd, hr, w1, ML, hwz, hj, hwr, hcomp, hj2, hcut, hwr2, hnz, k0]
end k92
end DL

set_option maxHeartbeats 4000000
namespace DL
open PySem PySem.Spec L2 SL
open PyProof.Rows hiding St
namespace k92
theorem last1 : m_by_hand [.sh (.lst []), .sh (.str [])] = .ok (.sh (.str [])) := by
  have := byhand_ok (w := []) (seqs_F []) (fun r m => by cases m) (by decide) (fun c m => by cases m) (by decide)
  simpa [byH] using this
theorem last2 : m_by_hand [.sh (.lst [.tup [.str [35], .str [97], .str [35], .str [98, 99]]]), .sh (.str [97])] = .ok (.sh (.str [98, 99])) := by
  have h : ∀ r ∈ [(⟨[35], 97, [35], [98, 99]⟩ : Ru)], RuOk r := fun r m => by
    rw [List.mem_singleton.mp m]
    exact ⟨⟨by decide, by decide⟩, ⟨by decide, by decide⟩, by decide, by decide, by decide⟩
  have := byhand_ok (w := [97]) (seqs_F [⟨[35], 97, [35], [98, 99]⟩]) h (by decide) (by decide) (by decide)
  have e : byH [⟨[35], 97, [35], [98, 99]⟩] [97] 1 = [98, 99] := by decide
  simp only [List.map_cons, List.map_nil, Ru.d, List.length_cons, List.length_nil] at this
  rw [e] at this
  exact this
theorem law_true (ns : List Int) (hl : ns.length ≤ 63) (_ : ∀ z ∈ ns, Builtin.Int.intBits z ≤ 1048576) : m_law [.sh (.lst (ns.map .int))] = .ok (.sh (.bl true)) := by
  have hln : lenQ (.sh (.lst (ns.map .int))) = some (.own (.sh (.int ns.length))) := by rw [lenQ_L, List.length_map]
  obtain ⟨N, hN⟩ : ∃ N : Int, N = (if 1 < (ns.length : Int) then (ns.length : Int) else 1) := ⟨_, rfl⟩
  have hb : 1 ≤ N ∧ N ≤ 63 := by rw [hN]; split <;> omega
  have hr : okR N = true := okR_of (by omega) (by omega)
  have step : ∀ (i : Nat) (en : En) (d : D), en = [.own (.sh (.lst (ns.map .int))), .un, .un, .un, .un, .un, .un, .un, .un, .un, .un] → (rangeD 0 N.toNat)[i]? = some d → ∃ en1 en', gNm 1 (.sh d) en = some en1 ∧ (mSeq (mSetF 2 (mLift (mC (.int (11)))))
    (mSeq (mIfS (mTst (mOp ltO (mName 1) (mCall lenA (mCons (mName 0) (mNil))))) (mSetF 2 (mLift (mOp ixA (mName 0) (mName 1)))) (mNx))
    (mSeq (mSet 3 (mLift (mFn 2 m_law_state [] (mCons (mFzV (mLst (mCons (mName 2) (mNil)))) (mCons (mName 1) (mNil))))))
    (mSeq (mSetF 4 (mFnL 3 0 1 m_law_signs [] (mNilX)))
    (mSeq (mSetF 5 (mFnL 3 0 2 m_law_rules [] (mConsX (mDatP (mName 4)) (mNilX))))
    (mSeq (mSetF 6 (mLift (mSl slO (mOp addO (mOp addO (mName 4) (mName 4)) (mC (.str [97, 98, 99, 100, 101, 102]))) (mPart none) (mPart (some (mC (.int (8))))))))
    (mSeq (mSetF 7 (mS1X joinO (mDatP (mC (.str []))) (mDat (mLcX (mRngX1 (mConsX (mDat (mFnL 3 0 2 m_law_draw [] (mConsX (mDatP (mC (.int (41)))) (mNilX)))) (mNilX))) [9] (gNm 9) (mYes) (mIxNX ixA 6 (mDat (mFnL 3 0 2 m_law_draw [] (mConsX (mDatP (mCall lenA (mCons (mName 6) (mNil)))) (mNilX)))))))))
    (mSeq (mIfS (mNot (mTst (mFn 2 m_law_right [] (mCons (mName 5) (mCons (mName 7) (mNil)))))) (mRet (mLift (mC (.bl false)))) (mNx))
    (mSeq (mSetF 8 (mLift (mSl slO (mS1 joinO (mC (.str [])) (mLc (mJ (mName 0)) [10] (gNm 10) (mYes) (mOp ixA (mName 6) (mOp modO (mOp fdivO (mName 10) (mC (.int (5)))) (mCall lenA (mCons (mName 6) (mNil))))))) (mPart none) (mPart (some (mC (.int (400))))))))
    (mIfS (mAnd (mTst (mOp eqO (mName 1) (mC (.int (0))))) (mNot (mTst (mFn 2 m_law_right [] (mCons (mName 5) (mCons (mName 8) (mNil))))))) (mRet (mLift (mC (.bl false)))) (mNx))))))))))) en1 = .nx en' ∧
      wipeE en' [1, 2, 3, 4, 5, 6, 7, 8] = [.own (.sh (.lst (ns.map .int))), .un, .un, .un, .un, .un, .un, .un, .un, .un, .un] := by
    intro i en d p e
    subst p
    have hi : i < N.toNat := by
      have := (List.getElem?_eq_some_iff.mp e).1
      rwa [rng_len] at this
    have hd : d = .int i := by
      unfold rangeD at e
      rw [List.getElem?_map, List.getElem?_range hi] at e
      have := Option.some.inj e
      rw [← this]
      simp
    subst hd
    obtain ⟨y1, y2, y3, y4, y5, y6, y7, y8, eb⟩ := turn_ok hl (k := i) (by omega)
    exact ⟨_, _, by simp, eb, by simp⟩
  obtain ⟨en, e1, e2⟩ := forL_inv (fun _ en => en = [.own (.sh (.lst (ns.map .int))), .un, .un, .un, .un, .un, .un, .un, .un, .un, .un]) 0 step rfl
  subst e2
  have l1 := last1
  have l2 := last2
  simp [m_law, fnD, hln, ← hN, hr, e1, l1, l2, ML, shs]
end k92
end DL

set_option maxHeartbeats 0
open PySem PySem.W PySem.Calls PyProof.Rows
theorem PySem.Challenge.cw_letterwend_k92_rules_by_hand_holds : PySem.Challenge.rw_letterwend_k92_rules_by_hand.Holds := by
  w_on; o_law
  refine HandSHeadRun.head_any (r := OpenLaw.row PySem.Challenge.rw_letterwend_k92_rules_by_hand) (q := view (OpenLaw.row PySem.Challenge.rw_letterwend_k92_rules_by_hand).prog [25]) (H := DL.k92.hk) (ob := DL.k92.obs1) (M := 2000) (loose := DL.k92.names1) (d := HandSHeadRun.topDef (OpenLaw.row PySem.Challenge.rw_letterwend_k92_rules_by_hand).prog 25) (kwd := []) DL.k92.obs1_eq
    (by kernel_rfl) (fun s => by kernel_rfl) DL.k92.run1 (by kernel_rfl) (by kernel_rfl) (by kernel_rfl) (by rfl) (by first | assumption | decide +kernel) (by decide +kernel) ⟨rfl, rfl, rfl, rfl, rfl, by decide +kernel⟩ ?hw ?hc
  case hw => w_witness2
  case hc =>
    refine DL.law_walkE (l := PySem.Challenge.rw_letterwend_k92_rules_by_hand) (k := 6) (x := "_law_script") (m := DL.k92.m_law) rfl (by kernel_rfl) ⟨rfl, by decide, by decide⟩ ?F (fun ns hl hb => DL.k92.law_true ns hl hb)
    intro w mg fa h Y G hmg0
    obtain ⟨K, KX, c⟩ := Y
    have hmg : mg ("law" : PySem.Str) = some (.ref fa) := by
      have e : (HandSHeadRun.topDef (OpenLaw.row PySem.Challenge.rw_letterwend_k92_rules_by_hand).prog 25).name = ("law" : PySem.Str) := by kernel_rfl
      rw [← e]
      exact hmg0
    obtain ⟨fd, hb, hF⟩ := DL.k92.facts (P := (PySem.Challenge.rw_letterwend_k92_rules_by_hand).prog) (w := w) KX G hmg c
    exact ⟨⟨K, DL.k92.clsF K, DL.k92.nmsF, (PySem.Challenge.rw_letterwend_k92_rules_by_hand).prog, w⟩, fd, KX, hb, hF⟩
#print axioms PySem.Challenge.cw_letterwend_k92_rules_by_hand_holds
