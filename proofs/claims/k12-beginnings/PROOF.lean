import PyProof.Rows.All
import Wide.All
import OpenK.AllK
import Wide.FinOn
import HandS.ForMost
import HandS.Exc
import HandS.ExcOwn
import HandS.WordsExc
import HandS.Codes
import HandS.Wide
import HandS.TupAny
import HandS.Deep
import HandS.Style
import HandS.Flow
import HandS.IsInst
import HandS.NoneIn
import HandS.Walk
import HandS.CallSlots
import HandS.Defaults
import HandS.EndBits
import PyProof.StrOps2
import HandS.Head0
import HandS.Head1
import HandS.Head2
import HandS.HeadEnd
import HandS.HeadHook1
import HandS.HeadHook2
import PySem.Challenge.RW_letterwend_k12_beginnings
set_option Elab.async false
set_option linter.all false
set_option maxRecDepth 100000
set_option maxHeartbeats 1000000
/-! DA: data without a heap, how a heap bears them, what a step may do -/
namespace DL
open PySem PySem.Spec L2
open PyProof.Rows hiding St

/-- frozen data; texts by their code points -/
inductive D where
  | non | bl (b : Bool) | int (i : Int) | str (s : List Nat)
  | tup (l : List D) | lst (l : List D) | dct (l : List (D × D)) | ins (c : Nat) (l : List D)
  | exc (c : Nat) (l : List D) | fn (n : Nat)
/-- data of one's own: sh is frozen -/
inductive O where
  | sh (d : D) | lst (l : List O) | tup (l : List O) | dct (k : Bool) (l : List (D × O)) | ins (c : Nat) (l : List O)
/-- a slot -/
inductive Sl where
  | un | own (o : O) | lent (o : O) | bor (o : O)
abbrev En := List Sl
/-- what an expression hands: a thing of its own, or a look at a thing that stands in a slot -/
inductive R where
  | own (o : O) | bor (o : O)
/-- an exception: its class by number, its fields -/
structure Ex where
  c : Nat
  l : List D
inductive Res (α : Type) where
  | ok (a : α) | exc (x : Ex) (e : En) | stuck

/-- the classes by numbers, their fields -/
structure CC where
  K : PySem.W.Frag
  cls : Nat → Addr
  nms : Nat → List Str

/-- a key by value -/
def kd : Key → D
  | .inl i => .int i
  | .inr s => .str s.cps.toList
def kdT (l : List Key) : D := .tup (l.map kd)

def Le (F H : Hp) : Prop := ∀ a o, F a = some o → H a = some o
theorem Le.refl (F : Hp) : Le F F := fun _ _ h => h
theorem Le.trans {F G H : Hp} (a : Le F G) (b : Le G H) : Le F H := fun x o h => b x o (a x o h)
theorem Le.noneOf {F H : Hp} {a : Addr} (l : Le F H) (h : H a = none) : F a = none := by
  cases e : F a with
  | none => rfl
  | some o => rw [l a o e] at h; cases h
theorem Le.updN {F H : Hp} {a : Addr} {o : HO} (l : Le F H) (h : H a = none) : Le F (upd H a o) := fun b u e => by
  rw [upd_ne (ne_of_none (l b u e) h)]
  exact l b u e
theorem Le.upd_own {F H : Hp} {a : Addr} {o : HO} (l : Le F H) (h : F a = none) : Le F (upd H a o) := fun b u e => by
  rw [upd_ne (ne_of_none e h)]
  exact l b u e
theorem Le.upd2 {F H : Hp} {a : Addr} {o : HO} (l : Le F H) : Le (upd F a o) (upd H a o) := fun b u e => by
  by_cases hb : b = a
  · subst hb; rw [upd_same] at e ⊢; exact e
  · rw [upd_ne hb] at e ⊢; exact l b u e

section
variable (G : CC) (F : Hp)
mutual
/-- v is d, in the frozen part -/
inductive Rep : V → D → Prop
  | non : Rep .non .non
  | bl (b : Bool) : Rep (.bl b) (.bl b)
  | int (i : Int) : Rep (.int i) (.int i)
  | str (s : List Nat) : Rep (.str (SX.S s)) (.str s)
  | tup {a : Addr} {vs : List V} {ds : List D} : SqT G.K F a vs → Reps vs ds → Rep (.ref a) (.tup ds)
  | lst {a : Addr} {vs : List V} {ds : List D} : SqL G.K F a vs → Reps vs ds → Rep (.ref a) (.lst ds)
  | dct {a : Addr} {kvs : List (Key × V)} {ds : List (D × D)} : F a = some (.dK kvs) → ds.map (·.1) = kvs.map (fun p => kd p.1) → Reps (kvs.map (·.2)) (ds.map (·.2)) → Rep (.ref a) (.dct ds)
  | dcT {a : Addr} {kvs : List (List Key × V)} {ds : List (D × D)} : F a = some (.dT kvs) → ds.map (·.1) = kvs.map (fun p => kdT p.1) → Reps (kvs.map (·.2)) (ds.map (·.2)) → Rep (.ref a) (.dct ds)
  | ins {a dx : Addr} {fs : List (Str × V)} {c : Nat} {ds : List D} : F a = some (.ins (G.cls c) dx fs) → fs.map (·.1) = (G.nms c).take ds.length → Reps (fs.map (·.2)) ds → Rep (.ref a) (.ins c ds)
inductive Reps : List V → List D → Prop
  | nil : Reps [] []
  | cons {v : V} {d : D} {vs : List V} {ds : List D} : Rep v d → Reps vs ds → Reps (v :: vs) (d :: ds)
end
end
section
variable (G : CC) (F H : Hp)
mutual
/-- v is o: its own nodes stand in H at the places fp, all else is frozen -/
inductive Own : V → O → List Addr → Prop
  | sh {v : V} {d : D} : Rep G F v d → Own v (.sh d) []
  | lst {a : Addr} {vs : List V} {os : List O} {fp : List Addr} : H a = some (.lst vs) → Owns vs os fp → Own (.ref a) (.lst os) (a :: fp)
  | tup {a : Addr} {vs : List V} {os : List O} {fp : List Addr} : H a = some (.tup vs) → Owns vs os fp → Own (.ref a) (.tup os) (a :: fp)
  | dct {a : Addr} {kvs : List (Key × V)} {os : List (D × O)} {fp : List Addr} : H a = some (.dK kvs) → os.map (·.1) = kvs.map (fun p => kd p.1) → Owns (kvs.map (·.2)) (os.map (·.2)) fp → Own (.ref a) (.dct false os) (a :: fp)
  | dcT {a : Addr} {kvs : List (List Key × V)} {os : List (D × O)} {fp : List Addr} : H a = some (.dT kvs) → os.map (·.1) = kvs.map (fun p => kdT p.1) → Owns (kvs.map (·.2)) (os.map (·.2)) fp → Own (.ref a) (.dct true os) (a :: fp)
  | ins {a dx : Addr} {fs : List (Str × V)} {c : Nat} {os : List O} {fp : List Addr} : H a = some (.ins (G.cls c) dx fs) → fs.map (·.1) = (G.nms c).take os.length → Owns (fs.map (·.2)) os fp → Own (.ref a) (.ins c os) (a :: fp)
inductive Owns : List V → List O → List Addr → Prop
  | nil : Owns [] [] []
  | cons {v : V} {o : O} {vs : List V} {os : List O} {f fp : List Addr} : Own v o f → Owns vs os fp → Owns (v :: vs) (o :: os) (f ++ fp)
end
end

theorem SqL.le {K : PySem.W.Frag} {F H : Hp} {a : Addr} {xs : List V} (l : Le F H) (h : SqL K F a xs) : SqL K H a xs := by
  rcases h with (h | ⟨o, h⟩) | h
  · exact .inl (.inl (l _ _ h))
  · exact .inl (.inr ⟨o, l _ _ h⟩)
  · exact .inr h
theorem Rd.le {F H : Hp} {a : Addr} {u : HO} (l : Le F H) (h : Rd F a u) : Rd H a u := by
  rcases h with h | ⟨o, h⟩
  · exact .inl (l _ _ h)
  · exact .inr ⟨o, l _ _ h⟩
theorem SqT.le {K : PySem.W.Frag} {F H : Hp} {a : Addr} {xs : List V} (l : Le F H) (h : SqT K F a xs) : SqT K H a xs := by
  rcases h with (h | ⟨o, h⟩) | h
  · exact .inl (.inl (l _ _ h))
  · exact .inl (.inr ⟨o, l _ _ h⟩)
  · exact .inr h

section
variable {G : CC} {F F' H H' : Hp}
mutual
theorem Rep.le (l : Le F F') : ∀ {v : V} {d : D}, Rep G F v d → Rep G F' v d
  | _, _, .non => .non
  | _, _, .bl b => .bl b
  | _, _, .int i => .int i
  | _, _, .str s => .str s
  | _, _, .tup h r => .tup (SqT.le l h) (Reps.le l r)
  | _, _, .lst h r => .lst (SqL.le l h) (Reps.le l r)
  | _, _, .dct h e r => .dct (l _ _ h) e (Reps.le l r)
  | _, _, .dcT h e r => .dcT (l _ _ h) e (Reps.le l r)
  | _, _, .ins h e r => .ins (l _ _ h) e (Reps.le l r)
theorem Reps.le (l : Le F F') : ∀ {vs : List V} {ds : List D}, Reps G F vs ds → Reps G F' vs ds
  | _, _, .nil => .nil
  | _, _, .cons h r => .cons (Rep.le l h) (Reps.le l r)
end
mutual
theorem Own.le (l : Le F F') : ∀ {v : V} {o : O} {fp : List Addr}, (∀ a u, a ∈ fp → H a = some u → H' a = some u) → Own G F H v o fp → Own G F' H' v o fp
  | _, _, _, _, .sh r => .sh (r.le l)
  | _, _, _, k, .lst h r => .lst (k _ _ (List.mem_cons_self ..) h) (Owns.le l (fun a u m => k a u (List.mem_cons_of_mem _ m)) r)
  | _, _, _, k, .tup h r => .tup (k _ _ (List.mem_cons_self ..) h) (Owns.le l (fun a u m => k a u (List.mem_cons_of_mem _ m)) r)
  | _, _, _, k, .dct h e r => .dct (k _ _ (List.mem_cons_self ..) h) e (Owns.le l (fun a u m => k a u (List.mem_cons_of_mem _ m)) r)
  | _, _, _, k, .dcT h e r => .dcT (k _ _ (List.mem_cons_self ..) h) e (Owns.le l (fun a u m => k a u (List.mem_cons_of_mem _ m)) r)
  | _, _, _, k, .ins h e r => .ins (k _ _ (List.mem_cons_self ..) h) e (Owns.le l (fun a u m => k a u (List.mem_cons_of_mem _ m)) r)
theorem Owns.le (l : Le F F') : ∀ {vs : List V} {os : List O} {fp : List Addr}, (∀ a u, a ∈ fp → H a = some u → H' a = some u) → Owns G F H vs os fp → Owns G F' H' vs os fp
  | _, _, _, _, .nil => .nil
  | _, _, _, k, .cons h r => .cons (Own.le l (fun a u m => k a u (List.mem_append_left _ m)) h) (Owns.le l (fun a u m => k a u (List.mem_append_right _ m)) r)
end
mutual
theorem Own.dom : ∀ {v : V} {o : O} {fp : List Addr}, Own G F H v o fp → ∀ a ∈ fp, ∃ u, H a = some u
  | _, _, _, .sh r, _, m => nomatch m
  | _, _, _, .lst h r, a, m => by
    rcases List.mem_cons.mp m with e | m
    · exact e ▸ ⟨_, h⟩
    · exact Owns.dom r a m
  | _, _, _, .tup h r, a, m => by
    rcases List.mem_cons.mp m with e | m
    · exact e ▸ ⟨_, h⟩
    · exact Owns.dom r a m
  | _, _, _, .dct h e r, a, m => by
    rcases List.mem_cons.mp m with e | m
    · exact e ▸ ⟨_, h⟩
    · exact Owns.dom r a m
  | _, _, _, .dcT h e r, a, m => by
    rcases List.mem_cons.mp m with e | m
    · exact e ▸ ⟨_, h⟩
    · exact Owns.dom r a m
  | _, _, _, .ins h e r, a, m => by
    rcases List.mem_cons.mp m with e | m
    · exact e ▸ ⟨_, h⟩
    · exact Owns.dom r a m
theorem Owns.dom : ∀ {vs : List V} {os : List O} {fp : List Addr}, Owns G F H vs os fp → ∀ a ∈ fp, ∃ u, H a = some u
  | _, _, _, .nil, _, m => nomatch m
  | _, _, _, .cons h r, a, m => by
    rcases List.mem_append.mp m with m | m
    · exact Own.dom h a m
    · exact Owns.dom r a m
end
theorem Reps.length : ∀ {vs : List V} {ds : List D}, Reps G F vs ds → vs.length = ds.length
  | _, _, .nil => rfl
  | _, _, .cons _ r => congrArg (· + 1) (Reps.length r)
theorem Owns.length : ∀ {vs : List V} {os : List O} {fp : List Addr}, Owns G F H vs os fp → vs.length = os.length
  | _, _, _, .nil => rfl
  | _, _, _, .cons _ r => congrArg (· + 1) (Owns.length r)
theorem Reps.get : ∀ {vs : List V} {ds : List D} {i : Nat} {d : D}, Reps G F vs ds → ds[i]? = some d → ∃ v, vs[i]? = some v ∧ Rep G F v d
  | _, _, _, _, .nil, e => by simp at e
  | _, _, 0, _, .cons h r, e => by simp at e; subst e; exact ⟨_, rfl, h⟩
  | _, _, i + 1, d, .cons _ r, e => by
    obtain ⟨v, h1, h2⟩ := Reps.get (i := i) (d := d) r (by simpa using e)
    exact ⟨v, by simpa using h1, h2⟩
theorem Reps.getV : ∀ {vs : List V} {ds : List D} {i : Nat} {v : V}, Reps G F vs ds → vs[i]? = some v → ∃ d, ds[i]? = some d ∧ Rep G F v d
  | _, _, _, _, .nil, e => by simp at e
  | _, _, 0, _, .cons h r, e => by simp at e; subst e; exact ⟨_, rfl, h⟩
  | _, _, i + 1, d, .cons _ r, e => by
    obtain ⟨v, h1, h2⟩ := Reps.getV (i := i) (v := d) r (by simpa using e)
    exact ⟨v, by simpa using h1, h2⟩
theorem Reps.append : ∀ {vs ws : List V} {ds es : List D}, Reps G F vs ds → Reps G F ws es → Reps G F (vs ++ ws) (ds ++ es)
  | _, _, _, _, .nil, s => s
  | _, _, _, _, .cons h r, s => .cons h (Reps.append r s)
theorem Reps.take : ∀ {vs : List V} {ds : List D} (n : Nat), Reps G F vs ds → Reps G F (vs.take n) (ds.take n)
  | _, _, 0, _ => .nil
  | _, _, _ + 1, .nil => .nil
  | _, _, n + 1, .cons h t => .cons h (Reps.take n t)
theorem Reps.drop : ∀ {vs : List V} {ds : List D} (n : Nat), Reps G F vs ds → Reps G F (vs.drop n) (ds.drop n)
  | _, _, 0, r => r
  | _, _, _ + 1, .nil => .nil
  | _, _, n + 1, .cons _ t => Reps.drop n t
theorem Reps.reverse {vs : List V} {ds : List D} (r : Reps G F vs ds) : Reps G F vs.reverse ds.reverse := by
  induction vs generalizing ds with
  | nil => cases r; exact .nil
  | cons v vs ih =>
    cases r with
    | cons h t =>
      rw [List.reverse_cons, List.reverse_cons]
      exact (ih t).append (.cons h .nil)
theorem Owns.append : ∀ {vs ws : List V} {os us : List O} {f g : List Addr}, Owns G F H vs os f → Owns G F H ws us g → Owns G F H (vs ++ ws) (os ++ us) (f ++ g)
  | _, _, _, _, _, _, .nil, s => s
  | _, _, _, _, _, _, .cons h r, s => by
    rw [List.append_assoc]
    exact .cons h (Owns.append r s)
theorem Owns.one {v : V} {o : O} {f : List Addr} (h : Own G F H v o f) : Owns G F H [v] [o] f := by
  have := Owns.cons h (Owns.nil (G := G) (F := F) (H := H))
  rwa [List.append_nil] at this
theorem Owns.of_sh : ∀ {vs : List V} {ds : List D}, Reps G F vs ds → Owns G F H vs (ds.map .sh) []
  | _, _, .nil => .nil
  | _, _, .cons h r => Owns.cons (f := []) (.sh h) (Owns.of_sh r)
theorem Owns.to_sh : ∀ {ds : List D} {vs : List V} {f : List Addr}, Owns G F H vs (ds.map .sh) f → Reps G F vs ds ∧ f = []
  | [], _, _, h => by cases h; exact ⟨.nil, rfl⟩
  | d :: ds, _, _, h => by
    cases h with
    | cons h r =>
      cases h with
      | sh h =>
        obtain ⟨q, e⟩ := Owns.to_sh r
        exact ⟨.cons h q, by rw [e]; rfl⟩
theorem Owns.get : ∀ {vs : List V} {os : List O} {fp : List Addr} {i : Nat} {o : O}, Owns G F H vs os fp → os[i]? = some o → ∃ v f, vs[i]? = some v ∧ Own G F H v o f ∧ f.Sublist fp
  | _, _, _, _, _, .nil, e => by simp at e
  | _, _, _, 0, _, .cons h r, e => by
    simp at e
    subst e
    exact ⟨_, _, rfl, h, List.sublist_append_left _ _⟩
  | _, _, _, i + 1, o, .cons _ r, e => by
    obtain ⟨v, f, h1, h2, h3⟩ := Owns.get (i := i) (o := o) r (by simpa using e)
    exact ⟨v, f, by simpa using h1, h2, h3.trans (List.sublist_append_right _ _)⟩
end

/-- a step: from F, H, own places fp to F', H', own places fp' -/
structure Nx (F F' H H' : Hp) (fp fp' : List Addr) : Prop where
  ff : Le F F'
  hh : ∀ a o, H a = some o → a ∉ fp → H' a = some o
  nw : ∀ a, F a = none → F' a ≠ none → H a = none ∨ a ∈ fp
  fr : ∀ a ∈ fp', a ∈ fp ∨ H a = none
  le : Le F' H'
section
variable {F F' F2 H H' H2 : Hp} {fp fp' fp2 f g : List Addr}
theorem Nx.refl (l : Le F H) : Nx F F H H fp fp := ⟨Le.refl F, fun _ _ h _ => h, fun _ h h' => (h' h).elim, fun _ h => .inl h, l⟩
theorem Nx.trans (x : Nx F F' H H' fp fp') (y : Nx F' F2 H' H2 fp' fp2) : Nx F F2 H H2 fp fp2 where
  ff := x.ff.trans y.ff
  hh := fun a o h n => y.hh a o (x.hh a o h n) fun m => by
    rcases x.fr a m with m | m
    · exact n m
    · rw [h] at m; cases m
  nw := fun a h h' => by
    by_cases e : F' a = none
    · rcases y.nw a e h' with q | q
      · by_cases n : a ∈ fp
        · exact .inr n
        · cases e2 : H a with
          | none => exact .inl rfl
          | some o => rw [x.hh a o e2 n] at q; cases q
      · exact (x.fr a q).symm
    · exact x.nw a h e
  fr := fun a m => by
    rcases y.fr a m with m | m
    · exact x.fr a m
    · by_cases n : a ∈ fp
      · exact .inl n
      · cases e2 : H a with
        | none => exact .inr rfl
        | some o => rw [x.hh a o e2 n] at m; cases m
  le := y.le
/-- a pure step leaves what is one's own aside -/
theorem Nx.wide (x : Nx F F' H H' [] f) (g : List Addr) : Nx F F' H H' g (g ++ f) where
  ff := x.ff
  hh := fun a o h _ => x.hh a o h (fun m => nomatch m)
  nw := fun a h h' => .inl ((x.nw a h h').resolve_right fun m => nomatch m)
  fr := fun a m => (List.mem_append.mp m).imp id fun m => (x.fr a m).resolve_left fun m => nomatch m
  le := x.le
theorem Nx.wide0 (x : Nx F F' H H' [] []) (g : List Addr) : Nx F F' H H' g g := by
  have := x.wide g
  rwa [List.append_nil] at this
theorem Nx.sub (x : Nx F F' H H' fp fp') (h : ∀ a ∈ g, a ∈ fp') : Nx F F' H H' fp g := ⟨x.ff, x.hh, x.nw, fun a m => x.fr a (h a m), x.le⟩
theorem Nx.drop (x : Nx F F' H H' fp fp') : Nx F F' H H' fp [] := x.sub fun _ m => nomatch m
theorem Nx.keep (x : Nx F F' H H' [] f) : ∀ a o, H a = some o → H' a = some o := fun a o h => x.hh a o h fun m => nomatch m
theorem Nx.keepLe (x : Nx F F' H H' [] f) {B : Hp} (l : Le B H) : Le B H' := fun a o h => x.keep a o (l a o h)
/-- a new frozen thing -/
theorem Nx.newF {p : Addr} {o : HO} (l : Le F H) (h : H p = none) : Nx F (upd F p o) H (upd H p o) [] [] where
  ff := fun a u e => by rw [upd_ne (ne_of_none e (l.noneOf h))]; exact e
  hh := fun a u e _ => by rw [upd_ne (ne_of_none e h)]; exact e
  nw := fun a h1 h2 => by
    by_cases e : a = p
    · exact .inl (e ▸ h)
    · rw [upd_ne e] at h2; exact (h2 h1).elim
  fr := fun _ m => nomatch m
  le := l.upd2
/-- a new thing of one's own -/
theorem Nx.newO {p : Addr} {o : HO} (l : Le F H) (h : H p = none) (f : List Addr) (hf : ∀ a ∈ f, H a = none ∨ a = p) : Nx F F H (upd H p o) [] f where
  ff := Le.refl F
  hh := fun a u e _ => by rw [upd_ne (ne_of_none e h)]; exact e
  nw := fun a h1 h2 => (h2 h1).elim
  fr := fun a m => .inr ((hf a m).elim id fun e => e ▸ h)
  le := l.updN h
end
end DL

set_option maxHeartbeats 1000000
/-! DB: a frame's state as data; what an expression, a test, a statement denotes -/
namespace DL
open PySem PySem.Spec L2
open PyProof.Rows hiding St

section
variable (G : CC) (F B H : Hp)
/-- the slots: L, lent things; σ, values; en, data; fp, own places -/
inductive Sls : St → St → En → List Addr → Prop
  | nil : Sls [] [] [] []
  | un {x : Option V} {L σ : St} {en : En} {fp : List Addr} : Sls L σ en fp → Sls (none :: L) (x :: σ) (.un :: en) fp
  | own {v : V} {o : O} {f : List Addr} {L σ : St} {en : En} {fp : List Addr} : Own G F H v o f → Sls L σ en fp → Sls (none :: L) (some v :: σ) (.own o :: en) (f ++ fp)
  | lent {v : V} {o : O} {f : List Addr} {L σ : St} {en : En} {fp : List Addr} : Own G F H v o f → Sls L σ en fp → Sls (some v :: L) (some v :: σ) (.lent o :: en) (f ++ fp)
  | bor {v : V} {o : O} {f : List Addr} {L σ : St} {en : En} {fp : List Addr} : Own G F B v o f → Sls L σ en fp → Sls (none :: L) (some v :: σ) (.bor o :: en) fp
structure SRep (L : St) (σ : St) (en : En) (fp : List Addr) : Prop where
  lf : Le F H
  lb : Le B H
  sl : Sls G F B H L σ en fp
  nd : fp.Nodup
  df : ∀ a ∈ fp, F a = none ∧ B a = none
end

section
variable {G : CC} {F F' B H H' : Hp} {L σ : St} {en : En} {fp f g : List Addr}
theorem Sls.le (l : Le F F') (k : ∀ a u, a ∈ fp → H a = some u → H' a = some u) (s : Sls G F B H L σ en fp) : Sls G F' B H' L σ en fp := by
  induction s with
  | nil => exact .nil
  | un _ ih => exact .un (ih k)
  | own h _ ih => exact .own (h.le l fun a u m => k a u (List.mem_append_left _ m)) (ih fun a u m => k a u (List.mem_append_right _ m))
  | lent h _ ih => exact .lent (h.le l fun a u m => k a u (List.mem_append_left _ m)) (ih fun a u m => k a u (List.mem_append_right _ m))
  | bor h _ ih => exact .bor (h.le l fun a u _ e => e) (ih k)
theorem Sls.dom (s : Sls G F B H L σ en fp) : ∀ a ∈ fp, ∃ u, H a = some u := by
  induction s with
  | nil => intro _ m; cases m
  | un _ ih => exact ih
  | own h _ ih => intro a m; exact (List.mem_append.mp m).elim (h.dom a) (ih a)
  | lent h _ ih => intro a m; exact (List.mem_append.mp m).elim (h.dom a) (ih a)
  | bor h _ ih => exact ih
theorem Sls.len (s : Sls G F B H L σ en fp) : σ.length = en.length ∧ L.length = en.length := by
  induction s with
  | nil => exact ⟨rfl, rfl⟩
  | un _ ih => exact ⟨congrArg (· + 1) ih.1, congrArg (· + 1) ih.2⟩
  | own _ _ ih => exact ⟨congrArg (· + 1) ih.1, congrArg (· + 1) ih.2⟩
  | lent _ _ ih => exact ⟨congrArg (· + 1) ih.1, congrArg (· + 1) ih.2⟩
  | bor _ _ ih => exact ⟨congrArg (· + 1) ih.1, congrArg (· + 1) ih.2⟩
theorem SRep.dom (s : SRep G F B H L σ en fp) : ∀ a ∈ fp, ∃ u, H a = some u := s.sl.dom
/-- a pure step keeps the state -/
theorem SRep.pure (s : SRep G F B H L σ en fp) (x : Nx F F' H H' [] f) : SRep G F' B H' L σ en fp where
  lf := x.le
  lb := x.keepLe s.lb
  sl := s.sl.le x.ff fun a u _ e => x.keep a u e
  nd := s.nd
  df := fun a m => by
    refine ⟨?_, (s.df a m).2⟩
    cases e : F' a with
    | none => rfl
    | some u =>
      obtain ⟨o, h⟩ := s.dom a m
      rcases x.nw a (s.df a m).1 (by rw [e]; exact fun z => by cases z) with q | q
      · rw [h] at q; cases q
      · cases q
/-- what is new is not among the places that stand -/
theorem SRep.apart (s : SRep G F B H L σ en fp) (x : Nx F F' H H' [] f) (nf : f.Nodup) : (fp ++ f).Nodup := by
  rw [List.nodup_append]
  refine ⟨s.nd, nf, fun a m b m' e => ?_⟩
  subst e
  obtain ⟨o, h⟩ := s.dom a m
  rcases x.fr a m' with q | q
  · cases q
  · rw [h] at q; cases q
theorem SRep.noB (s : SRep G F B H L σ en fp) {fp' : List Addr} (x : Nx F F' H H' fp fp') : ∀ a ∈ fp', B a = none := fun a m => by
  rcases x.fr a m with q | q
  · exact (s.df a q).2
  · exact s.lb.noneOf q
end

/-- what a slot shows -/
def Sl.look : Sl → Option R
  | .un => none
  | .own (.sh d) => some (.own (.sh d))
  | .own o => some (.bor o)
  | .lent (.sh d) => some (.own (.sh d))
  | .lent o => some (.bor o)
  | .bor (.sh d) => some (.own (.sh d))
  | .bor o => some (.bor o)
def mName (i : Nat) (en : En) : Res R := match en[i]? with
  | some s => match s.look with
    | some r => .ok r
    | none => .stuck
  | none => .stuck

section
variable {G : CC} {F F' B H H' : Hp} {L σ : St} {en : En} {fp f g : List Addr}
theorem Sls.get (lb : Le B H) (s : Sls G F B H L σ en fp) : ∀ {i : Nat} {r : R}, (en[i]?).bind Sl.look = some r → ∃ v, σ[i]? = some (some v) ∧
    ((∃ d, r = .own (.sh d) ∧ Rep G F v d) ∨ ∃ o f, r = .bor o ∧ Own G F H v o f) := by
  induction s with
  | nil => intro i r e; simp at e
  | un _ ih =>
    intro i r e
    cases i with
    | zero => simp [Sl.look] at e
    | succ i => exact ih (i := i) (by simpa using e)
  | @own v o f L σ en fp h _ ih =>
    intro i r e
    cases i with
    | zero =>
      refine ⟨v, rfl, ?_⟩
      cases o with
      | sh d =>
        simp [Sl.look] at e
        cases h with
        | sh h => exact .inl ⟨d, e.symm, h⟩
      | _ =>
        simp [Sl.look] at e
        exact .inr ⟨_, _, e.symm, h⟩
    | succ i => exact ih (i := i) (by simpa using e)
  | @lent v o f L σ en fp h _ ih =>
    intro i r e
    cases i with
    | zero =>
      refine ⟨v, rfl, ?_⟩
      cases o with
      | sh d =>
        simp [Sl.look] at e
        cases h with
        | sh h => exact .inl ⟨d, e.symm, h⟩
      | _ =>
        simp [Sl.look] at e
        exact .inr ⟨_, _, e.symm, h⟩
    | succ i => exact ih (i := i) (by simpa using e)
  | @bor v o f L σ en fp h _ ih =>
    intro i r e
    cases i with
    | zero =>
      refine ⟨v, rfl, ?_⟩
      cases o with
      | sh d =>
        simp [Sl.look] at e
        cases h with
        | sh h => exact .inl ⟨d, e.symm, h⟩
      | _ =>
        simp [Sl.look] at e
        exact .inr ⟨_, _, e.symm, h.le (Le.refl F) fun a u _ q => lb a u q⟩
    | succ i => exact ih (i := i) (by simpa using e)
end

/-! ### exceptions -/
def XRep (G : CC) (F : Hp) (x : Ex) (cls : Value) (d : Option Addr) : Prop :=
  cls = .ref (G.cls x.c) ∧ ((x.l = [] ∧ d = none) ∨ ∃ (a : Addr) (fs : List (Str × V)), d = some a ∧ F a = some (.xd fs) ∧ x.l.length = (G.nms x.c).length ∧ ∀ (i : Nat) (f : Str), (G.nms x.c)[i]? = some f → ∃ (v : V) (y : D), fs.lookup f = some v ∧ x.l[i]? = some y ∧ Rep G F v y)

/-- v is what a pure expression hands -/
def PR (G : CC) (F F' H H' : Hp) (v : V) : R → Prop
  | .own o => ∃ f, Nx F F' H H' [] f ∧ Own G F' H' v o f ∧ f.Nodup ∧ ∀ a ∈ f, F' a = none
  | .bor o => ∃ f, Nx F F' H H' [] [] ∧ Own G F' H' v o f
def R.o : R → O
  | .own o => o
  | .bor o => o
/-- v is what an expression hands, the state en' behind it -/
def XR (G : CC) (B : Hp) (L : St) (F F' H H' : Hp) (σ : St) (fp : List Addr) (v : V) (o : O) (en' : En) : Prop :=
  ∃ fp' f, Nx F F' H H' fp (fp' ++ f) ∧ SRep G F' B H' L σ en' fp' ∧ Own G F' H' v o f ∧ (fp' ++ f).Nodup ∧ ∀ a ∈ f, F' a = none
/-- a state behind -/
def NR (G : CC) (B : Hp) (L : St) (F F' H H' : Hp) (σ : St) (fp : List Addr) (en' : En) : Prop :=
  ∃ fp', Nx F F' H H' fp fp' ∧ SRep G F' B H' L σ en' fp'

section
variable (G : CC) (W : WX)
def EPost (F B : Hp) (L : St) (H : Hp) (fp : List Addr) (x : Ex) (en' : En) : Prop :=
  ∀ cls d σ F' H', NR G B L F F' H H' σ fp en' → XRep G F' x cls d → W cls d σ H'
/-- behind a pure expression -/
def PPost (F B : Hp) (L : St) (H : Hp) (fp : List Addr) (Q : VK) : Res R → Prop
  | .ok r => ∀ v F' H', PR G F F' H H' v r → Q v H'
  | .exc x en' => EPost G W F B L H fp x en'
  | .stuck => False
def tD (m : En → Res R) : TE := fun σ H Q => ∃ F B L en fp, SRep G F B H L σ en fp ∧ PPost G W F B L H fp Q (m en)
/-- behind an expression that may change what is one's own -/
def XPost (F B : Hp) (L : St) (H : Hp) (σ : St) (fp : List Addr) (Q : VK) : Res (O × En) → Prop
  | .ok r => ∀ v F' H', XR G B L F F' H H' σ fp v r.1 r.2 → Q v H'
  | .exc x en' => EPost G W F B L H fp x en'
  | .stuck => False
def tX (m : En → Res (O × En)) : TE := fun σ H Q => ∃ F B L en fp, SRep G F B H L σ en fp ∧ XPost G W F B L H σ fp Q (m en)
/-- behind a pure test -/
def TPost (F B : Hp) (L : St) (H : Hp) (fp : List Addr) (Q : Bool → Hp → Prop) : Res Bool → Prop
  | .ok b => ∀ F' H', Nx F F' H H' [] [] → Q b H'
  | .exc x en' => EPost G W F B L H fp x en'
  | .stuck => False
def tT (m : En → Res Bool) : TT := fun σ H Q => ∃ F B L en fp, SRep G F B H L σ en fp ∧ TPost G W F B L H fp Q (m en)
/-- behind a test that may change what is one's own -/
def YPost (F B : Hp) (L : St) (H : Hp) (σ : St) (fp : List Addr) (Q : Bool → Hp → Prop) : Res (Bool × En) → Prop
  | .ok r => ∀ F' H', NR G B L F F' H H' σ fp r.2 → Q r.1 H'
  | .exc x en' => EPost G W F B L H fp x en'
  | .stuck => False
def tY (m : En → Res (Bool × En)) : TT := fun σ H Q => ∃ F B L en fp, SRep G F B H L σ en fp ∧ YPost G W F B L H σ fp Q (m en)
end

/-- how a statement ends -/
inductive SR where
  | nx (en : En) | rt (o : O) (en : En) | bk (en : En) | ct (en : En) | exc (x : Ex) (en : En) | stuck
section
variable (G : CC) (W : WX)
def NPost (F B : Hp) (L : St) (H : Hp) (fp : List Addr) (K : St → Hp → Prop) (en' : En) : Prop :=
  ∀ σ' F' H', NR G B L F F' H H' σ' fp en' → K σ' H'
def SPost (F B : Hp) (L : St) (H : Hp) (fp : List Addr) (D : Ends) : SR → Prop
  | .nx en' => NPost G F B L H fp D.nx en'
  | .bk en' => NPost G F B L H fp D.bk en'
  | .ct en' => NPost G F B L H fp D.ct en'
  | .rt o en' => ∀ v σ' F' H', XR G B L F F' H H' σ' fp v o en' → D.rt v H'
  | .exc x en' => EPost G W F B L H fp x en'
  | .stuck => False
def tS (m : En → SR) : TS := fun D σ H => ∃ F B L en fp, SRep G F B H L σ en fp ∧ SPost G W F B L H fp D (m en)
end

/-! ### weaker readings -/
theorem _root_.L2.PE.imp {X : Cx} {e : Expr} {t t' : TE} (h : PE X e t) (i : ∀ σ H Q, t' σ H Q → t σ H Q) : PE X e t' := ⟨fun pins s σ H Q I q => h.run pins s σ H Q I (i σ H Q q)⟩
theorem _root_.L2.PT.imp {X : Cx} {e : Expr} {t t' : TT} (h : PT X e t) (i : ∀ σ H Q, t' σ H Q → t σ H Q) : PT X e t' := ⟨fun pins s σ H Q I q => h.run pins s σ H Q I (i σ H Q q)⟩
theorem _root_.L2.PW.imp {X : Cx} {e : Expr} {t t' : TT} (h : PW X e t) (i : ∀ σ H Q, t' σ H Q → t σ H Q) : PW X e t' := ⟨fun wh pins s σ H Q I q => h.run wh pins s σ H Q I (i σ H Q q)⟩
theorem _root_.L2.PA.imp {X : Cx} {es : List Expr} {t t' : TA} (h : PA X es t) (i : ∀ σ H Q, t' σ H Q → t σ H Q) : PA X es t' := ⟨fun pos pins s σ H Q I q => h.run pos pins s σ H Q I (i σ H Q q)⟩
theorem _root_.L2.PS.imp {X : Cx} {st : Stmt} {t t' : TS} (h : PS X st t) (i : ∀ D σ H, t' D σ H → t D σ H) : PS X st t' := ⟨fun pins s σ H D I q => h.run pins s σ H D I (i D σ H q)⟩
theorem _root_.L2.PSs.imp {X : Cx} {st : List Stmt} {t t' : TS} (h : PSs X st t) (i : ∀ D σ H, t' D σ H → t D σ H) : PSs X st t' := ⟨fun pins s σ H D I q => h.run pins s σ H D I (i D σ H q)⟩
theorem _root_.L2.PG.imp {X : Cx} {e : Expr} {t t' : TG} (h : PG X e t) (i : ∀ v σ H Q, t' v σ H Q → t v σ H Q) : PG X e t' := ⟨fun pins s σ H v u Q I r q => h.run pins s σ H v u Q I r (i v σ H Q q)⟩

section
variable {G : CC} {W : WX} {F F' F2 B H H' H2 : Hp} {L σ σ' : St} {en en' : En} {fp fp' f g : List Addr} {v : V} {o : O} {r : R}
theorem PR.nx (h : PR G F F' H H' v r) : Nx F F' H H' [] [] := by
  cases r with
  | own o => obtain ⟨f, n, _⟩ := h; exact n.drop
  | bor o => obtain ⟨f, n, _⟩ := h; exact n
theorem PR.has (h : PR G F F' H H' v r) : ∃ f, Own G F' H' v r.o f := by
  cases r with
  | own o => obtain ⟨f, _, q, _⟩ := h; exact ⟨f, q⟩
  | bor o => obtain ⟨f, _, q⟩ := h; exact ⟨f, q⟩
theorem PR.after (n : Nx F F' H H' [] []) (h : PR G F' F2 H' H2 v r) : PR G F F2 H H2 v r := by
  cases r with
  | own o => obtain ⟨f, z, q⟩ := h; exact ⟨f, n.trans z, q⟩
  | bor o => obtain ⟨f, z, q⟩ := h; exact ⟨f, n.trans z, q⟩
theorem PR.sh {d : D} (l : Le F H) (h : Rep G F v d) : PR G F F H H v (.own (.sh d)) := ⟨[], Nx.refl l, .sh h, List.nodup_nil, fun _ m => nomatch m⟩
theorem NR.refl (s : SRep G F B H L σ en fp) : NR G B L F F H H σ fp en := ⟨fp, Nx.refl s.lf, s⟩
theorem NR.after (y : Nx F F' H H' fp fp') (h : NR G B L F' F2 H' H2 σ fp' en') : NR G B L F F2 H H2 σ fp en' := by
  obtain ⟨fp2, z, s⟩ := h
  exact ⟨fp2, y.trans z, s⟩
theorem XR.after (y : Nx F F' H H' fp fp') (h : XR G B L F' F2 H' H2 σ fp' v o en') : XR G B L F F2 H H2 σ fp v o en' := by
  obtain ⟨fp2, f, z, s⟩ := h
  exact ⟨fp2, f, y.trans z, s⟩
theorem XR.nr (h : XR G B L F F' H H' σ fp v o en') : NR G B L F F' H H' σ fp en' := by
  obtain ⟨fp2, f, z, s, _⟩ := h
  exact ⟨fp2, z.sub fun _ m => List.mem_append_left _ m, s⟩
/-- a pure expression's own thing, as an expression -/
theorem PR.toX (s : SRep G F B H L σ en fp) (h : PR G F F' H H' v (.own o)) : XR G B L F F' H H' σ fp v o en := by
  obtain ⟨f, n, q, nd, fr⟩ := h
  exact ⟨fp, f, n.wide fp, s.pure n, q, s.apart n nd, fr⟩
theorem Nx.toN (s : SRep G F B H L σ en fp) (n : Nx F F' H H' [] []) : NR G B L F F' H H' σ fp en := ⟨fp, n.wide0 fp, s.pure n⟩
theorem EPost.after {x : Ex} {en' : En} (y : Nx F F' H H' fp fp') (h : EPost G W F B L H fp x en') : EPost G W F' B L H' fp' x en' :=
  fun cls d σ F2 H2 n xr => h cls d σ F2 H2 (n.after y) xr
theorem NPost.after {K : St → Hp → Prop} {en' : En} (y : Nx F F' H H' fp fp') (h : NPost G F B L H fp K en') : NPost G F' B L H' fp' K en' :=
  fun σ' F2 H2 n => h σ' F2 H2 (n.after y)
theorem SPost.after {D : Ends} (y : Nx F F' H H' fp fp') : ∀ {r : SR}, SPost G W F B L H fp D r → SPost G W F' B L H' fp' D r
  | .nx _, h => NPost.after y h
  | .bk _, h => NPost.after y h
  | .ct _, h => NPost.after y h
  | .rt _ _, h => fun v σ' F2 H2 n => h v σ' F2 H2 (n.after y)
  | .exc _ _, h => EPost.after y h
  | .stuck, h => h
end
end DL

set_option maxHeartbeats 1000000
/-! DC: names, constants, operators, tests -/
namespace DL
open PySem PySem.Spec L2
open PyProof.Rows hiding St

/-! ### names, constants -/
section
variable {X : Cx} {G : CC} {W : WX} {pos : Pos}
theorem dp_name (i : Nat) {x : Str} (hN : X.N[i]? = some x := by rfl) (hv : Vis X.env.scope x := by first | exact Or.inl rfl | exact Or.inr (Or.inl rfl) | exact Or.inr (Or.inr rfl)) (hd : (x == ("__debug__" : Str)) = false := by decide)
    (hcd : (x == ("__classdict__" : Str)) = false := by decide) : PE X (.Name x pos) (tD G W (mName i)) := (pe_var hN hv hd hcd).imp fun σ H Q h => by
  obtain ⟨F, B, L, en, fp, s, p⟩ := h
  unfold mName at p
  cases e : en[i]? with
  | none => rw [e] at p; exact p.elim
  | some z =>
    rw [e] at p
    cases e2 : z.look with
    | none => simp only [e2] at p; exact p.elim
    | some r =>
      simp only [e2] at p
      obtain ⟨v, hv, q⟩ := s.sl.get s.lb (i := i) (r := r) (by rw [e]; exact e2)
      refine ⟨v, hv, p v F H ?_⟩
      rcases q with ⟨d, rfl, q⟩ | ⟨o, f, rfl, q⟩
      · exact .sh s.lf q
      · exact ⟨f, Nx.refl s.lf, q⟩
def mC (d : D) (_ : En) : Res R := .ok (.own (.sh d))
theorem tC_D {v : V} {d : D} (h : ∀ F, Rep G F v d) {σ : St} {H : Hp} {Q : VK} (p : tD G W (mC d) σ H Q) : tC v σ H Q := by
  obtain ⟨F, B, L, en, fp, s, p⟩ := p
  exact p v F H (.sh s.lf (h F))
theorem dp_int {i j} : PE X (.Constant (.int i) j pos) (tD G W (mC (.int i))) := pe_int.imp fun _ _ _ => tC_D fun _ => .int i
theorem dp_bl {b j} : PE X (.Constant (.bool b) j pos) (tD G W (mC (.bl b))) := pe_bl.imp fun _ _ _ => tC_D fun _ => .bl b
theorem dp_non {j} : PE X (.Constant .none j pos) (tD G W (mC .non)) := pe_non.imp fun _ _ _ => tC_D fun _ => .non
theorem dp_str (l : List Nat) {x : Str} {j} (h : x = SX.S l := by rfl) : PE X (.Constant (.str x) j pos) (tD G W (mC (.str l))) := by
  subst h
  exact pe_str.imp fun _ _ _ => tC_D fun _ => .str l
/-- a module's constant -/
structure Kst (G : CC) (mg : Str → Option Value) (x : Str) (d : D) : Prop where
  ex : ∃ v u, mg x = some u ∧ RelV v u ∧ ∀ F, Rep G F v d
theorem dp_glob {x : Str} {d : D} (hm : Kst G X.mg x d) (hg : Gl X x := by rfl) (hd : (x == ("__debug__" : Str)) = false := by decide) : PE X (.Name x pos) (tD G W (mC d)) := by
  obtain ⟨v, u, h, r, q⟩ := hm.ex
  exact (pe_glob hg h r hd).imp fun _ _ _ => tC_D q
end

/-! ### what an operator makes of data -/
def VPost (G : CC) (F H : Hp) (Q : VK) : Option R → Prop
  | some r => ∀ v F' H', PR G F F' H H' v r → Q v H'
  | none => False
def OpD (G : CC) (r : R2) (m : O → O → Option R) : Prop :=
  ∀ F H x y a b f g Q, Le F H → Own G F H x a f → Own G F H y b g → VPost G F H Q (m a b) → r x y H Q
def UnD (G : CC) (r : V → Hp → VK → Prop) (m : O → Option R) : Prop :=
  ∀ F H x a f Q, Le F H → Own G F H x a f → VPost G F H Q (m a) → r x H Q
def Res.bnd {α β : Type} : Res α → (α → Res β) → Res β
  | .ok a, k => k a
  | .exc x e, _ => .exc x e
  | .stuck, _ => .stuck
def Res.of {α : Type} : Option α → Res α
  | some a => .ok a
  | none => .stuck
def mOp (m : O → O → Option R) (ma mb : En → Res R) (en : En) : Res R := (ma en).bnd fun a => (mb en).bnd fun b => .of (m a.o b.o)
def mUn (m : O → Option R) (ma : En → Res R) (en : En) : Res R := (ma en).bnd fun a => .of (m a.o)

section
variable {G : CC} {W : WX} {σ : St} {H : Hp} {Q : VK} {K : PySem.W.Frag}
/-- two pure parts in a row -/
theorem two {ma mb : En → Res R} {k : R → R → Res R} {T : V → V → Hp → Prop} (h : tD G W (fun en => (ma en).bnd fun a => (mb en).bnd fun b => k a b) σ H Q)
    (hk : ∀ F H' x y a b f g, Le F H' → Own G F H' x a.o f → Own G F H' y b.o g → (∀ (F₀ B L fp H₀) (en : En), SRep G F₀ B H₀ L σ en fp → Nx F₀ F H₀ H' [] [] → PPost G W F₀ B L H₀ fp Q (k a b) → T x y H')) :
    tD G W ma σ H fun x H1 => tD G W mb σ H1 fun y H2 => T x y H2 := by
  obtain ⟨F, B, L, en, fp, s, p⟩ := h
  refine ⟨F, B, L, en, fp, s, ?_⟩
  replace p : PPost G W F B L H fp Q ((ma en).bnd fun a => (mb en).bnd fun b => k a b) := p
  cases ea : ma en with
  | stuck => rw [ea] at p; exact p.elim
  | exc x e => rw [ea] at p; exact p
  | ok a =>
    rw [ea] at p
    intro x F1 H1 r1
    refine ⟨F1, B, L, en, fp, s.pure r1.nx, ?_⟩
    have p' : PPost G W F B L H fp Q ((mb en).bnd fun b => k a b) := p
    cases eb : mb en with
    | stuck => rw [eb] at p'; exact p'.elim
    | exc x e => rw [eb] at p'; exact EPost.after (r1.nx.wide0 fp) p'
    | ok b =>
      rw [eb] at p'
      intro y F2 H2 r2
      obtain ⟨f, q1⟩ := r1.has
      obtain ⟨g, q2⟩ := r2.has
      exact hk F2 H2 x y a b f g r2.nx.le (q1.le r2.nx.ff fun c u _ e => r2.nx.keep c u e) q2 F B L fp H en s (r1.nx.trans r2.nx) p'
theorem tOp_D {r : R2} {m : O → O → Option R} (hd : OpD G r m) {ma mb : En → Res R} (h : tD G W (mOp m ma mb) σ H Q) : tOp r (tD G W ma) (tD G W mb) σ H Q :=
  two (T := fun x y H2 => r x y H2 Q) h fun F H' x y a b f g l q1 q2 F₀ B L fp H₀ en s n p => by
    refine hd F H' x y _ _ f g Q l q1 q2 ?_
    cases e : m a.o b.o with
    | none => rw [e] at p; exact p.elim
    | some z => rw [e] at p; exact fun v F3 H3 r3 => p v F3 H3 (r3.after n)
theorem tUn_D {r : V → Hp → VK → Prop} {m : O → Option R} (hd : UnD G r m) {ma : En → Res R} (h : tD G W (mUn m ma) σ H Q) : tUn r (tD G W ma) σ H Q := by
  obtain ⟨F, B, L, en, fp, s, p⟩ := h
  refine ⟨F, B, L, en, fp, s, ?_⟩
  unfold mUn at p
  cases ea : ma en with
  | stuck => rw [ea] at p; exact p.elim
  | exc x e => rw [ea] at p; exact p
  | ok a =>
    rw [ea] at p
    intro x F1 H1 r1
    obtain ⟨f, q1⟩ := r1.has
    refine hd F1 H1 x _ f Q r1.nx.le q1 ?_
    have p' : PPost G W F B L H fp Q (.of (m a.o)) := p
    cases e : m a.o with
    | none => rw [e] at p'; exact p'.elim
    | some z => rw [e] at p'; exact fun v F3 H3 r3 => p' v F3 H3 (r3.after r1.nx)
end
section
variable {X : Cx} {G : CC} {W : WX} {pos : Pos} {a b c : Expr} {ma mb mc : En → Res R}
theorem dp_op {op : Operator} {r : R2} {m : O → O → Option R} (ho : OpR X (binaryOp op) r) (hd : OpD G r m) (ha : PE X a (tD G W ma)) (hb : PE X b (tD G W mb)) : PE X (.BinOp a op b pos) (tD G W (mOp m ma mb)) :=
  (pe_op ho ha hb).imp fun _ _ _ h => tOp_D hd h
theorem dp_un {op : UnaryOp} {r : V → Hp → VK → Prop} {m : O → Option R} (ho : UnR X (unaryOp op) r) (hd : UnD G r m) (ha : PE X a (tD G W ma)) : PE X (.UnaryOp op a pos) (tD G W (mUn m ma)) :=
  (pe_un ho ha).imp fun _ _ _ h => tUn_D hd h
theorem dp_cmp {op : CmpOp} {r : R2} {m : O → O → Option R} (ho : OpR X (compareOp op) r) (hd : OpD G r m) (ha : PE X a (tD G W ma)) (hb : PE X b (tD G W mb)) (hm : behindInMarks op b = false) : PE X (.Compare a [op] [b] pos) (tD G W (mOp m ma mb)) :=
  (pe_cmpR ho ha hb hm).imp fun _ _ _ h => tOp_D hd h
end

/-! ### truth -/
def ownBl (b : Bool) : R := .own (.sh (.bl b))
def R.bl? : R → Option Bool
  | .own (.sh (.bl b)) => some b
  | _ => none
/-- a pure expression whose value is a truth, as a test -/
def mTst (m : En → Res R) (en : En) : Res Bool := (m en).bnd fun r => .of r.bl?
theorem PR.blV {G : CC} {F F' H H' : Hp} {v : V} {b : Bool} (h : PR G F F' H H' v (ownBl b)) : v = .bl b := by
  obtain ⟨f, _, q, _⟩ := h
  cases q with
  | sh q => cases q; rfl
section
variable {G : CC} {W : WX} {σ : St} {H : Hp} {Q : Bool → Hp → Prop} {X : Cx} {pos : Pos} {a b c : Expr} {m ma mb mc : En → Res R}
theorem tTest_D (h : tT G W (mTst m) σ H Q) : tTest (tD G W m) σ H Q := by
  obtain ⟨F, B, L, en, fp, s, p⟩ := h
  refine ⟨F, B, L, en, fp, s, ?_⟩
  unfold mTst at p
  cases e : m en with
  | stuck => rw [e] at p; exact p.elim
  | exc x e' => rw [e] at p; exact p
  | ok r =>
    rw [e] at p
    have p' : TPost G W F B L H fp Q (.of r.bl?) := p
    intro v F1 H1 r1
    cases r with
    | bor o => exact p'.elim
    | own o =>
      cases o with
      | sh d =>
        cases d with
        | bl k => exact ⟨k, r1.blV, p' F1 H1 r1.nx⟩
        | _ => exact p'.elim
      | _ => exact p'.elim
theorem dt_cmp {op : CmpOp} {r : R2} {m : O → O → Option R} (ho : OpR X (compareOp op) r) (hd : OpD G r m) (ha : PE X a (tD G W ma)) (hb : PE X b (tD G W mb)) (hm : behindInMarks op b = false) : PT X (.Compare a [op] [b] pos) (tT G W (mTst (mOp m ma mb))) :=
  (pt_cmpR ho ha hb hm).imp fun _ _ _ h => by
    obtain z := tTest_D h
    obtain ⟨F, B, L, en, fp, s, p⟩ := z
    exact tOp_D hd ⟨F, B, L, en, fp, s, p⟩
theorem dt_val (ha : PE X a (tD G W ma)) (he : ∀ whole, isTrue a X.env whole = (do let v ← whole; standAt a.pos; holding [v] (truthy v)) := by intro _; rfl) : PT X a (tT G W (mTst ma)) :=
  (pt_val ha he).imp fun _ _ _ h => tTest_D h
def mAnd (ma mb : En → Res Bool) (en : En) : Res Bool := (ma en).bnd fun a => if a then mb en else .ok false
def mOr (ma mb : En → Res Bool) (en : En) : Res Bool := (ma en).bnd fun a => if a then .ok true else mb en
def mNot (ma : En → Res Bool) (en : En) : Res Bool := (ma en).bnd fun a => .ok (!a)
variable {na nb : En → Res Bool} {rest : List Expr}
theorem TPost.after {F F' B H H' : Hp} {L : St} {fp : List Addr} {r : Res Bool} (n : Nx F F' H H' [] []) (h : TPost G W F B L H fp Q r) : TPost G W F' B L H' fp Q r := by
  cases r with
  | ok b => exact fun F2 H2 z => h F2 H2 (n.trans z)
  | exc x e => exact EPost.after (n.wide0 fp) h
  | stuck => exact h
theorem PPost.after {F F' B H H' : Hp} {L : St} {fp : List Addr} {r : Res R} {Q : VK} (n : Nx F F' H H' [] []) (h : PPost G W F B L H fp Q r) : PPost G W F' B L H' fp Q r := by
  cases r with
  | ok b => exact fun v F2 H2 z => h v F2 H2 (z.after n)
  | exc x e => exact EPost.after (n.wide0 fp) h
  | stuck => exact h
theorem dt_and (ha : PT X a (tT G W na)) (hb : PW X (.BoolOp .And (b :: rest) pos) (tT G W nb)) : PW X (.BoolOp .And (a :: b :: rest) pos) (tT G W (mAnd na nb)) :=
  (pw_and ha hb).imp fun σ H Q h => by
    obtain ⟨F, B, L, en, fp, s, p⟩ := h
    refine ⟨F, B, L, en, fp, s, ?_⟩
    unfold mAnd at p
    cases e : na en with
    | stuck => rw [e] at p; exact p.elim
    | exc x e' => rw [e] at p; exact p
    | ok k =>
      rw [e] at p
      intro F1 H1 n
      cases k with
      | true => exact ⟨F1, B, L, en, fp, s.pure n, TPost.after n p⟩
      | false => exact p F1 H1 n
theorem dt_or (ha : PT X a (tT G W na)) (hb : PW X (.BoolOp .Or (b :: rest) pos) (tT G W nb)) : PW X (.BoolOp .Or (a :: b :: rest) pos) (tT G W (mOr na nb)) :=
  (pw_or ha hb).imp fun σ H Q h => by
    obtain ⟨F, B, L, en, fp, s, p⟩ := h
    refine ⟨F, B, L, en, fp, s, ?_⟩
    unfold mOr at p
    cases e : na en with
    | stuck => rw [e] at p; exact p.elim
    | exc x e' => rw [e] at p; exact p
    | ok k =>
      rw [e] at p
      intro F1 H1 n
      cases k with
      | true => exact p F1 H1 n
      | false => exact ⟨F1, B, L, en, fp, s.pure n, TPost.after n p⟩
theorem dt_not (ha : PT X a (tT G W na)) : PT X (.UnaryOp .Not a pos) (tT G W (mNot na)) :=
  (pt_not ha).imp fun σ H Q h => by
    obtain ⟨F, B, L, en, fp, s, p⟩ := h
    refine ⟨F, B, L, en, fp, s, ?_⟩
    unfold mNot at p
    cases e : na en with
    | stuck => rw [e] at p; exact p.elim
    | exc x e' => rw [e] at p; exact p
    | ok k => rw [e] at p; exact p
/-- and, or, not as values -/
def mAndV (ma mb : En → Res R) (en : En) : Res R := (ma en).bnd fun a => match a.bl? with | some true => mb en | some false => .ok (ownBl false) | none => .stuck
def mOrV (ma mb : En → Res R) (en : En) : Res R := (ma en).bnd fun a => match a.bl? with | some true => .ok (ownBl true) | some false => mb en | none => .stuck
def mNotV (ma : En → Res R) (en : En) : Res R := (ma en).bnd fun a => match a.bl? with | some k => .ok (ownBl (!k)) | none => .stuck
theorem R.bl?_eq {r : R} {k : Bool} (h : r.bl? = some k) : r = ownBl k := by
  cases r with
  | bor o => cases h
  | own o =>
    cases o with
    | sh d =>
      cases d with
      | bl b => cases h; rfl
      | _ => cases h
    | _ => cases h
theorem dp_and (ha : PE X a (tD G W ma)) (hb : PE X (.BoolOp .And (b :: rest) pos) (tD G W mb)) : PE X (.BoolOp .And (a :: b :: rest) pos) (tD G W (mAndV ma mb)) :=
  (pe_and ha hb).imp fun σ H Q h => by
    obtain ⟨F, B, L, en, fp, s, p⟩ := h
    refine ⟨F, B, L, en, fp, s, ?_⟩
    unfold mAndV at p
    cases e : ma en with
    | stuck => rw [e] at p; exact p.elim
    | exc x e' => rw [e] at p; exact p
    | ok r =>
      rw [e] at p
      intro v F1 H1 r1
      cases e2 : r.bl? with
      | none => simp only [Res.bnd, e2] at p; exact p.elim
      | some k =>
        simp only [Res.bnd, e2] at p
        rw [R.bl?_eq e2] at r1
        refine ⟨k, r1.blV, ?_⟩
        cases k with
        | true => exact ⟨F1, B, L, en, fp, s.pure r1.nx, PPost.after r1.nx p⟩
        | false => exact p _ F1 H1 (PR.after r1.nx (PR.sh r1.nx.le (.bl false)))
theorem dp_or (ha : PE X a (tD G W ma)) (hb : PE X (.BoolOp .Or (b :: rest) pos) (tD G W mb)) : PE X (.BoolOp .Or (a :: b :: rest) pos) (tD G W (mOrV ma mb)) :=
  (pe_or ha hb).imp fun σ H Q h => by
    obtain ⟨F, B, L, en, fp, s, p⟩ := h
    refine ⟨F, B, L, en, fp, s, ?_⟩
    unfold mOrV at p
    cases e : ma en with
    | stuck => rw [e] at p; exact p.elim
    | exc x e' => rw [e] at p; exact p
    | ok r =>
      rw [e] at p
      intro v F1 H1 r1
      cases e2 : r.bl? with
      | none => simp only [Res.bnd, e2] at p; exact p.elim
      | some k =>
        simp only [Res.bnd, e2] at p
        rw [R.bl?_eq e2] at r1
        refine ⟨k, r1.blV, ?_⟩
        cases k with
        | true => exact p _ F1 H1 (PR.after r1.nx (PR.sh r1.nx.le (.bl true)))
        | false => exact ⟨F1, B, L, en, fp, s.pure r1.nx, PPost.after r1.nx p⟩
theorem dp_not (ha : PE X a (tD G W ma)) : PE X (.UnaryOp .Not a pos) (tD G W (mNotV ma)) :=
  (pe_not ha).imp fun σ H Q h => by
    obtain ⟨F, B, L, en, fp, s, p⟩ := h
    refine ⟨F, B, L, en, fp, s, ?_⟩
    unfold mNotV at p
    cases e : ma en with
    | stuck => rw [e] at p; exact p.elim
    | exc x e' => rw [e] at p; exact p
    | ok r =>
      rw [e] at p
      intro v F1 H1 r1
      cases e2 : r.bl? with
      | none => simp only [Res.bnd, e2] at p; exact p.elim
      | some k =>
        simp only [Res.bnd, e2] at p
        rw [R.bl?_eq e2] at r1
        exact ⟨k, r1.blV, p _ F1 H1 (PR.after r1.nx (PR.sh r1.nx.le (.bl (!k))))⟩
/-- a if t else b -/
def mIf (t : En → Res Bool) (ma mb : En → Res R) (en : En) : Res R := (t en).bnd fun k => if k then ma en else mb en
theorem dp_if (hc : PT X c (tT G W na)) (ha : PE X a (tD G W ma)) (hb : PE X b (tD G W mb)) : PE X (.IfExp c a b pos) (tD G W (mIf na ma mb)) :=
  (pe_ifExp hc ha hb).imp fun σ H Q h => by
    obtain ⟨F, B, L, en, fp, s, p⟩ := h
    refine ⟨F, B, L, en, fp, s, ?_⟩
    unfold mIf at p
    cases e : na en with
    | stuck => rw [e] at p; exact p.elim
    | exc x e' => rw [e] at p; exact p
    | ok k =>
      rw [e] at p
      intro F1 H1 n
      cases k with
      | true => exact ⟨F1, B, L, en, fp, s.pure n, PPost.after n p⟩
      | false => exact ⟨F1, B, L, en, fp, s.pure n, PPost.after n p⟩
/-- a chain a op b op' c -/
def mChain (m m' : O → O → Option R) (ma mb mc : En → Res R) (en : En) : Res R :=
  (ma en).bnd fun a => (mb en).bnd fun b => (Res.of (m a.o b.o)).bnd fun z => match z.bl? with
    | some true => (mc en).bnd fun c => .of (m' b.o c.o)
    | some false => .ok (ownBl false)
    | none => .stuck
theorem tChain_D {r r' : R2} {m m' : O → O → Option R} (hd : OpD G r m) (hd' : OpD G r' m') {σ : St} {H : Hp} {Q : VK} (h : tD G W (mChain m m' ma mb mc) σ H Q) : tChain r r' (tD G W ma) (tD G W mb) (tD G W mc) σ H Q := by
  obtain ⟨F, B, L, en, fp, s, p⟩ := h
  refine ⟨F, B, L, en, fp, s, ?_⟩
  unfold mChain at p
  cases ea : ma en with
  | stuck => rw [ea] at p; exact p.elim
  | exc x e => rw [ea] at p; exact p
  | ok a =>
    rw [ea] at p
    intro x F1 H1 r1
    refine ⟨F1, B, L, en, fp, s.pure r1.nx, ?_⟩
    simp only [Res.bnd] at p
    cases eb : mb en with
    | stuck => rw [eb] at p; exact p.elim
    | exc x e => rw [eb] at p; exact EPost.after (r1.nx.wide0 fp) p
    | ok b =>
      rw [eb] at p
      simp only [Res.bnd] at p
      intro y F2 H2 r2
      obtain ⟨f, q1⟩ := r1.has
      obtain ⟨g, q2⟩ := r2.has
      refine hd F2 H2 x y _ _ f g _ r2.nx.le (q1.le r2.nx.ff fun c u _ e => r2.nx.keep c u e) q2 ?_
      cases e : m a.o b.o with
      | none => rw [e] at p; exact p.elim
      | some z =>
        rw [e] at p
        simp only [Res.of, Res.bnd] at p
        intro v F3 H3 r3
        cases e2 : z.bl? with
        | none => simp only [e2] at p; exact p.elim
        | some k =>
          simp only [e2] at p
          rw [R.bl?_eq e2] at r3
          have n3 := (r1.nx.trans r2.nx).trans r3.nx
          refine ⟨k, r3.blV, ?_⟩
          cases k with
          | false => exact p _ F3 H3 (PR.after n3 (PR.sh r3.nx.le (.bl false)))
          | true =>
            rw [if_pos rfl]
            refine ⟨F3, B, L, en, fp, s.pure n3, ?_⟩
            simp only at p
            cases ec : mc en with
            | stuck => rw [ec] at p; exact p.elim
            | exc x e => rw [ec] at p; exact EPost.after (n3.wide0 fp) p
            | ok c =>
              rw [ec] at p
              intro w F4 H4 r4
              obtain ⟨g4, q4⟩ := r4.has
              have n34 := r3.nx.trans r4.nx
              refine hd' F4 H4 y w _ _ g g4 Q r4.nx.le (q2.le n34.ff fun c u _ e => n34.keep c u e) q4 ?_
              have p' : PPost G W F B L H fp Q (.of (m' b.o c.o)) := p
              cases e5 : m' b.o c.o with
              | none => rw [e5] at p'; exact p'.elim
              | some z5 => rw [e5] at p'; exact fun v F5 H5 r5 => p' v F5 H5 (r5.after (n3.trans r4.nx))
theorem dp_chain {op op' : CmpOp} {r r' : R2} {m m' : O → O → Option R} (ho : OpR X (compareOp op) r) (ho' : OpR X (compareOp op') r') (hd : OpD G r m) (hd' : OpD G r' m') (ha : PE X a (tD G W ma)) (hb : PE X b (tD G W mb)) (hc : PE X c (tD G W mc))
    (h1 : lastMarks [op, op'] [b, c] = false := by with_unfolding_all rfl) : PE X (.Compare a [op, op'] [b, c] pos) (tD G W (mChain m m' ma mb mc)) :=
  (pe_chain ho ho' ha hb hc h1).imp fun _ _ _ h => tChain_D hd hd' h
theorem dt_chain {op op' : CmpOp} {r r' : R2} {m m' : O → O → Option R} (ho : OpR X (compareOp op) r) (ho' : OpR X (compareOp op') r') (hd : OpD G r m) (hd' : OpD G r' m') (ha : PE X a (tD G W ma)) (hb : PE X b (tD G W mb)) (hc : PE X c (tD G W mc))
    (h1 : lastMarks [op, op'] [b, c] = false := by with_unfolding_all rfl) : PT X (.Compare a [op, op'] [b, c] pos) (tT G W (mTst (mChain m m' ma mb mc))) :=
  (pt_chain ho ho' ha hb hc h1).imp fun _ _ _ h => by
    obtain ⟨F, B, L, en, fp, s, p⟩ := tTest_D h
    exact tChain_D hd hd' ⟨F, B, L, en, fp, s, p⟩
end
end DL

set_option maxHeartbeats 1000000
/-! DD: operators on data -/
namespace DL
open PySem PySem.Spec L2
open PyProof.Rows hiding St

/-! ### looks at data -/
mutual
/-- frozen -/
def O.fz : O → D
  | .sh d => d
  | .lst l => .lst (O.fzs l)
  | .tup l => .tup (O.fzs l)
  | .dct _ l => .dct (O.fzd l)
  | .ins c l => .ins c (O.fzs l)
def O.fzs : List O → List D
  | [] => []
  | o :: os => o.fz :: O.fzs os
def O.fzd : List (D × O) → List (D × D)
  | [] => []
  | (k, o) :: os => (k, o.fz) :: O.fzd os
end
theorem O.fzs_map (l : List O) : O.fzs l = l.map O.fz := by
  induction l with
  | nil => rfl
  | cons o os ih => simp [O.fzs, ih]
theorem O.fzd_1 (l : List (D × O)) : (O.fzd l).map (·.1) = l.map (·.1) := by
  induction l with
  | nil => rfl
  | cons o os ih => obtain ⟨k, o⟩ := o; simp only [O.fzd, List.map_cons, ih]
theorem O.fzd_2 (l : List (D × O)) : (O.fzd l).map (·.2) = O.fzs (l.map (·.2)) := by
  induction l with
  | nil => rfl
  | cons o os ih => obtain ⟨k, o⟩ := o; simp only [O.fzd, O.fzs, List.map_cons, ih]
/-- all frozen -/
def shs : List O → Option (List D)
  | [] => some []
  | .sh d :: os => (shs os).map (d :: ·)
  | _ => none
theorem shs_eq : ∀ {os : List O} {ds : List D}, shs os = some ds → os = ds.map .sh
  | [], ds, h => by cases h; rfl
  | .sh d :: os, ds, h => by
    simp only [shs, Option.map_eq_some_iff] at h
    obtain ⟨r, h, rfl⟩ := h
    rw [shs_eq h]
    rfl
  | .lst _ :: _, _, h => by cases h
  | .tup _ :: _, _, h => by cases h
  | .dct _ _ :: _, _, h => by cases h
  | .ins _ _ :: _, _, h => by cases h
@[simp] theorem shs_map (ds : List D) : shs (ds.map .sh) = some ds := by
  induction ds with
  | nil => rfl
  | cons d ds ih => simp [shs, ih]
/-- a list's items, a tuple's, all frozen -/
def O.lst? : O → Option (List D)
  | .sh (.lst l) => some l
  | .lst os => shs os
  | _ => none
def O.tup? : O → Option (List D)
  | .sh (.tup l) => some l
  | .tup os => shs os
  | _ => none
def O.seq? (o : O) : Option (List D) := match o.lst? with
  | some l => some l
  | none => o.tup?
section
variable {G : CC} {F H : Hp} {v : V} {o : O} {f : List Addr}
theorem Own.lstOf (l : Le F H) (h : Own G F H v o f) {ds : List D} (e : o.lst? = some ds) : ∃ a vs, v = .ref a ∧ SqL G.K H a vs ∧ Reps G F vs ds := by
  cases h with
  | sh r =>
    cases r with
    | lst s r => cases e; exact ⟨_, _, rfl, SqL.le l s, r⟩
    | _ => cases e
  | lst ha r =>
    rw [shs_eq e] at r
    exact ⟨_, _, rfl, SqL.of ha, r.to_sh.1⟩
  | _ => cases e
theorem Own.tupOf (l : Le F H) (h : Own G F H v o f) {ds : List D} (e : o.tup? = some ds) : ∃ a vs, v = .ref a ∧ SqT G.K H a vs ∧ Reps G F vs ds := by
  cases h with
  | sh r =>
    cases r with
    | tup s r => cases e; exact ⟨_, _, rfl, SqT.le l s, r⟩
    | _ => cases e
  | tup ha r =>
    rw [shs_eq e] at r
    exact ⟨_, _, rfl, .of ha, r.to_sh.1⟩
  | _ => cases e
theorem Own.intV {i : Int} (h : Own G F H v (.sh (.int i)) f) : v = .int i := by
  cases h with
  | sh h => cases h; rfl
theorem Own.strV {s : List Nat} (h : Own G F H v (.sh (.str s)) f) : v = .str (SX.S s) := by
  cases h with
  | sh h => cases h; rfl
theorem Own.blV {b : Bool} (h : Own G F H v (.sh (.bl b)) f) : v = .bl b := by
  cases h with
  | sh h => cases h; rfl
theorem Own.nonV (h : Own G F H v (.sh .non) f) : v = .non := by
  cases h with
  | sh h => cases h; rfl
theorem Own.repOf {d : D} (h : Own G F H v (.sh d) f) : Rep G F v d := by
  cases h with
  | sh h => exact h
end

/-! ### results -/
def rSh (d : D) : Option R := some (.own (.sh d))
def rInt (i : Int) : Option R := rSh (.int i)
def rBl (b : Bool) : Option R := rSh (.bl b)
/-- a new list of frozen things -/
def rLst (l : List D) : Option R := some (.own (.lst (l.map .sh)))
section
variable {G : CC} {F H : Hp} {Q : VK}
theorem vp_sh {d : D} {v : V} (l : Le F H) (r : Rep G F v d) (p : VPost G F H Q (rSh d)) : Q v H := p v F H (.sh l r)
theorem vp_lst {vs : List V} {ds : List D} {p : Addr} (l : Le F H) (hp : H p = none) (r : Reps G F vs ds) (q : VPost G F H Q (rLst ds)) : Q (.ref p) (upd H p (.lst vs)) :=
  q _ F _ ⟨[p], Nx.newO l hp [p] (fun a m => .inr (by simpa using m)), .lst upd_same (Owns.of_sh r), by simp, fun a m => by
    have e : a = p := by simpa using m
    rw [e]; exact l.noneOf hp⟩
/-- a new frozen tuple -/
theorem vp_tup {vs : List V} {ds : List D} {p : Addr} (l : Le F H) (hp : H p = none) (r : Reps G F vs ds) (q : VPost G F H Q (rSh (.tup ds))) : Q (.ref p) (upd H p (.tup vs)) := by
  have n := Nx.newF (F := F) (o := .tup vs) l hp
  exact q _ (upd F p (.tup vs)) _ ⟨[], n, .sh (.tup (.of upd_same) (r.le n.ff)), List.nodup_nil, fun _ m => nomatch m⟩
end

/-! ### alternatives -/
def orR (m m' : O → O → Option R) (a b : O) : Option R := match m a b with
  | some r => some r
  | none => m' a b
theorem OpD.or {G : CC} {r r' : R2} {m m' : O → O → Option R} (h : OpD G r m) (h' : OpD G r' m') : OpD G (fun x y H Q => r x y H Q ∨ r' x y H Q) (orR m m') := by
  intro F H x y a b f g Q l ha hb p
  unfold orR at p
  cases e : m a b with
  | some z => rw [e] at p; exact .inl (h F H x y a b f g Q l ha hb (by rw [e]; exact p))
  | none => rw [e] at p; exact .inr (h' F H x y a b f g Q l ha hb p)
def O.int? : O → Option Int
  | .sh (.int i) => some i
  | _ => none
def O.str? : O → Option (List Nat)
  | .sh (.str s) => some s
  | _ => none
def O.bl? : O → Option Bool
  | .sh (.bl b) => some b
  | _ => none
theorem O.int?_eq {o : O} {i : Int} (h : o.int? = some i) : o = .sh (.int i) := by
  cases o with
  | sh d =>
    cases d with
    | int j => cases h; rfl
    | _ => cases h
  | _ => cases h
theorem O.str?_eq {o : O} {i : List Nat} (h : o.str? = some i) : o = .sh (.str i) := by
  cases o with
  | sh d =>
    cases d with
    | str j => cases h; rfl
    | _ => cases h
  | _ => cases h
theorem O.bl?_eq {o : O} {i : Bool} (h : o.bl? = some i) : o = .sh (.bl i) := by
  cases o with
  | sh d =>
    cases d with
    | bl j => cases h; rfl
    | _ => cases h
  | _ => cases h
/-- two ints, under a condition -/
def opI (C : Int → Int → Bool) (g : Int → Int → D) (a b : O) : Option R := match a.int?, b.int? with
  | some i, some j => if C i j then rSh (g i j) else none
  | _, _ => none
theorem opI_ok {G : CC} {C : Int → Int → Bool} {P : Int → Int → Prop} {g : Int → Int → D} {gv : Int → Int → V} (hC : ∀ i j, C i j = true → P i j) (hg : ∀ F i j, Rep G F (gv i j) (g i j)) : OpD G (rI P gv) (opI C g) := by
  intro F H x y a b f g' Q l ha hb p
  unfold opI at p
  cases e1 : a.int? with
  | none => simp only [e1] at p; exact p.elim
  | some i =>
    cases e2 : b.int? with
    | none => simp only [e1, e2] at p; exact p.elim
    | some j =>
      simp only [e1, e2] at p
      rw [O.int?_eq e1] at ha
      rw [O.int?_eq e2] at hb
      split at p
      · rename_i hc
        exact ⟨i, j, ha.intV, hb.intV, hC i j hc, vp_sh l (hg F i j) p⟩
      · exact p.elim
theorem opI0_ok {G : CC} {g : Int → Int → D} {gv : Int → Int → V} (hg : ∀ F i j, Rep G F (gv i j) (g i j)) : OpD G (rI0 gv) (opI (fun _ _ => true) g) := by
  intro F H x y a b f g' Q l ha hb p
  obtain ⟨i, j, e1, e2, _, q⟩ := opI_ok (G := G) (C := fun _ _ => true) (P := fun _ _ => True) (fun _ _ _ => trivial) hg F H x y a b f g' Q l ha hb p
  exact ⟨i, j, e1, e2, q⟩

/-! ### + -/
def ML : Nat := 16777216
theorem ML_eq : (ML : Nat) = sizeLine := by rw [sizeLine_eq]; rfl
def addS (a b : O) : Option R := match a.str?, b.str? with
  | some s, some t => if s.length + t.length ≤ ML then rSh (.str (s ++ t)) else none
  | _, _ => none
def addL (a b : O) : Option R := match a.lst?, b.lst? with
  | some x, some y => if x.length + y.length ≤ ML then rLst (x ++ y) else none
  | _, _ => none
def D.tup? : D → Option (List D)
  | .tup l => some l
  | _ => none
def O.sh? : O → Option D
  | .sh d => some d
  | _ => none
theorem O.sh?_eq {o : O} {d : D} (h : o.sh? = some d) : o = .sh d := by
  cases o with
  | sh e => cases h; rfl
  | _ => cases h
theorem D.tup?_eq {d : D} {l : List D} (h : d.tup? = some l) : d = .tup l := by
  cases d with
  | tup e => cases h; rfl
  | _ => cases h
def O.ftup? (o : O) : Option (List D) := o.sh?.bind D.tup?
theorem O.ftup?_eq {o : O} {l : List D} (h : o.ftup? = some l) : o = .sh (.tup l) := by
  unfold O.ftup? at h
  cases e : o.sh? with
  | none => rw [e] at h; cases h
  | some d =>
    rw [e] at h
    rw [O.sh?_eq e, D.tup?_eq (show d.tup? = some l from h)]
def addT (a b : O) : Option R := match a.ftup?, b.ftup? with
  | some x, some y => if x.length + y.length ≤ ML then rSh (.tup (x ++ y)) else none
  | _, _ => none
def addO : O → O → Option R := orR (opI (fun _ _ => true) fun i j => .int (i + j)) (orR addS (orR addL addT))
/-- list + list -/
def rCatL (K : PySem.W.Frag) : R2 := fun x y H Q => ∃ l b xs zs, x = .ref l ∧ y = .ref b ∧ SqL K H l xs ∧ SqL K H b zs ∧ xs.length + zs.length ≤ sizeLine ∧ ∀ p, H p = none → Q (.ref p) (upd H p (.lst (xs ++ zs)))
theorem op_catL {X : Cx} : OpR X (binaryOp .Add) (rCatL X.K) := by
  intro pins s σ H x y v u Q I rx ry h
  obtain ⟨l, b, xs, zs, rfl, rfl, hH, hB, hz, q⟩ := h
  cases rx
  cases ry
  obtain ⟨its, r, ⟨⟨cls, dd, data, sl⟩, n, e, hc, hdd, hd⟩, _⟩ := I.list hH
  obtain ⟨its2, r2, ⟨⟨cls2, dd2, data2, sl2⟩, n2, e2, hc2, hdd2, hd2⟩, _⟩ := I.list hB
  simp only at hc hd hc2 hd2
  subst hc hd hc2 hd2
  have h1 := r.length
  have h2 := r2.length
  have ea : its.toArray ++ its2.toArray = (its ++ its2).toArray := by simp
  refine concat_meets ⟨_, e, rfl⟩ ⟨_, e2, rfl⟩ noFill_list_add seq_list_add PySem.F.slot_list_add PySem.F.entry_list_add (PySem.F.args_list_add_2 _ _) (PyProof.Rows.list_addW l b its.toArray its2.toArray n n2 dd dd2 sl sl2 (by rw [List.size_toArray, List.size_toArray]; omega)) ⟨e, e2, ?_⟩
  rw [ea]
  exact ⟨.ref _, _, I.lnew (t' := s.toks) (r.append r2) (by rw [List.length_append]; omega), rfl, q _ I.fresh⟩
def rAddS : R2 := fun x y H Q => ∃ i j, x = .str i ∧ y = .str j ∧ i.length + j.length ≤ sizeLine ∧ Q (.str (i ++ j)) H
abbrev rAddO (K : PySem.W.Frag) : R2 := fun x y H Q => rI0 (fun i j => .int (i + j)) x y H Q ∨ rAddS x y H Q ∨ rCatL K x y H Q ∨ rCatA K x y H Q
theorem op_addO {X : Cx} : OpR X (binaryOp .Add) (rAddO X.K) := op_add.or (OpR.or (r := rAddS) op_add_str (op_catL.or op_catA))
theorem addS_ok {G : CC} : OpD G rAddS addS := by
  intro F H x y a b f g Q l ha hb p
  unfold addS at p
  cases e1 : a.str? with
  | none => simp only [e1] at p; exact p.elim
  | some s =>
    cases e2 : b.str? with
    | none => simp only [e1, e2] at p; exact p.elim
    | some t =>
      simp only [e1, e2] at p
      rw [O.str?_eq e1] at ha
      rw [O.str?_eq e2] at hb
      split at p
      · rename_i hz
        refine ⟨_, _, ha.strV, hb.strV, by rw [SX.S_len, SX.S_len, ← ML_eq]; exact hz, ?_⟩
        rw [SX.S_cat]
        exact vp_sh l (.str _) p
      · exact p.elim
theorem addL_ok {G : CC} : OpD G (rCatL G.K) addL := by
  intro F H x y a b f g Q l ha hb p
  unfold addL at p
  cases e1 : a.lst? with
  | none => simp only [e1] at p; exact p.elim
  | some s =>
    cases e2 : b.lst? with
    | none => simp only [e1, e2] at p; exact p.elim
    | some t =>
      simp only [e1, e2] at p
      split at p
      · rename_i hz
        obtain ⟨a1, vs, rfl, s1, r1⟩ := ha.lstOf l e1
        obtain ⟨a2, ws, rfl, s2, r2⟩ := hb.lstOf l e2
        exact ⟨a1, a2, vs, ws, rfl, rfl, s1, s2, by rw [r1.length, r2.length, ← ML_eq]; exact hz, fun p' hp => vp_lst l hp (r1.append r2) p⟩
      · exact p.elim
theorem addT_ok {G : CC} : OpD G (rCatA G.K) addT := by
  intro F H x y a b f g Q l ha hb p
  unfold addT at p
  cases e1 : a.ftup? with
  | none => simp only [e1] at p; exact p.elim
  | some s =>
    cases e2 : b.ftup? with
    | none => simp only [e1, e2] at p; exact p.elim
    | some t =>
      simp only [e1, e2] at p
      rw [O.ftup?_eq e1] at ha
      rw [O.ftup?_eq e2] at hb
      have ra0 := ha.repOf
      have rb0 := hb.repOf
      split at p
      · rename_i hz
        obtain ⟨a1, vs, rfl, s1, r1⟩ := ha.tupOf l rfl
        obtain ⟨a2, ws, rfl, s2, r2⟩ := hb.tupOf l rfl
        refine ⟨a1, a2, vs, ws, rfl, rfl, s1, s2, by rw [r1.length, r2.length, ← ML_eq]; exact hz, fun e => ?_, fun _ e => ?_, fun _ _ p' hp => vp_tup l hp (r1.append r2) p⟩
        · subst e
          cases r1
          exact vp_sh l rb0 p
        · subst e
          cases r2
          rw [List.append_nil] at p
          exact vp_sh l ra0 p
      · exact p.elim
theorem addO_ok {G : CC} : OpD G (rAddO G.K) addO := (opI0_ok fun _ _ _ => .int _).or (addS_ok.or (addL_ok.or addT_ok))

/-! ### the other numbers' operators -/
def subO : O → O → Option R := opI (fun _ _ => true) fun i j => .int (i - j)
theorem subO_ok {G : CC} : OpD G (rI0 fun i j => .int (i - j)) subO := opI0_ok fun _ _ _ => .int _
/-- |i| < n, by a look that never unfolds n beside an open i -/
def lim (n : Nat) (i : Int) : Bool := Nat.ble (i.natAbs + 1) n
theorem lim_iff {n : Nat} {i : Int} : lim n i = true ↔ i.natAbs < n := by
  unfold lim
  exact ⟨fun h => Nat.le_of_ble_eq_true h, fun h => Nat.ble_eq_true_of_le h⟩
def W64 (i : Int) : Bool := lim (2 ^ 64) i
theorem W64_iff {i : Int} : W64 i = true ↔ -(2 ^ 64) < i ∧ i < 2 ^ 64 := by
  unfold W64
  rw [lim_iff]
  omega
def mulO0 : O → O → Option R := opI (fun i j => W64 i || W64 j) fun i j => .int (i * j)
theorem mulO0_ok {G : CC} : OpD G (rI CMul fun i j => .int (i * j)) mulO0 := opI_ok (fun i j h => by
  rw [Bool.or_eq_true, W64_iff, W64_iff] at h
  exact h) fun _ _ _ => .int _
def modO : O → O → Option R := opI (fun _ j => decide (0 < j)) fun i j => .int (i % j)
theorem modO_ok {G : CC} : OpD G (rI (fun _ j => 0 < j) fun i j => .int (i % j)) modO := opI_ok (fun i j h => by simpa using h) fun _ _ _ => .int _
/-- a divisor below 2 ^ 9000 -/
def fdivO : O → O → Option R := opI (fun _ j => decide (0 < j) && decide (j.natAbs.log2 < 9000)) fun i j => .int (i / j)
theorem fdivO_ok {G : CC} : OpD G (rI CDivW fun i j => .int (i / j)) fdivO := opI_ok (fun i j h => by
  simpa [CDivW] using h) fun _ _ _ => .int _
def powO : O → O → Option R := opI (fun i j => decide (0 ≤ j) && (lim 1000001 j && lim (2 ^ 64) i)) fun i j => .int (i ^ j.toNat)
theorem powO_ok {G : CC} : OpD G (rI CPow fun i j => .int (i ^ j.toNat)) powO := opI_ok (fun i j h => by
  simp only [Bool.and_eq_true, decide_eq_true_eq, lim_iff] at h
  exact ⟨h.1, by omega, h.2.2⟩) fun _ _ _ => .int _
def shlO : O → O → Option R := opI (fun i j => decide (0 ≤ j) && (lim 1000001 j && lim (2 ^ 64) i)) fun i j => .int (i * 2 ^ j.toNat)
theorem shlO_ok {G : CC} : OpD G (rI CPow fun i j => .int (i * 2 ^ j.toNat)) shlO := opI_ok (fun i j h => by
  simp only [Bool.and_eq_true, decide_eq_true_eq, lim_iff] at h
  exact ⟨h.1, by omega, h.2.2⟩) fun _ _ _ => .int _
def negO (a : O) : Option R := match a.int? with
  | some i => rInt (-i)
  | none => none
theorem negO_ok {G : CC} : UnD G (rU fun i => .int (-i)) negO := by
  intro F H x a f Q l ha p
  unfold negO at p
  cases e1 : a.int? with
  | none => simp only [e1] at p; exact p.elim
  | some i =>
    simp only [e1] at p
    rw [O.int?_eq e1] at ha
    exact ⟨i, ha.intV, vp_sh l (.int _) p⟩

/-! ### order of ints and texts -/
/-- of two texts: the list of code points -/
def opS (g : List Nat → List Nat → Bool) (a b : O) : Option R := match a.str?, b.str? with
  | some s, some t => rBl (g s t)
  | _, _ => none
def rS (g : List Nat → List Nat → Bool) : R2 := fun x y H Q => ∃ i j, x = .str i ∧ y = .str j ∧ Q (.bl (g i.cps.toList j.cps.toList)) H
theorem opS_ok {G : CC} {g : List Nat → List Nat → Bool} : OpD G (rS g) (opS g) := by
  intro F H x y a b f g' Q l ha hb p
  unfold opS at p
  cases e1 : a.str? with
  | none => simp only [e1] at p; exact p.elim
  | some s =>
    cases e2 : b.str? with
    | none => simp only [e1, e2] at p; exact p.elim
    | some t =>
      simp only [e1, e2] at p
      rw [O.str?_eq e1] at ha
      rw [O.str?_eq e2] at hb
      exact ⟨_, _, ha.strV, hb.strV, vp_sh l (.bl _) p⟩
def ltO : O → O → Option R := orR (opI (fun _ _ => true) fun i j => .bl (decide (i < j))) (opS fun s t => decide (s < t))
abbrev rLtO : R2 := fun x y H Q => rI0 (fun i j => .bl (decide (i < j))) x y H Q ∨ rS (fun s t => decide (s < t)) x y H Q
theorem op_ltO {X : Cx} : OpR X (compareOp .Lt) rLtO := op_lt.or (r' := rS fun s t => decide (s < t)) op_lt_str
theorem ltO_ok {G : CC} : OpD G rLtO ltO := (opI0_ok fun _ _ _ => .bl _).or opS_ok
def leO : O → O → Option R := opI (fun _ _ => true) fun i j => .bl (decide (i ≤ j))
theorem leO_ok {G : CC} : OpD G (rI0 fun i j => .bl (decide (i ≤ j))) leO := opI0_ok fun _ _ _ => .bl _
def gtO : O → O → Option R := opI (fun _ _ => true) fun i j => .bl (decide (j < i))
theorem gtO_ok {G : CC} : OpD G (rI0 fun i j => .bl (decide (j < i))) gtO := opI0_ok fun _ _ _ => .bl _
def geO : O → O → Option R := opI (fun _ _ => true) fun i j => .bl (decide (j ≤ i))
theorem geO_ok {G : CC} : OpD G (rI0 fun i j => .bl (decide (j ≤ i))) geO := opI0_ok fun _ _ _ => .bl _
end DL

set_option maxHeartbeats 1000000
/-! DE: equality, is, in -/
namespace DL
open PySem PySem.Spec L2
open PyProof.Rows hiding St

/-! ### == -/
mutual
def D.py : D → PyData
  | .bl b => .bool b
  | .int i => .int i
  | .str s => .str (SX.S s)
  | .tup l => .tuple (D.pys l)
  | .lst l => .list (D.pys l)
  | _ => .none
def D.pys : List D → List PyData
  | [] => []
  | d :: ds => d.py :: D.pys ds
end
mutual
def deq : D → D → Bool
  | .non, .non => true
  | .bl a, .bl b => a == b
  | .bl a, .int j => (if a then 1 else 0) == j
  | .int i, .bl b => i == (if b then 1 else 0)
  | .int i, .int j => i == j
  | .str a, .str b => a == b
  | .tup a, .tup b => deqs a b
  | .lst a, .lst b => deqs a b
  | _, _ => false
def deqs : List D → List D → Bool
  | [], [] => true
  | x :: xs, y :: ys => deq x y && deqs xs ys
  | _, _ => false
end
/-- plain data of such a depth at most -/
def pl : Nat → D → Bool
  | _, .non => true
  | _, .bl _ => true
  | _, .int _ => true
  | _, .str s => s.all (· < 0x110000)
  | n + 1, .tup l => l.all (pl n)
  | n + 1, .lst l => l.all (pl n)
  | _, _ => false
theorem D.pys_map (l : List D) : D.pys l = l.map D.py := by
  induction l with
  | nil => rfl
  | cons o os ih => simp [D.pys, ih]
theorem strOk_S (s : List Nat) : PyData.strOk (SX.S s) = s.all (· < 0x110000) := by
  show (s.toArray).all _ = _
  simp
mutual
theorem pl_can : ∀ (n : Nat) (d : D), pl n d = true → d.py.canLay0 = true ∧ d.py.depth ≤ n
  | n, .non, _ => by simp [D.py, PyData.canLay0, PyData.depth]
  | n, .bl _, _ => by simp [D.py, PyData.canLay0, PyData.depth]
  | n, .int _, _ => by simp [D.py, PyData.canLay0, PyData.depth]
  | n, .str s, h => by
    have h' : PyData.strOk (SX.S s) = true := by rw [strOk_S]; simpa [pl] using h
    simp [D.py, PyData.canLay0, PyData.depth, h']
  | n + 1, .tup l, h => by
    obtain ⟨a, b⟩ := pls_can n l (by simpa [pl] using h)
    simp only [D.py, PyData.canLay0, PyData.depth]
    exact ⟨a, by omega⟩
  | n + 1, .lst l, h => by
    obtain ⟨a, b⟩ := pls_can n l (by simpa [pl] using h)
    simp only [D.py, PyData.canLay0, PyData.depth]
    exact ⟨a, by omega⟩
  | 0, .tup _, h => by cases h
  | 0, .lst _, h => by cases h
  | 0, .dct _, h => by cases h
  | 0, .ins _ _, h => by cases h
  | 0, .exc _ _, h => by cases h
  | 0, .fn _, h => by cases h
  | n + 1, .dct _, h => by cases h
  | n + 1, .ins _ _, h => by cases h
  | n + 1, .exc _ _, h => by cases h
  | n + 1, .fn _, h => by cases h
theorem pls_can : ∀ (n : Nat) (l : List D), (∀ d ∈ l, pl n d = true) → PyData.canLayAll0 (D.pys l) = true ∧ PyData.depthAll (D.pys l) ≤ n
  | n, [], _ => by simp [D.pys, PyData.canLayAll0, PyData.depthAll]
  | n, d :: ds, h => by
    obtain ⟨a, b⟩ := pl_can n d (h d (List.mem_cons_self ..))
    obtain ⟨a', b'⟩ := pls_can n ds fun d m => h d (List.mem_cons_of_mem _ m)
    simp only [D.pys, PyData.canLayAll0, PyData.depthAll, a, a', Bool.and_self, true_and]
    omega
end
theorem pl_shaped {d : D} (h : pl 60 d = true) : SeqAt.shaped d.py = true := by
  obtain ⟨a, b⟩ := pl_can 60 d h
  unfold SeqAt.shaped
  rw [a, Bool.true_and]
  exact decide_eq_true (by omega)
mutual
theorem deq_py : ∀ (n m : Nat) (a b : D), pl n a = true → pl m b = true → PyData.eqv a.py b.py = deq a b
  | n, m, .non, b, _, h => by cases b <;> first | rfl | (cases m <;> cases h)
  | n, m, .bl _, b, _, h => by cases b <;> first | rfl | (cases m <;> cases h)
  | n, m, .int _, b, _, h => by cases b <;> first | rfl | (cases m <;> cases h)
  | n, m, .str s, b, _, h => by
    cases b <;> first
      | rfl
      | (cases m <;> cases h)
      | (simp only [D.py, PyData.eqv, deq]; exact SX.S_beq _ _)
  | n + 1, m, .tup l, b, g, h => by
    cases b with
    | tup k =>
      cases m with
      | zero => cases h
      | succ m =>
        simp only [D.py, PyData.eqv, deq]
        exact deqs_py n m l k (by simpa [pl] using g) (by simpa [pl] using h)
    | _ => first | rfl | (cases m <;> cases h)
  | n + 1, m, .lst l, b, g, h => by
    cases b with
    | lst k =>
      cases m with
      | zero => cases h
      | succ m =>
        simp only [D.py, PyData.eqv, deq]
        exact deqs_py n m l k (by simpa [pl] using g) (by simpa [pl] using h)
    | _ => first | rfl | (cases m <;> cases h)
  | 0, _, .tup _, _, h, _ => by cases h
  | 0, _, .lst _, _, h, _ => by cases h
  | 0, _, .dct _, _, h, _ => by cases h
  | 0, _, .ins _ _, _, h, _ => by cases h
  | 0, _, .exc _ _, _, h, _ => by cases h
  | 0, _, .fn _, _, h, _ => by cases h
  | n + 1, _, .dct _, _, h, _ => by cases h
  | n + 1, _, .ins _ _, _, h, _ => by cases h
  | n + 1, _, .exc _ _, _, h, _ => by cases h
  | n + 1, _, .fn _, _, h, _ => by cases h
theorem deqs_py : ∀ (n m : Nat) (l k : List D), (∀ d ∈ l, pl n d = true) → (∀ d ∈ k, pl m d = true) → PyData.eqvAll (D.pys l) (D.pys k) = deqs l k
  | n, m, [], [], _, _ => by simp [D.pys, PyData.eqvAll, deqs]
  | n, m, [], _ :: _, _, _ => by simp [D.pys, PyData.eqvAll, deqs]
  | n, m, _ :: _, [], _, _ => by simp [D.pys, PyData.eqvAll, deqs]
  | n, m, a :: l, b :: k, g, h => by
    simp only [D.pys, PyData.eqvAll, deqs]
    rw [deq_py n m a b (g a (List.mem_cons_self ..)) (h b (List.mem_cons_self ..)), deqs_py n m l k (fun d q => g d (List.mem_cons_of_mem _ q)) fun d q => h d (List.mem_cons_of_mem _ q)]
end
section
variable {G : CC} {F H : Hp}
mutual
theorem Rep.dp (l : Le F H) : ∀ (n : Nat) {v : V} {d : D}, Rep G F v d → pl n d = true → Dp G.K H v d.py
  | _, _, _, .non, _ => .non
  | _, _, _, .bl b, _ => .bl b
  | _, _, _, .int i, _ => .int i
  | _, _, _, .str s, _ => .str _
  | 0, _, _, .tup _ _, h => by cases h
  | 0, _, _, .lst _ _, h => by cases h
  | 0, _, _, .ins _ _ _, h => by cases h
  | 0, _, _, .dct _ _ _, h => by cases h
  | 0, _, _, .dcT _ _ _, h => by cases h
  | n + 1, _, _, .tup s r, h => .tup (SqT.le l s) (Reps.dp l n r (by simpa [pl] using h))
  | n + 1, _, _, .lst s r, h => .lst (SqL.le l s) (Reps.dp l n r (by simpa [pl] using h))
  | n + 1, _, _, .ins _ _ _, h => by cases h
  | n + 1, _, _, .dct _ _ _, h => by cases h
  | n + 1, _, _, .dcT _ _ _, h => by cases h
theorem Reps.dp (l : Le F H) : ∀ (n : Nat) {vs : List V} {ds : List D}, Reps G F vs ds → (∀ d ∈ ds, pl n d = true) → DpAll G.K H vs (D.pys ds)
  | _, _, _, .nil, _ => .nil
  | n, _, _, .cons h r, k => .cons (Rep.dp l n h (k _ (List.mem_cons_self ..))) (Reps.dp l n r fun d q => k d (List.mem_cons_of_mem _ q))
end
mutual
theorem Own.dp (l : Le F H) : ∀ (n : Nat) {v : V} {o : O} {f : List Addr}, Own G F H v o f → pl n o.fz = true → Dp G.K H v o.fz.py
  | n, _, _, _, .sh r, h => Rep.dp l n r h
  | n + 1, _, _, _, .lst ha r, h => by
    simp only [O.fz, D.py]
    exact .lst (.of ha) (Owns.dp l n r (by simpa [O.fz, pl] using h))
  | n + 1, _, _, _, .tup ha r, h => by
    simp only [O.fz, D.py]
    exact .tup (.of ha) (Owns.dp l n r (by simpa [O.fz, pl] using h))
  | 0, _, _, _, .lst _ _, h => by cases h
  | 0, _, _, _, .tup _ _, h => by cases h
  | 0, _, _, _, .ins _ _ _, h => by cases h
  | 0, _, _, _, .dct _ _ _, h => by cases h
  | 0, _, _, _, .dcT _ _ _, h => by cases h
  | n + 1, _, _, _, .ins _ _ _, h => by cases h
  | n + 1, _, _, _, .dct _ _ _, h => by cases h
  | n + 1, _, _, _, .dcT _ _ _, h => by cases h
theorem Owns.dp (l : Le F H) : ∀ (n : Nat) {vs : List V} {os : List O} {f : List Addr}, Owns G F H vs os f → (∀ d ∈ O.fzs os, pl n d = true) → DpAll G.K H vs (D.pys (O.fzs os))
  | _, _, _, _, .nil, _ => .nil
  | n, _, _, _, .cons h r, k => .cons (Own.dp l n h (k _ (by simp [O.fzs]))) (Owns.dp l n r fun d q => k d (by simp [O.fzs, q]))
end
end
/-- scalars that == tells apart at once -/
def scD : D → D → Bool
  | .non, .non => true | .non, .int _ => true | .int _, .non => true | .non, .bl _ => true | .bl _, .non => true | .non, .str _ => true | .str _, .non => true
  | .int _, .int _ => true | .bl _, .bl _ => true | .str _, .str _ => true
  | .int _, .str _ => true | .str _, .int _ => true | .bl _, .str _ => true | .str _, .bl _ => true
  | _, _ => false
def eqSc (neg : Bool) (a b : O) : Option R := match a.sh?, b.sh? with
  | some x, some y => if scD x y then rBl (if neg then !deq x y else deq x y) else none
  | _, _ => none
def eqDp (neg : Bool) (a b : O) : Option R := if pl 60 a.fz && pl 60 b.fz then rBl (if neg then !deq a.fz b.fz else deq a.fz b.fz) else none
def eqO : O → O → Option R := orR (eqSc false) (eqDp false)
def neO : O → O → Option R := orR (eqSc true) (eqDp true)
theorem scD_V {G : CC} {F : Hp} {x y : D} {v w : V} (h : scD x y = true) (rx : Rep G F v x) (ry : Rep G F w y) : scal v w = true ∧ decide (v = w) = deq x y := by
  cases rx <;> cases ry <;> first | (cases h; done) | refine ⟨rfl, ?_⟩ <;> simp [deq]
  all_goals first
    | rfl
    | exact (Bool.beq_eq_decide_eq ..).symm
theorem eqSc_ok {G : CC} : OpD G rEq (eqSc false) := by
  intro F H x y a b f g Q l ha hb p
  unfold eqSc at p
  cases e1 : a.sh? with
  | none => simp only [e1] at p; exact p.elim
  | some s =>
    cases e2 : b.sh? with
    | none => simp only [e1, e2] at p; exact p.elim
    | some t =>
      simp only [e1, e2] at p
      rw [O.sh?_eq e1] at ha
      rw [O.sh?_eq e2] at hb
      split at p
      · rename_i h
        obtain ⟨h1, h2⟩ := scD_V h ha.repOf hb.repOf
        refine ⟨h1, ?_⟩
        rw [h2]
        exact vp_sh l (.bl _) p
      · exact p.elim
theorem neSc_ok {G : CC} : OpD G rNe (eqSc true) := by
  intro F H x y a b f g Q l ha hb p
  unfold eqSc at p
  cases e1 : a.sh? with
  | none => simp only [e1] at p; exact p.elim
  | some s =>
    cases e2 : b.sh? with
    | none => simp only [e1, e2] at p; exact p.elim
    | some t =>
      simp only [e1, e2] at p
      rw [O.sh?_eq e1] at ha
      rw [O.sh?_eq e2] at hb
      split at p
      · rename_i h
        obtain ⟨h1, h2⟩ := scD_V h ha.repOf hb.repOf
        refine ⟨h1, ?_⟩
        rw [h2]
        exact vp_sh l (.bl _) p
      · exact p.elim
theorem eqDp_ok {G : CC} : OpD G (rEqD G.K) (eqDp false) := by
  intro F H x y a b f g Q l ha hb p
  unfold eqDp at p
  split at p
  · rename_i h
    simp only [Bool.and_eq_true] at h
    refine ⟨_, _, ha.dp l 60 h.1, hb.dp l 60 h.2, pl_shaped h.1, pl_shaped h.2, ?_⟩
    rw [deq_py 60 60 _ _ h.1 h.2]
    exact vp_sh l (.bl _) p
  · exact p.elim
theorem neDp_ok {G : CC} : OpD G (rNeD G.K) (eqDp true) := by
  intro F H x y a b f g Q l ha hb p
  unfold eqDp at p
  split at p
  · rename_i h
    simp only [Bool.and_eq_true] at h
    refine ⟨_, _, ha.dp l 60 h.1, hb.dp l 60 h.2, pl_shaped h.1, pl_shaped h.2, ?_⟩
    rw [deq_py 60 60 _ _ h.1 h.2]
    exact vp_sh l (.bl _) p
  · exact p.elim
abbrev rEqO (K : PySem.W.Frag) : R2 := fun x y H Q => rEq x y H Q ∨ rEqD K x y H Q
abbrev rNeO (K : PySem.W.Frag) : R2 := fun x y H Q => rNe x y H Q ∨ rNeD K x y H Q
theorem op_eqO {X : Cx} {k : Nat} (hr : Room k X.A) : OpR X (compareOp .Eq) (rEqO X.K) := op_eq.or (op_eqD hr.units)
theorem op_neO {X : Cx} {k : Nat} (hr : Room k X.A) : OpR X (compareOp .NotEq) (rNeO X.K) := op_ne.or (op_neD hr.units)
theorem eqO_ok {G : CC} : OpD G (rEqO G.K) eqO := eqSc_ok.or eqDp_ok
theorem neO_ok {G : CC} : OpD G (rNeO G.K) neO := neSc_ok.or neDp_ok

/-! ### is -/
def O.isNon : O → Bool
  | .sh .non => true
  | _ => false
def isO (neg : Bool) (a b : O) : Option R := match b with
  | .sh .non => rBl (if neg then !a.isNon else a.isNon)
  | .sh (.bl k) => match a.bl? with
    | some j => rBl (if neg then !(j == k) else j == k)
    | none => rBl neg
  | _ => none
def vIs (x y : V) : Bool := decide (x = y)
def rIsO (neg : Bool) : R2 := fun x y H Q => (y = .non ∨ ∃ k, y = .bl k) ∧ Q (.bl (if neg then !decide (x = y) else decide (x = y))) H
theorem relV_bl {x : V} {v : Value} {k : Bool} (r : RelV x v) : (v == Value.bool k) = decide (x = .bl k) := by
  cases x with
  | bl b =>
    cases (show v = Value.bool b from r)
    cases b <;> cases k <;> rfl
  | non => cases r; rfl
  | int _ => obtain ⟨t, rfl⟩ := r; rfl
  | str _ => obtain ⟨t, rfl⟩ := r; rfl
  | byt _ => obtain ⟨t, rfl⟩ := r; rfl
  | flt _ => obtain ⟨t, rfl⟩ := r; rfl
  | ref _ => cases r; rfl
  | ty _ => cases r; rfl
theorem op_isO {X : Cx} : OpR X (compareOp .Is) (rIsO false) := by
  intro pins s σ H x y v u Q I rx ry h
  obtain ⟨h, q⟩ := h
  rcases h with rfl | ⟨k, rfl⟩
  · cases ry
    exact is_none_gen ⟨.bl _, H, I, by rw [rx.none_iff]; rfl, q⟩
  · cases (show u = Value.bool k from ry)
    have hp : plainIs v (.bool k) = true := by cases x <;> first | (cases rx; rfl) | (obtain ⟨t, rfl⟩ := rx; rfl)
    exact wpAny_is_plain hp ⟨.bl _, H, I, by rw [relV_bl rx]; rfl, q⟩
theorem op_isNotO {X : Cx} : OpR X (compareOp .IsNot) (rIsO true) := by
  intro pins s σ H x y v u Q I rx ry h
  obtain ⟨h, q⟩ := h
  rcases h with rfl | ⟨k, rfl⟩
  · cases ry
    exact isnot_none_gen ⟨.bl _, H, I, by rw [rx.none_iff]; rfl, q⟩
  · cases (show u = Value.bool k from ry)
    have hp : plainIs v (.bool k) = true := by cases x <;> first | (cases rx; rfl) | (obtain ⟨t, rfl⟩ := rx; rfl)
    exact wpAny_isNot_plain hp ⟨.bl _, H, I, by rw [relV_bl rx]; rfl, q⟩
theorem isO_ok {G : CC} {neg : Bool} : OpD G (rIsO neg) (isO neg) := by
  intro F H x y a b f g Q l ha hb p
  cases b with
  | sh d =>
    cases d with
    | non =>
      refine ⟨.inl hb.nonV, ?_⟩
      have e : decide (x = y) = a.isNon := by
        rw [hb.nonV]
        cases ha with
        | sh r => cases r <;> rfl
        | _ => rfl
      rw [e]
      exact vp_sh l (.bl _) p
    | bl k =>
      refine ⟨.inr ⟨k, hb.blV⟩, ?_⟩
      rw [hb.blV]
      simp only [isO] at p
      cases ha with
      | sh r =>
        cases r with
        | bl j =>
          have e : decide (V.bl j = V.bl k) = (j == k) := dec_bl
          rw [e]
          exact vp_sh l (.bl _) p
        | _ =>
          cases neg <;> exact vp_sh l (.bl _) p
      | _ => cases neg <;> exact vp_sh l (.bl _) p
    | _ => exact p.elim
  | _ => exact p.elim

/-! ### in -/
/-- one sign in a text -/
def inS (neg : Bool) (a b : O) : Option R := match a.str?, b.str? with
  | some [c], some t => rBl (if neg then !decide (c ∈ t) else decide (c ∈ t))
  | _, _ => none
/-- in a list of plain data -/
def inL (neg : Bool) (a b : O) : Option R := match b.lst? with
  | some l => if pl 60 a.fz && pl 60 (.lst l) then rBl (if neg then !(l.any fun z => deq z a.fz) else l.any fun z => deq z a.fz) else none
  | none => none
def flatD : D → Bool
  | .non => true | .bl _ => true | .int _ => true | .str _ => true | _ => false
/-- in a tuple of flat data -/
def inT (neg : Bool) (a b : O) : Option R := match a.sh?, b.tup? with
  | some d, some l => if flatD d && l.all flatD then rBl (if neg then !(l.any fun z => deq z d) else l.any fun z => deq z d) else none
  | _, _ => none
def rInS (neg : Bool) : R2 := fun x y H Q => ∃ (c : Nat) (z : Str), x = .str ⟨#[c]⟩ ∧ y = .str z ∧ Q (.bl (if neg then !decide (c ∈ z.cps.toList) else decide (c ∈ z.cps.toList))) H
def rInDD (K : PySem.W.Frag) (neg : Bool) : R2 := fun x y H Q => ∃ d ds, Dp K H x d ∧ Dp K H y (.list ds) ∧ SeqAt.shaped d = true ∧ SeqAt.shaped (.list ds) = true ∧ Q (.bl (if neg then !(ds.any fun z => PyData.eqv z d) else ds.any fun z => PyData.eqv z d)) H
theorem any_py : ∀ {l : List D} {d : D}, (∀ z ∈ l, pl 59 z = true) → pl 60 d = true → ((D.pys l).any fun z => PyData.eqv z d.py) = l.any fun z => deq z d
  | [], _, _, _ => rfl
  | a :: l, d, h, hd => by
    simp only [D.pys, List.any_cons]
    rw [deq_py 59 60 a d (h a (List.mem_cons_self ..)) hd, any_py (fun z m => h z (List.mem_cons_of_mem _ m)) hd]
theorem inS_ok {G : CC} {neg : Bool} : OpD G (rInS neg) (inS neg) := by
  intro F H x y a b f g Q l ha hb p
  unfold inS at p
  split at p
  · rename_i c t e1 e2
    rw [O.str?_eq e1] at ha
    rw [O.str?_eq e2] at hb
    exact ⟨c, _, ha.strV, hb.strV, vp_sh l (.bl _) p⟩
  · exact p.elim
theorem inL_ok {G : CC} {neg : Bool} : OpD G (rInDD G.K neg) (inL neg) := by
  intro F H x y a b f g Q l ha hb p
  unfold inL at p
  split at p
  · rename_i ds e1
    split at p
    · rename_i h
      simp only [Bool.and_eq_true] at h
      obtain ⟨a1, vs, rfl, s1, r1⟩ := hb.lstOf l e1
      have hall : ∀ z ∈ ds, pl 59 z = true := by simpa [pl] using h.2
      refine ⟨_, _, ha.dp l 60 h.1, .lst s1 (Reps.dp l 59 r1 hall), pl_shaped h.1, pl_shaped (d := .lst ds) h.2, ?_⟩
      rw [any_py hall h.1]
      exact vp_sh l (.bl _) p
    · exact p.elim
  · exact p.elim
theorem flat_V {G : CC} {F : Hp} {d : D} {v : V} (r : Rep G F v d) (h : flatD d = true) : flatV v = true := by
  cases r <;> first | rfl | cases h
theorem flat_eqV {G : CC} {F : Hp} {d e : D} {v w : V} (r : Rep G F v d) (h : flatD d = true) (r' : Rep G F w e) (h' : flatD e = true) : eqV v w = deq d e := by
  cases r <;> first | (cases h; done) | skip
  all_goals (cases r' <;> first | rfl | (cases h'; done) | exact SX.S_beq _ _)
theorem flat_any {G : CC} {F : Hp} {d : D} {v : V} (r : Rep G F v d) (h : flatD d = true) : ∀ {vs : List V} {ds : List D}, Reps G F vs ds → ds.all flatD = true → vs.all flatV = true ∧ inV v vs = ds.any fun z => deq z d
  | _, _, .nil, _ => ⟨rfl, rfl⟩
  | _, _, .cons r1 rs, k => by
    rw [List.all_cons, Bool.and_eq_true] at k
    obtain ⟨i1, i2⟩ := flat_any r h rs k.2
    refine ⟨by rw [List.all_cons, flat_V r1 k.1, i1]; rfl, ?_⟩
    unfold inV at i2 ⊢
    rw [List.any_cons, List.any_cons, i2, flat_eqV r1 k.1 r h]
theorem inT_ok {G : CC} {neg : Bool} : OpD G (rIn G.K neg) (inT neg) := by
  intro F H x y a b f g Q l ha hb p
  unfold inT at p
  split at p
  · rename_i d ds e1 e2
    split at p
    · rename_i h
      simp only [Bool.and_eq_true] at h
      rw [O.sh?_eq e1] at ha
      obtain ⟨a1, vs, rfl, s1, r1⟩ := hb.tupOf l e2
      obtain ⟨i1, i2⟩ := flat_any ha.repOf h.1 r1 h.2
      refine ⟨a1, vs, rfl, .inr s1, flat_V ha.repOf h.1, i1, ?_⟩
      rw [i2]
      exact vp_sh l (.bl _) p
    · exact p.elim
  · exact p.elim
def inO (neg : Bool) : O → O → Option R := orR (inS neg) (orR (inT neg) (inL neg))
abbrev rInO (K : PySem.W.Frag) (neg : Bool) : R2 := fun x y H Q => rInS neg x y H Q ∨ rIn K neg x y H Q ∨ rInDD K neg x y H Q
theorem inO_ok {G : CC} {neg : Bool} : OpD G (rInO G.K neg) (inO neg) := inS_ok.or (inT_ok.or inL_ok)
theorem op_inO {X : Cx} {k : Nat} (hr : Room k X.A) : OpR X (compareOp .In) (rInO X.K false) := (show OpR X (compareOp .In) (rInS false) from op_in_sign).or (op_in_seq.or (show OpR X (compareOp .In) (rInDD X.K false) from op_inD (by have := hr.un; omega)))
theorem op_notInO {X : Cx} {k : Nat} (hr : Room k X.A) : OpR X (compareOp .NotIn) (rInO X.K true) := (show OpR X (compareOp .NotIn) (rInS true) from op_notIn_sign).or (op_notIn_seq.or (show OpR X (compareOp .NotIn) (rInDD X.K true) from op_notInD (by have := hr.un; omega)))
end DL

set_option maxHeartbeats 1000000
/-! DF: subscripts, slices, displays, arguments, calls of built-ins -/
namespace DL
open PySem PySem.Spec L2
open PyProof.Rows hiding St

def R.at (o : O) : R := match o with
  | .sh d => .own (.sh d)
  | o => .bor o
def O.items : O → Option (List O)
  | .lst os => some os
  | .tup os => some os
  | .sh (.lst l) => some (l.map .sh)
  | .sh (.tup l) => some (l.map .sh)
  | _ => none
section
variable {G : CC} {F H : Hp} {v : V} {o : O} {f : List Addr} {Q : VK}
theorem Own.itemsOf (l : Le F H) (h : Own G F H v o f) {os : List O} (e : o.items = some os) : ∃ a vs g, v = .ref a ∧ (SqL G.K H a vs ∨ SqT G.K H a vs) ∧ Owns G F H vs os g := by
  cases h with
  | sh r =>
    cases r with
    | lst s r => cases e; exact ⟨_, _, _, rfl, .inl (SqL.le l s), Owns.of_sh r⟩
    | tup s r => cases e; exact ⟨_, _, _, rfl, .inr (SqT.le l s), Owns.of_sh r⟩
    | _ => cases e
  | lst ha r => cases e; exact ⟨_, _, _, rfl, .inl (.of ha), r⟩
  | tup ha r => cases e; exact ⟨_, _, _, rfl, .inr (.of ha), r⟩
  | _ => cases e
theorem PR.look (l : Le F H) (h : Own G F H v o f) : PR G F F H H v (R.at o) := by
  cases o with
  | sh d => exact .sh l h.repOf
  | _ => exact ⟨f, Nx.refl l, h⟩
theorem vp_look (l : Le F H) (h : Own G F H v o f) (p : VPost G F H Q (some (R.at o))) : Q v H := p v F H (.look l h)
end

/-! ### subscripts -/
def ixS (a b : O) : Option R := match a.str?, b.int? with
  | some s, some i => if s.length ≤ ML then (atI s i).bind fun c => rSh (.str [c]) else none
  | _, _ => none
def ixQ (a b : O) : Option R := match a.items, b.int? with
  | some os, some i => (atI os i).map R.at
  | _, _ => none
def ixO : O → O → Option R := orR ixQ ixS
def rIxQ (K : PySem.W.Frag) : R2 := fun x y H Q => rIxL K x y H Q ∨ rIxT K x y H Q
theorem Owns.atI {G : CC} {F H : Hp} {vs : List V} {os : List O} {g : List Addr} {i : Int} {o : O} (h : Owns G F H vs os g) (e : L2.atI os i = some o) : ∃ v f, L2.atI vs i = some v ∧ Own G F H v o f := by
  unfold L2.atI at e ⊢
  rw [h.length]
  cases e1 : ixN os.length i with
  | none => rw [e1] at e; cases e
  | some j =>
    rw [e1] at e
    obtain ⟨v, f, h1, h2, _⟩ := h.get (show os[j]? = some o from e)
    exact ⟨v, f, h1, h2⟩
theorem ixQ_ok {G : CC} : OpD G (rIxQ G.K) ixQ := by
  intro F H x y a b f g Q l ha hb p
  unfold ixQ at p
  split at p
  · rename_i os i e1 e2
    rw [O.int?_eq e2] at hb
    obtain ⟨a1, vs, g1, rfl, s, r⟩ := ha.itemsOf l e1
    cases e : atI os i with
    | none => rw [e] at p; exact p.elim
    | some o =>
      rw [e] at p
      obtain ⟨v, f', h1, h2⟩ := r.atI e
      rcases s with s | s
      · exact .inl ⟨a1, vs, i, v, rfl, hb.intV, s, h1, vp_look l h2 p⟩
      · exact .inr ⟨a1, vs, i, v, rfl, hb.intV, s, h1, vp_look l h2 p⟩
  · exact p.elim
theorem ixS_ok {G : CC} : OpD G rIxS ixS := by
  intro F H x y a b f g Q l ha hb p
  unfold ixS at p
  split at p
  · rename_i s i e1 e2
    rw [O.str?_eq e1] at ha
    rw [O.int?_eq e2] at hb
    split at p
    · rename_i hz
      cases e : atI s i with
      | none => rw [e] at p; exact p.elim
      | some c =>
        rw [e] at p
        exact ⟨_, i, c, ha.strV, hb.intV, by rw [SX.S_len, ← ML_eq]; exact hz, e, vp_sh l (.str [c]) p⟩
    · exact p.elim
  · exact p.elim
abbrev rIxO (K : PySem.W.Frag) : R2 := fun x y H Q => rIxQ K x y H Q ∨ rIxS x y H Q
theorem ix_O {X : Cx} : IxR X (rIxO X.K) := IxR.or (r := rIxQ X.K) (ix_list.or ix_tup) ix_str
theorem ixO_ok {G : CC} : OpD G (rIxO G.K) ixO := ixQ_ok.or ixS_ok
theorem dp_ix {X : Cx} {G : CC} {W : WX} {a b : Expr} {pos : Pos} {ma mb : En → Res R} {r : R2} {m : O → O → Option R} (hi : IxR X r) (hd : OpD G r m) (ha : PE X a (tD G W ma)) (hb : PE X b (tD G W mb)) (hs : PlainIx b := by exact fun _ _ => rfl) :
    PE X (.Subscript a b pos) (tD G W (mOp m ma mb)) := (pe_ix hi ha hb hs).imp fun _ _ _ h => tOp_D hd h

/-! ### slices -/
def cutD {α : Type} (xs : List α) (lo hi : Option Int) : List α := (xs.drop (HT.sIx xs.length 0 lo)).take (HT.sIx xs.length xs.length hi - HT.sIx xs.length 0 lo)
theorem Reps.cut {G : CC} {F : Hp} {vs : List V} {ds : List D} (r : Reps G F vs ds) (lo hi : Option Int) : Reps G F (cutV vs lo hi) (cutD ds lo hi) := by
  unfold cutV cutD
  rw [r.length]
  exact (r.drop _).take _
def SlD (G : CC) (r : V → Option Int → Option Int → Hp → VK → Prop) (m : O → Option Int → Option Int → Option R) : Prop :=
  ∀ F H x a f lo hi Q, Le F H → Own G F H x a f → VPost G F H Q (m a lo hi) → r x lo hi H Q
def slL (a : O) (lo hi : Option Int) : Option R := match a.lst? with
  | some l => rLst (cutD l lo hi)
  | none => none
def slT (a : O) (lo hi : Option Int) : Option R := match a.ftup? with
  | some l => rSh (.tup (cutD l lo hi))
  | none => none
def slS (a : O) (lo hi : Option Int) : Option R := match a.str? with
  | some s => if s.length ≤ ML then rSh (.str (cutD s lo hi)) else none
  | none => none
def slO (a : O) (lo hi : Option Int) : Option R := match slS a lo hi with
  | some r => some r
  | none => match slL a lo hi with
    | some r => some r
    | none => slT a lo hi
theorem cut_all {α : Type} {xs : List α} {lo hi : Option Int} (h : HT.sIx xs.length 0 lo = 0 ∧ HT.sIx xs.length xs.length hi = xs.length) : cutD xs lo hi = xs := by
  unfold cutD
  rw [h.1, h.2, List.drop_zero, Nat.sub_zero, List.take_length]
abbrev rSlO (K : PySem.W.Frag) : V → Option Int → Option Int → Hp → VK → Prop := fun x lo hi H Q => rSlS x lo hi H Q ∨ rSlL K x lo hi H Q ∨ rSlA K x lo hi H Q
theorem sl_O {X : Cx} : SlR X (rSlO X.K) := sl_str.or (sl_list.or sl_tupA)
theorem slO_ok {G : CC} : SlD G (rSlO G.K) slO := by
  intro F H x a f lo hi Q l ha p
  unfold slO at p
  cases e : slS a lo hi with
  | some r =>
    rw [e] at p
    left
    unfold slS at e
    split at e
    · rename_i s e1
      split at e
      · rename_i hz
        rw [O.str?_eq e1] at ha
        refine ⟨_, ha.strV, by rw [SX.S_len, ← ML_eq]; exact hz, ?_⟩
        rw [← e] at p
        have q : cutS (SX.S s) lo hi = SX.S (cutD s lo hi) := by
          unfold cutS cutD
          rw [SX.S_len]
        rw [q]
        exact vp_sh l (.str _) p
      · cases e
    · cases e
  | none =>
    simp only [e] at p
    right
    cases e2 : slL a lo hi with
    | some r =>
      simp only [e2] at p
      left
      unfold slL at e2
      split at e2
      · rename_i ds e1
        obtain ⟨a1, vs, rfl, s, r1⟩ := ha.lstOf l e1
        rw [← e2] at p
        exact ⟨a1, vs, rfl, s, fun q hq => vp_lst l hq (r1.cut lo hi) p⟩
      · cases e2
    | none =>
      simp only [e2] at p
      right
      unfold slT at p
      split at p
      · rename_i ds e1
        rw [O.ftup?_eq e1] at ha
        have r0 := ha.repOf
        obtain ⟨a1, vs, rfl, s, r1⟩ := ha.tupOf l rfl
        refine ⟨a1, vs, rfl, s, fun h => ?_, fun _ q hq => vp_tup l hq (r1.cut lo hi) p⟩
        rw [r1.length] at h
        rw [cut_all h] at p
        exact vp_sh l r0 p
      · exact p.elim
/-- a part of a slice -/
def mPart (m : Option (En → Res R)) (en : En) : Res (Option Int) := match m with
  | none => .ok none
  | some m => (m en).bnd fun r => match r.o.int? with | some i => .ok (some i) | none => .stuck
def PtPost (G : CC) (W : WX) (F B : Hp) (L : St) (H : Hp) (fp : List Addr) (Q : Option Int → Hp → Prop) : Res (Option Int) → Prop
  | .ok r => ∀ F' H', Nx F F' H H' [] [] → Q r H'
  | .exc x en' => EPost G W F B L H fp x en'
  | .stuck => False
def tPt (G : CC) (W : WX) (m : En → Res (Option Int)) : TO := fun σ H Q => ∃ F B L en fp, SRep G F B H L σ en fp ∧ PtPost G W F B L H fp Q (m en)
section
variable {X : Cx} {G : CC} {W : WX} {pos p2 : Pos} {a b : Expr} {lo hi : Option Expr}
theorem dp_pNone : PO X none (tPt G W (mPart none)) := ⟨fun pins s σ H Q I h => po_none.run pins s σ H Q I (by
  obtain ⟨F, B, L, en, fp, s, p⟩ := h
  exact p F H (Nx.refl s.lf))⟩
theorem dp_pSome {m : En → Res R} (h : PE X a (tD G W m)) : PO X (some a) (tPt G W (mPart (some m))) := ⟨fun pins s σ H Q I q => (po_some h).run pins s σ H Q I (by
  obtain ⟨F, B, L, en, fp, s, p⟩ := q
  refine ⟨F, B, L, en, fp, s, ?_⟩
  have p' : PtPost G W F B L H fp Q ((m en).bnd fun r => match r.o.int? with | some i => .ok (some i) | none => .stuck) := p
  cases e : m en with
  | stuck => rw [e] at p'; exact p'.elim
  | exc x e' => rw [e] at p'; exact p'
  | ok r =>
    rw [e] at p'
    intro v F1 H1 r1
    obtain ⟨f, q1⟩ := r1.has
    simp only [Res.bnd] at p'
    cases e2 : r.o.int? with
    | none => simp only [e2] at p'; exact p'.elim
    | some i =>
      simp only [e2] at p'
      rw [O.int?_eq e2] at q1
      exact ⟨i, q1.intV, p' F1 H1 r1.nx⟩)⟩
def mSl (m : O → Option Int → Option Int → Option R) (ma : En → Res R) (l u : En → Res (Option Int)) (en : En) : Res R :=
  (ma en).bnd fun a => (l en).bnd fun i => (u en).bnd fun j => .of (m a.o i j)
theorem dp_sl {r : V → Option Int → Option Int → Hp → VK → Prop} {m : O → Option Int → Option Int → Option R} {ma : En → Res R} {l u : En → Res (Option Int)} (hr : SlR X r) (hd : SlD G r m) (ha : PE X a (tD G W ma)) (hl : PO X lo (tPt G W l)) (hu : PO X hi (tPt G W u)) :
    PE X (.Subscript a (.Slice lo hi none p2) pos) (tD G W (mSl m ma l u)) := (pe_slice hr ha hl hu).imp fun σ H Q h => by
  obtain ⟨F, B, L, en, fp, s, p⟩ := h
  refine ⟨F, B, L, en, fp, s, ?_⟩
  unfold mSl at p
  cases ea : ma en with
  | stuck => rw [ea] at p; exact p.elim
  | exc x e => rw [ea] at p; exact p
  | ok a =>
    rw [ea] at p
    intro x F1 H1 r1
    refine ⟨F1, B, L, en, fp, s.pure r1.nx, ?_⟩
    simp only [Res.bnd] at p
    cases el : l en with
    | stuck => rw [el] at p; exact p.elim
    | exc x e => rw [el] at p; exact EPost.after (r1.nx.wide0 fp) p
    | ok i =>
      rw [el] at p
      simp only [Res.bnd] at p
      intro F2 H2 n2
      refine ⟨F2, B, L, en, fp, s.pure (r1.nx.trans n2), ?_⟩
      cases eu : u en with
      | stuck => rw [eu] at p; exact p.elim
      | exc x e => rw [eu] at p; exact EPost.after ((r1.nx.trans n2).wide0 fp) p
      | ok j =>
        rw [eu] at p
        simp only [Res.bnd] at p
        intro F3 H3 n3
        obtain ⟨f, q1⟩ := r1.has
        have n23 := n2.trans n3
        refine hd F3 H3 x _ f i j Q n3.le (q1.le n23.ff fun c u _ e => n23.keep c u e) ?_
        cases e : m a.o i j with
        | none => rw [e] at p; exact p.elim
        | some z => rw [e] at p; exact fun v F4 H4 r4 => p v F4 H4 (r4.after (r1.nx.trans n23))
/-- xs[::-1] -/
def revO (a : O) : Option R := match a.lst? with
  | some l => rLst l.reverse
  | none => none
theorem revO_ok : UnD G (fun x H Q => ∃ a xs, x = .ref a ∧ SqL G.K H a xs ∧ ∀ p, H p = none → Q (.ref p) (upd H p (.lst xs.reverse))) revO := by
  intro F H x a f Q l ha p
  unfold revO at p
  split at p
  · rename_i ds e
    obtain ⟨a1, vs, rfl, s, r1⟩ := ha.lstOf l e
    exact ⟨a1, vs, rfl, s, fun q hq => vp_lst l hq r1.reverse p⟩
  · exact p.elim
theorem dp_rev {ma : En → Res R} {k : Nat} {p1 p3 p4 : Pos} (hK : G.K = X.K) (ha : PE X a (tD G W ma)) : PE X (.Subscript a (.Slice none none (some (.UnaryOp .USub (.Constant (.int 1) k p1) p3)) p4) pos) (tD G W (mUn revO ma)) :=
  (pe_revL ha).imp fun _ _ _ h => by
    have := tUn_D (revO_ok (G := G)) h
    rw [hK] at this
    exact this
end

/-! ### arguments -/
section
variable (G : CC) (F H : Hp)
/-- what pure arguments hand -/
inductive Rws : List V → List R → List Addr → Prop
  | nil : Rws [] [] []
  | own {v : V} {o : O} {f : List Addr} {vs : List V} {rs : List R} {fp : List Addr} : Own G F H v o f → Rws vs rs fp → Rws (v :: vs) (.own o :: rs) (f ++ fp)
  | bor {v : V} {o : O} {f : List Addr} {vs : List V} {rs : List R} {fp : List Addr} : Own G F H v o f → Rws vs rs fp → Rws (v :: vs) (.bor o :: rs) fp
/-- things that are looked at -/
inductive Vws : List V → List O → Prop
  | nil : Vws [] []
  | cons {v : V} {o : O} {f : List Addr} {vs : List V} {os : List O} : Own G F H v o f → Vws vs os → Vws (v :: vs) (o :: os)
end
section
variable {G : CC} {F F' H H' : Hp} {vs : List V} {rs : List R} {fp : List Addr}
theorem Rws.vws (h : Rws G F H vs rs fp) : Vws G F H vs (rs.map R.o) := by
  induction h with
  | nil => exact .nil
  | own h _ ih => exact .cons h ih
  | bor h _ ih => exact .cons h ih
theorem Rws.len (h : Rws G F H vs rs fp) : vs.length = rs.length := by
  induction h with
  | nil => rfl
  | own h _ ih => exact congrArg (· + 1) ih
  | bor h _ ih => exact congrArg (· + 1) ih
/-- all things of one's own -/
def owns : List R → Option (List O)
  | [] => some []
  | .own o :: rs => (owns rs).map (o :: ·)
  | .bor _ :: _ => none
theorem Rws.owns (h : Rws G F H vs rs fp) : ∀ {os : List O}, DL.owns rs = some os → Owns G F H vs os fp := by
  induction h with
  | nil => intro os e; cases e; exact .nil
  | own h _ ih =>
    intro os e
    simp only [DL.owns, Option.map_eq_some_iff] at e
    obtain ⟨os', e, rfl⟩ := e
    exact .cons h (ih e)
  | bor h _ ih => intro os e; cases e
end
def AR (G : CC) (F F' H H' : Hp) (vs : List V) (rs : List R) : Prop := ∃ fp, Nx F F' H H' [] fp ∧ Rws G F' H' vs rs fp ∧ fp.Nodup ∧ ∀ a ∈ fp, F' a = none
section
variable (G : CC) (W : WX)
def APost (F B : Hp) (L : St) (H : Hp) (fp : List Addr) (Q : List V → Hp → Prop) : Res (List R) → Prop
  | .ok r => ∀ v F' H', AR G F F' H H' v r → Q v H'
  | .exc x en' => EPost G W F B L H fp x en'
  | .stuck => False
def tA (m : En → Res (List R)) : TA := fun σ H Q => ∃ F B L en fp, SRep G F B H L σ en fp ∧ APost G W F B L H fp Q (m en)
end
section
variable {X : Cx} {G : CC} {W : WX} {pos : Pos} {e : Expr} {es : List Expr} {F F' F2 H H' H2 : Hp} {vs : List V} {rs : List R}
theorem AR.nx (h : AR G F F' H H' vs rs) : Nx F F' H H' [] [] := by
  obtain ⟨fp, n, _⟩ := h
  exact n.drop
theorem AR.after (n : Nx F F' H H' [] []) (h : AR G F' F2 H' H2 vs rs) : AR G F F2 H H2 vs rs := by
  obtain ⟨f, z, q⟩ := h
  exact ⟨f, n.trans z, q⟩
/-- the first, then the others -/
theorem AR.cons {v : V} {r : R} (a : PR G F F' H H' v r) (b : AR G F' F2 H' H2 vs rs) : AR G F F2 H H2 (v :: vs) (r :: rs) := by
  obtain ⟨fp, n2, q2, nd2, fr2⟩ := b
  cases r with
  | bor o =>
    obtain ⟨f, n1, q1⟩ := a
    exact ⟨fp, n1.trans n2, .bor (q1.le n2.ff fun c u _ e => n2.keep c u e) q2, nd2, fr2⟩
  | own o =>
    obtain ⟨f, n1, q1, nd1, fr1⟩ := a
    have dom := q1.dom
    refine ⟨f ++ fp, n1.trans (n2.wide f), .own (q1.le n2.ff fun c u _ e => n2.keep c u e) q2, ?_, fun c m => ?_⟩
    · rw [List.nodup_append]
      refine ⟨nd1, nd2, fun c m d m' e => ?_⟩
      subst e
      obtain ⟨u, h⟩ := dom c m
      rcases n2.fr c m' with q | q
      · cases q
      · rw [h] at q; cases q
    · rcases List.mem_append.mp m with m | m
      · cases e : F2 c with
        | none => rfl
        | some u =>
          obtain ⟨w, h⟩ := dom c m
          rcases n2.nw c (fr1 c m) (by rw [e]; exact fun z => by cases z) with q | q
          · rw [h] at q; cases q
          · cases q
      · exact fr2 c m
def mNil (_ : En) : Res (List R) := .ok []
def mCons (m : En → Res R) (ms : En → Res (List R)) (en : En) : Res (List R) := (m en).bnd fun r => (ms en).bnd fun rs => .ok (r :: rs)
theorem da_nil : PA X [] (tA G W mNil) := pa_nil.imp fun σ H Q h => by
  obtain ⟨F, B, L, en, fp, s, p⟩ := h
  exact p [] F H ⟨[], Nx.refl s.lf, .nil, List.nodup_nil, fun _ m => nomatch m⟩
theorem da_cons {m : En → Res R} {ms : En → Res (List R)} (h : PE X e (tD G W m)) (hs : PA X es (tA G W ms)) (he : starEach (e :: es) X.env = (false, eval e X.env) :: starEach es X.env := by rfl) : PA X (e :: es) (tA G W (mCons m ms)) :=
  (pa_cons h hs he).imp fun σ H Q h => by
    obtain ⟨F, B, L, en, fp, s, p⟩ := h
    refine ⟨F, B, L, en, fp, s, ?_⟩
    unfold mCons at p
    cases ea : m en with
    | stuck => rw [ea] at p; exact p.elim
    | exc x e => rw [ea] at p; exact p
    | ok a =>
      rw [ea] at p
      intro x F1 H1 r1
      refine ⟨F1, B, L, en, fp, s.pure r1.nx, ?_⟩
      simp only [Res.bnd] at p
      cases el : ms en with
      | stuck => rw [el] at p; exact p.elim
      | exc x e => rw [el] at p; exact EPost.after (r1.nx.wide0 fp) p
      | ok rs =>
        rw [el] at p
        simp only [Res.bnd] at p
        intro vs F2 H2 r2
        exact p (x :: vs) F2 H2 (AR.cons r1 r2)

/-! ### displays -/
def mLst (m : En → Res (List R)) (en : En) : Res R := (m en).bnd fun rs => match owns rs with
  | some os => if os.length ≤ ML then .ok (.own (.lst os)) else .stuck
  | none => .stuck
def mTup (m : En → Res (List R)) (en : En) : Res R := (m en).bnd fun rs => match owns rs with
  | some os => if os.length ≤ ML then (match shs os with | some ds => .ok (.own (.sh (.tup ds))) | none => .ok (.own (.tup os))) else .stuck
  | none => .stuck
/-- the places of a new thing of one's own and of its parts -/
theorem PR.newO {p : Addr} {u : HO} {o : O} {fp : List Addr} (n : Nx F F' H H' [] fp) (nd : fp.Nodup) (fr : ∀ a ∈ fp, F' a = none) (hp : H' p = none) (dom : ∀ a ∈ fp, ∃ u, H' a = some u) (q : Own G F' (upd H' p u) (.ref p) o (p :: fp)) : PR G F F' H (upd H' p u) (.ref p) (.own o) := by
  refine ⟨p :: fp, n.trans (Nx.mk (Le.refl F') (fun a u e m => ?_) (fun a h h' => (h' h).elim) (fun a m => ?_) (n.le.updN hp)), q, ?_, ?_⟩
  · rw [upd_ne (ne_of_none e hp)]; exact e
  · rcases List.mem_cons.mp m with e | m
    · exact .inr (e ▸ hp)
    · exact .inl m
  · rw [List.nodup_cons]
    refine ⟨fun m => ?_, nd⟩
    obtain ⟨u, h⟩ := dom p m
    rw [hp] at h; cases h
  · intro a m
    rcases List.mem_cons.mp m with e | m
    · rw [e]; exact n.le.noneOf hp
    · exact fr a m
theorem dp_lst {ms : En → Res (List R)} (h : PA X es (tA G W ms)) : PE X (.List es pos) (tD G W (mLst ms)) := (pe_lst h).imp fun σ H Q h => by
  obtain ⟨F, B, L, en, fp, s, p⟩ := h
  refine ⟨F, B, L, en, fp, s, ?_⟩
  unfold mLst at p
  cases ea : ms en with
  | stuck => rw [ea] at p; exact p.elim
  | exc x e => rw [ea] at p; exact p
  | ok rs =>
    rw [ea] at p
    simp only [Res.bnd] at p
    intro vs F1 H1 r1
    cases e : owns rs with
    | none => simp only [e] at p; exact p.elim
    | some os =>
      simp only [e] at p
      split at p
      · rename_i hz
        obtain ⟨f1, n1, q1, nd, fr⟩ := r1
        have q2 := q1.owns e
        refine ⟨by rw [q2.length, ← ML_eq]; exact hz, fun a hp => p _ F1 _ (.newO n1 nd fr hp q2.dom (.lst upd_same ?_))⟩
        exact q2.le (Le.refl F1) fun c u m e => by rw [upd_ne (ne_of_none e hp)]; exact e
      · exact p.elim
theorem dp_tup {ms : En → Res (List R)} {x1} (h : PA X es (tA G W ms)) : PE X (.Tuple es x1 pos) (tD G W (mTup ms)) := (pe_tup h).imp fun σ H Q h => by
  obtain ⟨F, B, L, en, fp, s, p⟩ := h
  refine ⟨F, B, L, en, fp, s, ?_⟩
  unfold mTup at p
  cases ea : ms en with
  | stuck => rw [ea] at p; exact p.elim
  | exc x e => rw [ea] at p; exact p
  | ok rs =>
    rw [ea] at p
    simp only [Res.bnd] at p
    intro vs F1 H1 r1
    cases e : owns rs with
    | none => simp only [e] at p; exact p.elim
    | some os =>
      simp only [e] at p
      split at p
      · rename_i hz
        obtain ⟨f1, n1, q1, nd, fr⟩ := r1
        have q2 := q1.owns e
        refine ⟨by rw [q2.length, ← ML_eq]; exact hz, fun a hp => ?_⟩
        cases e3 : shs os with
        | some ds =>
          simp only [e3] at p
          rw [shs_eq e3] at q2
          obtain ⟨q3, _⟩ := q2.to_sh
          have n := Nx.newF (F := F1) (o := .tup vs) n1.le hp
          exact p _ (upd F1 a (.tup vs)) _ ⟨[], n1.drop.trans n, .sh (.tup (.of upd_same) (q3.le n.ff)), List.nodup_nil, fun _ m => nomatch m⟩
        | none =>
          simp only [e3] at p
          exact p _ F1 _ (.newO n1 nd fr hp q2.dom (.tup upd_same (q2.le (Le.refl F1) fun c u m e => by rw [upd_ne (ne_of_none e hp)]; exact e)))
      · exact p.elim

/-! ### calls of built-ins -/
def CallD (G : CC) (r : List V → Hp → VK → Prop) (m : List O → Option R) : Prop :=
  ∀ F H vs os Q, Le F H → Vws G F H vs os → VPost G F H Q (m os) → r vs H Q
def mCall (m : List O → Option R) (ms : En → Res (List R)) (en : En) : Res R := (ms en).bnd fun rs => .of (m (rs.map R.o))
theorem tCB_D {r : List V → Hp → VK → Prop} {m : List O → Option R} (hd : CallD G r m) {ms : En → Res (List R)} {σ : St} {Q : VK} (h : tD G W (mCall m ms) σ H Q) : tCB r (tA G W ms) σ H Q := by
  obtain ⟨F, B, L, en, fp, s, p⟩ := h
  refine ⟨F, B, L, en, fp, s, ?_⟩
  unfold mCall at p
  cases ea : ms en with
  | stuck => rw [ea] at p; exact p.elim
  | exc x e => rw [ea] at p; exact p
  | ok rs =>
    rw [ea] at p
    simp only [Res.bnd] at p
    intro vs F1 H1 r1
    have n1 := r1.nx
    obtain ⟨f1, _, q1, _⟩ := r1
    refine hd F1 H1 vs _ Q n1.le q1.vws ?_
    cases e : m (rs.map R.o) with
    | none => rw [e] at p; exact p.elim
    | some z => rw [e] at p; exact fun v F3 H3 r3 => p v F3 H3 (r3.after n1)
theorem dp_callB {x : Str} {ids : String} {r : List V → Hp → VK → Prop} {m : List O → Option R} {ms : En → Res (List R)} {p : Pos} (hc : CallR X (.builtin ids) r) (hd : CallD G r m) (hm : X.mg x = none) (hv : bootBuiltins x = some (.builtin ids)) (ha : PA X (e :: es) (tA G W ms))
    (hg : Gl X x := by rfl) (hn : x ≠ "__name__" := by decide) (hdb : (x == ("__debug__" : Str)) = false := by decide) (he : starEach (e :: es) X.env = (false, eval e X.env) :: starEach es X.env := by rfl) (hpl : (backTo pos (starEach es X.env)).any (·.1) = false := by rfl) : PE X (.Call (.Name x p) (e :: es) [] pos) (tD G W (mCall m ms)) :=
  (pe_callB hc hg hm hv ha hn hdb he hpl).imp fun _ _ _ h => tCB_D hd h
theorem dp_callT {x : Str} {T : String} {r : List V → Hp → VK → Prop} {m : List O → Option R} {ms : En → Res (List R)} {p : Pos} (hc : CallR X (.type T) r) (hd : CallD G r m) (hm : X.mg x = none) (hv : bootBuiltins x = some (.type T)) (ha : PA X (e :: es) (tA G W ms))
    (hg : Gl X x := by rfl) (hn : x ≠ "__name__" := by decide) (hdb : (x == ("__debug__" : Str)) = false := by decide) (he : starEach (e :: es) X.env = (false, eval e X.env) :: starEach es X.env := by rfl) (hpl : (backTo pos (starEach es X.env)).any (·.1) = false := by rfl) : PE X (.Call (.Name x p) (e :: es) [] pos) (tD G W (mCall m ms)) :=
  (pe_callTy hc hg hm hv ha hn hdb he hpl).imp fun _ _ _ h => tCB_D hd h
end
end DL

set_option maxHeartbeats 1000000
/-! DG: some built-ins -/
namespace DL
open PySem PySem.Spec L2
open PyProof.Rows hiding St

def dbls : List D → Option (List Bool)
  | [] => some []
  | .bl b :: ds => (dbls ds).map (b :: ·)
  | _ :: _ => none
def dints : List D → Option (List Int)
  | [] => some []
  | .int b :: ds => (dints ds).map (b :: ·)
  | _ :: _ => none
def dstrs : List D → Option (List (List Nat))
  | [] => some []
  | .str b :: ds => (dstrs ds).map (b :: ·)
  | _ :: _ => none
@[simp] theorem bls_map (l : List Bool) : dbls (l.map .bl) = some l := by
  induction l with
  | nil => rfl
  | cons a l ih => simp [dbls, ih]
@[simp] theorem ints_map (l : List Int) : dints (l.map .int) = some l := by
  induction l with
  | nil => rfl
  | cons a l ih => simp [dints, ih]
@[simp] theorem strs_map (l : List (List Nat)) : dstrs (l.map .str) = some l := by
  induction l with
  | nil => rfl
  | cons a l ih => simp [dstrs, ih]
section
variable {G : CC} {F H : Hp}
theorem Reps.dbls : ∀ {vs : List V} {ds : List D} {bs : List Bool}, Reps G F vs ds → DL.dbls ds = some bs → vs = bs.map V.bl
  | _, _, _, .nil, e => by cases e; rfl
  | _, _, _, .cons h r, e => by
    cases h with
    | bl b =>
      simp only [DL.dbls, Option.map_eq_some_iff] at e
      obtain ⟨bs', e, rfl⟩ := e
      rw [Reps.dbls r e]
      rfl
    | _ => cases e
theorem Reps.dints : ∀ {vs : List V} {ds : List D} {bs : List Int}, Reps G F vs ds → DL.dints ds = some bs → vs = bs.map V.int
  | _, _, _, .nil, e => by cases e; rfl
  | _, _, _, .cons h r, e => by
    cases h with
    | int b =>
      simp only [DL.dints, Option.map_eq_some_iff] at e
      obtain ⟨bs', e, rfl⟩ := e
      rw [Reps.dints r e]
      rfl
    | _ => cases e
theorem Reps.dstrs : ∀ {vs : List V} {ds : List D} {bs : List (List Nat)}, Reps G F vs ds → DL.dstrs ds = some bs → vs = (bs.map SX.S).map V.str
  | _, _, _, .nil, e => by cases e; rfl
  | _, _, _, .cons h r, e => by
    cases h with
    | str b =>
      simp only [DL.dstrs, Option.map_eq_some_iff] at e
      obtain ⟨bs', e, rfl⟩ := e
      rw [Reps.dstrs r e]
      rfl
    | _ => cases e
end
/-- alternatives -/
def orC (m m' : List O → Option R) (os : List O) : Option R := match m os with
  | some r => some r
  | none => m' os
theorem CallD.or {G : CC} {r r' : List V → Hp → VK → Prop} {m m' : List O → Option R} (h : CallD G r m) (h' : CallD G r' m') : CallD G (fun xs H Q => r xs H Q ∨ r' xs H Q) (orC m m') := by
  intro F H vs os Q l ha p
  unfold orC at p
  cases e : m os with
  | some z => rw [e] at p; exact .inl (h F H vs os Q l ha (by rw [e]; exact p))
  | none => rw [e] at p; exact .inr (h' F H vs os Q l ha p)

/-! ### of one argument, of two -/
def fn1 (m : O → Option R) : List O → Option R
  | [o] => m o
  | _ => none
def fn2 (m : O → O → Option R) : List O → Option R
  | [o, u] => m o u
  | _ => none
theorem fn1_ok {G : CC} {r : List V → Hp → VK → Prop} {m : O → Option R} (h : ∀ F H v o f Q, Le F H → Own G F H v o f → VPost G F H Q (m o) → r [v] H Q) : CallD G r (fn1 m) := by
  intro F H vs os Q l ha p
  cases ha with
  | nil => exact p.elim
  | cons a r =>
    cases r with
    | nil => exact h F H _ _ _ Q l a p
    | cons _ _ => exact p.elim
theorem fn2_ok {G : CC} {r : List V → Hp → VK → Prop} {m : O → O → Option R} (h : ∀ F H v w o u f g Q, Le F H → Own G F H v o f → Own G F H w u g → VPost G F H Q (m o u) → r [v, w] H Q) : CallD G r (fn2 m) := by
  intro F H vs os Q l ha p
  cases ha with
  | nil => exact p.elim
  | cons a r =>
    cases r with
    | nil => exact p.elim
    | cons b r =>
      cases r with
      | nil => exact h F H _ _ _ _ _ _ Q l a b p
      | cons _ _ => exact p.elim

/-! ### len -/
def lenQ (o : O) : Option R := match o.items with
  | some os => rInt os.length
  | none => match o.str? with
    | some s => if s.length ≤ ML then rInt s.length else none
    | none => none
def rLen (K : PySem.W.Frag) : List V → Hp → VK → Prop := fun xs H Q => ∃ x n, xs = [x] ∧ LenV K x H n ∧ Q (.int n) H
theorem lenQ_ok {G : CC} : CallD G (rLen G.K) (fn1 lenQ) := fn1_ok fun F H v o f Q l ha p => by
  unfold lenQ at p
  split at p
  · rename_i os e
    obtain ⟨a, vs, g, rfl, s, r⟩ := ha.itemsOf l e
    rw [← r.length] at p
    exact ⟨_, vs.length, rfl, s.imp (fun s => ⟨vs, s, rfl⟩) fun s => ⟨vs, s, rfl⟩, vp_sh l (.int _) p⟩
  · split at p
    · rename_i s e
      rw [O.str?_eq e] at ha
      split at p
      · rename_i hz
        exact ⟨_, s.length, rfl, by rw [ha.strV]; exact ⟨by rw [SX.S_len, ← ML_eq]; exact hz, (SX.S_len s).symm⟩, vp_sh l (.int _) p⟩
      · exact p.elim
    · exact p.elim

/-! ### all, any, sum -/
def allO (o : O) : Option R := match o.lst?.bind dbls with
  | some bs => rBl (bs.all id)
  | none => none
def anyO (o : O) : Option R := match o.lst?.bind dbls with
  | some bs => rBl (bs.any id)
  | none => none
def sumO (o : O) : Option R := match o.lst?.bind dints with
  | some bs => rInt bs.sum
  | none => none
theorem bind_some {α β : Type} {o : Option α} {k : α → Option β} {b : β} (h : o.bind k = some b) : ∃ a, o = some a ∧ k a = some b := by
  cases o with
  | none => cases h
  | some a => exact ⟨a, rfl, h⟩
theorem allO_ok {G : CC} : CallD G (rAll G.K) (fn1 allO) := fn1_ok fun F H v o f Q l ha p => by
  unfold allO at p
  split at p
  · rename_i bs e2
    obtain ⟨ds, e, e2⟩ := bind_some e2
    obtain ⟨a, vs, rfl, s, r⟩ := ha.lstOf l e
    exact ⟨a, bs, rfl, (by rw [← r.dbls e2]; exact s), vp_sh l (.bl _) p⟩
  · exact p.elim
theorem anyO_ok {G : CC} : CallD G (rAny G.K) (fn1 anyO) := fn1_ok fun F H v o f Q l ha p => by
  unfold anyO at p
  split at p
  · rename_i bs e2
    obtain ⟨ds, e, e2⟩ := bind_some e2
    obtain ⟨a, vs, rfl, s, r⟩ := ha.lstOf l e
    exact ⟨a, bs, rfl, (by rw [← r.dbls e2]; exact s), vp_sh l (.bl _) p⟩
  · exact p.elim
theorem sumO_ok {G : CC} : CallD G (rSum G.K) (fn1 sumO) := fn1_ok fun F H v o f Q l ha p => by
  unfold sumO at p
  split at p
  · rename_i bs e2
    obtain ⟨ds, e, e2⟩ := bind_some e2
    obtain ⟨a, vs, rfl, s, r⟩ := ha.lstOf l e
    exact ⟨a, bs, rfl, (by rw [← r.dints e2]; exact s), vp_sh l (.int _) p⟩
  · exact p.elim

/-! ### dints -/
def callI2 (g : Int → Int → Int) (a b : O) : Option R := match a.int?, b.int? with
  | some i, some j => rInt (g i j)
  | _, _ => none
theorem callI2_ok {G : CC} {g : Int → Int → Int} : CallD G (fun xs H Q => ∃ i j, xs = [.int i, .int j] ∧ Q (.int (g i j)) H) (fn2 (callI2 g)) := fn2_ok fun F H v w a b f f' Q l ha hb p => by
  unfold callI2 at p
  split at p
  · rename_i i j e1 e2
    rw [O.int?_eq e1] at ha
    rw [O.int?_eq e2] at hb
    exact ⟨i, j, by rw [ha.intV, hb.intV], vp_sh l (.int _) p⟩
  · exact p.elim
def maxO : O → O → Option R := callI2 fun i j => if j > i then j else i
def minO : O → O → Option R := callI2 fun i j => if j < i then j else i
theorem maxO_ok {G : CC} : CallD G (fun xs H Q => ∃ i j, xs = [.int i, .int j] ∧ Q (.int (if j > i then j else i)) H) (fn2 maxO) := callI2_ok
theorem minO_ok {G : CC} : CallD G (fun xs H Q => ∃ i j, xs = [.int i, .int j] ∧ Q (.int (if j < i then j else i)) H) (fn2 minO) := callI2_ok
def absO (a : O) : Option R := match a.int? with
  | some i => rInt (if i < 0 then -i else i)
  | none => none
theorem absO_ok {G : CC} : CallD G (fun xs H Q => ∃ i, xs = [.int i] ∧ Q (.int (if i < 0 then -i else i)) H) (fn1 absO) := fn1_ok fun F H v o f Q l ha p => by
  unfold absO at p
  split at p
  · rename_i i e1
    rw [O.int?_eq e1] at ha
    exact ⟨i, by rw [ha.intV], vp_sh l (.int _) p⟩
  · exact p.elim
/-- int(i), int(truth) -/
def intO (a : O) : Option R := match a.int? with
  | some i => rInt i
  | none => match a.bl? with
    | some b => rInt (if b then 1 else 0)
    | none => none
theorem intO_ok {G : CC} : CallD G (fun xs H Q => (∃ i, xs = [.int i] ∧ Q (.int i) H) ∨ ∃ k, xs = [.bl k] ∧ Q (.int (if k then 1 else 0)) H) (fn1 intO) := fn1_ok fun F H v o f Q l ha p => by
  unfold intO at p
  split at p
  · rename_i i e1
    rw [O.int?_eq e1] at ha
    exact .inl ⟨_, by rw [ha.intV], vp_sh l (.int _) p⟩
  · split at p
    · rename_i i e1
      rw [O.bl?_eq e1] at ha
      exact .inr ⟨_, by rw [ha.blV], vp_sh l (.int _) p⟩
    · exact p.elim

/-! ### list(..), tuple(..) -/
def listO (o : O) : Option R := match o.seq? with
  | some l => rLst l
  | none => none
theorem Own.seqOf {G : CC} {F H : Hp} {v : V} {o : O} {f : List Addr} (l : Le F H) (h : Own G F H v o f) {ds : List D} (e : o.seq? = some ds) : ∃ a vs, v = .ref a ∧ (SqL G.K H a vs ∨ SqT G.K H a vs) ∧ Reps G F vs ds := by
  unfold O.seq? at e
  split at e
  · rename_i l' e1
    cases e
    obtain ⟨a, vs, h1, h2, h3⟩ := h.lstOf l e1
    exact ⟨a, vs, h1, .inl h2, h3⟩
  · obtain ⟨a, vs, h1, h2, h3⟩ := h.tupOf l e
    exact ⟨a, vs, h1, .inr h2, h3⟩
theorem listO_ok {G : CC} : CallD G (fun xs H Q => ∃ p ys, xs = [.ref p] ∧ (SqL G.K H p ys ∨ SqT G.K H p ys) ∧ ∀ l, H l = none → Q (.ref l) (upd H l (.lst ys))) (fn1 listO) := fn1_ok fun F H v o f Q l ha p => by
  unfold listO at p
  split at p
  · rename_i ds e1
    obtain ⟨a, vs, rfl, s, r⟩ := ha.seqOf l e1
    exact ⟨a, vs, rfl, s, fun q hq => vp_lst l hq r p⟩
  · exact p.elim
def tupleO (o : O) : Option R := match o.lst? with
  | some l => rSh (.tup l)
  | none => match o.ftup? with
    | some l => rSh (.tup l)
    | none => none
theorem tupleO_ok {G : CC} : CallD G (fun xs H Q => ∃ p ys, xs = [.ref p] ∧ ((SqL G.K H p ys ∧ ∀ l, H l = none → Q (.ref l) (upd H l (.tup ys))) ∨ (SqT G.K H p ys ∧ Q (.ref p) H))) (fn1 tupleO) := fn1_ok fun F H v o f Q l ha p => by
  unfold tupleO at p
  split at p
  · rename_i ds e1
    obtain ⟨a, vs, rfl, s, r⟩ := ha.lstOf l e1
    exact ⟨a, vs, rfl, .inl ⟨s, fun q hq => vp_tup l hq r p⟩⟩
  · split at p
    · rename_i ds e1
      rw [O.ftup?_eq e1] at ha
      have r0 := ha.repOf
      obtain ⟨a, vs, rfl, s, r⟩ := ha.tupOf l rfl
      exact ⟨a, vs, rfl, .inr ⟨s, vp_sh l r0 p⟩⟩
    · exact p.elim

/-! ### isinstance against a built-in class -/
/-- the built-in classes that are asked about -/
inductive Bc where
  | int | str | list | tuple | dict | bool
def Bc.nm : Bc → String
  | .int => "int" | .str => "str" | .list => "list" | .tuple => "tuple" | .dict => "dict" | .bool => "bool"
/-- the class of a thing, of what is told of it -/
def O.ty : O → Option String
  | .sh .non => some "NoneType"
  | .sh (.bl _) => some "bool"
  | .sh (.int _) => some "int"
  | .sh (.str _) => some "str"
  | .sh (.tup _) => some "tuple"
  | .sh (.lst _) => some "list"
  | .sh (.dct _) => some "dict"
  | .dct _ _ => some "dict"
  | .lst _ => some "list"
  | .tup _ => some "tuple"
  | _ => none
def isB (T : Bc) (t : String) : Bool := T.nm == t || (T.nm == "int" && t == "bool")
def isiO (T : Bc) (o : O) : Option R := match o.ty with
  | some t => rBl (isB T t)
  | none => none
def isiOs (Ts : List Bc) (o : O) : Option R := match o.ty with
  | some t => rBl (Ts.any fun T => isB T t)
  | none => none
theorem Own.tyX {G : CC} {F H : Hp} {v : V} {o : O} {f : List Addr} (l : Le F H) (h : Own G F H v o f) {t : String} (e : o.ty = some t) : TyX G.K H v (.type t) := by
  cases h with
  | sh r =>
    cases r with
    | non => cases e; exact .base .non
    | bl b => cases e; exact .base (.bl b)
    | int i => cases e; exact .base (.int i)
    | str s => cases e; exact .base (.str _)
    | tup s r =>
      cases e
      rcases SqT.le l s with (s | ⟨o, s⟩) | ⟨o, its, n, h1, h2, _⟩
      · exact .base (.tup s)
      · exact .fTuple s
      · exact .kTuple h1 h2
    | lst s r =>
      cases e
      rcases SqL.le l s with (s | ⟨o, s⟩) | ⟨o, its, n, h1, h2, _⟩
      · exact .base (.lst s)
      · exact .base (.frz s)
      · exact .kList h1 h2
    | dct s _ r => cases e; exact .base (.dK (l _ _ s))
    | dcT s _ r => cases e; exact .base (.dT (l _ _ s))
    | _ => cases e
  | lst ha r => cases e; exact .base (.lst ha)
  | dct ha _ r => cases e; exact .base (.dK ha)
  | dcT ha _ r => cases e; exact .base (.dT ha)
  | tup ha r => cases e; exact .base (.tup ha)
  | _ => cases e
theorem kit_b (K : PySem.W.Frag) (T : Bc) {o : O} {t : String} (e : o.ty = some t) : PySem.W.kitOne K (.type t) (.type T.nm) = some (isB T t) := by
  have : t = "NoneType" ∨ t = "bool" ∨ t = "int" ∨ t = "str" ∨ t = "tuple" ∨ t = "list" ∨ t = "dict" := by
    cases o with
    | sh d => cases d <;> cases e <;> simp
    | dct _ _ => cases e; simp
    | lst _ => cases e; simp
    | tup _ => cases e; simp
    | _ => cases e
  rcases this with h | h | h | h | h | h | h <;> subst h <;> cases T <;> exact kit_ty (by decide +kernel)
/-! isinstance(e, T) -/
section
variable {X : Cx} {G : CC} {W : WX} {e : Expr} {m : En → Res R} {p p2 pos : Pos}
theorem tIsi_D {T : Bc} {σ : St} {H : Hp} {Q : VK} (h : tD G W (mUn (isiO T) m) σ H Q) : tCB (rIsi G.K) (tCons (tD G W m) (tCons (tC (.ty T.nm)) tNil)) σ H Q := by
  obtain ⟨F, B, L, en, fp, s, p⟩ := h
  refine ⟨F, B, L, en, fp, s, ?_⟩
  unfold mUn at p
  cases ea : m en with
  | stuck => rw [ea] at p; exact p.elim
  | exc x e => rw [ea] at p; exact p
  | ok a =>
    rw [ea] at p
    simp only [Res.bnd] at p
    intro x F1 H1 r1
    obtain ⟨f, q1⟩ := r1.has
    unfold isiO at p
    cases e : a.o.ty with
    | none => simp only [e] at p; exact p.elim
    | some t =>
      simp only [e] at p
      exact ⟨x, .ty T.nm, .type t, .type T.nm, _, rfl, .ty _, q1.tyX r1.nx.le e, kit_b _ T e, p _ F1 H1 (PR.after r1.nx (.sh r1.nx.le (.bl _)))⟩
theorem dp_isi (T : Bc) {x : Str} (hm : X.mg "isinstance" = none) (hmx : X.mg x = none) (ha : PE X e (tD G W m)) (hK : G.K = X.K := by rfl) (hv : bootBuiltins x = some (.type T.nm) := by decide +kernel) (hg : Gl X "isinstance" := by rfl) (hgx : Gl X x := by rfl)
    (hn : x ≠ "__name__" := by decide) (hdb : (x == ("__debug__" : Str)) = false := by decide)
    (hs1 : starEach [e, .Name x p2] X.env = (false, eval e X.env) :: starEach [.Name x p2] X.env := by rfl) (hpl : (backTo pos (starEach [.Name x p2] X.env)).any (·.1) = false := by rfl) :
    PE X (.Call (.Name "isinstance" p) [e, .Name x p2] [] pos) (tD G W (mUn (isiO T) m)) :=
  (pe_callB (call_isi (X := X)) hg hm (by decide +kernel) (pa_cons ha (pa_cons (pe_bltn (v := .ty T.nm) hgx hmx hv rfl hn hdb) pa_nil) hs1) (by decide) (by decide) hs1 hpl).imp fun _ _ _ h => hK ▸ tIsi_D h
/-- isinstance(e, (T, U)) -/
def mIsiT (Ts : List Bc) (m : En → Res R) : En → Res R := mUn (isiOs Ts) m
theorem dp_isi2 (T U : Bc) {x y : Str} {k} {p3 p4 : Pos} (hm : X.mg "isinstance" = none) (hmx : X.mg x = none) (hmy : X.mg y = none) (ha : PE X e (tD G W m)) (hK : G.K = X.K := by rfl) (hv : bootBuiltins x = some (.type T.nm) := by decide +kernel) (hvy : bootBuiltins y = some (.type U.nm) := by decide +kernel)
    (hg : Gl X "isinstance" := by rfl) (hgx : Gl X x := by rfl) (hgy : Gl X y := by rfl)
    (hn : x ≠ "__name__" := by decide) (hdb : (x == ("__debug__" : Str)) = false := by decide) (hny : y ≠ "__name__" := by decide) (hdby : (y == ("__debug__" : Str)) = false := by decide)
    (hs1 : starEach [e, .Tuple [.Name x p2, .Name y p3] k p4] X.env = (false, eval e X.env) :: starEach [.Tuple [.Name x p2, .Name y p3] k p4] X.env := by rfl) (hpl : (backTo pos (starEach [.Tuple [.Name x p2, .Name y p3] k p4] X.env)).any (·.1) = false := by rfl) :
    PE X (.Call (.Name "isinstance" p) [e, .Tuple [.Name x p2, .Name y p3] k p4] [] pos) (tD G W (mIsiT [T, U] m)) :=
  (pe_callB (call_isiT (X := X)) hg hm (by decide +kernel) (pa_cons ha (pa_cons (pe_tup (pa_cons (pe_bltn (v := .ty T.nm) hgx hmx hv rfl hn hdb) (pa_cons (pe_bltn (v := .ty U.nm) hgy hmy hvy rfl hny hdby) pa_nil))) pa_nil) hs1) (by decide) (by decide) hs1 hpl).imp fun σ H Q h => by
    obtain ⟨F, B, L, en, fp, s, p⟩ := h
    refine ⟨F, B, L, en, fp, s, ?_⟩
    unfold mIsiT mUn at p
    cases ea : m en with
    | stuck => rw [ea] at p; exact p.elim
    | exc x e => rw [ea] at p; exact p
    | ok a =>
      rw [ea] at p
      simp only [Res.bnd] at p
      intro x F1 H1 r1
      obtain ⟨f, q1⟩ := r1.has
      unfold isiOs at p
      cases e : a.o.ty with
      | none => simp only [e] at p; exact p.elim
      | some t =>
        simp only [e] at p
        refine ⟨by show 2 ≤ sizeLine; decide, fun tp hT => ?_⟩
        have n := Nx.newF (F := F1) (o := .tup [.ty T.nm, .ty U.nm]) r1.nx.le hT
        have q2 := q1.le (H' := upd H1 tp (.tup [.ty T.nm, .ty U.nm])) n.ff fun c u _ e => n.keep c u e
        refine ⟨x, tp, [.ty T.nm, .ty U.nm], .type t, [.type T.nm, .type U.nm], _, rfl, upd_same, .cons (.ty _) (.cons (.ty _) .nil), hK ▸ q2.tyX n.le e, ?_, p _ _ _ (PR.after (r1.nx.trans n) (.sh n.le (.bl _)))⟩
        refine kitAny_cons (kit_b _ T e) (fun h1 => kitAny_cons (kit_b _ U e) (fun h2 => ?_) fun h2 => ?_) fun h1 => ?_
        · simp [PySem.W.kitAny, h1, h2]
        · simp [h1, h2]
        · simp [h1]
end
end DL

set_option maxHeartbeats 1000000
/-! DH: freezing, moving, statements -/
namespace DL
open PySem PySem.Spec L2
open PyProof.Rows hiding St

/-! ### freezing -/
def frz (F H : Hp) (f : List Addr) : Hp := fun a => if a ∈ f then H a else F a
theorem frz_in {F H : Hp} {f : List Addr} {a : Addr} (h : a ∈ f) : frz F H f a = H a := if_pos h
theorem frz_out {F H : Hp} {f : List Addr} {a : Addr} (h : a ∉ f) : frz F H f a = F a := if_neg h
theorem frz_ge {F H : Hp} {f : List Addr} (d : ∀ a ∈ f, F a = none) : Le F (frz F H f) := fun a o e => by
  by_cases m : a ∈ f
  · rw [d a m] at e; cases e
  · rw [frz_out m]; exact e
theorem frz_le {F H : Hp} {f : List Addr} (l : Le F H) : Le (frz F H f) H := fun a o e => by
  by_cases m : a ∈ f
  · rw [frz_in m] at e; exact e
  · rw [frz_out m] at e; exact l a o e
section
variable {G : CC} {F F' H : Hp}
mutual
theorem Own.frozen (l : Le F F') : ∀ {v : V} {o : O} {f : List Addr}, (∀ a ∈ f, ∀ u, H a = some u → F' a = some u) → Own G F H v o f → Rep G F' v o.fz
  | _, _, _, _, .sh r => r.le l
  | _, _, _, k, .lst h r => by
    simp only [O.fz]
    exact .lst (SqL.of (k _ (List.mem_cons_self ..) _ h)) (Owns.frozen l (fun a m => k a (List.mem_cons_of_mem _ m)) r)
  | _, _, _, k, .tup h r => by
    simp only [O.fz]
    exact .tup (.of (k _ (List.mem_cons_self ..) _ h)) (Owns.frozen l (fun a m => k a (List.mem_cons_of_mem _ m)) r)
  | _, _, _, k, .dct h e r => by
    simp only [O.fz]
    exact .dct (k _ (List.mem_cons_self ..) _ h) (by rw [O.fzd_1]; exact e) (by rw [O.fzd_2]; exact Owns.frozen l (fun a m => k a (List.mem_cons_of_mem _ m)) r)
  | _, _, _, k, .dcT h e r => by
    simp only [O.fz]
    exact .dcT (k _ (List.mem_cons_self ..) _ h) (by rw [O.fzd_1]; exact e) (by rw [O.fzd_2]; exact Owns.frozen l (fun a m => k a (List.mem_cons_of_mem _ m)) r)
  | _, _, _, k, .ins h e r => by
    simp only [O.fz]
    exact .ins (k _ (List.mem_cons_self ..) _ h) (by rw [O.fzs_map, List.length_map]; exact e) (Owns.frozen l (fun a m => k a (List.mem_cons_of_mem _ m)) r)
theorem Owns.frozen (l : Le F F') : ∀ {vs : List V} {os : List O} {f : List Addr}, (∀ a ∈ f, ∀ u, H a = some u → F' a = some u) → Owns G F H vs os f → Reps G F' vs (O.fzs os)
  | _, _, _, _, .nil => .nil
  | _, _, _, k, .cons h r => .cons (Own.frozen l (fun a m => k a (List.mem_append_left _ m)) h) (Owns.frozen l (fun a m => k a (List.mem_append_right _ m)) r)
end
end

/-! ### slots -/
def Sl.lent? : Sl → Bool
  | .lent _ => true
  | _ => false
section
variable {G : CC} {F F' B H H' : Hp} {L σ : St} {en : En} {fp f g : List Addr} {v : V} {o : O}
/-- a slot is stored -/
theorem Sls.put (s : Sls G F B H L σ en fp) (q : Own G F H v o f) : ∀ {i : Nat} {z : Sl}, en[i]? = some z → z.lent? = false → ∃ fp', Sls G F B H L (σ.set i (some v)) (en.set i (.own o)) fp' ∧ (∀ a ∈ fp', a ∈ fp ++ f) ∧ ((fp ++ f).Nodup → fp'.Nodup) := by
  induction s with
  | nil => intro i z e; simp at e
  | un s ih =>
    intro i z e h
    cases i with
    | zero =>
      refine ⟨f ++ _, .own q s, fun a m => ?_, fun n => ?_⟩
      · exact (List.mem_append.mp m).elim (fun m => List.mem_append_right _ m) fun m => List.mem_append_left _ m
      · exact (List.perm_append_comm.nodup_iff).mp n
    | succ i =>
      obtain ⟨fp', h1, h2, h3⟩ := ih (i := i) (z := z) (by simpa using e) h
      exact ⟨fp', .un h1, h2, h3⟩
  | @own v0 o0 f0 L σ en fp q0 s ih =>
    intro i z e h
    cases i with
    | zero =>
      refine ⟨f ++ _, .own q s, fun a m => ?_, fun n => ?_⟩
      · exact (List.mem_append.mp m).elim (fun m => List.mem_append_right _ m) fun m => List.mem_append_left _ (List.mem_append_right _ m)
      · rw [List.append_assoc] at n
        exact (List.perm_append_comm.nodup_iff).mp ((List.nodup_append.mp n).2.1)
    | succ i =>
      obtain ⟨fp', h1, h2, h3⟩ := ih (i := i) (z := z) (by simpa using e) h
      refine ⟨f0 ++ fp', .own q0 h1, fun a m => ?_, fun n => ?_⟩
      · rw [List.append_assoc]
        exact (List.mem_append.mp m).elim (fun m => List.mem_append_left _ m) fun m => List.mem_append_right _ (h2 a m)
      · rw [List.append_assoc] at n
        obtain ⟨n1, n2, n3⟩ := List.nodup_append.mp n
        exact List.nodup_append.mpr ⟨n1, h3 n2, fun a ha b hb => n3 a ha b (h2 b hb)⟩
  | @lent v0 o0 f0 L σ en fp q0 s ih =>
    intro i z e h
    cases i with
    | zero => simp at e; subst e; cases h
    | succ i =>
      obtain ⟨fp', h1, h2, h3⟩ := ih (i := i) (z := z) (by simpa using e) h
      refine ⟨f0 ++ fp', .lent q0 h1, fun a m => ?_, fun n => ?_⟩
      · rw [List.append_assoc]
        exact (List.mem_append.mp m).elim (fun m => List.mem_append_left _ m) fun m => List.mem_append_right _ (h2 a m)
      · rw [List.append_assoc] at n
        obtain ⟨n1, n2, n3⟩ := List.nodup_append.mp n
        exact List.nodup_append.mpr ⟨n1, h3 n2, fun a ha b hb => n3 a ha b (h2 b hb)⟩
  | @bor v0 o0 f0 L σ en fp q0 s ih =>
    intro i z e h
    cases i with
    | zero =>
      refine ⟨f ++ _, .own q s, fun a m => ?_, fun n => ?_⟩
      · exact (List.mem_append.mp m).elim (fun m => List.mem_append_right _ m) fun m => List.mem_append_left _ m
      · exact (List.perm_append_comm.nodup_iff).mp n
    | succ i =>
      obtain ⟨fp', h1, h2, h3⟩ := ih (i := i) (z := z) (by simpa using e) h
      exact ⟨fp', .bor q0 h1, h2, h3⟩
/-- a slot is forgotten: its thing, the others -/
theorem Sls.take (s : Sls G F B H L σ en fp) : ∀ {i : Nat} {o : O}, en[i]? = some (.own o) → ∃ v f fp', σ[i]? = some (some v) ∧ Own G F H v o f ∧ Sls G F B H L σ (en.set i .un) fp' ∧ (fp' ++ f).Perm fp := by
  induction s with
  | nil => intro i o e; simp at e
  | un s ih =>
    intro i o e
    cases i with
    | zero => simp at e
    | succ i =>
      obtain ⟨v, f, fp', h1, h2, h3, h4⟩ := ih (i := i) (o := o) (by simpa using e)
      exact ⟨v, f, fp', h1, h2, .un h3, h4⟩
  | @own v0 o0 f0 L σ en fp q0 s ih =>
    intro i o e
    cases i with
    | zero =>
      simp at e
      subst e
      exact ⟨v0, f0, fp, rfl, q0, .un s, List.perm_append_comm⟩
    | succ i =>
      obtain ⟨v, f, fp', h1, h2, h3, h4⟩ := ih (i := i) (o := o) (by simpa using e)
      exact ⟨v, f, f0 ++ fp', h1, h2, .own q0 h3, by rw [List.append_assoc]; exact List.Perm.append_left f0 h4⟩
  | @lent v0 o0 f0 L σ en fp q0 s ih =>
    intro i o e
    cases i with
    | zero => simp at e
    | succ i =>
      obtain ⟨v, f, fp', h1, h2, h3, h4⟩ := ih (i := i) (o := o) (by simpa using e)
      exact ⟨v, f, f0 ++ fp', h1, h2, .lent q0 h3, by rw [List.append_assoc]; exact List.Perm.append_left f0 h4⟩
  | @bor v0 o0 f0 L σ en fp q0 s ih =>
    intro i o e
    cases i with
    | zero => simp at e
    | succ i =>
      obtain ⟨v, f, fp', h1, h2, h3, h4⟩ := ih (i := i) (o := o) (by simpa using e)
      exact ⟨v, f, fp', h1, h2, .bor q0 h3, h4⟩
theorem SRep.put (s : SRep G F B H L σ en fp) (q : Own G F H v o f) (nd : (fp ++ f).Nodup) (df : ∀ a ∈ f, F a = none ∧ B a = none) {i : Nat} {z : Sl} (e : en[i]? = some z) (h : z.lent? = false) :
    ∃ fp', SRep G F B H L (σ.set i (some v)) (en.set i (.own o)) fp' ∧ ∀ a ∈ fp', a ∈ fp ++ f := by
  obtain ⟨fp', h1, h2, h3⟩ := s.sl.put q e h
  exact ⟨fp', ⟨s.lf, s.lb, h1, h3 nd, fun a m => (List.mem_append.mp (h2 a m)).elim (s.df a) (df a)⟩, h2⟩
theorem SRep.take (s : SRep G F B H L σ en fp) {i : Nat} {o : O} (e : en[i]? = some (.own o)) : ∃ v f fp', σ[i]? = some (some v) ∧ Own G F H v o f ∧ SRep G F B H L σ (en.set i .un) fp' ∧ (fp' ++ f).Perm fp := by
  obtain ⟨v, f, fp', h1, h2, h3, h4⟩ := s.sl.take e
  have n := (h4.nodup_iff).mpr s.nd
  exact ⟨v, f, fp', h1, h2, ⟨s.lf, s.lb, h3, (List.nodup_append.mp n).1, fun a m => s.df a (h4.mem_iff.mp (List.mem_append_left _ m))⟩, h4⟩
/-- what is stored behind an expression -/
theorem XR.put {F₀ H₀ : Hp} {fp₀ : List Addr} (lb : Le B H₀) (df : ∀ a ∈ fp₀, B a = none) (h : XR G B L F₀ F H₀ H σ fp₀ v o en) {i : Nat} {z : Sl} (e : en[i]? = some z) (hz : z.lent? = false) : NR G B L F₀ F H₀ H (σ.set i (some v)) fp₀ (en.set i (.own o)) := by
  obtain ⟨fp', f, n, s, q, nd, fr⟩ := h
  obtain ⟨fp2, s2, m2⟩ := s.put q nd (fun a m => ⟨fr a m, by
    rcases n.fr a (List.mem_append_right _ m) with x | x
    · exact df a x
    · exact lb.noneOf x⟩) e hz
  exact ⟨fp2, n.sub m2, s2⟩
end

/-! ### expressions whose things are one's own -/
def mLift (m : En → Res R) (en : En) : Res (O × En) := (m en).bnd fun r => match r with
  | .own o => .ok (o, en)
  | .bor _ => .stuck
/-- the thing of a slot, moved out of it -/
def mMove (i : Nat) (en : En) : Res (O × En) := match en[i]? with
  | some (.own (.sh d)) => .ok (.sh d, en)
  | some (.own o) => .ok (o, en.set i .un)
  | some s => match s.look with
    | some (.own o) => .ok (o, en)
    | _ => .stuck
  | none => .stuck
/-- what can be frozen at once -/
def O.nodct : O → Bool
  | .sh _ => true
  | .lst l => l.attach.all fun ⟨o, _⟩ => o.nodct
  | .tup l => l.attach.all fun ⟨o, _⟩ => o.nodct
  | .dct _ _ => false
  | .ins _ l => l.attach.all fun ⟨o, _⟩ => o.nodct
/-- the thing of a slot, frozen and shared -/
def mShare (i : Nat) (en : En) : Res (O × En) := match en[i]? with
  | some (.own (.sh d)) => .ok (.sh d, en)
  | some (.own o) => .ok (.sh o.fz, en.set i (.own (.sh o.fz)))
  | some s => match s.look with
    | some (.own o) => .ok (o, en)
    | _ => .stuck
  | none => .stuck
section
variable {X : Cx} {G : CC} {W : WX} {pos : Pos} {e : Expr} {m : En → Res R}
theorem tLift_D {σ : St} {H : Hp} {Q : VK} (h : tX G W (mLift m) σ H Q) : tD G W m σ H Q := by
  obtain ⟨F, B, L, en, fp, s, p⟩ := h
  refine ⟨F, B, L, en, fp, s, ?_⟩
  unfold mLift at p
  cases ea : m en with
  | stuck => rw [ea] at p; exact p.elim
  | exc x e => rw [ea] at p; exact p
  | ok r =>
    rw [ea] at p
    simp only [Res.bnd] at p
    cases r with
    | bor o => exact p.elim
    | own o => exact fun v F1 H1 r1 => p v F1 H1 (r1.toX s)
theorem dx_of (h : PE X e (tD G W m)) : PE X e (tX G W (mLift m)) := h.imp fun _ _ _ h => tLift_D h
theorem look_ok {F B H : Hp} {L σ : St} {en : En} {fp : List Addr} (s : SRep G F B H L σ en fp) {i : Nat} {z : Sl} {o : O} (e : en[i]? = some z) (h : z.look = some (.own o)) : ∃ v d, σ[i]? = some (some v) ∧ o = .sh d ∧ Rep G F v d := by
  obtain ⟨v, hv, q⟩ := s.sl.get s.lb (i := i) (r := .own o) (by rw [e]; exact h)
  rcases q with ⟨d, e, q⟩ | ⟨_, _, e, _⟩
  · cases e; exact ⟨v, d, hv, rfl, q⟩
  · cases e
theorem XR.shared {F B H : Hp} {L σ : St} {en : En} {fp : List Addr} {v : V} {d : D} (s : SRep G F B H L σ en fp) (r : Rep G F v d) : XR G B L F F H H σ fp v (.sh d) en :=
  ⟨fp, [], by rw [List.append_nil]; exact Nx.refl s.lf, s, .sh r, by rw [List.append_nil]; exact s.nd, fun _ m => nomatch m⟩
theorem dx_move (i : Nat) {x : Str} (hN : X.N[i]? = some x := by rfl) (hv : Vis X.env.scope x := by first | exact Or.inl rfl | exact Or.inr (Or.inl rfl) | exact Or.inr (Or.inr rfl)) (hd : (x == ("__debug__" : Str)) = false := by decide)
    (hcd : (x == ("__classdict__" : Str)) = false := by decide) : PE X (.Name x pos) (tX G W (mMove i)) := (pe_var hN hv hd hcd).imp fun σ H Q h => by
  obtain ⟨F, B, L, en, fp, s, p⟩ := h
  unfold mMove at p
  have gen : ∀ z, en[i]? = some z → XPost G W F B L H σ fp Q (match z.look with | some (.own o) => .ok (o, en) | _ => .stuck) → tVar i σ H Q := fun z e p => by
    cases e2 : z.look with
    | none => simp only [e2] at p; exact p.elim
    | some r =>
      cases r with
      | bor o => simp only [e2] at p; exact p.elim
      | own o =>
        simp only [e2] at p
        obtain ⟨v, d, hv, rfl, r⟩ := look_ok s e e2
        exact ⟨v, hv, p v F H (.shared s r)⟩
  cases e : en[i]? with
  | none => simp only [e] at p; exact p.elim
  | some z =>
    simp only [e] at p
    cases z with
    | own o =>
      obtain ⟨v, f, fp', hv, q, s', pm⟩ := s.take e
      cases o with
      | sh d =>
        refine ⟨v, hv, p v F H (.shared s q.repOf)⟩
      | _ =>
        refine ⟨v, hv, p v F H ⟨fp', f, (Nx.refl s.lf).sub fun a m => pm.mem_iff.mp m, s', q, (pm.nodup_iff).mpr s.nd, fun a m => (s.df a (pm.mem_iff.mp (List.mem_append_right _ m))).1⟩⟩
    | un => exact gen _ e p
    | lent o => exact gen _ e p
    | bor o => exact gen _ e p
theorem set_set_en (en : En) (i : Nat) (a b : Sl) : (en.set i a).set i b = en.set i b := by simp
theorem share_reads {i : Nat} {σ : St} {H : Hp} {Q : VK} (h : tX G W (mShare i) σ H Q) : tVar i σ H Q := by
  obtain ⟨F, B, L, en, fp, s, p⟩ := h
  unfold mShare at p
  have gen : ∀ z, en[i]? = some z → XPost G W F B L H σ fp Q (match z.look with | some (.own o) => .ok (o, en) | _ => .stuck) → tVar i σ H Q := fun z e p => by
    cases e2 : z.look with
    | none => simp only [e2] at p; exact p.elim
    | some r =>
      cases r with
      | bor o => simp only [e2] at p; exact p.elim
      | own o =>
        simp only [e2] at p
        obtain ⟨v, d, hv, rfl, r⟩ := look_ok s e e2
        exact ⟨v, hv, p v F H (.shared s r)⟩
  have fz : ∀ o, en[i]? = some (.own o) → XPost G W F B L H σ fp Q (.ok (.sh o.fz, en.set i (.own (.sh o.fz)))) → tVar i σ H Q := fun o e p => by
    obtain ⟨v, f, fp', hv, q, s', pm⟩ := s.take e
    have df : ∀ a ∈ f, F a = none := fun a m => (s.df a (pm.mem_iff.mp (List.mem_append_right _ m))).1
    have nd := (pm.nodup_iff).mpr s.nd
    obtain ⟨n1, n2, n3⟩ := List.nodup_append.mp nd
    have l := frz_ge (H := H) df
    have rep := q.frozen l fun a m u h => by rw [frz_in m]; exact h
    have out : ∀ a ∈ fp', a ∉ f := fun a m m' => n3 a m a m' rfl
    have s2 : SRep G (frz F H f) B H L σ (en.set i .un) fp' := ⟨frz_le s.lf, s'.lb, s'.sl.le l fun _ _ _ h => h, s'.nd, fun a m => ⟨by rw [frz_out (out a m)]; exact (s'.df a m).1, (s'.df a m).2⟩⟩
    have hi : i < en.length := (List.getElem?_eq_some_iff.mp e).1
    obtain ⟨fp3, s3, m3⟩ := s2.put (Own.sh rep) (by rw [List.append_nil]; exact n1) (fun _ m => nomatch m) (i := i) (z := .un) (by rw [List.getElem?_set_self hi]) rfl
    rw [set_set_en] at s3
    have hσ : σ.set i (some v) = σ := by
      apply List.ext_getElem?
      intro j
      by_cases hj : i = j
      · subst hj
        have : i < σ.length := (List.getElem?_eq_some_iff.mp hv).1
        rw [List.getElem?_set_self this, hv]
      · rw [List.getElem?_set_ne hj]
    rw [hσ] at s3
    refine ⟨v, hv, p v (frz F H f) H ⟨fp3, [], ?_, s3, .sh rep, by rw [List.append_nil]; exact s3.nd, fun _ m => nomatch m⟩⟩
    rw [List.append_nil]
    refine ⟨l, fun a o h _ => h, fun a h h' => .inr ?_, fun a m => .inl ?_, frz_le s.lf⟩
    · by_cases m : a ∈ f
      · exact pm.mem_iff.mp (List.mem_append_right _ m)
      · rw [frz_out m] at h'; exact (h' h).elim
    · have := m3 a m
      rw [List.append_nil] at this
      exact pm.mem_iff.mp (List.mem_append_left _ this)
  cases e : en[i]? with
  | none => simp only [e] at p; exact p.elim
  | some z =>
    simp only [e] at p
    cases z with
    | own o =>
      cases o with
      | sh d =>
        obtain ⟨v, f, fp', hv, q, s', pm⟩ := s.take e
        exact ⟨v, hv, p v F H (.shared s q.repOf)⟩
      | lst l => exact fz _ e p
      | tup l => exact fz _ e p
      | dct k l => exact fz _ e p
      | ins c l => exact fz _ e p
    | un => exact gen _ e p
    | lent o => exact gen _ e p
    | bor o => exact gen _ e p
theorem dx_share (i : Nat) {x : Str} (hN : X.N[i]? = some x := by rfl) (hv : Vis X.env.scope x := by first | exact Or.inl rfl | exact Or.inr (Or.inl rfl) | exact Or.inr (Or.inr rfl)) (hd : (x == ("__debug__" : Str)) = false := by decide)
    (hcd : (x == ("__classdict__" : Str)) = false := by decide) : PE X (.Name x pos) (tX G W (mShare i)) := (pe_var hN hv hd hcd).imp fun σ H Q h => share_reads h
end

/-! ### statements -/
def SR.of {α : Type} : Res α → (α → SR) → SR
  | .ok a, k => k a
  | .exc x e, _ => .exc x e
  | .stuck, _ => .stuck
def Sl.free? (z : Option Sl) : Bool := match z with
  | some z => !z.lent?
  | none => false
/-- name = e -/
def mSet (i : Nat) (m : En → Res (O × En)) (en : En) : SR := .of (m en) fun r => if Sl.free? r.2[i]? then .nx (r.2.set i (.own r.1)) else .stuck
def mRet (m : En → Res (O × En)) (en : En) : SR := .of (m en) fun r => .rt r.1 r.2
def mRetN (en : En) : SR := .rt (.sh .non) en
def mDrop (m : En → Res (O × En)) (en : En) : SR := .of (m en) fun r => .nx r.2
def mIfS (n : En → Res Bool) (a b : En → SR) (en : En) : SR := .of (n en) fun k => if k then a en else b en
def mIfY (n : En → Res (Bool × En)) (a b : En → SR) (en : En) : SR := .of (n en) fun r => if r.1 then a r.2 else b r.2
def mNx (en : En) : SR := .nx en
def mBk (en : En) : SR := .bk en
def mCt (en : En) : SR := .ct en
def mSeq (a b : En → SR) (en : En) : SR := match a en with
  | .nx en' => b en'
  | r => r
section
variable {X : Cx} {G : CC} {W : WX} {pos : Pos} {e c : Expr} {m : En → Res (O × En)} {a b : List Stmt} {st : Stmt} {rest : List Stmt} {ma mb : En → SR}
theorem Sl.free_ok {z : Option Sl} (h : Sl.free? z = true) : ∃ y, z = some y ∧ y.lent? = false := by
  cases z with
  | none => cases h
  | some y => exact ⟨y, rfl, by simpa [Sl.free?] using h⟩
theorem tSet_D {i : Nat} {D : Ends} {σ : St} {H : Hp} (h : tS G W (mSet i m) D σ H) : tX G W m σ H (fun x H1 => D.nx (σ.set i (some x)) H1) := by
  obtain ⟨F, B, L, en, fp, s, p⟩ := h
  refine ⟨F, B, L, en, fp, s, ?_⟩
  unfold mSet at p
  cases ea : m en with
  | stuck => rw [ea] at p; exact p.elim
  | exc x e => rw [ea] at p; exact p
  | ok r =>
    rw [ea] at p
    simp only [SR.of] at p
    intro v F1 H1 r1
    split at p
    · rename_i hz
      obtain ⟨z, e1, e2⟩ := Sl.free_ok hz
      exact p _ F1 H1 (r1.put s.lb (fun a m => (s.df a m).2) e1 e2)
    · exact p.elim
theorem ds_set (i : Nat) {x : Str} {pos' : Pos} (he : PE X e (tX G W m)) (hN : X.N.Nodup) (hi : X.N[i]? = some x := by rfl) (hx : Loc X.env.scope x := by first | exact Or.inl rfl | exact Or.inr rfl) (hs : swapsWith e (some (.Name x pos')) pos.line X.env = pure false := by rfl)
    (hf : X.fn x = true ∨ X.env.scope.names.lookup x = some .local := by first | exact .inl rfl | exact .inr rfl) : PS X (.Assign [.Name x pos'] e pos) (tS G W (mSet i m)) := (ps_set hN hi hx he hs hf).imp fun _ _ _ h => tSet_D h
theorem ds_ret (he : PE X e (tX G W m)) : PS X (.Return (some e) pos) (tS G W (mRet m)) := (ps_ret he).imp fun D σ H h => by
  obtain ⟨F, B, L, en, fp, s, p⟩ := h
  refine ⟨F, B, L, en, fp, s, ?_⟩
  unfold mRet at p
  cases ea : m en with
  | stuck => rw [ea] at p; exact p.elim
  | exc x e => rw [ea] at p; exact p
  | ok r =>
    rw [ea] at p
    exact fun v F1 H1 r1 => p v σ F1 H1 r1
theorem ds_retN : PS X (.Return none pos) (tS G W mRetN) := ps_retN.imp fun D σ H h => by
  obtain ⟨F, B, L, en, fp, s, p⟩ := h
  exact p .non σ F H (.shared s .non)
theorem ds_expr (he : PE X e (tX G W m)) (hs : swapsWith e none pos.line X.env = pure false := by rfl) : PS X (.Expr e pos) (tS G W (mDrop m)) := (ps_expr he hs).imp fun D σ H h => by
  obtain ⟨F, B, L, en, fp, s, p⟩ := h
  refine ⟨F, B, L, en, fp, s, ?_⟩
  unfold mDrop at p
  cases ea : m en with
  | stuck => rw [ea] at p; exact p.elim
  | exc x e => rw [ea] at p; exact p
  | ok r =>
    rw [ea] at p
    exact fun v F1 H1 r1 => p σ F1 H1 r1.nr
theorem ds_if {n : En → Res Bool} (hc : PT X c (tT G W n)) (ha : PSs X a (tS G W ma)) (hb : PSs X b (tS G W mb)) : PS X (.If c a b pos) (tS G W (mIfS n ma mb)) := (ps_if hc ha hb).imp fun D σ H h => by
  obtain ⟨F, B, L, en, fp, s, p⟩ := h
  refine ⟨F, B, L, en, fp, s, ?_⟩
  unfold mIfS at p
  cases ea : n en with
  | stuck => rw [ea] at p; exact p.elim
  | exc x e => rw [ea] at p; exact p
  | ok k =>
    rw [ea] at p
    simp only [SR.of] at p
    intro F1 H1 n1
    cases k with
    | true => exact ⟨F1, B, L, en, fp, s.pure n1, SPost.after (n1.wide0 fp) p⟩
    | false => exact ⟨F1, B, L, en, fp, s.pure n1, SPost.after (n1.wide0 fp) p⟩
theorem ds_ifY {n : En → Res (Bool × En)} (hc : PT X c (tY G W n)) (ha : PSs X a (tS G W ma)) (hb : PSs X b (tS G W mb)) : PS X (.If c a b pos) (tS G W (mIfY n ma mb)) := (ps_if hc ha hb).imp fun D σ H h => by
  obtain ⟨F, B, L, en, fp, s, p⟩ := h
  refine ⟨F, B, L, en, fp, s, ?_⟩
  unfold mIfY at p
  cases ea : n en with
  | stuck => rw [ea] at p; exact p.elim
  | exc x e => rw [ea] at p; exact p
  | ok r =>
    obtain ⟨k, en'⟩ := r
    rw [ea] at p
    simp only [SR.of] at p
    intro F1 H1 n1
    obtain ⟨fp', n1, s'⟩ := n1
    cases k with
    | true => exact ⟨F1, B, L, en', fp', s', SPost.after n1 p⟩
    | false => exact ⟨F1, B, L, en', fp', s', SPost.after n1 p⟩
theorem dss_nil : PSs X [] (tS G W mNx) := pss_nil.imp fun D σ H h => by
  obtain ⟨F, B, L, en, fp, s, p⟩ := h
  exact p σ F H (.refl s)
theorem ds_pass : PS X (.Pass pos) (tS G W mNx) := ps_pass.imp fun D σ H h => by
  obtain ⟨F, B, L, en, fp, s, p⟩ := h
  exact p σ F H (.refl s)
theorem ds_break : PS X (.Break pos) (tS G W mBk) := ps_break.imp fun D σ H h => by
  obtain ⟨F, B, L, en, fp, s, p⟩ := h
  exact p σ F H (.refl s)
theorem ds_continue : PS X (.Continue pos) (tS G W mCt) := ps_continue.imp fun D σ H h => by
  obtain ⟨F, B, L, en, fp, s, p⟩ := h
  exact p σ F H (.refl s)
theorem dss_one (h : PS X st (tS G W ma)) : PSs X [st] (tS G W ma) := pss_one h
theorem dss_cons (h1 : PS X st (tS G W ma)) (h2 : PSs X rest (tS G W mb)) : PSs X (st :: rest) (tS G W (mSeq ma mb)) := (pss_cons h1 h2).imp fun D σ H h => by
  obtain ⟨F, B, L, en, fp, s, p⟩ := h
  refine ⟨F, B, L, en, fp, s, ?_⟩
  unfold mSeq at p
  cases ea : ma en with
  | nx en' =>
    rw [ea] at p
    intro σ1 F1 H1 n1
    obtain ⟨fp', n1, s'⟩ := n1
    exact ⟨F1, B, L, en', fp', s', SPost.after n1 p⟩
  | rt o en' => rw [ea] at p; exact p
  | bk en' => rw [ea] at p; exact p
  | ct en' => rw [ea] at p; exact p
  | exc x en' => rw [ea] at p; exact p
  | stuck => rw [ea] at p; exact p.elim
end
end DL

set_option maxHeartbeats 1000000
/-! DI: targets, loops -/
namespace DL
open PySem PySem.Spec L2
open PyProof.Rows hiding St

/-! ### slots forgotten -/
def wipe1 (en : En) (i : Nat) : En := match en[i]? with
  | some (.lent _) => en
  | _ => en.set i .un
def wipeE (en : En) : List Nat → En
  | [] => en
  | i :: is => wipe1 (wipeE en is) i
section
variable {G : CC} {F F' B H H' : Hp} {L σ : St} {en : En} {fp f g : List Addr} {v : V} {o : O}
theorem Sls.forget (s : Sls G F B H L σ en fp) : ∀ {i : Nat} (x : Option V), (∀ o, en[i]? ≠ some (.lent o)) → ∃ fp', Sls G F B H L (σ.set i x) (en.set i .un) fp' ∧ fp'.Sublist fp := by
  induction s with
  | nil => intro i x h; exact ⟨[], .nil, List.Sublist.refl _⟩
  | un s ih =>
    intro i x h
    cases i with
    | zero => exact ⟨_, .un s, List.Sublist.refl _⟩
    | succ i =>
      obtain ⟨fp', h1, h2⟩ := ih (i := i) x (fun o e => h o (by simpa using e))
      exact ⟨fp', .un h1, h2⟩
  | @own v0 o0 f0 L σ en fp q0 s ih =>
    intro i x h
    cases i with
    | zero => exact ⟨_, .un s, List.sublist_append_right _ _⟩
    | succ i =>
      obtain ⟨fp', h1, h2⟩ := ih (i := i) x (fun o e => h o (by simpa using e))
      exact ⟨f0 ++ fp', .own q0 h1, List.Sublist.append_left h2 f0⟩
  | @lent v0 o0 f0 L σ en fp q0 s ih =>
    intro i x h
    cases i with
    | zero => exact absurd rfl (h o0)
    | succ i =>
      obtain ⟨fp', h1, h2⟩ := ih (i := i) x (fun o e => h o (by simpa using e))
      exact ⟨f0 ++ fp', .lent q0 h1, List.Sublist.append_left h2 f0⟩
  | @bor v0 o0 f0 L σ en fp q0 s ih =>
    intro i x h
    cases i with
    | zero => exact ⟨_, .un s, List.Sublist.refl _⟩
    | succ i =>
      obtain ⟨fp', h1, h2⟩ := ih (i := i) x (fun o e => h o (by simpa using e))
      exact ⟨fp', .bor q0 h1, h2⟩
theorem SRep.sub (s : SRep G F B H L σ en fp) {σ' : St} {en' : En} {fp' : List Addr} (h : Sls G F B H L σ' en' fp') (sb : fp'.Sublist fp) : SRep G F B H L σ' en' fp' :=
  ⟨s.lf, s.lb, h, s.nd.sublist sb, fun a m => s.df a (sb.mem m)⟩
theorem SRep.wipe1 (s : SRep G F B H L σ en fp) (i : Nat) : ∃ fp', SRep G F B H L σ (wipe1 en i) fp' ∧ fp'.Sublist fp := by
  unfold DL.wipe1
  have gen : (∀ o, en[i]? ≠ some (.lent o)) → ∃ fp', SRep G F B H L σ (en.set i .un) fp' ∧ fp'.Sublist fp := fun h => by
    by_cases hi : i < σ.length
    · obtain ⟨fp', h1, h2⟩ := s.sl.forget (i := i) σ[i] h
      rw [List.set_getElem_self] at h1
      exact ⟨fp', s.sub h1 h2, h2⟩
    · have e : en.set i .un = en := List.set_eq_of_length_le (by have := s.sl.len.1; omega)
      rw [e]
      exact ⟨fp, s, List.Sublist.refl _⟩
  split
  · exact ⟨fp, s, List.Sublist.refl _⟩
  · rename_i h
    exact gen fun o e => h o e
theorem SRep.wipe (s : SRep G F B H L σ en fp) : ∀ is : List Nat, ∃ fp', SRep G F B H L σ (wipeE en is) fp' ∧ fp'.Sublist fp
  | [] => ⟨fp, s, List.Sublist.refl _⟩
  | i :: is => by
    obtain ⟨fp1, h1, h2⟩ := s.wipe is
    obtain ⟨fp2, h3, h4⟩ := h1.wipe1 i
    exact ⟨fp2, h3, h4.trans h2⟩
theorem NR.wipe (h : NR G B L F F' H H' σ fp en) (is : List Nat) : NR G B L F F' H H' σ fp (wipeE en is) := by
  obtain ⟨fp', n, s⟩ := h
  obtain ⟨fp2, s2, sb⟩ := s.wipe is
  exact ⟨fp2, n.sub fun a m => sb.mem m, s2⟩
end

/-! ### targets -/
/-- the slots but those at is are as they were -/
def OutEq (is : List Nat) (σ σ' : St) : Prop := σ'.length = σ.length ∧ ∀ j, j ∉ is → σ'[j]? = σ[j]?
section
variable (G : CC)
def GPost (is : List Nat) (F B H : Hp) (L σ : St) (fp : List Addr) (Q : St → Hp → Prop) : Option En → Prop
  | some en' => ∀ σ' fp', (∀ a ∈ fp', a ∈ fp) → OutEq is σ σ' → SRep G F B H L σ' en' fp' → Q σ' H
  | none => False
def tG (is : List Nat) (g : O → En → Option En) : TG := fun v σ H Q => ∃ F B L en fp o f, SRep G F B H L σ en fp ∧ Own G F H v o f ∧ (fp ++ f).Nodup ∧ (∀ a ∈ f, F a = none ∧ B a = none) ∧
  GPost G is F B H L σ (fp ++ f) Q (g o en)
def tGs (is : List Nat) (g : List O → En → Option En) : TGs := fun vs σ H Q => ∃ F B L en fp os f, SRep G F B H L σ en fp ∧ Owns G F H vs os f ∧ (fp ++ f).Nodup ∧ (∀ a ∈ f, F a = none ∧ B a = none) ∧
  GPost G is F B H L σ (fp ++ f) Q (g os en)
end
def gNm (i : Nat) (o : O) (en : En) : Option En := if Sl.free? en[i]? then some (en.set i (.own o)) else none
def gNl (os : List O) (en : En) : Option En := match os with
  | [] => some en
  | _ => none
def gCn (g : O → En → Option En) (gs : List O → En → Option En) (os : List O) (en : En) : Option En := match os with
  | o :: os => (g o en).bind (gs os)
  | [] => none
def gTp (n : Nat) (gs : List O → En → Option En) (o : O) (en : En) : Option En := match o with
  | .sh (.tup l) => if l.length = n then gs (l.map .sh) en else none
  | .sh (.lst l) => if l.length = n then gs (l.map .sh) en else none
  | .tup l => if l.length = n then gs l en else none
  | .lst l => if l.length = n then gs l en else none
  | _ => none
theorem _root_.L2.PG.or {X : Cx} {e : Expr} {t t' : TG} (h : PG X e t) (h' : PG X e t') : PG X e (fun v σ H Q => t v σ H Q ∨ t' v σ H Q) := ⟨fun pins s σ H v u Q I r q => q.elim (h.run pins s σ H v u Q I r) (h'.run pins s σ H v u Q I r)⟩
section
variable {X : Cx} {G : CC} {W : WX} {pos : Pos} {e : Expr} {es : List Expr} {g : O → En → Option En} {gs : List O → En → Option En} {is js : List Nat}
theorem dg_name (i : Nat) {x : Str} (hN : X.N.Nodup) (hi : X.N[i]? = some x := by rfl) (hx : Loc X.env.scope x := by first | exact Or.inl rfl | exact Or.inr rfl) (hf : X.fn x = true ∨ X.env.scope.names.lookup x = some .local := by first | exact .inl rfl | exact .inr rfl) :
    PG X (.Name x pos) (tG G [i] (gNm i)) := (pg_name hN hi hx hf).imp fun v σ H Q h => by
  obtain ⟨F, B, L, en, fp, o, f, s, q, nd, df, p⟩ := h
  unfold gNm at p
  split at p
  · rename_i hz
    obtain ⟨z, e1, e2⟩ := Sl.free_ok hz
    obtain ⟨fp2, s2, m2⟩ := s.put q nd df e1 e2
    exact p _ fp2 m2 ⟨List.length_set, fun j hj => List.getElem?_set_ne (fun e => hj (by simp [e]))⟩ s2
  · exact p.elim
theorem dgs_nil : PGs X [] (tGs G [] gNl) := ⟨fun pins s σ H vs us Q I r h => pgs_nil.run pins s σ H vs us Q I r (by
  obtain ⟨F, B, L, en, fp, os, f, s, q, nd, df, p⟩ := h
  cases q with
  | nil => exact ⟨rfl, p σ fp (fun a m => List.mem_append_left _ m) ⟨rfl, fun _ _ => rfl⟩ s⟩
  | cons _ _ => exact p.elim)⟩
theorem dgs_cons (h1 : PG X e (tG G is g)) (h2 : PGs X es (tGs G js gs)) (hs : (assignEach (e :: es) X.env).map (·.2) = assign e X.env :: (assignEach es X.env).map (·.2) := by rfl) : PGs X (e :: es) (tGs G (is ++ js) (gCn g gs)) :=
  ⟨fun pins s σ H vs us Q I r h => (pgs_cons h1 h2 hs).run pins s σ H vs us Q I r (by
    obtain ⟨F, B, L, en, fp, os, f, s, q, nd, df, p⟩ := h
    cases q with
    | nil => exact p.elim
    | @cons v o vs os f1 f2 q1 q2 =>
      rw [← List.append_assoc] at nd
      obtain ⟨nd1, nd2, nd3⟩ := List.nodup_append.mp nd
      refine ⟨v, vs, rfl, F, B, L, en, fp, o, f1, s, q1, nd1, fun a m => df a (List.mem_append_left _ m), ?_⟩
      unfold gCn at p
      cases e1 : g o en with
      | none => simp only [e1] at p; exact p.elim
      | some en1 =>
        simp only [e1, Option.bind_some] at p
        intro σ1 fp1 m1 oe1 s1
        refine ⟨F, B, L, en1, fp1, os, f2, s1, q2, ?_, fun a m => df a (List.mem_append_right _ m), ?_⟩
        · exact List.nodup_append.mpr ⟨s1.nd, nd2, fun a m b m' e => nd3 a (m1 a m) b m' e⟩
        · cases e2 : gs os en1 with
          | none => rw [e2] at p; exact p.elim
          | some en2 =>
            rw [e2] at p
            intro σ2 fp2 m2 oe2 s2
            refine p σ2 fp2 (fun a m => ?_) ⟨oe2.1.trans oe1.1, fun j hj => ?_⟩ s2
            · rw [← List.append_assoc]
              exact (List.mem_append.mp (m2 a m)).elim (fun m => List.mem_append_left _ (m1 a m)) fun m => List.mem_append_right _ m
            · rw [List.mem_append, not_or] at hj
              exact (oe2.2 j hj.2).trans (oe1.2 j hj.1))⟩
theorem dg_tup {n : Nat} {k : Nat} (hc : X.calm = true) (h : PGs X es (tGs G is gs)) (hK : G.K = X.K := by rfl)
    (hn : (assignEach es X.env).length = n := by rfl) (hst : (assignEach es X.env).findIdx? (·.1) = none := by rfl) : PG X (.Tuple es k pos) (tG G is (gTp n gs)) :=
  ((pg_tup hc h hn hst).or (pg_unl hc h hn hst)).imp fun v σ H Q h => by
    obtain ⟨F, B, L, en, fp, o, f, s, q, nd, df, p⟩ := h
    unfold gTp at p
    have two : ∀ {a : Addr} {f' : List Addr} {vs : List V} {l : List O}, Owns G F H vs l f' → (fp ++ a :: f').Nodup → (∀ b ∈ a :: f', F b = none ∧ B b = none) → (match gs l en with
        | some en' => ∀ σ' fp', (∀ b ∈ fp', b ∈ fp ++ a :: f') → OutEq is σ σ' → SRep G F B H L σ' en' fp' → Q σ' H
        | none => False) → tGs G is gs vs σ H Q := fun {a f' vs l} r nd df p => by
      have sb : f'.Sublist (a :: f') := List.sublist_cons_self _ _
      refine ⟨F, B, L, en, fp, _, f', s, r, nd.sublist (List.Sublist.append_left sb fp), fun a m => df a (List.mem_cons_of_mem _ m), ?_⟩
      cases e : gs l en with
      | none => rw [e] at p; exact p.elim
      | some en' =>
        rw [e] at p
        exact fun σ' fp' m oe s' => p σ' fp' (fun b mb => (List.Sublist.append_left sb fp).mem (m b mb)) oe s'
    cases q with
    | sh r =>
      cases r with
      | tup s1 r1 =>
        rename_i a vs l
        simp only at p
        split at p
        · rename_i hl
          exact .inl ⟨a, vs, rfl, hK ▸ SqT.le s.lf s1, by rw [r1.length, hl], F, B, L, en, fp, _, [], s, Owns.of_sh r1, nd, df, p⟩
        · exact p.elim
      | lst s1 r1 =>
        rename_i a vs l
        simp only at p
        split at p
        · rename_i hl
          exact .inr ⟨a, vs, rfl, hK ▸ SqL.le s.lf s1, by rw [r1.length, hl], F, B, L, en, fp, _, [], s, Owns.of_sh r1, nd, df, p⟩
        · exact p.elim
      | _ => exact p.elim
    | tup ha r =>
      rename_i a vs l f'
      simp only at p
      split at p
      · rename_i hl
        refine .inl ⟨a, vs, rfl, hK ▸ SqT.of ha, by rw [r.length, hl], two r nd df ?_⟩
        cases e : gs l en with
        | none => rw [e] at p; exact p
        | some en' => rw [e] at p; exact p
      · exact p.elim
    | lst ha r =>
      rename_i a vs l f'
      simp only at p
      split at p
      · rename_i hl
        refine .inr ⟨a, vs, rfl, hK ▸ SqL.of ha, by rw [r.length, hl], two r nd df ?_⟩
        cases e : gs l en with
        | none => rw [e] at p; exact p
        | some en' => rw [e] at p; exact p
      · exact p.elim
    | _ => exact p.elim
/-- target = e -/
def mAsg (g : O → En → Option En) (m : En → Res (O × En)) (en : En) : SR := .of (m en) fun r => match g r.1 r.2 with
  | some en' => .nx en'
  | none => .stuck
theorem ds_asg {tg : Expr} {m : En → Res (O × En)} (he : PE X e (tX G W m)) (hg : PG X tg (tG G is g)) (hs : swapsWithSole [tg] e pos.line X.env = pure false := by rfl) (hw : swappedStores [tg] e X.env = pure none := by rfl)
    (h1 : (assignEach [tg] X.env).map (·.2) = [assign tg X.env] := by rfl) : PS X (.Assign [tg] e pos) (tS G W (mAsg g m)) := (ps_asg he hg hs hw h1).imp fun D σ H h => by
  obtain ⟨F, B, L, en, fp, s, p⟩ := h
  refine ⟨F, B, L, en, fp, s, ?_⟩
  unfold mAsg at p
  cases ea : m en with
  | stuck => rw [ea] at p; exact p.elim
  | exc x e => rw [ea] at p; exact p
  | ok r =>
    rw [ea] at p
    simp only [SR.of] at p
    intro v F1 H1 r1
    obtain ⟨fp1, f1, n1, s1, q1, nd1, fr1⟩ := r1
    refine ⟨F1, B, L, r.2, fp1, r.1, f1, s1, q1, nd1, fun a m => ⟨fr1 a m, s.noB n1 a (List.mem_append_right _ m)⟩, ?_⟩
    cases e2 : g r.1 r.2 with
    | none => simp only [e2] at p; exact p.elim
    | some en' =>
      simp only [e2] at p
      exact fun σ2 fp2 m2 _ s2 => p σ2 F1 H1 ⟨fp2, n1.sub m2, s2⟩
end

/-! ### what is walked -/
/-- J walks ds while what is frozen and lent stands -/
def IW (G : CC) (F B : Hp) (J : It) (ds : List D) : Prop := ∀ F' H', Le F F' → Le F' H' → Le B H' →
  (∀ i d, ds[i]? = some d → J.go i H' ∧ ∀ x H2, J.yld i H' x H2 → ∃ F2, Nx F' F2 H' H2 [] [] ∧ Rep G F2 x d) ∧ J.stop ds.length H'
section
variable (G : CC) (W : WX)
def IPost (F B : Hp) (L : St) (H : Hp) (σ : St) (fp : List Addr) (R : It → Hp → Prop) : Res (List D × En) → Prop
  | .ok r => ∀ J F' H', NR G B L F F' H H' σ fp r.2 → IW G F' B J r.1 → R J H'
  | .exc x en' => EPost G W F B L H fp x en'
  | .stuck => False
def tI (m : En → Res (List D × En)) : TI := fun σ H R => ∃ F B L en fp, SRep G F B H L σ en fp ∧ IPost G W F B L H σ fp R (m en)
end
theorem _root_.L2.PI.imp {X : Cx} {tg e : Expr} {t t' : TI} (h : PI X tg e t) (i : ∀ σ H Q, t' σ H Q → t σ H Q) : PI X tg e t' := ⟨fun pins s σ H Q I q => h.run pins s σ H Q I (i σ H Q q)⟩
section
variable {G : CC} {F B H : Hp} {a : Addr} {vs : List V} {ds : List D}
theorem iw_list (h : SqL G.K F a vs ∨ SqL G.K B a vs) (r : Reps G F vs ds) : IW G F B (Itl G.K a) ds := fun F' H' lf le lb => by
  have q : SqL G.K H' a vs := h.elim (fun h => SqL.le le (SqL.le lf h)) fun h => SqL.le lb h
  refine ⟨fun i d e => ?_, ⟨vs, q, by rw [r.length]; exact Nat.le_refl _⟩⟩
  obtain ⟨v, hv, rv⟩ := r.get e
  refine ⟨⟨vs, v, q, hv⟩, fun x H2 y => ⟨F', ?_, ?_⟩⟩
  · obtain ⟨rfl, _⟩ := y
    exact Nx.refl le
  · obtain ⟨_, y⟩ := y
    have := y vs q
    rw [hv] at this
    cases this
    exact rv.le lf
theorem iw_tup (h : SqT G.K F a vs ∨ SqT G.K B a vs) (r : Reps G F vs ds) : IW G F B (Itt G.K a) ds := fun F' H' lf le lb => by
  have q : SqT G.K H' a vs := h.elim (fun h => SqT.le le (SqT.le lf h)) fun h => SqT.le lb h
  refine ⟨fun i d e => ?_, ⟨vs, q, by rw [r.length]; exact Nat.le_refl _⟩⟩
  obtain ⟨v, hv, rv⟩ := r.get e
  refine ⟨⟨vs, v, q, hv⟩, fun x H2 y => ⟨F', ?_, ?_⟩⟩
  · obtain ⟨rfl, _⟩ := y
    exact Nx.refl le
  · obtain ⟨_, y⟩ := y
    have := y vs q
    rw [hv] at this
    cases this
    exact rv.le lf
def chars (s : List Nat) : List D := s.map fun c => .str [c]
theorem iw_str {s : List Nat} : IW G F B (Its (SX.S s)) (chars s) := fun F' H' lf le lb => by
  have w := walk_str (z := SX.S s)
  have hl : (chars s).length = (SX.S s).cps.size := by simp [chars]
  refine ⟨fun i d e => ?_, by rw [hl]; exact w.stops H' trivial⟩
  have hi : i < (SX.S s).cps.size := by rw [← hl]; exact (List.getElem?_eq_some_iff.mp e).1
  refine ⟨w.goes i H' hi trivial, fun x H2 y => ⟨F', ?_, ?_⟩⟩
  · obtain ⟨rfl, _⟩ := w.yields i H' x H2 hi trivial y
    exact Nx.refl le
  · obtain ⟨_, c, h1, h2⟩ := w.yields i H' x H2 hi trivial y
    have h1' : s[i]? = some c := by simpa using h1
    have h3 : (chars s)[i]? = some (.str [c]) := by simp [chars, h1']
    rw [h3] at e
    cases e
    rw [h2]
    exact .str [c]
def rangeD (lo : Int) (n : Nat) : List D := (List.range n).map fun (i : Nat) => D.int (lo + (i : Int))
theorem iw_range {lo : Int} {n : Nat} : IW G F B (Itr lo n) (rangeD lo n) := fun F' H' lf le lb => by
  refine ⟨fun i d e => ?_, by simp [rangeD, Itr]⟩
  have hi : i < n := by
    have := (List.getElem?_eq_some_iff.mp e).1
    simpa [rangeD] using this
  have h3 : (rangeD lo n)[i]? = some (.int (lo + i)) := by simp [rangeD, hi]
  rw [h3] at e
  cases e
  refine ⟨hi, fun x H2 y => ?_⟩
  obtain ⟨rfl, rfl⟩ := y
  exact ⟨F', Nx.refl le, .int _⟩
end

theorem _root_.L2.PI.or {X : Cx} {tg e : Expr} {t t' : TI} (h : PI X tg e t) (h' : PI X tg e t') : PI X tg e (fun σ H R => t σ H R ∨ t' σ H R) := ⟨fun pins s σ H Q I q => q.elim (h.run pins s σ H Q I) (h'.run pins s σ H Q I)⟩
def D.seqI : D → Option (List D)
  | .lst l => some l
  | .tup l => some l
  | .str s => some (chars s)
  | _ => none
section
variable {G : CC} {F F' B H H' : Hp} {L σ : St} {en en' : En} {fp : List Addr} {v : V} {o : O}
theorem XR.freeze (h : XR G B L F F' H H' σ fp v o en') : ∃ F2, NR G B L F F2 H H' σ fp en' ∧ Rep G F2 v o.fz := by
  obtain ⟨fp', f, n, s, q, nd, fr⟩ := h
  obtain ⟨n1, n2, n3⟩ := List.nodup_append.mp nd
  have l := frz_ge (H := H') fr
  have rep := q.frozen l fun a m u h => by rw [frz_in m]; exact h
  have out : ∀ a ∈ fp', a ∉ f := fun a m m' => n3 a m a m' rfl
  refine ⟨frz F' H' f, ⟨fp', ⟨n.ff.trans l, n.hh, fun a h h' => ?_, fun a m => n.fr a (List.mem_append_left _ m), frz_le s.lf⟩, ⟨frz_le s.lf, s.lb, s.sl.le l fun _ _ _ h => h, s.nd, fun a m => ⟨by rw [frz_out (out a m)]; exact (s.df a m).1, (s.df a m).2⟩⟩⟩, rep⟩
  by_cases m : a ∈ f
  · exact (n.fr a (List.mem_append_right _ m)).symm
  · rw [frz_out m] at h'
    exact n.nw a h h'
/-- the walk over a frozen thing -/
theorem iw_of {K : PySem.W.Frag} (hK : G.K = K) {d : D} {ds : List D} (l : Le F H) (r : Rep G F v d) (e : d.seqI = some ds) {R : It → Hp → Prop} (p : ∀ J, IW G F B J ds → R J H) :
    (∃ l, d = .lst l ∧ ∃ a, v = .ref a ∧ (∃ xs, SqL K H a xs) ∧ R (Itl K a) H) ∨ (∃ l, d = .tup l ∧ ∃ a, v = .ref a ∧ (∃ xs, SqT K H a xs) ∧ R (Itt K a) H) ∨ ∃ s, d = .str s ∧ ∃ x, v = .str x ∧ R (Its x) H := by
  subst hK
  cases r with
  | lst s r => cases e; exact .inl ⟨_, rfl, _, rfl, ⟨_, SqL.le l s⟩, p _ (iw_list (.inl s) r)⟩
  | tup s r => cases e; exact .inr (.inl ⟨_, rfl, _, rfl, ⟨_, SqT.le l s⟩, p _ (iw_tup (.inl s) r)⟩)
  | str s => cases e; exact .inr (.inr ⟨_, rfl, _, rfl, p _ iw_str⟩)
  | _ => cases e
end
/-- what an expression hands is walked -/
def mItV (m : En → Res (O × En)) (en : En) : Res (List D × En) := (m en).bnd fun r => match r.1.fz.seqI with
  | some ds => .ok (ds, r.2)
  | none => .stuck
def mItN (i : Nat) (en : En) : Res (List D × En) := match en[i]? with
  | some (.bor o) => match o.seq? with
    | some ds => .ok (ds, en)
    | none => match o.str? with
      | some s => .ok (chars s, en)
      | none => .stuck
  | _ => mItV (mShare i) en
section
variable {X : Cx} {G : CC} {W : WX} {tg e : Expr} {m : En → Res (O × En)} {pos : Pos}
theorem D.kind {d : D} {ds : List D} (e : d.seqI = some ds) : (∃ l, d = .lst l) ∨ (∃ l, d = .tup l) ∨ ∃ s, d = .str s := by
  cases d with
  | lst l => exact .inl ⟨l, rfl⟩
  | tup l => exact .inr (.inl ⟨l, rfl⟩)
  | str s => exact .inr (.inr ⟨s, rfl⟩)
  | _ => cases e
theorem tItV {T : TE} {σ : St} {H : Hp} {R : It → Hp → Prop} (hK : G.K = X.K) (ht : ∀ Q, tX G W m σ H Q → T σ H Q) (h : tI G W (mItV m) σ H R) : iList X.K T σ H R ∨ iTup X.K T σ H R ∨ iStr T σ H R := by
  obtain ⟨F, B, L, en, fp, s, p⟩ := h
  unfold mItV at p
  cases ea : m en with
  | stuck => rw [ea] at p; exact p.elim
  | exc x e => rw [ea] at p; exact .inl (ht _ ⟨F, B, L, en, fp, s, by rw [ea]; exact p⟩)
  | ok r =>
    rw [ea] at p
    simp only [Res.bnd] at p
    cases e2 : r.1.fz.seqI with
    | none => simp only [e2] at p; exact p.elim
    | some ds =>
      simp only [e2] at p
      have key : ∀ v F1 H1, XR G B L F F1 H H1 σ fp v r.1 r.2 → (∃ l, r.1.fz = .lst l ∧ ∃ a, v = .ref a ∧ (∃ xs, SqL X.K H1 a xs) ∧ R (Itl X.K a) H1) ∨ (∃ l, r.1.fz = .tup l ∧ ∃ a, v = .ref a ∧ (∃ xs, SqT X.K H1 a xs) ∧ R (Itt X.K a) H1) ∨ ∃ s, r.1.fz = .str s ∧ ∃ x, v = .str x ∧ R (Its x) H1 := fun v F1 H1 r1 => by
        obtain ⟨F2, n2, rep⟩ := r1.freeze
        have le : Le F2 H1 := by obtain ⟨_, n2, _⟩ := n2; exact n2.le
        exact iw_of (B := B) hK le rep e2 (R := R) fun J w => p J F2 H1 n2 w
      rcases D.kind e2 with ⟨l, hl⟩ | ⟨l, hl⟩ | ⟨l, hl⟩
      · refine .inl (ht _ ⟨F, B, L, en, fp, s, ?_⟩)
        rw [ea]
        intro v F1 H1 r1
        rcases key v F1 H1 r1 with ⟨_, _, q⟩ | ⟨_, h, _⟩ | ⟨_, h, _⟩
        · exact q
        · rw [hl] at h; cases h
        · rw [hl] at h; cases h
      · refine .inr (.inl (ht _ ⟨F, B, L, en, fp, s, ?_⟩))
        rw [ea]
        intro v F1 H1 r1
        rcases key v F1 H1 r1 with ⟨_, h, _⟩ | ⟨_, _, q⟩ | ⟨_, h, _⟩
        · rw [hl] at h; cases h
        · exact q
        · rw [hl] at h; cases h
      · refine .inr (.inr (ht _ ⟨F, B, L, en, fp, s, ?_⟩))
        rw [ea]
        intro v F1 H1 r1
        rcases key v F1 H1 r1 with ⟨_, h, _⟩ | ⟨_, h, _⟩ | ⟨_, _, q⟩
        · rw [hl] at h; cases h
        · rw [hl] at h; cases h
        · exact q
theorem di_val (he : PE X e (tX G W m)) (hK : G.K = X.K := by rfl) : PI X tg e (tI G W (mItV m)) :=
  ((pi_list he).or ((pi_tup he).or (pi_str he))).imp fun σ H R h => tItV hK (fun _ q => q) h
/-- a slot whose thing is lent by the caller: it stands in B -/
theorem Sls.getB {F B H : Hp} {L σ : St} {en : En} {fp : List Addr} (s : Sls G F B H L σ en fp) : ∀ {i : Nat} {o : O}, en[i]? = some (.bor o) → ∃ v f, σ[i]? = some (some v) ∧ Own G F B v o f := by
  induction s with
  | nil => intro i o e; simp at e
  | un _ ih =>
    intro i o e
    cases i with
    | zero => simp at e
    | succ i => exact ih (i := i) (by simpa using e)
  | own _ _ ih =>
    intro i o e
    cases i with
    | zero => simp at e
    | succ i => exact ih (i := i) (by simpa using e)
  | lent _ _ ih =>
    intro i o e
    cases i with
    | zero => simp at e
    | succ i => exact ih (i := i) (by simpa using e)
  | @bor v0 o0 f0 L σ en fp h _ ih =>
    intro i o e
    cases i with
    | zero => simp at e; subst e; exact ⟨v0, f0, rfl, h⟩
    | succ i => exact ih (i := i) (by simpa using e)
theorem Rd.or_le {F B : Hp} {a : Addr} {u : HO} (h : Rd B a u) : Rd F a u ∨ Rd B a u := .inr h
theorem Own.seqB {F B : Hp} {v : V} {o : O} {f : List Addr} {ds : List D} (h : Own G F B v o f) (e : o.seq? = some ds) :
    ∃ a vs, v = .ref a ∧ Reps G F vs ds ∧ ((SqL G.K F a vs ∨ SqL G.K B a vs) ∨ (SqT G.K F a vs ∨ SqT G.K B a vs)) := by
  unfold O.seq? at e
  cases h with
  | sh r =>
    cases r with
    | lst s r => cases e; exact ⟨_, _, rfl, r, .inl (.inl s)⟩
    | tup s r => cases e; exact ⟨_, _, rfl, r, .inr (.inl s)⟩
    | _ => cases e
  | lst ha r =>
    rename_i a vs os fp
    simp only [O.lst?] at e
    cases e2 : shs os with
    | none => rw [e2] at e; cases e
    | some ds' =>
      rw [e2] at e
      cases e
      rw [shs_eq e2] at r
      exact ⟨_, _, rfl, r.to_sh.1, .inl (.inr (SqL.of ha))⟩
  | tup ha r =>
    rename_i a vs os fp
    simp only [O.lst?, O.tup?] at e
    rw [shs_eq e] at r
    exact ⟨_, _, rfl, r.to_sh.1, .inr (.inr (.of ha))⟩
  | ins _ _ _ => cases e
  | dct _ _ _ => cases e
  | dcT _ _ _ => cases e
theorem di_name (i : Nat) {x : Str} (hN : X.N[i]? = some x := by rfl) (hv : Vis X.env.scope x := by first | exact Or.inl rfl | exact Or.inr (Or.inl rfl) | exact Or.inr (Or.inr rfl)) (hd : (x == ("__debug__" : Str)) = false := by decide)
    (hcd : (x == ("__classdict__" : Str)) = false := by decide) (hK : G.K = X.K := by rfl) : PI X tg (.Name x pos) (tI G W (mItN i)) := by
  have pe : PE X (.Name x pos) (tVar i) := pe_var hN hv hd hcd
  refine ((pi_list pe).or ((pi_tup pe).or (pi_str pe))).imp fun σ H R h => ?_
  obtain ⟨F, B, L, en, fp, s, p⟩ := h
  unfold mItN at p
  have other : IPost G W F B L H σ fp R (mItV (mShare i) en) → iList X.K (tVar i) σ H R ∨ iTup X.K (tVar i) σ H R ∨ iStr (tVar i) σ H R := fun p => by
    exact tItV (W := W) (m := mShare i) hK (T := tVar i) (fun Q q => share_reads q) ⟨F, B, L, en, fp, s, p⟩
  cases e : en[i]? with
  | none => simp only [e] at p; exact other p
  | some z =>
    cases z with
    | bor o =>
      simp only [e] at p
      obtain ⟨v, f, hσ, q⟩ := s.sl.getB e
      cases e2 : o.seq? with
      | some ds =>
        simp only [e2] at p
        obtain ⟨a, vs, rfl, r, w⟩ := q.seqB e2
        rw [← hK]
        rcases w with w | w
        · exact .inl ⟨_, hσ, a, rfl, ⟨vs, w.elim (SqL.le s.lf) (SqL.le s.lb)⟩, p _ F H (.refl s) (iw_list w r)⟩
        · exact .inr (.inl ⟨_, hσ, a, rfl, ⟨vs, w.elim (SqT.le s.lf) (SqT.le s.lb)⟩, p _ F H (.refl s) (iw_tup w r)⟩)
      | none =>
        simp only [e2] at p
        cases e3 : o.str? with
        | none => simp only [e3] at p; exact p.elim
        | some t =>
          simp only [e3] at p
          rw [O.str?_eq e3] at q
          exact .inr (.inr ⟨_, hσ, _, q.strV, p _ F H (.refl s) iw_str⟩)
    | un => simp only [e] at p; exact other p
    | own _ => simp only [e] at p; exact other p
    | lent _ => simp only [e] at p; exact other p
end
end DL

set_option maxHeartbeats 1000000
/-! DJ: for, while, comprehensions -/
namespace DL
open PySem PySem.Spec L2
open PyProof.Rows hiding St

/-! ### range -/
section
variable {X : Cx} {G : CC} {W : WX} {tg a b : Expr} {ma mb : En → Res R} {pos p : Pos}
/-- a bound of a range -/
def okR (j : Int) : Bool := lim (2 ^ 62) j
theorem okR_lt {j : Int} (h : okR j = true) : -(2 ^ 62) ≤ j ∧ j < 2 ^ 62 := by
  have := lim_iff.mp h
  omega
theorem okR_of {j : Int} (h1 : -1000000000 ≤ j) (h2 : j ≤ 1000000000) : okR j = true := lim_iff.mpr (by omega)
def mRng1 (ma : En → Res R) (en : En) : Res (List D × En) := (ma en).bnd fun r => match r.o.int? with
  | some j => if okR j then .ok (rangeD 0 j.toNat, en) else .stuck
  | none => .stuck
def mRng2 (ma mb : En → Res R) (en : En) : Res (List D × En) := (ma en).bnd fun r => (mb en).bnd fun q => match r.o.int?, q.o.int? with
  | some i, some j => if okR i && okR j then .ok (rangeD i (j - i).toNat, en) else .stuck
  | _, _ => .stuck
theorem di_range1 (hm : X.mg "range" = none) (ha : PE X a (tD G W ma)) (hg : Gl X "range" := by rfl) (hs : starEach [a] X.env = [(false, eval a X.env)] := by rfl) : PI X tg (.Call (.Name "range" p) [a] [] pos) (tI G W (mRng1 ma)) :=
  (pi_range1 hg hm (pa_cons ha pa_nil hs) hs).imp fun σ H R h => by
    obtain ⟨F, B, L, en, fp, s, p⟩ := h
    refine ⟨F, B, L, en, fp, s, ?_⟩
    unfold mRng1 at p
    cases ea : ma en with
    | stuck => rw [ea] at p; exact p.elim
    | exc x e => rw [ea] at p; exact p
    | ok r =>
      rw [ea] at p
      simp only [Res.bnd] at p
      intro v F1 H1 r1
      obtain ⟨f, q⟩ := r1.has
      cases e : r.o.int? with
      | none => simp only [e] at p; exact p.elim
      | some j =>
        simp only [e] at p
        split at p
        · rename_i hj
          rw [O.int?_eq e] at q
          exact ⟨j, by rw [q.intV], (okR_lt hj).1, (okR_lt hj).2, p _ F1 H1 (r1.nx.toN s) iw_range⟩
        · exact p.elim
theorem di_range2 (hm : X.mg "range" = none) (ha : PE X a (tD G W ma)) (hb : PE X b (tD G W mb)) (hg : Gl X "range" := by rfl) (hs : starEach [a, b] X.env = [(false, eval a X.env), (false, eval b X.env)] := by rfl) (hs2 : starEach [b] X.env = [(false, eval b X.env)] := by rfl) :
    PI X tg (.Call (.Name "range" p) [a, b] [] pos) (tI G W (mRng2 ma mb)) :=
  (pi_range2 hg hm (pa_cons ha (pa_cons hb pa_nil hs2) (by rw [hs, hs2])) hs hs2).imp fun σ H R h => by
    obtain ⟨F, B, L, en, fp, s, p⟩ := h
    refine ⟨F, B, L, en, fp, s, ?_⟩
    unfold mRng2 at p
    cases ea : ma en with
    | stuck => rw [ea] at p; exact p.elim
    | exc x e => rw [ea] at p; exact p
    | ok r =>
      rw [ea] at p
      simp only [Res.bnd] at p
      intro v F1 H1 r1
      refine ⟨F1, B, L, en, fp, s.pure r1.nx, ?_⟩
      cases eb : mb en with
      | stuck => rw [eb] at p; exact p.elim
      | exc x e => rw [eb] at p; exact EPost.after (r1.nx.wide0 fp) p
      | ok q =>
        rw [eb] at p
        simp only at p
        intro w F2 H2 r2
        obtain ⟨f, q1⟩ := r1.has
        obtain ⟨g, q2⟩ := r2.has
        cases e : r.o.int? with
        | none => simp only [e] at p; exact p.elim
        | some i =>
          cases e' : q.o.int? with
          | none => simp only [e, e'] at p; exact p.elim
          | some j =>
            simp only [e, e'] at p
            split at p
            · rename_i hj
              rw [O.int?_eq e] at q1
              rw [O.int?_eq e'] at q2
              exact ⟨i, j, by rw [q1.intV, q2.intV], ⟨(okR_lt (Bool.and_eq_true_iff.mp hj).1).1, (okR_lt (Bool.and_eq_true_iff.mp hj).1).2, (okR_lt (Bool.and_eq_true_iff.mp hj).2).1, (okR_lt (Bool.and_eq_true_iff.mp hj).2).2⟩, p _ F2 H2 ((r1.nx.trans r2.nx).toN s) iw_range⟩
            · exact p.elim
end

/-! ### for -/
def forL (g : O → En → Option En) (body : En → SR) (dead : List Nat) : List D → En → SR
  | [], en => .nx en
  | d :: ds, en => match g (.sh d) en with
    | none => .stuck
    | some en1 => match body en1 with
      | .nx en' => forL g body dead ds (wipeE en' dead)
      | .ct en' => forL g body dead ds (wipeE en' dead)
      | .bk en' => .nx (wipeE en' dead)
      | r => r
def mFor (it : En → Res (List D × En)) (g : O → En → Option En) (dead : List Nat) (body : En → SR) (en : En) : SR := .of (it en) fun r => forL g body dead r.1 (wipeE r.2 dead)
section
variable {X : Cx} {G : CC} {W : WX} {tg iter : Expr} {body : List Stmt} {pos : Pos} {mi : En → Res (List D × En)} {g : O → En → Option En} {mb : En → SR} {is : List Nat}
theorem NR.nx {B : Hp} {L σ : St} {F F' H H' : Hp} {fp : List Addr} {en : En} (h : NR G B L F F' H H' σ fp en) : ∃ fp', Nx F F' H H' fp fp' ∧ SRep G F' B H' L σ en fp' := h
theorem ds_for (dead : List Nat) (hp : PassesOwn (model X.prog X.w) X.A X.env X.xe) (hi : PI X tg iter (tI G W mi)) (hg : PG X tg (tG G is g)) (hb : PSs X body (tS G W mb)) (hc : X.calm = true := by rfl)
    (hs : ∀ x, foldedSetIterable iter X.env x = pure x := by intro _; rfl) : PS X (.For tg iter body [] pos) (tS G W (mFor mi g dead mb)) := (ps_for hp hc hi hg hb hs).imp fun D σ H h => by
  obtain ⟨F, B, L, en, fp, s, p⟩ := h
  refine ⟨F, B, L, en, fp, s, ?_⟩
  unfold mFor at p
  cases ea : mi en with
  | stuck => rw [ea] at p; exact p.elim
  | exc x e => rw [ea] at p; exact p
  | ok r =>
    obtain ⟨ds, en0⟩ := r
    rw [ea] at p
    simp only [SR.of] at p
    intro J F1 H1 n1 iw
    have n1' := n1.wipe dead
    refine ⟨fun i m σ' H' => m = ds.length - i ∧ i ≤ ds.length ∧ ∃ F' fp' en', SRep G F' B H' L σ' en' fp' ∧ Le F1 F' ∧ SPost G W F' B L H' fp' D (forL g mb dead (ds.drop i) en'), ⟨ds.length, by omega, Nat.zero_le _, ?_⟩, ?_⟩
    · obtain ⟨fp1, n, s1⟩ := n1'
      exact ⟨F1, fp1, _, s1, Le.refl F1, by rw [List.drop_zero]; exact SPost.after n p⟩
    · rintro i m σ' H' ⟨rfl, hi, F', fp', en', s', lf, p'⟩
      obtain ⟨w1, w2⟩ := iw F' H' lf s'.lf s'.lb
      by_cases hlt : i < ds.length
      · right
        have hd : ds[i]? = some ds[i] := List.getElem?_eq_getElem hlt
        obtain ⟨go, yl⟩ := w1 i _ hd
        rw [List.drop_eq_getElem_cons hlt] at p'
        refine ⟨go, fun σ2 H2 => i + 1 ≤ ds.length ∧ ∃ F2 fp2 en2, SRep G F2 B H2 L σ2 en2 fp2 ∧ Le F1 F2 ∧ SPost G W F2 B L H2 fp2 D (forL g mb dead (ds.drop (i + 1)) (wipeE en2 dead)), fun σ2 H2 q => ?_, fun x H2 y => ?_⟩
        · obtain ⟨h1, F2, fp2, en2, s2, l2, p2⟩ := q
          obtain ⟨fp3, s3, sb⟩ := s2.wipe dead
          exact ⟨ds.length - (i + 1), by omega, rfl, h1, F2, fp3, _, s3, l2, SPost.after ((Nx.refl s2.lf).sub fun a m => sb.mem m) p2⟩
        · obtain ⟨F2, n2, rep⟩ := yl x H2 y
          have s2 := s'.pure n2
          refine ⟨F2, B, L, en', fp', .sh ds[i], [], s2, .sh rep, by rw [List.append_nil]; exact s2.nd, fun _ m => (nomatch m), ?_⟩
          unfold forL at p'
          cases eg : g (.sh ds[i]) en' with
          | none => simp only [eg] at p'; exact p'.elim
          | some en1 =>
            simp only [eg] at p' ⊢
            intro σ3 fp3 m3 _ s3
            rw [List.append_nil] at m3
            have n23 : Nx F' F2 H' H2 fp' fp3 := (n2.wide0 fp').sub m3
            refine ⟨F2, B, L, en1, fp3, s3, ?_⟩
            have goon : ∀ en4, SPost G W F' B L H' fp' D (forL g mb dead (ds.drop (i + 1)) (wipeE en4 dead)) → NPost G F2 B L H2 fp3 (fun σ2 H2 => i + 1 ≤ ds.length ∧ ∃ F2 fp2 en2, SRep G F2 B H2 L σ2 en2 fp2 ∧ Le F1 F2 ∧ SPost G W F2 B L H2 fp2 D (forL g mb dead (ds.drop (i + 1)) (wipeE en2 dead))) en4 := fun en4 p4 σ4 F4 H4 n4 => by
              obtain ⟨fp4, n4, s4⟩ := n4
              exact ⟨hlt, F4, fp4, en4, s4, lf.trans (n23.trans n4).ff, SPost.after (n23.trans n4) p4⟩
            cases eb : mb en1 with
            | nx en4 => rw [eb] at p'; exact goon en4 p'
            | ct en4 => rw [eb] at p'; exact goon en4 p'
            | bk en4 => rw [eb] at p'; exact fun σ4 F4 H4 n4 => p' σ4 F4 H4 ((n4.wipe dead).after n23)
            | rt o en4 => rw [eb] at p'; exact fun v σ4 F4 H4 n4 => p' v σ4 F4 H4 (n4.after n23)
            | exc x en4 => rw [eb] at p'; exact EPost.after n23 p'
            | stuck => rw [eb] at p'; exact p'.elim
      · left
        have e : i = ds.length := by omega
        subst e
        refine ⟨w2, ?_⟩
        rw [List.drop_length] at p'
        exact p' σ' F' H' (.refl s')
end

/-! ### while -/
def whileL (t : En → Res Bool) (body : En → SR) (dead : List Nat) : Nat → En → SR
  | 0, _ => .stuck
  | n + 1, en => .of (t en) fun k => if k then (match body en with
      | .nx en' => whileL t body dead n (wipeE en' dead)
      | .ct en' => whileL t body dead n (wipeE en' dead)
      | .bk en' => .nx (wipeE en' dead)
      | r => r) else .nx en
def mWhile (fuel : En → Nat) (t : En → Res Bool) (dead : List Nat) (body : En → SR) (en : En) : SR := whileL t body dead (fuel en) (wipeE en dead)
section
variable {X : Cx} {G : CC} {W : WX} {c : Expr} {body : List Stmt} {pos : Pos} {t : En → Res Bool} {mb : En → SR}
theorem ds_while (fuel : En → Nat) (dead : List Nat) (hp : PassesOwn (model X.prog X.w) X.A X.env X.xe) (hc : PT X c (tT G W t)) (hb : PSs X body (tS G W mb)) : PS X (.While c body [] pos) (tS G W (mWhile fuel t dead mb)) := (ps_while hp hc hb).imp fun D σ H h => by
  obtain ⟨F, B, L, en, fp, s, p⟩ := h
  unfold mWhile at p
  refine ⟨fun m σ' H' => ∃ F' fp' en', SRep G F' B H' L σ' en' fp' ∧ SPost G W F' B L H' fp' D (whileL t mb dead m en'), ⟨fuel en, ?_⟩, ?_⟩
  · obtain ⟨fp2, s2, sb⟩ := s.wipe dead
    exact ⟨F, fp2, _, s2, SPost.after ((Nx.refl s.lf).sub fun a m => sb.mem m) p⟩
  · rintro m σ' H' ⟨F', fp', en', s', p'⟩
    cases m with
    | zero => exact p'.elim
    | succ m =>
      unfold whileL at p'
      refine ⟨F', B, L, en', fp', s', ?_⟩
      cases et : t en' with
      | stuck => rw [et] at p'; exact p'.elim
      | exc x e => rw [et] at p'; exact p'
      | ok k =>
        rw [et] at p'
        simp only [SR.of] at p'
        intro F1 H1 n1
        cases k with
        | false =>
          rw [if_neg Bool.false_ne_true]
          exact p' σ' F1 H1 (n1.toN s')
        | true =>
          rw [if_pos rfl]
          simp only [if_true] at p'
          refine ⟨fun σ2 H2 => ∃ F2 fp2 en2, SRep G F2 B H2 L σ2 en2 fp2 ∧ SPost G W F2 B L H2 fp2 D (whileL t mb dead m (wipeE en2 dead)), fun σ2 H2 q => ?_, F1, B, L, en', fp', s'.pure n1, ?_⟩
          · obtain ⟨F2, fp2, en2, s2, p2⟩ := q
            obtain ⟨fp3, s3, sb⟩ := s2.wipe dead
            exact ⟨m, Nat.lt_succ_self m, F2, fp3, _, s3, SPost.after ((Nx.refl s2.lf).sub fun a m => sb.mem m) p2⟩
          · have n1w := n1.wide0 fp'
            have goon : ∀ en4, SPost G W F' B L H' fp' D (whileL t mb dead m (wipeE en4 dead)) → NPost G F1 B L H1 fp' (fun σ2 H2 => ∃ F2 fp2 en2, SRep G F2 B H2 L σ2 en2 fp2 ∧ SPost G W F2 B L H2 fp2 D (whileL t mb dead m (wipeE en2 dead))) en4 := fun en4 p4 σ4 F4 H4 n4 => by
              obtain ⟨fp4, n4, s4⟩ := n4
              exact ⟨F4, fp4, en4, s4, SPost.after (n1w.trans n4) p4⟩
            cases eb : mb en' with
            | nx en4 => rw [eb] at p'; exact goon en4 p'
            | ct en4 => rw [eb] at p'; exact goon en4 p'
            | bk en4 => rw [eb] at p'; exact fun σ4 F4 H4 n4 => p' σ4 F4 H4 ((n4.wipe dead).after n1w)
            | rt o en4 => rw [eb] at p'; exact fun v σ4 F4 H4 n4 => p' v σ4 F4 H4 (n4.after n1w)
            | exc x en4 => rw [eb] at p'; exact EPost.after n1w p'
            | stuck => rw [eb] at p'; exact p'.elim
end

/-! ### comprehensions -/
abbrev W0 : WX := fun _ _ _ _ => False
/-- [elt for target in .. if ..], pure parts -/
def lcL (g : O → En → Option En) (t : En → Res Bool) (elt : En → Res R) (en : En) : List D → Option (List O)
  | [] => some []
  | d :: ds => match g (.sh d) en with
    | none => none
    | some en1 => match t en1 with
      | .ok true => match elt en1 with
        | .ok (.own o) => (lcL g t elt en ds).map (o :: ·)
        | _ => none
      | .ok false => lcL g t elt en ds
      | _ => none
/-- a pure source of a comprehension -/
def JPost (G : CC) (W : WX) (F B : Hp) (L : St) (H : Hp) (fp : List Addr) (R : It → Hp → Prop) : Res (List D) → Prop
  | .ok r => ∀ J F' H', Nx F F' H H' [] [] → IW G F' H' J r → R J H'
  | .exc x en' => EPost G W F B L H fp x en'
  | .stuck => False
def tJ (G : CC) (W : WX) (m : En → Res (List D)) : TI := fun σ H R => ∃ F B L en fp, SRep G F B H L σ en fp ∧ JPost G W F B L H fp R (m en)
def mLc (it : En → Res (List D)) (vs : List Nat) (g : O → En → Option En) (t : En → Res Bool) (elt : En → Res R) (en : En) : Res R := (it en).bnd fun ds => if vs.all fun i => Sl.free? en[i]? then (match lcL g t elt (wipeE en vs) ds with
    | some os => if os.length ≤ ML then .ok (.own (.lst os)) else .stuck
    | none => .stuck) else .stuck
def mYes (_ : En) : Res Bool := .ok true
theorem wipe_get {σ : St} : ∀ {vs : List Nat} {i : Nat}, i ∉ vs → (wipe σ vs)[i]? = σ[i]?
  | [], _, _ => rfl
  | v :: vs, i, h => by
    unfold wipe
    rw [List.mem_cons, not_or] at h
    rw [List.getElem?_set_ne (Ne.symm h.1)]
    exact wipe_get h.2
theorem wipe_in {σ : St} : ∀ {vs : List Nat} {i : Nat}, i ∈ vs → i < σ.length → (wipe σ vs)[i]? = some none
  | v :: vs, i, h, hl => by
    unfold wipe
    by_cases e : v = i
    · subst e
      rw [List.getElem?_set_self (by rw [wipe_length]; exact hl)]
    · rw [List.getElem?_set_ne e]
      exact wipe_in ((List.mem_cons.mp h).resolve_left (Ne.symm e)) hl
theorem wipe_out_eq {σ σ' : St} {is vs : List Nat} (h : OutEq is (wipe σ vs) σ') (hs : ∀ i ∈ is, i ∈ vs) : wipe σ' vs = wipe σ vs := by
  have hl : σ'.length = σ.length := by rw [h.1, wipe_length]
  apply List.ext_getElem?
  intro j
  by_cases m : j ∈ vs
  · by_cases hj : j < σ.length
    · rw [wipe_in m hj, wipe_in m (by omega)]
    · rw [List.getElem?_eq_none (by rw [wipe_length]; omega), List.getElem?_eq_none (by rw [wipe_length]; omega)]
  · rw [wipe_get m, h.2 j fun q => m (hs j q)]
section
variable {G : CC} {F B H : Hp} {L σ : St} {en : En} {fp : List Addr}
theorem wipe1_get {en : En} {i j : Nat} (h : Sl.free? en[j]? = true) : Sl.free? (wipe1 en i)[j]? = true := by
  unfold wipe1
  split
  · exact h
  · by_cases e : i = j
    · subst e
      obtain ⟨y, h1, _⟩ := Sl.free_ok h
      rw [List.getElem?_set_self (List.getElem?_eq_some_iff.mp h1).1]
      rfl
    · rw [List.getElem?_set_ne e]; exact h
theorem wipeE_get {en : En} {j : Nat} (h : Sl.free? en[j]? = true) : ∀ is : List Nat, Sl.free? (wipeE en is)[j]? = true
  | [] => h
  | _ :: is => wipe1_get (wipeE_get h is)
theorem SRep.wipes (s : SRep G F B H L σ en fp) : ∀ {vs : List Nat}, (vs.all fun i => Sl.free? en[i]?) = true → ∃ fp', SRep G F B H L (L2.wipe σ vs) (wipeE en vs) fp' ∧ fp'.Sublist fp
  | [], _ => ⟨fp, s, List.Sublist.refl _⟩
  | v :: vs, h => by
    rw [List.all_cons, Bool.and_eq_true] at h
    obtain ⟨fp1, s1, sb1⟩ := s.wipes h.2
    have hf := wipeE_get h.1 vs
    obtain ⟨y, h1, h2⟩ := Sl.free_ok hf
    have nl : ∀ o, (wipeE en vs)[v]? ≠ some (.lent o) := fun o e => by
      rw [h1] at e
      cases e
      cases h2
    obtain ⟨fp2, q, sb2⟩ := s1.sl.forget (i := v) none nl
    refine ⟨fp2, ?_, sb2.trans sb1⟩
    have e : wipeE en (v :: vs) = (wipeE en vs).set v .un := by
      show DL.wipe1 (wipeE en vs) v = _
      unfold DL.wipe1
      split
      · rename_i o e
        exact absurd e (nl o)
      · rfl
    rw [e]
    exact s1.sub q sb2
end
section
variable {X : Cx} {G : CC} {W : WX} {c : Expr}
theorem dts_nil : PTs X [] (tT G W mYes) := ⟨fun pins s σ H Q I h => pts_nil.run pins s σ H Q I (by
  obtain ⟨F, B, L, en, fp, s, p⟩ := h
  exact p F H (Nx.refl s.lf))⟩
theorem dts_one {t : En → Res Bool} (h : PT X c (tT G W t)) : PTs X [c] (tT G W t) := pts_one h
end
section
variable {X : Cx} {G : CC} {W : WX} {elt tg iter : Expr} {ifs : List Expr} {scope : Scope} {own : List (Str × Nat)} {pos : Pos} {mi : En → Res (List D)} {g : O → En → Option En} {t : En → Res Bool} {me : En → Res R} {is : List Nat}
theorem PR.addLast {F1 F' F2 H1 H' H2 : Hp} {D : Addr} {os : List O} {y : V} {o : O} (a : PR G F1 F' H1 H' (.ref D) (.own (.lst os))) (n : Nx F' F2 H' H2 [] []) {F3 H3 : Hp} (b : PR G F2 F3 H2 H3 y (.own o)) (hz : os.length < ML) :
    ∃ acc, H3 D = some (.lst acc) ∧ acc.length < sizeLine ∧ PR G F1 F3 H1 (upd H3 D (.lst (acc ++ [y]))) (.ref D) (.own (.lst (os ++ [o]))) := by
  obtain ⟨fd, n1, q1, nd1, fr1⟩ := a
  obtain ⟨f5, n5, q5, nd5, fr5⟩ := b
  have n2 : Nx F' F3 H' H3 [] f5 := n.trans n5
  have dom1 := q1.dom
  cases q1 with
  | @lst _ acc _ f hD r =>
    have hD3 : H3 D = some (.lst acc) := n2.keep D _ hD
    have out5 : ∀ a ∈ D :: f, a ∉ f5 := fun a m m' => by
      obtain ⟨u, h⟩ := dom1 a m
      rcases n2.fr a m' with x | x
      · cases x
      · rw [h] at x; cases x
    have frD : ∀ a ∈ D :: f, F3 a = none := fun a m => by
      cases e : F3 a with
      | none => rfl
      | some u =>
        obtain ⟨w, h⟩ := dom1 a m
        rcases n2.nw a (fr1 a m) (by rw [e]; exact fun z => by cases z) with x | x
        · rw [h] at x; cases x
        · cases x
    refine ⟨acc, hD3, by rw [r.length, ← ML_eq]; exact hz, D :: (f ++ f5), ⟨n1.ff.trans n2.ff, fun a u e _ => ?_, fun a h h' => ?_, fun a m => ?_, ?_⟩, .lst upd_same ?_, ?_, fun a m => ?_⟩
    · have hne : a ≠ D := fun z => by
        subst z
        rcases n1.fr a (List.mem_cons_self ..) with x | x
        · cases x
        · rw [e] at x; cases x
      rw [upd_ne hne]
      exact n2.keep a u (n1.keep a u e)
    · exact ((n1.drop).trans n2.drop).nw a h h'
    · have m' : a ∈ (D :: f) ++ f5 := m
      rcases List.mem_append.mp m' with m | m
      · exact n1.fr a m
      · rcases n2.fr a m with x | x
        · cases x
        · right
          cases e : H1 a with
          | none => rfl
          | some u => rw [n1.keep a u e] at x; cases x
    · intro a u e
      have hne : a ≠ D := fun z => by
        subst z
        rw [frD a (List.mem_cons_self ..)] at e; cases e
      rw [upd_ne hne]
      exact n2.le a u e
    · have nDf : D ∉ f := (List.nodup_cons.mp nd1).1
      have nD5 : D ∉ f5 := out5 D (List.mem_cons_self ..)
      refine Owns.append (r.le n2.ff fun a u m e => ?_) (.one (q5.le (Le.refl F3) fun a u m e => ?_))
      · rw [upd_ne (show a ≠ D from fun z => nDf (by rw [← z]; exact m))]
        exact n2.keep a u e
      · rw [upd_ne (show a ≠ D from fun z => nD5 (by rw [← z]; exact m))]
        exact e
    · have : ((D :: f) ++ f5).Nodup := List.nodup_append.mpr ⟨nd1, nd5, fun a m b m' e => out5 a m (e ▸ m')⟩
      exact this
    · have m' : a ∈ (D :: f) ++ f5 := m
      exact (List.mem_append.mp m').elim (frD a) (fr5 a)
theorem lcL_cons {en : En} {d : D} {ds : List D} {os : List O} (h : lcL g t me en (d :: ds) = some os) : ∃ en1, g (.sh d) en = some en1 ∧ ((t en1 = .ok false ∧ lcL g t me en ds = some os) ∨ ∃ o os', t en1 = .ok true ∧ me en1 = .ok (.own o) ∧ lcL g t me en ds = some os' ∧ os = o :: os') := by
  unfold lcL at h
  cases eg : g (.sh d) en with
  | none => simp only [eg] at h; cases h
  | some en1 =>
    simp only [eg] at h
    refine ⟨en1, rfl, ?_⟩
    cases et : t en1 with
    | stuck => simp only [et] at h; cases h
    | exc _ _ => simp only [et] at h; cases h
    | ok k =>
      cases k with
      | false => simp only [et] at h; exact .inl ⟨rfl, h⟩
      | true =>
        simp only [et] at h
        cases ee : me en1 with
        | stuck => simp only [ee] at h; cases h
        | exc _ _ => simp only [ee] at h; cases h
        | ok r =>
          cases r with
          | bor o => simp only [ee] at h; cases h
          | own o =>
            simp only [ee, Option.map_eq_some_iff] at h
            obtain ⟨os', h1, h2⟩ := h
            exact .inr ⟨o, os', rfl, rfl, h1, h2.symm⟩
theorem tLc_D {vs : List Nat} {σ : St} {H : Hp} {Q : VK} (hin : ∀ i ∈ is, i ∈ vs) (h : tD G W (mLc mi vs g t me) σ H Q) : tLc (tJ G W mi) (tG G is g) (tT G W0 t) (tD G W0 me) vs σ H Q := by
  obtain ⟨F, B, L, en, fp, s, p⟩ := h
  refine ⟨F, B, L, en, fp, s, ?_⟩
  unfold mLc at p
  cases ea : mi en with
  | stuck => rw [ea] at p; exact p.elim
  | exc x e => rw [ea] at p; exact p
  | ok ds =>
    rw [ea] at p
    simp only [Res.bnd] at p
    split at p
    · rename_i hfree
      intro J F1 H1 n1 iw D hD
      cases el : lcL g t me (wipeE en (vs)) ds with
      | none => simp only [el] at p; exact p.elim
      | some os =>
        simp only [el] at p
        split at p
        · rename_i hz
          have s1 := s.pure n1
          obtain ⟨fpw, sw, _⟩ := s1.wipes hfree
          have init : PR G F1 F1 H1 (upd H1 D (.lst [])) (.ref D) (.own (.lst [])) := ⟨[D], Nx.newO n1.le hD [D] (fun a m => .inr (by simpa using m)), .lst upd_same .nil, by simp, fun a m => by
            have e : a = D := by simpa using m
            rw [e]; exact n1.le.noneOf hD⟩
          refine ⟨fun i m H' => m = ds.length - i ∧ i ≤ ds.length ∧ ∃ F' o1 o2, PR G F1 F' H1 H' (.ref D) (.own (.lst o1)) ∧ os = o1 ++ o2 ∧ lcL g t me (wipeE en (vs)) (ds.drop i) = some o2, ⟨ds.length, by omega, Nat.zero_le _, F1, [], os, init, rfl, by rw [List.drop_zero]; exact el⟩, ?_⟩
          rintro i m H' ⟨rfl, hi', F', o1, o2, pr, eo, e2⟩
          have nx := pr.nx
          obtain ⟨w1, w2⟩ := iw F' H' nx.ff nx.le fun a u e => nx.keep a u e
          by_cases hlt : i < ds.length
          · right
            have hd : ds[i]? = some ds[i] := List.getElem?_eq_getElem hlt
            obtain ⟨go, yl⟩ := w1 i _ hd
            rw [List.drop_eq_getElem_cons hlt] at e2
            obtain ⟨en1, eg, alt⟩ := lcL_cons e2
            refine ⟨go, fun H2 => ∃ F2 o1 o2, PR G F1 F2 H1 H2 (.ref D) (.own (.lst o1)) ∧ os = o1 ++ o2 ∧ lcL g t me (wipeE en (vs)) (ds.drop (i + 1)) = some o2, fun H2 q => ⟨ds.length - (i + 1), by omega, rfl, by omega, q⟩, fun x H2 y => ?_⟩
            obtain ⟨F2, n2, rep⟩ := yl x H2 y
            have s2 := sw.pure (nx.trans n2)
            refine ⟨F2, B, L, wipeE en (vs), fpw, .sh ds[i], [], s2, .sh rep, by rw [List.append_nil]; exact s2.nd, fun _ m => (nomatch m), ?_⟩
            rw [eg]
            intro σ3 fp3 m3 oe s3
            refine ⟨wipe_out_eq oe hin, F2, B, L, en1, fp3, s3, ?_⟩
            rcases alt with ⟨et, e3⟩ | ⟨o, os', et, ee, e3, e4⟩
            · rw [et]
              intro F4 H4 n4
              rw [if_neg Bool.false_ne_true]
              refine ⟨F4, o1, o2, ?_, eo, e3⟩
              obtain ⟨fd, a1, a2, a3, a4⟩ := pr
              have n24 := n2.trans n4
              refine ⟨fd, ?_, a2.le n24.ff fun c u _ e => n24.keep c u e, a3, fun c m => ?_⟩
              · have := a1.trans (n24.wide0 fd)
                exact this
              · cases e : F4 c with
                | none => rfl
                | some u =>
                  obtain ⟨w, h⟩ := a2.dom c m
                  rcases n24.nw c (a4 c m) (by rw [e]; exact fun z => by cases z) with x | x
                  · rw [h] at x; cases x
                  · cases x
            · rw [et]
              intro F4 H4 n4
              rw [if_pos rfl]
              refine ⟨F4, B, L, en1, fp3, s3.pure n4, ?_⟩
              rw [ee]
              intro y F5 H5 r5
              obtain ⟨acc, h1, h2, h3⟩ := pr.addLast (n2.trans n4) r5 (by rw [eo, List.length_append, e4, List.length_cons] at hz; omega)
              exact ⟨acc, h1, h2, F5, o1 ++ [o], os', h3, by rw [eo, e4, List.append_assoc]; rfl, e3⟩
          · left
            have e : i = ds.length := by omega
            subst e
            refine ⟨w2, ?_⟩
            rw [List.drop_length] at e2
            cases e2
            rw [List.append_nil] at eo
            subst eo
            exact p _ F' H' (PR.after n1 pr)
        · exact p.elim
    · exact p.elim
theorem dp_lc (hN : X.N.Nodup) (hi : PI X tg iter (tJ G W mi)) (ok : BlkOk X.N X.env.scope scope own)
    (hg : ∀ (s : Shared) (H : Hp) (C : Addr) (cl : List (Str × Addr)) (fp : List Addr), PG (X.blk s H scope (compEnvC scope cl C X.env) fp) tg (tG G is g))
    (ht : ∀ (s : Shared) (H : Hp) (C : Addr) (cl : List (Str × Addr)) (fp : List Addr), PTs (X.blk s H scope (compEnvC scope cl C X.env) fp) ifs (tT G W0 t))
    (he : ∀ (s : Shared) (H : Hp) (C : Addr) (cl : List (Str × Addr)) (fp : List Addr), PE (X.blk s H scope (compEnvC scope cl C X.env) fp) elt (tD G W0 me))
    (hin : ∀ i ∈ is, i ∈ own.map (·.2) := by decide) (hc : X.calm = true := by rfl) (hs : ∀ x, foldedSetIterable iter X.env x = pure x := by intro _; rfl) :
    PE X (.ListComp elt [⟨tg, iter, ifs, 0⟩] scope pos) (tD G W (mLc mi (own.map (·.2)) g t me)) := (pe_lc hc hN hi ok hg ht he hs).imp fun _ _ _ h => tLc_D hin h
theorem ds_setLc (i : Nat) {y : Str} {py spos : Pos} (hN : X.N.Nodup) (hi : PI X tg iter (tJ G W mi)) (ok : BlkOk X.N X.env.scope scope own)
    (hg : ∀ (s : Shared) (H : Hp) (C : Addr) (cl : List (Str × Addr)) (fp : List Addr), PG (X.blk s H scope (compEnvC scope cl C X.env) fp) tg (tG G is g))
    (ht : ∀ (s : Shared) (H : Hp) (C : Addr) (cl : List (Str × Addr)) (fp : List Addr), PTs (X.blk s H scope (compEnvC scope cl C X.env) fp) ifs (tT G W0 t))
    (he : ∀ (s : Shared) (H : Hp) (C : Addr) (cl : List (Str × Addr)) (fp : List Addr), PE (X.blk s H scope (compEnvC scope cl C X.env) fp) elt (tD G W0 me))
    (hin : ∀ i ∈ is, i ∈ own.map (·.2) := by decide) (hy : X.N[i]? = some y := by rfl) (hyl : X.env.scope.names.lookup y = some .local := by rfl)
    (hsw : swapsWith (.ListComp elt [⟨tg, iter, ifs, 0⟩] scope pos) (some (.Name y py)) spos.line X.env = pure true := by exact sw_true rfl rfl rfl (by decide +kernel)) (hc : X.calm = true := by rfl) (hs : ∀ x, foldedSetIterable iter X.env x = pure x := by intro _; rfl) :
    PS X (.Assign [.Name y py] (.ListComp elt [⟨tg, iter, ifs, 0⟩] scope pos) spos) (tS G W (mSet i (mLift (mLc mi (own.map (·.2)) g t me)))) :=
  (ps_setLc hc hN hy hyl hsw hi ok hg ht he hs).imp fun D σ H h => tLc_D (Q := fun x H1 => D.nx (σ.set i (some x)) H1) hin (tLift_D (tSet_D h))
end

/-! ### pure sources -/
def mJRng1 (ma : En → Res R) (en : En) : Res (List D) := (ma en).bnd fun r => match r.o.int? with
  | some j => if okR j then .ok (rangeD 0 j.toNat) else .stuck
  | none => .stuck
/-- what stands, walked where nothing changes -/
def mJ (m : En → Res R) (en : En) : Res (List D) := (m en).bnd fun r => match r with
  | .own o => (match o.fz.seqI with | some ds => .ok ds | none => .stuck)
  | .bor o => (match o.seq? with | some ds => .ok ds | none => .stuck)
section
variable {X : Cx} {G : CC} {W : WX} {tg a e : Expr} {ma m : En → Res R} {pos p : Pos}
theorem dj_range1 (hm : X.mg "range" = none) (ha : PE X a (tD G W ma)) (hg : Gl X "range" := by rfl) (hs : starEach [a] X.env = [(false, eval a X.env)] := by rfl) : PI X tg (.Call (.Name "range" p) [a] [] pos) (tJ G W (mJRng1 ma)) :=
  (pi_range1 hg hm (pa_cons ha pa_nil hs) hs).imp fun σ H R h => by
    obtain ⟨F, B, L, en, fp, s, p⟩ := h
    refine ⟨F, B, L, en, fp, s, ?_⟩
    unfold mJRng1 at p
    cases ea : ma en with
    | stuck => rw [ea] at p; exact p.elim
    | exc x e => rw [ea] at p; exact p
    | ok r =>
      rw [ea] at p
      simp only [Res.bnd] at p
      intro v F1 H1 r1
      obtain ⟨f, q⟩ := r1.has
      cases e : r.o.int? with
      | none => simp only [e] at p; exact p.elim
      | some j =>
        simp only [e] at p
        split at p
        · rename_i hj
          rw [O.int?_eq e] at q
          exact ⟨j, by rw [q.intV], (okR_lt hj).1, (okR_lt hj).2, p _ F1 H1 r1.nx iw_range⟩
        · exact p.elim
theorem PR.freeze {F F' H H' : Hp} {v : V} {o : O} (h : PR G F F' H H' v (.own o)) : ∃ F2, Nx F F2 H H' [] [] ∧ Rep G F2 v o.fz := by
  obtain ⟨f, n, q, nd, fr⟩ := h
  have l := frz_ge (H := H') fr
  have rep := q.frozen l fun a m u h => by rw [frz_in m]; exact h
  refine ⟨frz F' H' f, ⟨n.ff.trans l, fun a u e h => n.keep a u e, fun a h h' => ?_, fun a m => (nomatch m), frz_le n.le⟩, rep⟩
  by_cases m : a ∈ f
  · exact .inl ((n.fr a m).resolve_left fun m => nomatch m)
  · rw [frz_out m] at h'
    exact n.nw a h h'
theorem tJ_D {K : PySem.W.Frag} (hK : G.K = K) {σ : St} {H : Hp} {R : It → Hp → Prop} (h : tJ G W (mJ m) σ H R) : iList K (tD G W m) σ H R ∨ iTup K (tD G W m) σ H R ∨ iStr (tD G W m) σ H R := by
  obtain ⟨F, B, L, en, fp, s, p⟩ := h
  unfold mJ at p
  cases ea : m en with
  | stuck => rw [ea] at p; exact p.elim
  | exc x e => rw [ea] at p; exact .inl ⟨F, B, L, en, fp, s, by rw [ea]; exact p⟩
  | ok r =>
    rw [ea] at p
    simp only [Res.bnd] at p
    cases r with
    | own o =>
      simp only at p
      cases e2 : o.fz.seqI with
      | none => simp only [e2] at p; exact p.elim
      | some ds =>
        simp only [e2] at p
        have key : ∀ v F1 H1, PR G F F1 H H1 v (.own o) → (∃ l, o.fz = .lst l ∧ ∃ a, v = .ref a ∧ (∃ xs, SqL K H1 a xs) ∧ R (Itl K a) H1) ∨ (∃ l, o.fz = .tup l ∧ ∃ a, v = .ref a ∧ (∃ xs, SqT K H1 a xs) ∧ R (Itt K a) H1) ∨ ∃ s, o.fz = .str s ∧ ∃ x, v = .str x ∧ R (Its x) H1 := fun v F1 H1 r1 => by
          obtain ⟨F2, n2, rep⟩ := r1.freeze
          exact iw_of (B := H1) hK n2.le rep e2 (R := R) fun J w => p J F2 H1 n2 w
        rcases D.kind e2 with ⟨l, hl⟩ | ⟨l, hl⟩ | ⟨l, hl⟩
        · refine .inl ⟨F, B, L, en, fp, s, ?_⟩
          rw [ea]
          intro v F1 H1 r1
          rcases key v F1 H1 r1 with ⟨_, _, q⟩ | ⟨_, h, _⟩ | ⟨_, h, _⟩
          · exact q
          · rw [hl] at h; cases h
          · rw [hl] at h; cases h
        · refine .inr (.inl ⟨F, B, L, en, fp, s, ?_⟩)
          rw [ea]
          intro v F1 H1 r1
          rcases key v F1 H1 r1 with ⟨_, h, _⟩ | ⟨_, _, q⟩ | ⟨_, h, _⟩
          · rw [hl] at h; cases h
          · exact q
          · rw [hl] at h; cases h
        · refine .inr (.inr ⟨F, B, L, en, fp, s, ?_⟩)
          rw [ea]
          intro v F1 H1 r1
          rcases key v F1 H1 r1 with ⟨_, h, _⟩ | ⟨_, h, _⟩ | ⟨_, _, q⟩
          · rw [hl] at h; cases h
          · rw [hl] at h; cases h
          · exact q
    | bor o =>
      simp only at p
      cases e2 : o.seq? with
      | none => simp only [e2] at p; exact p.elim
      | some ds =>
        simp only [e2] at p
        subst hK
        unfold O.seq? at e2
        cases e3 : o.lst? with
        | some l =>
          rw [e3] at e2
          cases e2
          refine .inl ⟨F, B, L, en, fp, s, ?_⟩
          rw [ea]
          intro v F1 H1 r1
          obtain ⟨f, n, q⟩ := r1
          obtain ⟨a, vs, rfl, h, r⟩ := q.lstOf n.le e3
          exact ⟨a, rfl, ⟨vs, h⟩, p _ F1 H1 n (iw_list (.inr h) r)⟩
        | none =>
          rw [e3] at e2
          refine .inr (.inl ⟨F, B, L, en, fp, s, ?_⟩)
          rw [ea]
          intro v F1 H1 r1
          obtain ⟨f, n, q⟩ := r1
          obtain ⟨a, vs, rfl, h, r⟩ := q.tupOf n.le e2
          exact ⟨a, rfl, ⟨vs, h⟩, p _ F1 H1 n (iw_tup (.inr h) r)⟩
theorem dj_val (he : PE X e (tD G W m)) (hK : G.K = X.K := by rfl) : PI X tg e (tJ G W (mJ m)) :=
  ((pi_list he).or ((pi_tup he).or (pi_str he))).imp fun σ H R h => tJ_D hK h
end
end DL

set_option maxHeartbeats 1000000
/-! DK: defs and their calls -/
namespace DL
open PySem PySem.Spec L2
open PyProof.Rows hiding St

/-- how a def ends -/
inductive FR where
  | ok (o : O) | exc (x : Ex) | stuck
def SR.fr : SR → FR
  | .rt o _ => .ok o
  | .nx _ => .ok (.sh .non)
  | .exc x _ => .exc x
  | _ => .stuck
def arg1 : O → Sl
  | .sh d => .own (.sh d)
  | o => .bor o
def args0 (n : Nat) (os : List O) : En := os.map arg1 ++ List.replicate n .un
/-- a def by its body, n names behind the parameters -/
def fnD (n : Nat) (b : En → SR) (os : List O) : FR := (b (args0 n os)).fr

section
variable (G : CC)
def FPost (F H : Hp) (Q : VK) (E : XK) : FR → Prop
  | .ok o => ∀ v F' H', PR G F F' H H' v (.own o) → Q v H'
  | .exc x => ∀ cls d F' H', Nx F F' H H' [] [] → XRep G F' x cls d → E cls d H'
  | .stuck => False
/-- the promise of a def that changes nothing -/
def spP (n : Nat) (m : List O → FR) : Sp := fun vs H Q E => vs.length = n ∧ ∃ F os, Le F H ∧ Vws G F H vs os ∧ FPost G F H Q E (m os)
end
section
variable {G : CC} {F B H : Hp} {vs : List V} {os : List O}
theorem sls_un (F B H : Hp) : ∀ n : Nat, Sls G F B H (List.replicate n none) (List.replicate n none) (List.replicate n .un) []
  | 0 => .nil
  | n + 1 => .un (sls_un F B H n)
theorem Vws.len (h : Vws G F H vs os) : vs.length = os.length := by
  induction h with
  | nil => rfl
  | cons _ _ ih => exact congrArg (· + 1) ih
theorem sls_args (h : Vws G F H vs os) (n : Nat) : Sls G F H H (List.replicate (os.length + n) none) (vs.map some ++ List.replicate n none) (args0 n os) [] := by
  induction h with
  | nil => rw [List.length_nil, Nat.zero_add]; exact sls_un F H H n
  | @cons v o f vs os q r ih =>
    have e : (o :: os).length + n = (os.length + n) + 1 := by rw [List.length_cons]; omega
    rw [e, List.replicate_succ]
    show Sls G F H H _ (some v :: (vs.map some ++ List.replicate n none)) (arg1 o :: args0 n os) []
    cases o with
    | sh d =>
      cases q with
      | sh q => exact Sls.own (f := []) (.sh q) ih
    | _ => exact .bor q ih
theorem srep_args (l : Le F H) (h : Vws G F H vs os) (n : Nat) : SRep G F H H (List.replicate (os.length + n) none) (vs.map some ++ List.replicate n none) (args0 n os) [] :=
  ⟨l, Le.refl H, sls_args h n, List.nodup_nil, fun _ m => nomatch m⟩
end

section
variable {P : Program} {w : World} {K : PySem.W.Frag} {mg : Str → Option Value} {base : Heap} {G : CC} {k n : Nat} {x : Str} {b : En → SR}
/-- from a body's data to its promise -/
theorem fp_body {F H : Hp} {vs : List V} {os : List O} {Q : VK} {E : XK} {N ps : List Str} (l : Le F H) (h : Vws G F H vs os) (hn : N.length - vs.length = n) (p : FPost G F H Q E (fnD n b os)) :
    tS G (fun cls d _ H => E cls d H) b { nx := fun _ H' => Q .non H', rt := Q } (L2.start N vs) H := by
  unfold L2.start
  rw [hn]
  refine ⟨F, H, _, _, [], srep_args l h n, ?_⟩
  unfold fnD at p
  generalize b (args0 n os) = r at p
  cases r with
  | nx en =>
    rintro σ' F' H' ⟨fp', nx, s⟩
    exact p .non F' H' ⟨[], nx.drop, .sh .non, List.nodup_nil, fun _ m => nomatch m⟩
  | rt o en =>
    rintro v σ' F' H' ⟨fp', f, nx, s, q, nd, fr⟩
    exact p v F' H' ⟨f, nx.sub fun a m => List.mem_append_right _ m, q, (List.nodup_append.mp nd).2.1, fr⟩
  | exc x en =>
    rintro cls d σ F' H' ⟨fp', nx, s⟩ xr
    exact p cls d F' H' nx.drop xr
  | _ => exact p.elim
/-- a def by its name: m its data, dos the data of the defaults that fill up -/
structure Fnc (P : Program) (w : World) (K : PySem.W.Frag) (mg : Str → Option Value) (base : Heap) (G : CC) (k : Nat) (x : Str) (n : Nat) (m : List O → FR) (dos : List D) : Prop where
  ex : ∃ (f : Addr) (fd : FuncData) (ps : List Str) (ds : List Value) (dvs : List V), FnOk P w K mg base (L2.CX P w) k f fd ps (spP G n m) ∧ mg x = some (.ref f) ∧ PySem.W.keepIn K (.ref f) = true ∧ Binds K fd ps ds ∧ Vals dvs ds ∧ ∀ F, Reps G F dvs dos
/-- THE RULE of a def without defaults -/
theorem fn_ok {qual : Str} {st : Stmt} {f : Addr} {fd : FuncData} {N ps : List Str} (F : Fun K x qual st f fd) (S : FnScope N ps (defScope st))
    (hb : ∀ (cdv : Value) (A : Around) (outer : List Env) (s : Shared) (H : Hp) (E : XK), Room k (A.deeper (envOfC qual (defScope st) s.heap.objs.size f cdv)) →
      Takes (cxOf (L2.CX P w) P w K mg base N qual (defScope st) f cdv A outer s H E) (fun cls d _ H => E cls d H) →
      PSs (cxOf (L2.CX P w) P w K mg base N qual (defScope st) f cdv A outer s H E) (defBody st) (tS G (fun cls d _ H => E cls d H) b)) :
    FnOk P w K mg base (L2.CX P w) (k + 1) f fd ps (spP G ps.length (fnD (N.length - ps.length) b)) := by
  refine F.okX S (fun vs H Q E h => h.1) fun cdv A outer s H vs Q E hr h => ?_
  obtain ⟨hl, F0, os, l, vw, p⟩ := h
  exact ⟨_, hb cdv A outer s H E hr (takes_of rfl rfl rfl rfl), fp_body (ps := ps) l vw (by rw [hl]) p⟩
/-- .. with defaults -/
theorem fn_okD {qual : Str} {params : Arguments} {body : List Stmt} {scope : Scope} {dvs : List V} {f : Addr} {fd : FuncData} {N ps : List Str} (F : FunD K x qual params body scope dvs [] f fd) (S : FnScope N ps scope)
    (hb : ∀ (cdv : Value) (A : Around) (outer : List Env) (s : Shared) (H : Hp) (E : XK), Room k (A.deeper (envOfC qual scope s.heap.objs.size f cdv)) →
      Takes (cxOf (L2.CX P w) P w K mg base N qual scope f cdv A outer s H E) (fun cls d _ H => E cls d H) →
      PSs (cxOf (L2.CX P w) P w K mg base N qual scope f cdv A outer s H E) body (tS G (fun cls d _ H => E cls d H) b)) :
    FnOk P w K mg base (L2.CX P w) (k + 1) f fd ps (spP G ps.length (fnD (N.length - ps.length) b)) := by
  refine F.ok S (fun vs H Q E h => h.1) fun cdv A outer s H vs Q E hr h => ?_
  obtain ⟨hl, F0, os, l, vw, p⟩ := h
  exact ⟨_, hb cdv A outer s H E hr (takes_of rfl rfl rfl rfl), fp_body (ps := ps) l vw (by rw [hl]) p⟩
theorem fnc {f : Addr} {fd : FuncData} {ps : List Str} {m : List O → FR} (h : FnOk P w K mg base (L2.CX P w) k f fd ps (spP G n m)) (hm : mg x = some (.ref f)) (hk : PySem.W.keepIn K (.ref f) = true) (hb : Binds K fd ps []) : Fnc P w K mg base G k x n m [] :=
  ⟨f, fd, ps, [], [], h, hm, hk, hb, .nil, fun _ => .nil⟩
end

/-! ### calls -/
def mFn (n : Nat) (m : List O → FR) (dos : List D) (ms : En → Res (List R)) (en : En) : Res R := (ms en).bnd fun rs => if rs.length + dos.length = n then (match m (rs.map R.o ++ dos.map .sh) with
  | .ok o => .ok (.own o)
  | .exc x => .exc x en
  | .stuck => .stuck) else .stuck
section
variable {X : Cx} {G : CC} {W : WX} {k j n : Nat} {x : Str} {m : List O → FR} {dos : List D} {ms : En → Res (List R)} {p pos : Pos} {e : Expr} {es : List Expr}
theorem Vws.append {F H : Hp} {vs ws : List V} {os us : List O} (h : Vws G F H vs os) (g : Vws G F H ws us) : Vws G F H (vs ++ ws) (os ++ us) := by
  induction h with
  | nil => exact g
  | cons q _ ih => exact .cons q ih
theorem Vws.of_reps {F H : Hp} : ∀ {vs : List V} {ds : List D}, Reps G F vs ds → Vws G F H vs (ds.map .sh)
  | _, _, .nil => .nil
  | _, _, .cons h r => .cons (.sh h) (Vws.of_reps r)
theorem tCall_D {dvs : List V} {σ : St} {H : Hp} {Q : VK} (hd : ∀ F, Reps G F dvs dos) (h : tD G W (mFn n m dos ms) σ H Q) : tCallSD (spP G n m) dvs (WE W) (tA G W ms) σ H Q := by
  obtain ⟨F, B, L, en, fp, s, p⟩ := h
  refine ⟨F, B, L, en, fp, s, ?_⟩
  unfold mFn at p
  cases ea : ms en with
  | stuck => rw [ea] at p; exact p.elim
  | exc x e => rw [ea] at p; exact p
  | ok rs =>
    rw [ea] at p
    simp only [Res.bnd] at p
    split at p
    · rename_i hn
      intro vs F1 H1 r1
      have n1 := r1.nx
      obtain ⟨f1, _, q1, _⟩ := r1
      have dl : dvs.length = dos.length := (hd F1).length
      refine ⟨by rw [List.length_append, q1.len, dl]; exact hn, F1, _, n1.le, q1.vws.append (Vws.of_reps (hd F1)), ?_⟩
      cases em : m (rs.map R.o ++ dos.map .sh) with
      | ok o => rw [em] at p; exact fun v F' H' r => p v F' H' (r.after n1)
      | exc x => rw [em] at p; exact fun cls d F' H' n2 xr => p cls d σ F' H' (Nx.toN s (n1.trans n2)) xr
      | stuck => rw [em] at p; exact p.elim
    · exact p.elim
theorem dp_fn (c : Fnc X.prog X.w X.K X.mg X.base G k x n m dos) (hr : Room j X.A) (tk : Takes X W) (ha : PA X (e :: es) (tA G W ms)) (hk : k ≤ j := by decide) (hg : Gl X x := by rfl)
    (hdb : (x == ("__debug__" : Str)) = false := by decide) (he : starEach (e :: es) X.env = (false, eval e X.env) :: starEach es X.env := by rfl) (hpl : (backTo pos (starEach es X.env)).any (·.1) = false := by rfl) :
    PE X (.Call (.Name x p) (e :: es) [] pos) (tD G W (mFn n m dos ms)) := by
  obtain ⟨f, fd, ps, ds, dvs, F, hm, kp, b, d, hd⟩ := c.ex
  exact (pe_callSD F (hr.mono hk) hg hm kp b d (fun σ => passAt tk σ) ha hdb he hpl).imp fun _ _ _ h => tCall_D hd h
/-- f() -/
theorem dp_fn0 (c : Fnc X.prog X.w X.K X.mg X.base G k x n m dos) (hr : Room j X.A) (tk : Takes X W) (hk : k ≤ j := by decide) (hg : Gl X x := by rfl) (hdb : (x == ("__debug__" : Str)) = false := by decide) :
    PE X (.Call (.Name x p) [] [] pos) (tD G W (mFn n m dos mNil)) := by
  obtain ⟨f, fd, ps, ds, dvs, F, hm, kp, b, d, hd⟩ := c.ex
  have key : PE X (.Call (.Name x p) [] [] pos) (tCallSD (spP G n m) dvs (WE W) tNil) := by
    refine ⟨fun pins s σ H Q I h => ?_⟩
    refine wpAny_Call_Name_kw (ld_glob I hg hm ?_ hdb)
    exact PySem.W.callWith_K0 I.kIn kp (run_fnSD (us := []) F (hr.mono hk) b d (passAt tk σ) I .nil h)
  refine key.imp fun σ H Q h => ?_
  obtain ⟨F1, B, L, en, fp, s, p⟩ := tCall_D hd h
  exact p [] F1 H ⟨[], Nx.refl s.lf, .nil, List.nodup_nil, fun _ m => nomatch m⟩
end

/-! ### the law's head -/
section
variable {K : PySem.W.Frag} {G : CC}
theorem reps_int {F : Hp} : ∀ ns : List Int, Reps G F (ns.map V.int) (ns.map D.int)
  | [] => .nil
  | n :: ns => .cons (.int n) (reps_int ns)
theorem law_sp {m : List O → FR} {H : Hp} {a : Addr} {ns : List Int} (hS : SqL G.K H a (ns.map V.int)) (h : m [.sh (.lst (ns.map .int))] = .ok (.sh (.bl true))) :
    spP G 1 m [.ref a] H (fun v _ => v = .bl true) fun _ _ _ => False := by
  refine ⟨rfl, H, [.sh (.lst (ns.map .int))], Le.refl H, .cons (.sh (.lst hS (reps_int ns))) .nil, ?_⟩
  rw [h]
  rintro v F' H' ⟨f, n, q, _⟩
  cases q with
  | sh q => cases q; rfl
theorem law_cx {P : Program} {w : World} {H : Hp} {s : Shared} {e : Value} {s' : Shared} (h : L2.CX P w [] H s (fun _ _ _ => False) e s') : False := by
  obtain ⟨_, _, _, _, _, _, _, _, _, _, _, _, z⟩ := h
  exact z
/-- the walk of a law: its def's data tell True at every script -/
theorem law_walk {l : PySem.W.OpenLaw} {q : Program} {loose : List Str} {XP : (Str → Option Value) → Heap → Prop} {YP : World → Heap → Prop} {d : DefRec} {Kp : Params → PySem.W.Frag} {Gp : PySem.W.Frag → CC} {m : List O → FR} {k : Nat} {x : Str}
    (hn : l.most = some 63) (hdf : d.params.defaults = []) (hr : Room k callerA) (hG : ∀ K, (Gp K).K = K)
    (hY : ∀ (w : World) (h : Heap), YP w h → (Kp w.params).In h)
    (F : ∀ (w : World) (mg : Str → Option Value) (fa : Addr) (h : Heap), (Kp w.params).In h → h.Ns mainGlobals mg → mg d.name = some (.ref fa) →
      ∃ fd : FuncData, (∀ (s : Shared) (u : Value), BindsTo s fd ⟨[u], []⟩ [(x, u)]) ∧
        ∀ base : Heap, (Kp w.params).In base → base.Ns mainGlobals mg → FnOk l.prog w (Kp w.params) mg base (L2.CX l.prog w) k fa fd [x] (spP (Gp (Kp w.params)) 1 m))
    (hm : ∀ ns : List Int, ns.length ≤ 63 → (∀ z ∈ ns, Builtin.Int.intBits z ≤ 1048576) → m [.sh (.lst (ns.map .int))] = .ok (.sh (.bl true))) :
    PySem.W.WalkO q loose XP YP l.row.toRowW d [] (fun f vs => PySem.call f vs) :=
  L2.walk_ofB (n := 63) (k := k) (x := x) (CX := fun w => L2.CX l.prog w) (sp := fun w => spP (Gp (Kp w.params)) 1 m) hn (by decide) hdf hr hY F
    (fun w H a ns hl hb _ hS => law_sp (by rw [hG]; exact hS) (hm ns hl hb)) fun _ _ _ _ _ z => law_cx z
end
end DL

set_option maxHeartbeats 1000000
/-! DM: freezing in thought, changes in place -/
namespace DL
open PySem PySem.Spec L2
open PyProof.Rows hiding St

def mFz (i : Nat) (en : En) : En := match en[i]? with
  | some (.own o) => en.set i (.own (.sh o.fz))
  | _ => en
section
variable {G : CC} {W : WX} {F F' B H H' : Hp} {L σ : St} {en : En} {fp : List Addr}
theorem set_same_st {v : V} {i : Nat} {σ : St} (hv : σ[i]? = some (some v)) : σ.set i (some v) = σ := by
  apply List.ext_getElem?
  intro j
  by_cases hj : i = j
  · subst hj
    have : i < σ.length := (List.getElem?_eq_some_iff.mp hv).1
    rw [List.getElem?_set_self this, hv]
  · rw [List.getElem?_set_ne hj]
theorem SRep.fz (s : SRep G F B H L σ en fp) (i : Nat) : ∃ F2 fp2, SRep G F2 B H L σ (mFz i en) fp2 ∧ Nx F F2 H H fp fp2 := by
  unfold mFz
  split
  · rename_i o e
    obtain ⟨v, f, fp', hv, q, s', pm⟩ := s.take e
    have df : ∀ a ∈ f, F a = none := fun a m => (s.df a (pm.mem_iff.mp (List.mem_append_right _ m))).1
    have nd := (pm.nodup_iff).mpr s.nd
    obtain ⟨n1, n2, n3⟩ := List.nodup_append.mp nd
    have l := frz_ge (H := H) df
    have rep := q.frozen l fun a m u h => by rw [frz_in m]; exact h
    have out : ∀ a ∈ fp', a ∉ f := fun a m m' => n3 a m a m' rfl
    have s2 : SRep G (frz F H f) B H L σ (en.set i .un) fp' := ⟨frz_le s.lf, s'.lb, s'.sl.le l fun _ _ _ h => h, s'.nd, fun a m => ⟨by rw [frz_out (out a m)]; exact (s'.df a m).1, (s'.df a m).2⟩⟩
    have hi : i < en.length := (List.getElem?_eq_some_iff.mp e).1
    obtain ⟨fp3, s3, m3⟩ := s2.put (Own.sh rep) (by rw [List.append_nil]; exact n1) (fun _ m => nomatch m) (i := i) (z := .un) (by rw [List.getElem?_set_self hi]) rfl
    rw [set_set_en, set_same_st hv] at s3
    refine ⟨_, fp3, s3, l, fun a o h _ => h, fun a h h' => .inr ?_, fun a m => .inl ?_, frz_le s.lf⟩
    · by_cases m : a ∈ f
      · exact pm.mem_iff.mp (List.mem_append_right _ m)
      · rw [frz_out m] at h'; exact (h' h).elim
    · have := m3 a m
      rw [List.append_nil] at this
      exact pm.mem_iff.mp (List.mem_append_left _ this)
  · exact ⟨F, fp, s, Nx.refl s.lf⟩
theorem NR.fz {F₀ H₀ : Hp} {fp₀ : List Addr} (h : NR G B L F₀ F H₀ H σ fp₀ en) (i : Nat) : ∃ F2, NR G B L F₀ F2 H₀ H σ fp₀ (mFz i en) := by
  obtain ⟨fp', n, s⟩ := h
  obtain ⟨F2, fp2, s2, n2⟩ := s.fz i
  exact ⟨F2, fp2, n.trans n2, s2⟩
end
section
variable {X : Cx} {G : CC} {W : WX} {pos : Pos} {e : Expr} {st : Stmt} {ss : List Stmt} {b : En → SR} {m : En → Res (O × En)} {mp : En → Res R}
theorem tS_fz {D : Ends} {σ : St} {H : Hp} (i : Nat) (h : tS G W (fun en => b (mFz i en)) D σ H) : tS G W b D σ H := by
  obtain ⟨F, B, L, en, fp, s, p⟩ := h
  obtain ⟨F2, fp2, s2, n2⟩ := s.fz i
  exact ⟨F2, B, L, _, fp2, s2, p.after n2⟩
/-- the i-th slot's thing, frozen ahead of the statements -/
theorem dss_fz (i : Nat) (h : PSs X ss (tS G W b)) : PSs X ss (tS G W (fun en => b (mFz i en))) := h.imp fun _ _ _ h => tS_fz i h
theorem ds_fz (i : Nat) (h : PS X st (tS G W b)) : PS X st (tS G W (fun en => b (mFz i en))) := h.imp fun _ _ _ h => tS_fz i h
/-- name = e, frozen -/
def mSetF (i : Nat) (m : En → Res (O × En)) (en : En) : SR := .of (m en) fun r => if Sl.free? r.2[i]? then .nx (r.2.set i (.own (.sh r.1.fz))) else .stuck
theorem mSetF_D {i : Nat} {D : Ends} {σ : St} {H : Hp} (h : tS G W (mSetF i m) D σ H) : tS G W (mSet i m) D σ H := by
  obtain ⟨F, B, L, en, fp, s, p⟩ := h
  refine ⟨F, B, L, en, fp, s, ?_⟩
  unfold mSetF at p
  unfold mSet
  cases ea : m en with
  | stuck => rw [ea] at p; exact p.elim
  | exc x e => rw [ea] at p; exact p
  | ok r =>
    rw [ea] at p
    simp only [SR.of] at p ⊢
    split at p
    · rename_i hz
      rw [if_pos hz]
      intro σ' F' H' n
      obtain ⟨F2, n2⟩ := n.fz i
      have e : mFz i (r.2.set i (.own r.1)) = r.2.set i (.own (.sh r.1.fz)) := by
        unfold mFz
        obtain ⟨y, h1, _⟩ := Sl.free_ok hz
        rw [List.getElem?_set_self (List.getElem?_eq_some_iff.mp h1).1]
        simp only [List.set_set]
      rw [e] at n2
      exact p σ' F2 H' n2
    · exact p.elim
theorem ds_f {i : Nat} (h : PS X st (tS G W (mSet i m))) : PS X st (tS G W (mSetF i m)) := h.imp fun _ _ _ h => mSetF_D h
/-- an expression's own thing, frozen -/
def mFzV (m : En → Res R) (en : En) : Res R := (m en).bnd fun r => match r with
  | .own o => .ok (.own (.sh o.fz))
  | .bor _ => .stuck
theorem dp_fz (h : PE X e (tD G W mp)) : PE X e (tD G W (mFzV mp)) := h.imp fun σ H Q h => by
  obtain ⟨F, B, L, en, fp, s, p⟩ := h
  refine ⟨F, B, L, en, fp, s, ?_⟩
  unfold mFzV at p
  cases ea : mp en with
  | stuck => rw [ea] at p; exact p.elim
  | exc x e => rw [ea] at p; exact p
  | ok r =>
    rw [ea] at p
    simp only [Res.bnd] at p
    cases r with
    | bor o => exact p.elim
    | own o =>
      intro v F1 H1 r1
      obtain ⟨F2, n2, rep⟩ := r1.freeze
      exact p v F2 H1 ⟨[], n2, .sh rep, List.nodup_nil, fun _ m => nomatch m⟩
end

/-! ### a thing changed in its slot -/
def Sl.put : Sl → O → Sl
  | .own _, o => .own o
  | .lent _, o => .lent o
  | s, _ => s
def Sl.mine : Sl → Option O
  | .own o => some o
  | .lent o => some o
  | _ => none
section
variable {G : CC} {W : WX} {F F' B H H' : Hp} {L σ : St} {en : En} {fp f g : List Addr}
theorem perm_mid {a b c : List Addr} (h : (a ++ b).Perm c) (d : List Addr) : ((d ++ a) ++ b).Perm (d ++ c) := by
  rw [List.append_assoc]
  exact List.Perm.append_left d h
theorem Sls.mod (s : Sls G F B H L σ en fp) : ∀ {i : Nat} {z : Sl} {o : O}, en[i]? = some z → z.mine = some o → ∃ v f0 fp0, σ[i]? = some (some v) ∧ Own G F H v o f0 ∧ (fp0 ++ f0).Perm fp ∧
    ∀ F' H' o' f', Le F F' → (∀ a u, a ∈ fp0 → H a = some u → H' a = some u) → Own G F' H' v o' f' → ∃ fp', Sls G F' B H' L σ (en.set i (z.put o')) fp' ∧ (fp0 ++ f').Perm fp' := by
  induction s with
  | nil => intro i z o e; simp at e
  | un s ih =>
    intro i z o e hm
    cases i with
    | zero => simp at e; subst e; cases hm
    | succ i =>
      obtain ⟨v, f0, fp0, h1, h2, h3, h4⟩ := ih (i := i) (by simpa using e) hm
      refine ⟨v, f0, fp0, h1, h2, h3, fun F' H' o' f' l k q => ?_⟩
      obtain ⟨fp', s', p⟩ := h4 F' H' o' f' l k q
      exact ⟨fp', .un s', p⟩
  | @own v0 o0 f L σ en fp q0 s ih =>
    intro i z o e hm
    cases i with
    | zero =>
      simp at e
      subst e
      cases hm
      exact ⟨v0, f, fp, rfl, q0, List.perm_append_comm, fun F' H' o' f' l k q => ⟨f' ++ fp, .own q (s.le l k), List.perm_append_comm⟩⟩
    | succ i =>
      obtain ⟨v, f0, fp0, h1, h2, h3, h4⟩ := ih (i := i) (by simpa using e) hm
      refine ⟨v, f0, f ++ fp0, h1, h2, perm_mid h3 f, fun F' H' o' f' l k q => ?_⟩
      obtain ⟨fp', s', p⟩ := h4 F' H' o' f' l (fun a u m => k a u (List.mem_append_right _ m)) q
      exact ⟨f ++ fp', .own (q0.le l fun a u m => k a u (List.mem_append_left _ m)) s', perm_mid p f⟩
  | @lent v0 o0 f L σ en fp q0 s ih =>
    intro i z o e hm
    cases i with
    | zero =>
      simp at e
      subst e
      cases hm
      exact ⟨v0, f, fp, rfl, q0, List.perm_append_comm, fun F' H' o' f' l k q => ⟨f' ++ fp, .lent q (s.le l k), List.perm_append_comm⟩⟩
    | succ i =>
      obtain ⟨v, f0, fp0, h1, h2, h3, h4⟩ := ih (i := i) (by simpa using e) hm
      refine ⟨v, f0, f ++ fp0, h1, h2, perm_mid h3 f, fun F' H' o' f' l k q => ?_⟩
      obtain ⟨fp', s', p⟩ := h4 F' H' o' f' l (fun a u m => k a u (List.mem_append_right _ m)) q
      exact ⟨f ++ fp', .lent (q0.le l fun a u m => k a u (List.mem_append_left _ m)) s', perm_mid p f⟩
  | @bor v0 o0 f L σ en fp q0 s ih =>
    intro i z o e hm
    cases i with
    | zero => simp at e; subst e; cases hm
    | succ i =>
      obtain ⟨v, f0, fp0, h1, h2, h3, h4⟩ := ih (i := i) (by simpa using e) hm
      refine ⟨v, f0, fp0, h1, h2, h3, fun F' H' o' f' l k q => ?_⟩
      obtain ⟨fp', s', p⟩ := h4 F' H' o' f' l k q
      exact ⟨fp', .bor (q0.le l fun _ _ _ h => h) s', p⟩
/-- a step at the i-th slot's own places f0 and at g, new ones of one's own -/
theorem SRep.mod (s : SRep G F B H L σ en fp) {i : Nat} {z : Sl} {o : O} (e : en[i]? = some z) (hm : z.mine = some o) : ∃ v f0, σ[i]? = some (some v) ∧ Own G F H v o f0 ∧ (∀ a ∈ f0, a ∈ fp) ∧ f0.Nodup ∧
    ∀ F' H' o' f' g, Nx F F' H H' (f0 ++ g) f' → (fp ++ g).Nodup → (∀ a ∈ g, F a = none ∧ B a = none) → Own G F' H' v o' f' → f'.Nodup → (∀ a ∈ f', F' a = none) →
      (∃ fp', SRep G F' B H' L σ (en.set i (z.put o')) fp' ∧ Nx F F' H H' (fp ++ g) fp') := by
  obtain ⟨v, f0, fp0, h1, h2, h3, h4⟩ := s.sl.mod e hm
  have nd := (h3.nodup_iff).mpr s.nd
  obtain ⟨n1, n2, n3⟩ := List.nodup_append.mp nd
  have sub0 : ∀ a ∈ f0, a ∈ fp := fun a m => h3.mem_iff.mp (List.mem_append_right _ m)
  have subp : ∀ a ∈ fp0, a ∈ fp := fun a m => h3.mem_iff.mp (List.mem_append_left _ m)
  refine ⟨v, f0, h1, h2, sub0, n2, fun F' H' o' f' g n ng dg q nf ff => ?_⟩
  obtain ⟨g1, g2, g3⟩ := List.nodup_append.mp ng
  have out : ∀ a ∈ fp0, a ∉ f0 ++ g := fun a m m' => by
    rcases List.mem_append.mp m' with m' | m'
    · exact n3 a m a m' rfl
    · exact g3 a (subp a m) a m' rfl
  have keep : ∀ a u, a ∈ fp0 → H a = some u → H' a = some u := fun a u m h => n.hh a u h (out a m)
  obtain ⟨fp', s', p⟩ := h4 F' H' o' f' n.ff keep q
  have dis : ∀ a ∈ fp0, ∀ b ∈ f', a ≠ b := fun a m b m' e => by
    subst e
    rcases n.fr a m' with x | x
    · exact out a m x
    · obtain ⟨u, hu⟩ := s.dom a (subp a m)
      rw [hu] at x; cases x
  have isNone : ∀ a ∈ fp0, F' a = none := fun a m => by
    cases e : F' a with
    | none => rfl
    | some u =>
      obtain ⟨w, hw⟩ := s.dom a (subp a m)
      rcases n.nw a (s.df a (subp a m)).1 (by rw [e]; exact fun z => by cases z) with x | x
      · rw [hw] at x; cases x
      · exact (out a m x).elim
  have bn : ∀ a ∈ f', B a = none := fun a m => by
    rcases n.fr a m with x | x
    · rcases List.mem_append.mp x with x | x
      · exact (s.df a (sub0 a x)).2
      · exact (dg a x).2
    · exact s.lb.noneOf x
  refine ⟨fp', ⟨n.le, fun a u h => ?_, s', (p.nodup_iff).mp (List.nodup_append.mpr ⟨n1, nf, dis⟩), fun a m => ?_⟩, ⟨n.ff, fun a u h m => ?_, fun a h h' => ?_, fun a m => ?_, n.le⟩⟩
  · refine n.hh a u (s.lb a u h) fun m => ?_
    rcases List.mem_append.mp m with m | m
    · rw [(s.df a (sub0 a m)).2] at h; cases h
    · rw [(dg a m).2] at h; cases h
  · rcases List.mem_append.mp (p.mem_iff.mpr m) with m | m
    · exact ⟨isNone a m, (s.df a (subp a m)).2⟩
    · exact ⟨ff a m, bn a m⟩
  · refine n.hh a u h fun m' => m ?_
    rcases List.mem_append.mp m' with m' | m'
    · exact List.mem_append_left _ (sub0 a m')
    · exact List.mem_append_right _ m'
  · rcases n.nw a h h' with x | x
    · exact .inl x
    · rcases List.mem_append.mp x with x | x
      · exact .inr (List.mem_append_left _ (sub0 a x))
      · exact .inr (List.mem_append_right _ x)
  · rcases List.mem_append.mp (p.mem_iff.mpr m) with m | m
    · exact .inl (List.mem_append_left _ (subp a m))
    · rcases n.fr a m with x | x
      · rcases List.mem_append.mp x with x | x
        · exact .inl (List.mem_append_left _ (sub0 a x))
        · exact .inl (List.mem_append_right _ x)
      · exact .inr x
end

/-! ### xs.append(e) -/
def Sl.lst? (z : Option Sl) : Option (List O) := match z.bind Sl.mine with
  | some (.lst os) => some os
  | _ => none
theorem Sl.lst_ok {z : Option Sl} {os : List O} (h : Sl.lst? z = some os) : ∃ y, z = some y ∧ y.mine = some (.lst os) := by
  unfold Sl.lst? at h
  cases z with
  | none => cases h
  | some y =>
    refine ⟨y, rfl, ?_⟩
    simp only [Option.bind_some] at h
    split at h
    · rename_i e; cases h; exact e
    · cases h
def Sl.putAt (en : En) (i : Nat) (o : O) : En := match en[i]? with
  | some z => en.set i (z.put o)
  | none => en
def mApp (i : Nat) (m : En → Res (O × En)) (en : En) : SR := match Sl.lst? en[i]? with
  | none => .stuck
  | some _ => .of (m en) fun r => match Sl.lst? r.2[i]? with
    | some os => if os.length < ML then .nx (Sl.putAt r.2 i (.lst (os ++ [r.1]))) else .stuck
    | none => .stuck
section
variable {X : Cx} {G : CC} {W : WX} {pos cpos apos p : Pos} {e : Expr} {m : En → Res (O × En)}
theorem tApp_D {i : Nat} {D : Ends} {σ : St} {H : Hp} (h : tS G W (mApp i m) D σ H) : tBM G.K "list" rAppend (tVar i) (tCons (tX G W m) tNil) σ H fun _ H' => D.nx σ H' := by
  obtain ⟨F, B, L, en, fp, s, p⟩ := h
  unfold mApp at p
  cases e0 : Sl.lst? en[i]? with
  | none => rw [e0] at p; exact p.elim
  | some os0 =>
    rw [e0] at p
    obtain ⟨y0, h1, h2⟩ := Sl.lst_ok e0
    obtain ⟨v, f0, hv, q, _⟩ := s.mod h1 h2
    cases q with
    | @lst l vs _ fl hl r =>
      refine ⟨.ref l, hv, .inl ⟨rfl, _, SqL.of hl⟩, F, B, L, en, fp, s, ?_⟩
      simp only at p
      cases ea : m en with
      | stuck => rw [ea] at p; exact p.elim
      | exc x e => rw [ea] at p; exact p
      | ok rr =>
        rw [ea] at p
        simp only [SR.of] at p
        intro y F1 H1 x1
        obtain ⟨fp1, f1, n1, s1, q1, nd1, fr1⟩ := x1
        cases e1 : Sl.lst? rr.2[i]? with
        | none => simp only [e1] at p; exact p.elim
        | some os =>
          simp only [e1] at p
          split at p
          · rename_i hz
            obtain ⟨y1, h3, h4⟩ := Sl.lst_ok e1
            obtain ⟨v1, g0, hv1, k, sub, ndg, cont⟩ := s1.mod h3 h4
            rw [hv] at hv1
            cases hv1
            cases k with
            | @lst _ ws _ gl hw rw' =>
              refine ⟨l, ws, y, rfl, rfl, hw, by rw [rw'.length, ← ML_eq]; exact hz, ?_⟩
              have bf1 : ∀ a ∈ f1, B a = none := fun a m => s.noB n1 a (List.mem_append_right _ m)
              obtain ⟨nd2, nd3, nd4⟩ := List.nodup_append.mp nd1
              have lN : l ∉ gl := (List.nodup_cons.mp ndg).1
              have lf : l ∉ f1 := fun m => nd4 l (sub l (List.mem_cons_self ..)) l m rfl
              obtain ⟨fp', s', n'⟩ := cont F1 (upd H1 l (.lst (ws ++ [y]))) (.lst (os ++ [rr.1])) (l :: (gl ++ f1)) f1
                ⟨Le.refl F1, fun a u h m => by rw [upd_ne (fun z => m (by rw [z]; exact List.mem_append_left _ (List.mem_cons_self ..)))]; exact h, fun a h h' => (h' h).elim, fun a m => .inl m, s1.lf.upd_own (s1.df l (sub l (List.mem_cons_self ..))).1⟩
                nd1 (fun a m => ⟨fr1 a m, bf1 a m⟩)
                (.lst upd_same ((rw'.le (Le.refl F1) fun a u m h => by rw [upd_ne (show a ≠ l from fun z => lN (by rw [← z]; exact m))]; exact h).append (.one (q1.le (Le.refl F1) fun a u m h => by rw [upd_ne (show a ≠ l from fun z => lf (by rw [← z]; exact m))]; exact h))))
                (by
                  show ((l :: gl) ++ f1).Nodup
                  exact List.nodup_append.mpr ⟨ndg, nd3, fun a m b m' => nd4 a (sub a m) b m'⟩)
                (fun a m => by
                  have m' : a ∈ (l :: gl) ++ f1 := m
                  exact (List.mem_append.mp m').elim (fun m => (s1.df a (sub a m)).1) (fr1 a))
              refine p σ F1 _ ⟨fp', n1.trans n', ?_⟩
              unfold Sl.putAt
              rw [h3]
              exact s'
          · exact p.elim
theorem ds_app (i : Nat) {x : Str} (he : PE X e (tX G W m)) (hN : X.N[i]? = some x := by rfl) (hv : Vis X.env.scope x := by first | exact Or.inl rfl | exact Or.inr (Or.inl rfl) | exact Or.inr (Or.inr rfl)) (hK : G.K = X.K := by rfl)
    (hbase : attributeBase (.Name x p) "append" X.env (eval (.Name x p) X.env) = eval (.Name x p) X.env := by rfl)
    (hfew : ((backTo cpos (starEach [e] X.env)).all (fun x => !x.1) && (backToKw cpos (keywordEach [] X.env)).all (fun x => x.1.isSome)
      && decide ([e].length + ([] : List Keyword).length + (if ([] : List Keyword).isEmpty then 0 else 1) < 30)) = true := by rfl)
    (hline : (apos.endLine == cpos.line) = true := by rfl) (hst : starEach [e] X.env = (false, eval e X.env) :: starEach [] X.env := by rfl) (hplain : (backTo cpos (starEach [] X.env)).any (·.1) = false := by rfl)
    (hs : swapsWith (.Call (.Attribute (.Name x p) "append" apos) [e] [] cpos) none pos.line X.env = pure false := by rfl)
    (hd : (x == ("__debug__" : Str)) = false := by decide) (hcd : (x == ("__classdict__" : Str)) = false := by decide) :
    PS X (.Expr (.Call (.Attribute (.Name x p) "append" apos) [e] [] cpos) pos) (tS G W (mApp i m)) :=
  (ps_expr (pe_bm PySem.F.plainAttrs_list PySem.F.slot_list_append PySem.F.type_list_append mt_append (pe_var hN hv hd hcd) (pa_cons he pa_nil hst) hbase hfew hline hst hplain) hs).imp fun D σ H h => by
    have z := tApp_D h
    rw [hK] at z
    exact z
end

/-! ### {} -/
section
variable {X : Cx} {G : CC} {W : WX} {pos : Pos}
theorem PR.new1 {F H : Hp} {p : Addr} {u : HO} {o : O} (l : Le F H) (hp : H p = none) (q : Own G F (upd H p u) (.ref p) o [p]) : PR G F F H (upd H p u) (.ref p) (.own o) :=
  ⟨[p], Nx.newO l hp [p] (fun a m => .inr (by simpa using m)), q, by simp, fun a m => by
    have e : a = p := by simpa using m
    rw [e]; exact l.noneOf hp⟩
def mDct (k : Bool) (_ : En) : Res R := .ok (.own (.dct k []))
theorem dp_dctK : PE X (.Dict [] [] pos) (tD G W (mDct false)) := pe_dnewK.imp fun σ H Q h => by
  obtain ⟨F, B, L, en, fp, s, p⟩ := h
  exact fun a ha => p _ F _ (PR.new1 s.lf ha (.dct upd_same rfl .nil))
theorem dp_dctT : PE X (.Dict [] [] pos) (tD G W (mDct true)) := pe_dnewT.imp fun σ H Q h => by
  obtain ⟨F, B, L, en, fp, s, p⟩ := h
  exact fun a ha => p _ F _ (PR.new1 s.lf ha (.dcT upd_same rfl .nil))
end

/-! ### text * int -/
def rep1 (l : List Nat) (n : Nat) : List Nat := (List.replicate n l).flatten
def mulS (a b : O) : Option R := match a.str?, b.int? with
  | some s, some j => if lim 1000001 j && (Nat.ble s.length 1000 && Nat.ble (s.length * j.toNat) 1000000) then rSh (.str (rep1 s j.toNat)) else none
  | _, _ => none
def rMulS : R2 := fun x y H Q => ∃ (s : Str) (j : Int), x = .str s ∧ y = .int j ∧ -(2 ^ 62) ≤ j ∧ j ≤ 1000000 ∧ s.length ≤ 1000 ∧ s.length * j.toNat ≤ 1000000 ∧ Q (.str (SX.S (rep1 s.cps.toList j.toNat))) H
theorem rep_fold (c : Array Nat) : ∀ (n : Nat) (a : Array Nat), (List.replicate n c).foldl (· ++ ·) a = a ++ (List.replicate n c.toList).flatten.toArray
  | 0, a => by simp
  | n + 1, a => by
    rw [List.replicate_succ, List.foldl_cons, rep_fold c n, List.replicate_succ, List.flatten_cons]
    apply Array.ext'
    simp
theorem op_mulS {X : Cx} : OpR X (binaryOp .Mult) rMulS := by
  intro pins s σ H x y v u Q I rx ry h
  obtain ⟨z, j, rfl, rfl, h1, h2, h3, h4, q⟩ := h
  obtain ⟨t, rfl⟩ := rx
  obtain ⟨t', rfl⟩ := ry
  have hsz : (rep1 z.cps.toList j.toNat).length = z.length * j.toNat := by
    unfold rep1
    simp [Str.length, Nat.mul_comm]
  refine PySem.P.mul_str ?_ (fun _ _ => ?_) (fun _ _ => ?_) ?_
  · have a1 : ¬ j < -(2 ^ 63 : Int) := by omega
    have a2 : ¬ j ≥ 2 ^ 63 := by omega
    rw [decide_eq_false a1, decide_eq_false a2]; rfl
  · intro hh
    have a3 : 0 < j := by omega
    have : (2 ^ 63 - 1 : Int) / j ≥ 1000 := by
      have : (1000 : Int) * j ≤ 2 ^ 63 - 1 := by omega
      exact (Int.le_ediv_iff_mul_le a3).mpr this
    omega
  · have h5 : (1000000 : Nat) ≤ sizeLine := by decide
    unfold Builtin.Str.tooLong
    first
      | exact decide_eq_false (by omega)
      | (simp; omega)
  · split
    · rename_i hn
      have e0 : j.toNat = 0 := by omega
      rw [e0] at q
      exact ⟨by decide, ⟨.str _, H, I.tok _, ⟨_, rfl⟩, q⟩⟩
    · split
      · rename_i hn hc
        have e1 : SX.S (rep1 z.cps.toList j.toNat) = z := by
          simp only [Bool.or_eq_true, beq_iff_eq] at hc
          rcases hc with hc | hc
          · subst hc
            unfold rep1
            exact (by simp : SX.S ((List.replicate (Int.toNat 1) z.cps.toList).flatten) = SX.S z.cps.toList).trans (SX.S_tl z)
          · have : z.cps.toList = [] := by
              have : z.cps.toList.length = 0 := by rw [Array.length_toList]; exact hc
              exact List.length_eq_zero_iff.mp this
            have e2 : rep1 z.cps.toList j.toNat = z.cps.toList := by rw [this]; unfold rep1; simp
            exact (congrArg SX.S e2).trans (SX.S_tl z)
        rw [e1] at q
        exact ⟨.str z, H, I, ⟨t, rfl⟩, q⟩
      · have e2 : (⟨(List.replicate j.toNat z.cps).foldl (· ++ ·) #[]⟩ : Str) = SX.S (rep1 z.cps.toList j.toNat) := by
          rw [rep_fold]
          first | rfl | simp [rep1]
        rw [e2]
        have h5 : (1000000 : Nat) ≤ sizeLine := by decide
        exact ⟨by rw [SX.S_len, hsz]; omega, ⟨.str _, H, I.tok _, ⟨_, rfl⟩, q⟩⟩
theorem mulS_ok {G : CC} : OpD G rMulS mulS := by
  intro F H x y a b f g Q l ha hb p
  unfold mulS at p
  cases e1 : a.str? with
  | none => simp only [e1] at p; exact p.elim
  | some s =>
    cases e2 : b.int? with
    | none => simp only [e1, e2] at p; exact p.elim
    | some j =>
      simp only [e1, e2] at p
      rw [O.str?_eq e1] at ha
      rw [O.int?_eq e2] at hb
      split at p
      · rename_i hz
        simp only [Bool.and_eq_true, lim_iff] at hz
        exact ⟨_, _, ha.strV, hb.intV, by omega, by omega, by rw [SX.S_len]; exact Nat.le_of_ble_eq_true hz.2.1, by rw [SX.S_len]; exact Nat.le_of_ble_eq_true hz.2.2, vp_sh l (.str _) p⟩
      · exact p.elim
/-- int * int, text * int -/
def mulO : O → O → Option R := orR mulO0 mulS
abbrev rMulO : R2 := fun x y H Q => rI CMul (fun i j => .int (i * j)) x y H Q ∨ rMulS x y H Q
theorem op_mulO {X : Cx} : OpR X (binaryOp .Mult) rMulO := op_mul.or op_mulS
theorem mulO_ok {G : CC} : OpD G rMulO mulO := mulO0_ok.or mulS_ok
end DL

set_option maxHeartbeats 1000000
/-! DN: a law's end over a head by facts -/
namespace DL
open PySem PySem.Spec L2
open PyProof.Rows hiding St
section
/-- the walk of a law over a head by facts -/
theorem law_walkE {l : PySem.W.OpenLaw} {q : Program} {loose : List Str} {XP : (Str → Option Value) → Heap → Prop} {YP : World → Heap → Prop} {d : DefRec} {m : List O → FR} {k : Nat} {x : Str}
    (hn : l.most = some 63) (hdf : d.params.defaults = []) (hr : Room k callerA)
    (F : ∀ (w : World) (mg : Str → Option Value) (fa : Addr) (h : Heap), YP w h → h.Ns mainGlobals mg → mg d.name = some (.ref fa) →
      ∃ (G : CC) (fd : FuncData), G.K.In h ∧ (∀ (s : Shared) (u : Value), BindsTo s fd ⟨[u], []⟩ [(x, u)]) ∧
        ∀ base : Heap, G.K.In base → base.Ns mainGlobals mg → FnOk l.prog w G.K mg base (L2.CX l.prog w) k fa fd [x] (spP G 1 m))
    (hm : ∀ ns : List Int, ns.length ≤ 63 → (∀ z ∈ ns, Builtin.Int.intBits z ≤ 1048576) → m [.sh (.lst (ns.map .int))] = .ok (.sh (.bl true))) :
    PySem.W.WalkO q loose XP YP l.row.toRowW d [] (fun f vs => PySem.call f vs) := by
  refine Att.attach_callB hn hdf fun w s₀ s₁ mg mb fa o pm cd doc a vs ns G0 Y ho hd hcd hmg hobj hints hlen hbits hg => ?_
  obtain ⟨G, fd, KX, hb, hF⟩ := F w mg fa _ Y G0.T.g hmg
  exact law_call KX G0.T.g G0.T.b G0.T.builtins G0.T.nolimit hg hobj hints (Nat.le_trans hlen (by decide)) hr hF hb (fun H _ hS => law_sp hS (hm ns hlen hbits)) fun _ _ _ z => law_cx z
/-- facts of a module's constants -/
theorem kst_int {G : CC} {mg : Str → Option Value} {x : Str} {i : Int} (h : ∃ t, mg x = some (.int i t)) : Kst G mg x (.int i) := by
  obtain ⟨t, h⟩ := h
  exact ⟨⟨.int i, _, h, ⟨t, rfl⟩, fun _ => .int i⟩⟩
theorem kst_str {G : CC} {mg : Str → Option Value} {x z : Str} (l : List Nat) (h : ∃ t, mg x = some (.str z t)) (e : z = SX.S l := by rfl) : Kst G mg x (.str l) := by
  obtain ⟨t, h⟩ := h
  subst e
  exact ⟨⟨.str (SX.S l), _, h, ⟨t, rfl⟩, fun _ => .str l⟩⟩
/-- a def with the defaults dos, called with j of them left out -/
theorem fncD {P : Program} {w : World} {K : PySem.W.Frag} {mg : Str → Option Value} {base : Heap} {G : CC} {k n : Nat} {x : Str} {f : Addr} {fd : FuncData} {ps : List Str} {m : List O → FR} {dvs : List V} {dos : List D} (h : FnOk P w K mg base (L2.CX P w) k f fd ps (spP G n m)) (hm : mg x = some (.ref f)) (hk : PySem.W.keepIn K (.ref f) = true)
    (hb : ∃ ds, Vals dvs ds ∧ Binds K fd ps ds) (hd : ∀ F, Reps G F dvs dos) : Fnc P w K mg base G k x n m dos := by
  obtain ⟨ds, r, b⟩ := hb
  exact ⟨f, fd, ps, ds, dvs, h, hm, hk, b, r, hd⟩
end
end DL

set_option maxHeartbeats 1000000
/-! DS: data reckoned by simp -/
namespace DL
open PySem PySem.Spec L2
open PyProof.Rows hiding St
def SR.seq : SR → (En → SR) → SR
  | .nx e, b => b e
  | r, _ => r
section
variable {en : En} {m ma mb mc : En → Res R} {ms : En → Res (List R)} {n na nb : En → Res Bool} {f g : O → O → Option R} {h : O → Option R} {hs : List O → Option R} {i j : Nat} {d : D} {a b : En → SR} {mx : En → Res (O × En)} {o u : O} {r : R}
@[simp] theorem s_bnd_ok {α β : Type} {x : α} {k : α → Res β} : Res.bnd (.ok x) k = k x := rfl
@[simp] theorem s_bnd_exc {α β : Type} {x : Ex} {e : En} {k : α → Res β} : Res.bnd (.exc x e) k = .exc x e := rfl
@[simp] theorem s_of {α : Type} {x : α} : Res.of (some x) = .ok x := rfl
@[simp] theorem s_c : mC d en = .ok (.own (.sh d)) := rfl
@[simp] theorem s_op : mOp f ma mb en = (ma en).bnd fun a => (mb en).bnd fun b => .of (f a.o b.o) := rfl
@[simp] theorem s_un : mUn h ma en = (ma en).bnd fun a => .of (h a.o) := rfl
@[simp] theorem s_ro : (R.own o).o = o := rfl
@[simp] theorem s_rb : (R.bor o).o = o := rfl
@[simp] theorem s_bl {k : Bool} : (R.own (.sh (.bl k))).bl? = some k := rfl
@[simp] theorem s_ownBl {k : Bool} : ownBl k = R.own (.sh (.bl k)) := rfl
@[simp] theorem s_tst : mTst m en = (m en).bnd fun r => .of r.bl? := rfl
@[simp] theorem s_and : mAnd na nb en = (na en).bnd fun a => if a then nb en else .ok false := rfl
@[simp] theorem s_or : mOr na nb en = (na en).bnd fun a => if a then .ok true else nb en := rfl
@[simp] theorem s_not : mNot na en = (na en).bnd fun a => .ok (!a) := rfl
@[simp] theorem s_andV : mAndV ma mb en = (ma en).bnd fun a => match a.bl? with | some true => mb en | some false => .ok (ownBl false) | none => .stuck := rfl
@[simp] theorem s_orV : mOrV ma mb en = (ma en).bnd fun a => match a.bl? with | some true => .ok (ownBl true) | some false => mb en | none => .stuck := rfl
@[simp] theorem s_notV : mNotV ma en = (ma en).bnd fun a => match a.bl? with | some k => .ok (ownBl (!k)) | none => .stuck := rfl
@[simp] theorem s_if : mIf n ma mb en = (n en).bnd fun k => if k then ma en else mb en := rfl
@[simp] theorem s_name : mName i en = match en[i]? with
  | some s => (match s.look with
    | some r => .ok r
    | none => .stuck)
  | none => .stuck := rfl
@[simp] theorem s_look1 : Sl.look (.own (.sh d)) = some (.own (.sh d)) := rfl
@[simp] theorem s_look2 : Sl.look (.bor (.sh d)) = some (.own (.sh d)) := rfl
@[simp] theorem s_look3 {l : List O} : Sl.look (.own (.lst l)) = some (.bor (.lst l)) := rfl
@[simp] theorem s_nil : mNil en = .ok [] := rfl
@[simp] theorem s_cons : mCons m ms en = (m en).bnd fun r => (ms en).bnd fun rs => .ok (r :: rs) := rfl
@[simp] theorem s_owns0 : owns [] = some [] := rfl
@[simp] theorem s_owns1 {rs : List R} : owns (.own o :: rs) = (owns rs).map (o :: ·) := rfl
@[simp] theorem s_lst : mLst ms en = (ms en).bnd fun rs => match owns rs with
  | some os => if os.length ≤ ML then .ok (.own (.lst os)) else .stuck
  | none => .stuck := rfl
@[simp] theorem s_tup : mTup ms en = (ms en).bnd fun rs => match owns rs with
  | some os => if os.length ≤ ML then (match shs os with | some ds => .ok (.own (.sh (.tup ds))) | none => .ok (.own (.tup os))) else .stuck
  | none => .stuck := rfl
@[simp] theorem s_dct {k : Bool} : mDct k en = .ok (.own (.dct k [])) := rfl
@[simp] theorem s_call : mCall hs ms en = (ms en).bnd fun rs => .of (hs (rs.map R.o)) := rfl
@[simp] theorem s_fn1 : fn1 h [o] = h o := rfl
@[simp] theorem s_fn2 : fn2 f [o, u] = f o u := rfl
@[simp] theorem s_fn {n : Nat} {mf : List O → FR} {dos : List D} : mFn n mf dos ms en = (ms en).bnd fun rs => if rs.length + dos.length = n then (match mf (rs.map R.o ++ dos.map .sh) with
  | .ok o => .ok (.own o)
  | .exc x => .exc x en
  | .stuck => .stuck) else .stuck := rfl
@[simp] theorem s_fzV : mFzV m en = (m en).bnd fun r => match r with
  | .own o => .ok (.own (.sh o.fz))
  | .bor _ => .stuck := rfl
@[simp] theorem s_lift : mLift m en = (m en).bnd fun r => match r with
  | .own o => .ok (o, en)
  | .bor _ => .stuck := rfl
@[simp] theorem s_share : mShare i en = match en[i]? with
  | some (.own (.sh d)) => .ok (.sh d, en)
  | some (.own o) => .ok (.sh o.fz, en.set i (.own (.sh o.fz)))
  | some s => (match s.look with
    | some (.own o) => .ok (o, en)
    | _ => .stuck)
  | none => .stuck := rfl
@[simp] theorem s_move : mMove i en = match en[i]? with
  | some (.own (.sh d)) => .ok (.sh d, en)
  | some (.own o) => .ok (o, en.set i .un)
  | some s => (match s.look with
    | some (.own o) => .ok (o, en)
    | _ => .stuck)
  | none => .stuck := rfl
@[simp] theorem s_srof {α : Type} {x : α} {k : α → SR} : SR.of (.ok x) k = k x := rfl
@[simp] theorem s_srexc {α : Type} {x : Ex} {e : En} {k : α → SR} : SR.of (.exc x e) k = .exc x e := rfl
@[simp] theorem s_set : mSet i mx en = .of (mx en) fun r => if Sl.free? r.2[i]? then .nx (r.2.set i (.own r.1)) else .stuck := rfl
@[simp] theorem s_setF : mSetF i mx en = .of (mx en) fun r => if Sl.free? r.2[i]? then .nx (r.2.set i (.own (.sh r.1.fz))) else .stuck := rfl
@[simp] theorem s_ret : mRet mx en = .of (mx en) fun r => .rt r.1 r.2 := rfl
@[simp] theorem s_retN : mRetN en = .rt (.sh .non) en := rfl
@[simp] theorem s_drop : mDrop mx en = .of (mx en) fun r => .nx r.2 := rfl
@[simp] theorem s_ifS : mIfS n a b en = .of (n en) fun k => if k then a en else b en := rfl
@[simp] theorem s_nx : mNx en = .nx en := rfl
@[simp] theorem s_bk : mBk en = .bk en := rfl
@[simp] theorem s_ct : mCt en = .ct en := rfl
@[simp] theorem s_seq : mSeq a b en = (a en).seq b := by unfold mSeq SR.seq; cases a en <;> rfl
@[simp] theorem s_sq1 : (SR.nx en).seq b = b en := rfl
@[simp] theorem s_sq2 : (SR.rt o en).seq b = .rt o en := rfl
@[simp] theorem s_sq3 {x : Ex} : (SR.exc x en).seq b = .exc x en := rfl
@[simp] theorem s_sq4 : (SR.bk en).seq b = .bk en := rfl
@[simp] theorem s_sq5 : (SR.ct en).seq b = .ct en := rfl
@[simp] theorem s_for {it : En → Res (List D × En)} {gg : O → En → Option En} {dead : List Nat} : mFor it gg dead a en = .of (it en) fun r => forL gg a dead r.1 (wipeE r.2 dead) := rfl
@[simp] theorem s_itN : mItN i en = match en[i]? with
  | some (.bor o) => (match o.seq? with
    | some ds => .ok (ds, en)
    | none => match o.str? with
      | some s => .ok (chars s, en)
      | none => .stuck)
  | _ => mItV (mShare i) en := rfl
@[simp] theorem s_itV : mItV mx en = (mx en).bnd fun r => match r.1.fz.seqI with
  | some ds => .ok (ds, r.2)
  | none => .stuck := by unfold mItV; rfl
@[simp] theorem s_seq1 {l : List D} : D.seqI (.lst l) = some l := rfl
@[simp] theorem s_seq2 {l : List D} : D.seqI (.tup l) = some l := rfl
@[simp] theorem s_seq3 {l : List Nat} : D.seqI (.str l) = some (chars l) := rfl
@[simp] theorem s_gNm : gNm i o en = if Sl.free? en[i]? then some (en.set i (.own o)) else none := rfl
@[simp] theorem s_gNl : gNl [] en = some en := rfl
@[simp] theorem s_gCn {g1 : O → En → Option En} {gs : List O → En → Option En} {os : List O} : gCn g1 gs (o :: os) en = (g1 o en).bind (gs os) := rfl
@[simp] theorem s_gTp {n : Nat} {gs : List O → En → Option En} {l : List D} : gTp n gs (.sh (.tup l)) en = if l.length = n then gs (l.map .sh) en else none := rfl
@[simp] theorem s_gTl {n : Nat} {gs : List O → En → Option En} {l : List D} : gTp n gs (.sh (.lst l)) en = if l.length = n then gs (l.map .sh) en else none := rfl
@[simp] theorem s_asg {gg : O → En → Option En} : mAsg gg mx en = .of (mx en) fun r => match gg r.1 r.2 with
  | some en' => .nx en'
  | none => .stuck := by unfold mAsg; rfl
@[simp] theorem s_free1 : Sl.free? (some .un) = true := rfl
@[simp] theorem s_free2 : Sl.free? (some (.own o)) = true := rfl
@[simp] theorem s_free3 : Sl.free? (some (.bor o)) = true := rfl
@[simp] theorem s_fz1 : O.fz (.sh d) = d := rfl
@[simp] theorem s_fz2 {l : List O} : O.fz (.lst l) = .lst (O.fzs l) := by simp [O.fz]
@[simp] theorem s_fz3 {l : List O} : O.fz (.tup l) = .tup (O.fzs l) := by simp [O.fz]
@[simp] theorem s_fz4 {k : Bool} {l : List (D × O)} : O.fz (.dct k l) = .dct (O.fzd l) := by simp [O.fz]
@[simp] theorem s_fzs0 : O.fzs [] = [] := by simp [O.fzs]
@[simp] theorem s_fzs1 {l : List O} : O.fzs (o :: l) = o.fz :: O.fzs l := by simp [O.fzs]
@[simp] theorem s_fzd0 : O.fzd [] = [] := by simp [O.fzd]
@[simp] theorem s_fzs_map {α : Type} {q : α → D} {l : List α} : O.fzs (l.map fun x => .sh (q x)) = l.map q := by
  rw [O.fzs_map, List.map_map]; rfl
@[simp] theorem s_fzs_map2 {l : List D} : O.fzs (l.map .sh) = l := by rw [O.fzs_map, List.map_map]; simp [Function.comp_def]
@[simp] theorem s_fzs_map3 {α : Type} {q : α → D} {l : List α} : O.fzs (l.map (O.sh ∘ q)) = l.map q := s_fzs_map
@[simp] theorem s_fzs_app {l k : List O} : O.fzs (l ++ k) = O.fzs l ++ O.fzs k := by simp [O.fzs_map]
@[simp] theorem s_wipe0 : wipeE en [] = en := rfl
@[simp] theorem s_wipe1 {v : Nat} {vs : List Nat} : wipeE en (v :: vs) = wipe1 (wipeE en vs) v := rfl
@[simp] theorem s_wp : wipe1 en i = match en[i]? with
  | some (.lent _) => en
  | _ => en.set i .un := by unfold wipe1; rfl
@[simp] theorem s_for0 {gg : O → En → Option En} {dead : List Nat} : forL gg a dead [] en = .nx en := rfl
theorem s_for1 {gg : O → En → Option En} {dead : List Nat} {x : D} {ds : List D} : forL gg a dead (x :: ds) en = match gg (.sh x) en with
  | none => .stuck
  | some en1 => match a en1 with
    | .nx en' => forL gg a dead ds (wipeE en' dead)
    | .ct en' => forL gg a dead ds (wipeE en' dead)
    | .bk en' => .nx (wipeE en' dead)
    | r => r := rfl
@[simp] theorem s_app : mApp i mx en = match Sl.lst? en[i]? with
  | none => .stuck
  | some _ => .of (mx en) fun r => match Sl.lst? r.2[i]? with
    | some os => if os.length < ML then .nx (Sl.putAt r.2 i (.lst (os ++ [r.1]))) else .stuck
    | none => .stuck := rfl
@[simp] theorem s_lstS {l : List O} : Sl.lst? (some (.own (.lst l))) = some l := rfl
@[simp] theorem s_putAt : Sl.putAt en i o = match en[i]? with
  | some z => en.set i (z.put o)
  | none => en := rfl
@[simp] theorem s_put1 : Sl.put (.own u) o = .own o := rfl
@[simp] theorem s_args0 {n : Nat} : args0 n [] = List.replicate n .un := rfl
@[simp] theorem s_args1 {n : Nat} {os : List O} : args0 n (o :: os) = arg1 o :: args0 n os := rfl
@[simp] theorem s_arg1 : arg1 (.sh d) = .own (.sh d) := rfl
@[simp] theorem s_fr1 : (SR.rt o en).fr = .ok o := rfl
@[simp] theorem s_fr2 : (SR.nx en).fr = .ok (.sh .non) := rfl
@[simp] theorem s_fr3 {x : Ex} : (SR.exc x en).fr = .exc x := rfl
@[simp] theorem s_int {z : Int} : O.int? (.sh (.int z)) = some z := rfl
@[simp] theorem s_str {z : List Nat} : O.str? (.sh (.str z)) = some z := rfl
@[simp] theorem s_intS {z : List Nat} : O.int? (.sh (.str z)) = none := rfl
@[simp] theorem s_strI {z : Int} : O.str? (.sh (.int z)) = none := rfl
@[simp] theorem s_mlst {it : En → Res (List D)} {vs : List Nat} {gg : O → En → Option En} : mLc it vs gg n m en = (it en).bnd fun ds => if vs.all fun i => Sl.free? en[i]? then (match lcL gg n m (wipeE en vs) ds with
    | some os => if os.length ≤ ML then .ok (.own (.lst os)) else .stuck
    | none => .stuck) else .stuck := rfl
@[simp] theorem s_yes : mYes en = .ok true := rfl
@[simp] theorem s_J : mJ m en = (m en).bnd fun r => match r with
  | .own o => (match o.fz.seqI with | some ds => .ok ds | none => .stuck)
  | .bor o => (match o.seq? with | some ds => .ok ds | none => .stuck) := rfl
@[simp] theorem s_rInt {z : Int} : rInt z = some (.own (.sh (.int z))) := rfl
@[simp] theorem s_rBl {z : Bool} : rBl z = some (.own (.sh (.bl z))) := rfl
@[simp] theorem s_rSh : rSh d = some (.own (.sh d)) := rfl
@[simp] theorem s_part0 : mPart none en = .ok none := rfl
@[simp] theorem s_part1 : mPart (some m) en = (m en).bnd fun r => match r.o.int? with | some i => .ok (some i) | none => .stuck := rfl
@[simp] theorem s_sl {q : O → Option Int → Option Int → Option R} {l v : En → Res (Option Int)} : mSl q ma l v en = (ma en).bnd fun a => (l en).bnd fun i => (v en).bnd fun j => .of (q a.o i j) := rfl
end
section
variable {i j : Int} {s t : List Nat} {k : Bool} {d : D}
@[simp] theorem e_add : addO (.sh (.int i)) (.sh (.int j)) = some (.own (.sh (.int (i + j)))) := rfl
@[simp] theorem e_sub : subO (.sh (.int i)) (.sh (.int j)) = some (.own (.sh (.int (i - j)))) := rfl
theorem e_mul (h : W64 i = true ∨ W64 j = true) : mulO (.sh (.int i)) (.sh (.int j)) = some (.own (.sh (.int (i * j)))) := by
  have : (W64 i || W64 j) = true := by rcases h with h | h <;> simp [h]
  unfold mulO orR mulO0 opI
  simp [this]
theorem w64 (h1 : -(2 ^ 64) < i) (h2 : i < 2 ^ 64) : W64 i = true := W64_iff.mpr ⟨h1, h2⟩
theorem e_mod (h : 0 < j) : modO (.sh (.int i)) (.sh (.int j)) = some (.own (.sh (.int (i % j)))) := by unfold modO opI; simp [h]
theorem e_fdiv (h : 0 < j) (h2 : j.natAbs.log2 < 9000) : fdivO (.sh (.int i)) (.sh (.int j)) = some (.own (.sh (.int (i / j)))) := by unfold fdivO opI; simp [h, h2]
theorem log_small (h : 0 < j) (h2 : j < 2 ^ 64) : j.natAbs.log2 < 9000 := by
  have h3 : j.natAbs ≠ 0 := by omega
  have : j.natAbs.log2 < 64 := (Nat.log2_lt h3).mpr (by omega)
  omega
@[simp] theorem e_neg : negO (.sh (.int i)) = some (.own (.sh (.int (-i)))) := rfl
@[simp] theorem e_lt : ltO (.sh (.int i)) (.sh (.int j)) = some (.own (.sh (.bl (decide (i < j))))) := rfl
@[simp] theorem e_le : leO (.sh (.int i)) (.sh (.int j)) = some (.own (.sh (.bl (decide (i ≤ j))))) := rfl
@[simp] theorem e_gt : gtO (.sh (.int i)) (.sh (.int j)) = some (.own (.sh (.bl (decide (j < i))))) := rfl
@[simp] theorem e_ge : geO (.sh (.int i)) (.sh (.int j)) = some (.own (.sh (.bl (decide (j ≤ i))))) := rfl
@[simp] theorem e_max : maxO (.sh (.int i)) (.sh (.int j)) = some (.own (.sh (.int (if j > i then j else i)))) := rfl
@[simp] theorem e_min : minO (.sh (.int i)) (.sh (.int j)) = some (.own (.sh (.int (if j < i then j else i)))) := rfl
@[simp] theorem e_abs : absO (.sh (.int i)) = some (.own (.sh (.int (if i < 0 then -i else i)))) := rfl
@[simp] theorem e_int : intO (.sh (.int i)) = some (.own (.sh (.int i))) := rfl
@[simp] theorem e_intB : intO (.sh (.bl k)) = some (.own (.sh (.int (if k then 1 else 0)))) := rfl
@[simp] theorem e_eqI : eqO (.sh (.int i)) (.sh (.int j)) = some (.own (.sh (.bl (i == j)))) := by simp [eqO, orR, eqSc, O.sh?, scD, deq]
@[simp] theorem e_eqS : eqO (.sh (.str s)) (.sh (.str t)) = some (.own (.sh (.bl (s == t)))) := by simp [eqO, orR, eqSc, O.sh?, scD, deq]
@[simp] theorem e_eqB {l : Bool} : eqO (.sh (.bl k)) (.sh (.bl l)) = some (.own (.sh (.bl (k == l)))) := by simp [eqO, orR, eqSc, O.sh?, scD, deq]
@[simp] theorem e_neI : neO (.sh (.int i)) (.sh (.int j)) = some (.own (.sh (.bl (!(i == j))))) := by simp [neO, orR, eqSc, O.sh?, scD, deq]
@[simp] theorem e_neS : neO (.sh (.str s)) (.sh (.str t)) = some (.own (.sh (.bl (!(s == t))))) := by simp [neO, orR, eqSc, O.sh?, scD, deq]
@[simp] theorem e_isN {o : O} : isO false o (.sh .non) = some (.own (.sh (.bl o.isNon))) := rfl
@[simp] theorem e_isnN {o : O} : isO true o (.sh .non) = some (.own (.sh (.bl (!o.isNon)))) := rfl
@[simp] theorem e_non1 : O.isNon (.sh .non) = true := rfl
@[simp] theorem e_non2 : O.isNon (.sh (.int i)) = false := rfl
@[simp] theorem e_non3 : O.isNon (.sh (.bl k)) = false := rfl
@[simp] theorem e_non4 : O.isNon (.sh (.str s)) = false := rfl
@[simp] theorem e_isB {l : Bool} : isO false (.sh (.bl k)) (.sh (.bl l)) = some (.own (.sh (.bl (k == l)))) := rfl
@[simp] theorem e_isnB {l : Bool} : isO true (.sh (.bl k)) (.sh (.bl l)) = some (.own (.sh (.bl (!(k == l))))) := rfl
@[simp] theorem e_inS {c : Nat} : inO false (.sh (.str [c])) (.sh (.str t)) = some (.own (.sh (.bl (decide (c ∈ t))))) := rfl
@[simp] theorem e_ninS {c : Nat} : inO true (.sh (.str [c])) (.sh (.str t)) = some (.own (.sh (.bl (!decide (c ∈ t))))) := rfl
theorem e_addS (h : s.length + t.length ≤ ML) : addO (.sh (.str s)) (.sh (.str t)) = some (.own (.sh (.str (s ++ t)))) := by
  unfold addO orR opI addS
  simp [h]
theorem e_addL {x y : List D} (h : x.length + y.length ≤ ML) : addO (.sh (.lst x)) (.sh (.lst y)) = some (.own (.lst ((x ++ y).map .sh))) := by
  unfold addO orR opI addS addL
  simp [h, O.int?, O.str?, O.lst?, rLst]
theorem e_addLo {x y : List D} (h : x.length + y.length ≤ ML) : addO (.sh (.lst x)) (.lst (y.map .sh)) = some (.own (.lst ((x ++ y).map .sh))) := by
  have e : shs (y.map .sh) = some y := by
    induction y with
    | nil => rfl
    | cons a y ih => simp only [List.map_cons, shs]; rw [ih (by simp at h; omega)]; rfl
  unfold addO orR opI addS addL
  simp [h, O.int?, O.str?, O.lst?, rLst, e]
theorem ixO_L {l : List D} {n : Nat} {d : D} (h : l[n]? = some d) : ixO (.sh (.lst l)) (.sh (.int n)) = some (.own (.sh d)) := by
  unfold ixO orR ixQ
  simp only [O.items, O.int?]
  rw [L2.atI_nat (v := O.sh d) (by rw [List.getElem?_map, h]; rfl)]
  rfl
theorem ixO_T {l : List D} {n : Nat} {d : D} (h : l[n]? = some d) : ixO (.sh (.tup l)) (.sh (.int n)) = some (.own (.sh d)) := by
  unfold ixO orR ixQ
  simp only [O.items, O.int?]
  rw [L2.atI_nat (v := O.sh d) (by rw [List.getElem?_map, h]; rfl)]
  rfl
theorem ixO_S {n : Nat} {c : Nat} (h : s[n]? = some c) (hz : s.length ≤ ML) : ixO (.sh (.str s)) (.sh (.int n)) = some (.own (.sh (.str [c]))) := by
  unfold ixO orR ixQ ixS
  simp only [O.items, O.int?, O.str?]
  rw [if_pos hz, L2.atI_nat h]
  rfl
theorem lenQ_S (hz : s.length ≤ ML) : lenQ (.sh (.str s)) = some (.own (.sh (.int s.length))) := by
  unfold lenQ
  simp [O.items, hz]
@[simp] theorem lenQ_L {l : List D} : lenQ (.sh (.lst l)) = some (.own (.sh (.int l.length))) := by
  unfold lenQ; simp [O.items]
@[simp] theorem lenQ_T {l : List D} : lenQ (.sh (.tup l)) = some (.own (.sh (.int l.length))) := by
  unfold lenQ; simp [O.items]
theorem dbls_map {α : Type} {q : α → Bool} : ∀ l : List α, dbls (l.map fun x => .bl (q x)) = some (l.map q)
  | [] => rfl
  | a :: l => by simp only [List.map_cons, dbls, dbls_map l]; rfl
theorem shs_mapf {α : Type} {q : α → D} : ∀ l : List α, shs (l.map fun x => .sh (q x)) = some (l.map q)
  | [] => rfl
  | a :: l => by simp only [List.map_cons, shs, shs_mapf l]; rfl
theorem allO_map {α : Type} {q : α → Bool} {l : List α} : allO (.lst (l.map fun x => .sh (.bl (q x)))) = some (.own (.sh (.bl (l.all q)))) := by
  unfold allO
  have e : O.lst? (.lst (l.map fun x => .sh (.bl (q x)))) = some (l.map fun x => .bl (q x)) := shs_mapf (q := fun x => D.bl (q x)) l
  rw [e]
  simp only [Option.bind_some, dbls_map]
  simp [List.all_map, Function.comp_def]
theorem allO_true {α : Type} {l : List α} : allO (.lst (l.map fun _ => .sh (.bl true))) = some (.own (.sh (.bl true))) := by
  rw [allO_map (q := fun _ => true)]
  simp
/-- a comprehension, each item told -/
theorem lcL_map {α : Type} {g : O → En → Option En} {elt : En → Res R} {en : En} {mk : α → D} {q : α → O} : ∀ {l : List α}, (∀ x ∈ l, ∃ en1, g (.sh (mk x)) en = some en1 ∧ elt en1 = .ok (.own (q x))) → lcL g mYes elt en (l.map mk) = some (l.map q)
  | [], _ => rfl
  | a :: l, h => by
    obtain ⟨en1, h1, h2⟩ := h a (List.mem_cons_self ..)
    have ih := lcL_map (l := l) fun x m => h x (List.mem_cons_of_mem _ m)
    simp only [List.map_cons, lcL, h1, mYes, h2, ih, Option.map_some]
theorem ixO_Lm {l : List D} {a n : Int} (hn : (l.length : Int) = n) (h0 : 0 < n) : ixO (.sh (.lst l)) (.sh (.int (a % n))) = some (.own (.sh (l.getD (a % n).toNat .non))) := by
  have h1 := Int.emod_nonneg a (show n ≠ 0 by omega)
  have h2 := Int.emod_lt_of_pos a h0
  obtain ⟨k, hk⟩ : ∃ k : Nat, a % n = k := ⟨(a % n).toNat, by omega⟩
  rw [hk, Int.toNat_natCast]
  have hl : k < l.length := by omega
  exact ixO_L (by rw [List.getElem?_eq_getElem hl, List.getD_eq_getElem?_getD, List.getElem?_eq_getElem hl]; rfl)
theorem ixO_Sm {s : List Nat} {a n : Int} (hn : (s.length : Int) = n) (h0 : 0 < n) (hz : s.length ≤ ML) : ixO (.sh (.str s)) (.sh (.int (a % n))) = some (.own (.sh (.str [s.getD (a % n).toNat 0]))) := by
  have h1 := Int.emod_nonneg a (show n ≠ 0 by omega)
  have h2 := Int.emod_lt_of_pos a h0
  obtain ⟨k, hk⟩ : ∃ k : Nat, a % n = k := ⟨(a % n).toNat, by omega⟩
  rw [hk, Int.toNat_natCast]
  have hl : k < s.length := by omega
  exact ixO_S (by rw [List.getElem?_eq_getElem hl, List.getD_eq_getElem?_getD, List.getElem?_eq_getElem hl]; rfl) hz
theorem cut_from {α : Type} {xs : List α} (h : 0 ≤ i) : cutD xs (some i) none = xs.drop i.toNat := by
  unfold cutD
  simp only [HT.sIx]
  rw [if_neg (by omega)]
  by_cases c : i.toNat ≤ xs.length
  · rw [Nat.min_eq_left c, List.take_of_length_le (by rw [List.length_drop]; omega)]
  · rw [Nat.min_eq_right (by omega), List.drop_eq_nil_of_le (Nat.le_refl _), List.drop_eq_nil_of_le (by omega), List.take_nil]
theorem cut_to {α : Type} {xs : List α} (h : 0 ≤ i) : cutD xs none (some i) = xs.take i.toNat := by
  unfold cutD
  simp only [HT.sIx]
  rw [if_neg (by omega), List.drop_zero, Nat.sub_zero]
  by_cases c : i.toNat ≤ xs.length
  · rw [Nat.min_eq_left c]
  · rw [Nat.min_eq_right (by omega), List.take_of_length_le (Nat.le_refl _), List.take_of_length_le (by omega)]
theorem slO_S {lo hi : Option Int} (hz : s.length ≤ ML) : slO (.sh (.str s)) lo hi = some (.own (.sh (.str (cutD s lo hi)))) := by
  unfold slO slS
  simp [hz]
end
end DL

set_option maxHeartbeats 1000000
/-! DO: more of the built-ins: +=, join, min and max of a list -/
namespace DL
open PySem PySem.Spec L2
open PyProof.Rows hiding St

/-! ### n += e -/
def mAug (i : Nat) (m : En → Res R) (en : En) : SR := match en[i]? with
  | some (.own (.sh (.int a))) => .of (m en) fun r => match r.o.int? with
    | some b => .nx (en.set i (.own (.sh (.int (a + b)))))
    | none => .stuck
  | _ => .stuck
section
variable {X : Cx} {G : CC} {W : WX} {pos pos' : Pos} {e o : Expr} {m ma mb : En → Res R}
theorem tAug_D {i : Nat} {D : Ends} {σ : St} {H : Hp} (h : tS G W (mAug i m) D σ H) : tAug i (tD G W m) (ipI fun a b => a + b) D σ H := by
  obtain ⟨F, B, L, en, fp, s, p⟩ := h
  unfold mAug at p
  split at p
  · rename_i a e0
    obtain ⟨v, d, hv, e1, r⟩ := look_ok s e0 (o := .sh (.int a)) rfl
    cases e1
    refine ⟨v, hv, F, B, L, en, fp, s, ?_⟩
    cases ea : m en with
    | stuck => rw [ea] at p; exact p.elim
    | exc x e => rw [ea] at p; exact p
    | ok rr =>
      rw [ea] at p
      simp only [SR.of] at p
      intro y F1 H1 r1
      cases e2 : rr.o.int? with
      | none => simp only [e2] at p; exact p.elim
      | some b =>
        simp only [e2] at p
        obtain ⟨f, q⟩ := r1.has
        rw [O.int?_eq e2] at q
        refine ⟨a, b, (show Own G F H v (.sh (.int a)) [] from .sh r).intV, q.intV, ?_⟩
        have s1 := s.pure r1.nx
        obtain ⟨fp2, s2, sub⟩ := s1.put (Own.sh (Rep.int (a + b))) (by rw [List.append_nil]; exact s1.nd) (fun _ m => nomatch m) e0 rfl
        refine p _ F1 H1 ⟨fp2, ?_, s2⟩
        exact (r1.nx.wide0 fp).sub fun a m => by
          have := sub a m
          rwa [List.append_nil] at this
  · exact p.elim
theorem ds_aug (i : Nat) {x : Str} (hN : X.N.Nodup) (he : PE X e (tD G W m)) (hi : X.N[i]? = some x := by rfl) (hx : Loc X.env.scope x := by first | exact Or.inl rfl | exact Or.inr rfl)
    (hf : X.fn x = true ∨ X.env.scope.names.lookup x = some .local := by first | exact .inl rfl | exact .inr rfl) : PS X (.AugAssign (.Name x pos') .Add e pos) (tS G W (mAug i m)) :=
  (ps_aug hN hi hx he ip_add hf).imp fun _ _ _ h => tAug_D h

/-! ### methods of texts -/
def mS0 (f : List Nat → Option R) (ma : En → Res R) (en : En) : Res R := (ma en).bnd fun a => match a.o.str? with
  | some s => .of (f s)
  | none => .stuck
def mS1 (f : List Nat → O → Option R) (ma mb : En → Res R) (en : En) : Res R := (ma en).bnd fun a => match a.o.str? with
  | some s => (mb en).bnd fun b => .of (f s b.o)
  | none => .stuck
def SD0 (G : CC) (r : V → List V → Hp → VK → Prop) (f : List Nat → Option R) : Prop := ∀ F H s Q, Le F H → VPost G F H Q (f s) → r (.str (SX.S s)) [] H Q
def SD1 (G : CC) (r : V → List V → Hp → VK → Prop) (f : List Nat → O → Option R) : Prop := ∀ F H s y b g Q, Le F H → Own G F H y b g → VPost G F H Q (f s b) → r (.str (SX.S s)) [y] H Q
theorem tM0_D {r : V → List V → Hp → VK → Prop} {f : List Nat → Option R} (hd : SD0 G r f) {σ : St} {H : Hp} {Q : VK} (h : tD G W (mS0 f ma) σ H Q) : tM0 r (tD G W ma) σ H Q := by
  obtain ⟨F, B, L, en, fp, s, p⟩ := h
  refine ⟨F, B, L, en, fp, s, ?_⟩
  unfold mS0 at p
  cases ea : ma en with
  | stuck => rw [ea] at p; exact p.elim
  | exc x e => rw [ea] at p; exact p
  | ok a =>
    rw [ea] at p
    simp only [Res.bnd] at p
    intro x F1 H1 r1
    obtain ⟨g, q⟩ := r1.has
    cases e : a.o.str? with
    | none => simp only [e] at p; exact p.elim
    | some z =>
      simp only [e] at p
      rw [O.str?_eq e] at q
      rw [q.strV]
      refine ⟨⟨_, rfl⟩, hd F1 H1 z Q r1.nx.le ?_⟩
      cases e2 : f z with
      | none => rw [e2] at p; exact p.elim
      | some w => rw [e2] at p; exact fun v F3 H3 r3 => p v F3 H3 (r3.after r1.nx)
theorem tM1_D {r : V → List V → Hp → VK → Prop} {f : List Nat → O → Option R} (hd : SD1 G r f) {σ : St} {H : Hp} {Q : VK} (h : tD G W (mS1 f ma mb) σ H Q) : tM1 r (tD G W ma) (tD G W mb) σ H Q := by
  obtain ⟨F, B, L, en, fp, s, p⟩ := h
  refine ⟨F, B, L, en, fp, s, ?_⟩
  unfold mS1 at p
  cases ea : ma en with
  | stuck => rw [ea] at p; exact p.elim
  | exc x e => rw [ea] at p; exact p
  | ok a =>
    rw [ea] at p
    simp only [Res.bnd] at p
    intro x F1 H1 r1
    obtain ⟨g, q⟩ := r1.has
    cases e : a.o.str? with
    | none => simp only [e] at p; exact p.elim
    | some z =>
      simp only [e] at p
      rw [O.str?_eq e] at q
      rw [q.strV]
      refine ⟨⟨_, rfl⟩, F1, B, L, en, fp, s.pure r1.nx, ?_⟩
      cases eb : mb en with
      | stuck => rw [eb] at p; exact p.elim
      | exc x e => rw [eb] at p; exact EPost.after (r1.nx.wide0 fp) p
      | ok b =>
        rw [eb] at p
        simp only [Res.bnd] at p
        intro y F2 H2 r2
        obtain ⟨g2, q2⟩ := r2.has
        have n2 := r1.nx.trans r2.nx
        refine hd F2 H2 z y b.o g2 Q n2.le q2 ?_
        cases e2 : f z b.o with
        | none => rw [e2] at p; exact p.elim
        | some w => rw [e2] at p; exact fun v F3 H3 r3 => p v F3 H3 (r3.after n2)
/-- sep.join(texts) -/
def joinO (s : List Nat) (b : O) : Option R := match b.seq?.bind dstrs with
  | some ys => if (ys.map (·.length)).sum + ys.length * s.length ≤ ML then rSh (.str (TL.joinL s ys)) else none
  | none => none
theorem reps_strs {F : Hp} : ∀ {vs : List V} {ds : List D} {ys : List (List Nat)}, Reps G F vs ds → dstrs ds = some ys → vs = (ys.map SX.S).map V.str
  | [], _, ys, .nil, e => by cases e; rfl
  | v :: vs, d :: ds, ys, .cons h r, e => by
    cases d with
    | str s =>
      simp only [dstrs, Option.map_eq_some_iff] at e
      obtain ⟨zs, e, rfl⟩ := e
      cases h
      rw [reps_strs r e]
      rfl
    | _ => simp [dstrs] at e
theorem joinO_ok : SD1 G (fun x xs H Q => ∃ a p, ∃ ys : List Str, x = .str a ∧ xs = [.ref p] ∧ (SqL G.K H p (ys.map V.str) ∨ SqT G.K H p (ys.map V.str)) ∧ (ys.map (·.length)).sum + ys.length * a.length ≤ 16777216 ∧ Q (.str (Txt.join a ys)) H) joinO := by
  intro F H s y b g Q l q p
  unfold joinO at p
  split at p
  · rename_i ys e
    obtain ⟨ds, e1, e2⟩ := bind_some e
    split at p
    · rename_i hz
      obtain ⟨a, vs, rfl, h1, h2⟩ := q.seqOf l e1
      have ev := reps_strs h2 e2
      subst ev
      refine ⟨SX.S s, a, ys.map SX.S, rfl, rfl, h1, ?_, ?_⟩
      · rw [SX.lens, List.length_map, SX.S_len]
        exact hz
      · rw [SX.join_S]
        exact vp_sh l (.str _) p
    · exact p.elim
  · exact p.elim
theorem dp_join {apos pos : Pos} (ho : PE X o (tD G W ma)) (he : PE X e (tD G W mb)) (hK : G.K = X.K := by rfl) (hs : starEach [e] X.env = [(false, eval e X.env)] := by rfl) (hbase : attributeBase o "join" X.env (eval o X.env) = eval o X.env := by rfl) (hline : (apos.endLine == pos.line) = true := by rfl) :
    PE X (.Call (.Attribute o "join" apos) [e] [] pos) (tD G W (mS1 joinO ma mb)) := (pe_join ho he hs hbase hline).imp fun _ _ _ h => by
  have := tM1_D (joinO_ok (G := G)) h
  rw [hK] at this
  exact this
end

/-! ### min and max of a list -/
def minI : List Int → Int
  | [] => 0
  | [a] => a
  | a :: l => if a ≤ minI l then a else minI l
def maxI : List Int → Int
  | [] => 0
  | [a] => a
  | a :: l => if maxI l ≤ a then a else maxI l
theorem minI_ok : ∀ {l : List Int}, l ≠ [] → minI l ∈ l ∧ ∀ y ∈ l, minI l ≤ y
  | [a], _ => ⟨List.mem_singleton.mpr rfl, fun y m => by rw [List.mem_singleton.mp m]; exact Int.le_refl _⟩
  | a :: b :: l, _ => by
    obtain ⟨h1, h2⟩ := minI_ok (l := b :: l) (List.cons_ne_nil _ _)
    unfold minI
    split
    · rename_i h
      refine ⟨List.mem_cons_self .., fun y m => ?_⟩
      rcases List.mem_cons.mp m with e | m
      · exact e ▸ Int.le_refl _
      · exact Int.le_trans h (h2 y m)
    · rename_i h
      refine ⟨List.mem_cons_of_mem _ h1, fun y m => ?_⟩
      rcases List.mem_cons.mp m with e | m
      · subst e; omega
      · exact h2 y m
theorem maxI_ok : ∀ {l : List Int}, l ≠ [] → maxI l ∈ l ∧ ∀ y ∈ l, y ≤ maxI l
  | [a], _ => ⟨List.mem_singleton.mpr rfl, fun y m => by rw [List.mem_singleton.mp m]; exact Int.le_refl _⟩
  | a :: b :: l, _ => by
    obtain ⟨h1, h2⟩ := maxI_ok (l := b :: l) (List.cons_ne_nil _ _)
    unfold maxI
    split
    · rename_i h
      refine ⟨List.mem_cons_self .., fun y m => ?_⟩
      rcases List.mem_cons.mp m with e | m
      · exact e ▸ Int.le_refl _
      · exact Int.le_trans (h2 y m) h
    · rename_i h
      refine ⟨List.mem_cons_of_mem _ h1, fun y m => ?_⟩
      rcases List.mem_cons.mp m with e | m
      · subst e; omega
      · exact h2 y m
def minL (o : O) : Option R := match o.lst?.bind dints with
  | some ns => if ns = [] then none else rInt (minI ns)
  | none => none
def maxL (o : O) : Option R := match o.lst?.bind dints with
  | some ns => if ns = [] then none else rInt (maxI ns)
  | none => none
theorem minL_ok {G : CC} : CallD G (rMin G.K) (fn1 minL) := fn1_ok fun F H v o f Q l ha p => by
  unfold minL at p
  split at p
  · rename_i ns e2
    obtain ⟨ds, e, e2⟩ := bind_some e2
    split at p
    · exact p.elim
    · rename_i hn
      obtain ⟨a, vs, rfl, s, r⟩ := ha.lstOf l e
      refine ⟨a, ns, rfl, by rw [← r.dints e2]; exact s, List.length_pos_iff.mpr hn, fun m h1 h2 => ?_⟩
      obtain ⟨g1, g2⟩ := minI_ok hn
      have : m = minI ns := Int.le_antisymm (h2 _ g1) (g2 m h1)
      rw [this]
      exact vp_sh l (.int _) p
  · exact p.elim
theorem maxL_ok {G : CC} : CallD G (rMax G.K) (fn1 maxL) := fn1_ok fun F H v o f Q l ha p => by
  unfold maxL at p
  split at p
  · rename_i ns e2
    obtain ⟨ds, e, e2⟩ := bind_some e2
    split at p
    · exact p.elim
    · rename_i hn
      obtain ⟨a, vs, rfl, s, r⟩ := ha.lstOf l e
      refine ⟨a, ns, rfl, by rw [← r.dints e2]; exact s, List.length_pos_iff.mpr hn, fun m h1 h2 => ?_⟩
      obtain ⟨g1, g2⟩ := maxI_ok hn
      have : m = maxI ns := Int.le_antisymm (g2 m h1) (h2 _ g1)
      rw [this]
      exact vp_sh l (.int _) p
  · exact p.elim

/-! ### by simp -/
section
variable {en : En} {i : Nat} {m ma mb : En → Res R} {f0 : List Nat → Option R} {f1 : List Nat → O → Option R}
@[simp] theorem s_aug : mAug i m en = match en[i]? with
  | some (.own (.sh (.int a))) => .of (m en) fun r => (match r.o.int? with
    | some b => .nx (en.set i (.own (.sh (.int (a + b)))))
    | none => .stuck)
  | _ => .stuck := rfl
@[simp] theorem s_S0 : mS0 f0 ma en = (ma en).bnd fun a => match a.o.str? with
  | some s => .of (f0 s)
  | none => .stuck := rfl
@[simp] theorem s_S1 : mS1 f1 ma mb en = (ma en).bnd fun a => match a.o.str? with
  | some s => (mb en).bnd fun b => .of (f1 s b.o)
  | none => .stuck := rfl
theorem dstrs_map {α : Type} {q : α → List Nat} : ∀ l : List α, dstrs (l.map fun x => .str (q x)) = some (l.map q)
  | [] => rfl
  | a :: l => by simp only [List.map_cons, dstrs, dstrs_map l]; rfl
theorem dints_map {α : Type} {q : α → Int} : ∀ l : List α, dints (l.map fun x => .int (q x)) = some (l.map q)
  | [] => rfl
  | a :: l => by simp only [List.map_cons, dints, dints_map l]; rfl
theorem joinO_own {α : Type} {s : List Nat} {q : α → List Nat} {l : List α} (h : ((l.map q).map (·.length)).sum + l.length * s.length ≤ ML) : joinO s (.lst (l.map fun x => .sh (.str (q x)))) = some (.own (.sh (.str (TL.joinL s (l.map q))))) := by
  unfold joinO
  have e : O.seq? (.lst (l.map fun x => .sh (.str (q x)))) = some (l.map fun x => .str (q x)) := by
    unfold O.seq?
    have : O.lst? (.lst (l.map fun x => .sh (.str (q x)))) = some (l.map fun x => .str (q x)) := shs_mapf (q := fun x => D.str (q x)) l
    rw [this]
  rw [e]
  simp only [Option.bind_some, dstrs_map]
  rw [if_pos (by simpa using h)]
  rfl
theorem minL_own {α : Type} {q : α → Int} {l : List α} (h : l ≠ []) : minL (.lst (l.map fun x => .sh (.int (q x)))) = some (.own (.sh (.int (minI (l.map q))))) := by
  unfold minL
  have e : O.lst? (.lst (l.map fun x => .sh (.int (q x)))) = some (l.map fun x => .int (q x)) := shs_mapf (q := fun x => D.int (q x)) l
  rw [e]
  simp only [Option.bind_some, dints_map]
  rw [if_neg (by simpa using h)]
  rfl
@[simp] theorem s_jr1 : mJRng1 ma en = (ma en).bnd fun r => match r.o.int? with
  | some j => if okR j then .ok (rangeD 0 j.toNat) else .stuck
  | none => .stuck := rfl
@[simp] theorem s_r1 : mRng1 ma en = (ma en).bnd fun r => match r.o.int? with
  | some j => if okR j then .ok (rangeD 0 j.toNat, en) else .stuck
  | none => .stuck := rfl
@[simp] theorem s_r2 : mRng2 ma mb en = (ma en).bnd fun r => (mb en).bnd fun q => match r.o.int?, q.o.int? with
  | some i, some j => if okR i && okR j then .ok (rangeD i (j - i).toNat, en) else .stuck
  | _, _ => .stuck := rfl
@[simp] theorem s_while {fuel : En → Nat} {t : En → Res Bool} {dead : List Nat} {body : En → SR} : mWhile fuel t dead body en = whileL t body dead (fuel en) (wipeE en dead) := rfl
theorem s_wh1 {n : Nat} {t : En → Res Bool} {dead : List Nat} {body : En → SR} : whileL t body dead (n + 1) en = .of (t en) fun k => if k then (match body en with
      | .nx en' => whileL t body dead n (wipeE en' dead)
      | .ct en' => whileL t body dead n (wipeE en' dead)
      | .bk en' => .nx (wipeE en' dead)
      | r => r) else .nx en := rfl
theorem ixO_Li {l : List D} {i : Int} (h0 : 0 ≤ i) (h : i < l.length) : ixO (.sh (.lst l)) (.sh (.int i)) = some (.own (.sh (l.getD i.toNat .non))) := by
  obtain ⟨k, rfl⟩ : ∃ k : Nat, i = k := ⟨i.toNat, by omega⟩
  have hl : k < l.length := by omega
  rw [Int.toNat_natCast]
  exact ixO_L (by rw [List.getElem?_eq_getElem hl, List.getD_eq_getElem?_getD, List.getElem?_eq_getElem hl]; rfl)
theorem ixO_Ti {l : List D} {i : Int} (h0 : 0 ≤ i) (h : i < l.length) : ixO (.sh (.tup l)) (.sh (.int i)) = some (.own (.sh (l.getD i.toNat .non))) := by
  obtain ⟨k, rfl⟩ : ∃ k : Nat, i = k := ⟨i.toNat, by omega⟩
  have hl : k < l.length := by omega
  rw [Int.toNat_natCast]
  exact ixO_T (by rw [List.getElem?_eq_getElem hl, List.getD_eq_getElem?_getD, List.getElem?_eq_getElem hl]; rfl)
theorem ixO_Si {s : List Nat} {i : Int} (h0 : 0 ≤ i) (h : i < s.length) (hz : s.length ≤ ML) : ixO (.sh (.str s)) (.sh (.int i)) = some (.own (.sh (.str [s.getD i.toNat 0]))) := by
  obtain ⟨k, rfl⟩ : ∃ k : Nat, i = k := ⟨i.toNat, by omega⟩
  have hl : k < s.length := by omega
  rw [Int.toNat_natCast]
  exact ixO_S (by rw [List.getElem?_eq_getElem hl, List.getD_eq_getElem?_getD, List.getElem?_eq_getElem hl]; rfl) hz
/-- the last one -/
theorem ixO_last {l : List D} (h : l ≠ []) : ixO (.sh (.lst l)) (.sh (.int (-1))) = some (.own (.sh (l.getLast h))) := by
  have hp : 0 < l.length := List.length_pos_iff.mpr h
  have e : L2.atI (l.map O.sh) (-1) = some (.sh (l.getLast h)) := by
    unfold L2.atI L2.ixN
    rw [if_neg (by omega), List.length_map, if_pos (by omega)]
    have : ((-1 : Int) + (l.length : Int)).toNat = l.length - 1 := by omega
    simp only [Option.bind_some, this, List.getElem?_map]
    rw [List.getLast_eq_getElem]
    rw [List.getElem?_eq_getElem (by omega)]
    rfl
  unfold ixO orR ixQ
  simp only [O.items, O.int?]
  rw [e]
  rfl
theorem rev_L {l : List D} : revO (.sh (.lst l)) = some (.own (.lst (l.reverse.map .sh))) := rfl
theorem list_L {l : List D} : listO (.sh (.lst l)) = some (.own (.lst (l.map .sh))) := rfl
theorem list_T {l : List D} : listO (.sh (.tup l)) = some (.own (.lst (l.map .sh))) := rfl
theorem tuple_L {l : List D} : tupleO (.sh (.lst l)) = some (.own (.sh (.tup l))) := rfl
/-- a loop by an invariant -/
theorem forL_inv {g : O → En → Option En} {body : En → SR} {dead : List Nat} (P : Nat → En → Prop) : ∀ {ds : List D} {en : En} (k : Nat), (∀ i en d, P (k + i) en → ds[i]? = some d → ∃ en1 en', g (.sh d) en = some en1 ∧ body en1 = .nx en' ∧ P (k + i + 1) (wipeE en' dead)) → P k en → ∃ en', forL g body dead ds en = .nx en' ∧ P (k + ds.length) en'
  | [], en, k, _, h => ⟨en, rfl, h⟩
  | d :: ds, en, k, hs, h => by
    obtain ⟨en1, en', h1, h2, h3⟩ := hs 0 en d h rfl
    obtain ⟨en2, h4, h5⟩ := forL_inv P (ds := ds) (en := wipeE en' dead) (k + 1) (fun i en d p e => by
      have := hs (i + 1) en d (by rw [show k + (i + 1) = k + 1 + i by omega]; exact p) (by simpa using e)
      rwa [show k + (i + 1) + 1 = k + 1 + i + 1 by omega] at this) h3
    refine ⟨en2, ?_, by rw [List.length_cons, show k + (ds.length + 1) = k + 1 + ds.length by omega]; exact h5⟩
    rw [s_for1, h1]
    simp only [h2]
    exact h4
theorem joinL_nil {α : Type} {q : α → Nat} : ∀ l : List α, TL.joinL [] (l.map fun x => [q x]) = l.map q
  | [] => rfl
  | [a] => rfl
  | a :: b :: l => by
    have := joinL_nil (q := q) (b :: l)
    simp only [List.map_cons] at this ⊢
    show [q a] ++ ([] ++ TL.joinL [] ([q b] :: l.map fun x => [q x])) = _
    rw [List.nil_append, this]
    rfl
/-- a text of single signs -/
theorem joinO_signs {α : Type} {q : α → Nat} {l : List α} (h : l.length ≤ ML) : joinO [] (.lst (l.map fun x => .sh (.str [q x]))) = some (.own (.sh (.str (l.map q)))) := by
  rw [joinO_own (q := fun x => [q x]), joinL_nil]
  have e : ((l.map fun x => [q x]).map (·.length)).sum = l.length := by
    rw [List.map_map]
    have : ((fun x : List Nat => x.length) ∘ fun x => [q x]) = fun _ : α => 1 := rfl
    rw [this]
    induction l with
    | nil => rfl
    | cons a l ih => simp only [List.map_cons, List.sum_cons, List.length_cons]; rw [ih (by simp at h; omega)]; omega
  rw [e]
  simpa using h
theorem e_minN {m n : Nat} : minO (.sh (.int (m : Int))) (.sh (.int (n : Int))) = some (.own (.sh (.int ((min m n : Nat) : Int)))) := by
  have : (if (n : Int) < m then (n : Int) else m) = ((min m n : Nat) : Int) := by split <;> omega
  rw [e_min, this]
theorem e_maxN {m n : Nat} : maxO (.sh (.int (m : Int))) (.sh (.int (n : Int))) = some (.own (.sh (.int ((max m n : Nat) : Int)))) := by
  have : (if (n : Int) > m then (n : Int) else m) = ((max m n : Nat) : Int) := by split <;> omega
  rw [e_max, this]
mutual
theorem deq_refl : ∀ (n : Nat) (a : D), pl n a = true → deq a a = true
  | _, .non, _ => rfl
  | _, .bl b, _ => by simp [deq]
  | _, .int b, _ => by simp [deq]
  | _, .str b, _ => by simp [deq]
  | n + 1, .tup l, h => by
    simp only [deq]
    exact deqs_refl n l (by simpa [pl] using h)
  | n + 1, .lst l, h => by
    simp only [deq]
    exact deqs_refl n l (by simpa [pl] using h)
  | 0, .tup l, h => by cases h
  | 0, .lst l, h => by cases h
  | 0, .dct l, h => by cases h
  | 0, .ins _ l, h => by cases h
  | 0, .exc _ l, h => by cases h
  | 0, .fn _, h => by cases h
  | n + 1, .dct l, h => by cases h
  | n + 1, .ins _ l, h => by cases h
  | n + 1, .exc _ l, h => by cases h
  | n + 1, .fn _, h => by cases h
theorem deqs_refl : ∀ (n : Nat) (l : List D), (∀ d ∈ l, pl n d = true) → deqs l l = true
  | _, [], _ => by simp [deqs]
  | n, a :: l, h => by
    simp only [deqs, deq_refl n a (h a (List.mem_cons_self ..)), deqs_refl n l (fun d m => h d (List.mem_cons_of_mem _ m)), Bool.and_self]
end
theorem eqO_pl {a b : D} (ha : pl 60 a = true) (hb : pl 60 b = true) : eqO (.sh a) (.sh b) = some (.own (.sh (.bl (deq a b)))) := by
  unfold eqO orR eqSc eqDp
  simp only [O.sh?, O.fz, ha, hb]
  cases scD a b <;> simp
theorem neO_pl {a b : D} (ha : pl 60 a = true) (hb : pl 60 b = true) : neO (.sh a) (.sh b) = some (.own (.sh (.bl (!deq a b)))) := by
  unfold neO orR eqSc eqDp
  simp only [O.sh?, O.fz, ha, hb]
  cases scD a b <;> simp
end
end DL

set_option maxHeartbeats 4000000
namespace DL
open PySem PySem.Spec L2
open PyProof.Rows hiding St
namespace k12
def top (i : Nat) : Stmt := PySem.Challenge.pw_letterwend_k12_beginnings.main.body.getD i (.Pass ⟨0, 0, 0, 0⟩)
structure Txt (K : PySem.W.Frag) (mg : Str → Option Value) (G : CC) : Prop where
  kk : G.K = K
  b_all : mg "all" = none
  b_len : mg "len" = none
  b_list : mg "list" = none
  b_min : mg "min" = none
  b_range : mg "range" = none
  b_tuple : mg "tuple" = none

abbrev s_law_draws : Stmt := top 6
abbrev N_law_draws : List Str := ["_law_number", "_law_sizes", "_law_found", "_law_size"]
theorem sc_law_draws : FnScope N_law_draws ["_law_number", "_law_sizes"] (defScope s_law_draws) := ⟨rfl, rfl, rfl, by decide +kernel, rfl, by decide +kernel, by decide +kernel⟩
def m_law_draws : List O → FR := fnD 2
    (mSeq (mSet 2 (mLift (mLst (mNil))))
    (mSeq (mFor (mItN 1) (gNm 3) [3] (mSeq (mApp 2 (mLift (mOp modO (mName 0) (mName 3))))
    (mSetF 0 (mLift (mOp fdivO (mName 0) (mName 3))))))
    (mRet (mShare 2))))
abbrev s_law_mix : Stmt := top 7
abbrev N_law_mix : List Str := ["_law_number", "_law_k", "_law_mixed"]
theorem sc_law_mix : FnScope N_law_mix ["_law_number", "_law_k"] (defScope s_law_mix) := ⟨rfl, rfl, rfl, by decide +kernel, rfl, by decide +kernel, by decide +kernel⟩
def m_law_mix : List O → FR := fnD 1
    (mSeq (mSetF 2 (mLift (mOp modO (mOp addO (mOp addO (mOp mulO (mName 0) (mC (.int (48271)))) (mOp mulO (mName 1) (mC (.int (104729))))) (mC (.int (11)))) (mC (.int (2147483647))))))
    (mRet (mLift (mOp modO (mOp addO (mOp addO (mOp mulO (mName 2) (mName 2)) (mOp mulO (mC (.int (48271))) (mName 2))) (mName 1)) (mC (.int (2147483629)))))))
abbrev s_law_tail : Stmt := top 8
abbrev N_law_tail : List Str := ["_law_cell", "_law_k"]
theorem sc_law_tail : FnScope N_law_tail ["_law_cell"] (defScope s_law_tail) := ⟨rfl, rfl, rfl, by decide +kernel, rfl, by decide +kernel, by decide +kernel⟩
def m_law_tail : List O → FR := fnD 1
    (mRet (mLift (mS1 joinO (mC (.str [])) (mLc (mJRng1 (mOp modO (mOp fdivO (mName 0) (mC (.int (2)))) (mC (.int (10))))) [1] (gNm 1) (mYes) (mOp ixO (mC (.str [97, 98, 99, 100, 101, 102])) (mOp modO (mFn 2 m_law_mix [] (mCons (mName 0) (mCons (mOp addO (mC (.int (20))) (mName 1)) (mNil)))) (mOp ixO (mFzV (mLst (mCons (mC (.int (2))) (mCons (mC (.int (6))) (mNil))))) (mOp modO (mName 0) (mC (.int (2)))))))))))
abbrev s_law_some : Stmt := top 9
abbrev N_law_some : List Str := ["_law_cell", "_law_many", "_law_size", "_law_times", "_law_cut", "_law_stem", "_law_found", "_law_k", "_law_word"]
theorem sc_law_some : FnScope N_law_some ["_law_cell"] (defScope s_law_some) := ⟨rfl, rfl, rfl, by decide +kernel, rfl, by decide +kernel, by decide +kernel⟩
def m_law_some : List O → FR := fnD 8
    (mSeq (mAsg (gTp 4 (gCn (gNm 1) (gCn (gNm 2) (gCn (gNm 3) (gCn (gNm 4) (gNl)))))) (mLift (mFzV (mFn 2 m_law_draws [] (mCons (mFn 2 m_law_mix [] (mCons (mName 0) (mCons (mC (.int (1))) (mNil)))) (mCons (mFzV (mLst (mCons (mC (.int (5))) (mCons (mC (.int (7))) (mCons (mC (.int (60))) (mCons (mC (.int (9))) (mNil))))))) (mNil)))))))
    (mSeq (mSetF 5 (mLift (mOp mulO (mS1 joinO (mC (.str [])) (mLc (mJRng1 (mName 2)) [7] (gNm 7) (mYes) (mOp ixO (mC (.str [97, 98, 99, 100, 101, 102])) (mOp modO (mFn 2 m_law_mix [] (mCons (mName 0) (mCons (mOp addO (mC (.int (3))) (mName 7)) (mNil)))) (mC (.int (6))))))) (mOp ixO (mFzV (mLst (mCons (mC (.int (1))) (mCons (mC (.int (1))) (mCons (mName 3) (mNil)))))) (mOp modO (mName 0) (mC (.int (3))))))))
    (mSeq (mSet 6 (mLift (mLst (mNil))))
    (mSeq (mFor (mRng1 (mOp addO (mC (.int (1))) (mName 1))) (gNm 7) [7, 8] (mSeq (mSetF 8 (mLift (mOp addO (mName 5) (mFn 1 m_law_tail [] (mCons (mFn 2 m_law_mix [] (mCons (mName 0) (mCons (mOp addO (mC (.int (40))) (mName 7)) (mNil)))) (mNil))))))
    (mSeq (mIfS (mTst (mOp eqO (mName 4) (mName 7))) (mSetF 8 (mLift (mSl slO (mName 5) (mPart none) (mPart (some (mOp modO (mFn 2 m_law_mix [] (mCons (mName 0) (mCons (mC (.int (60))) (mNil)))) (mOp addO (mCall (fn1 lenQ) (mCons (mName 5) (mNil))) (mC (.int (1)))))))))) (mNx))
    (mApp 6 (mLift (mName 8))))))
    (mRet (mShare 6))))))
abbrev s_law_same : Stmt := top 10
abbrev N_law_same : List Str := ["_law_one", "_law_other", "_law_many", "_law_k"]
theorem sc_law_same : FnScope N_law_same ["_law_one", "_law_other"] (defScope s_law_same) := ⟨rfl, rfl, rfl, by decide +kernel, rfl, by decide +kernel, by decide +kernel⟩
def m_law_same : List O → FR := fnD 2
    (mSeq (mSetF 2 (mLift (mC (.int (0)))))
    (mSeq (mFor (mRng1 (mCall (fn2 minO) (mCons (mCall (fn1 lenQ) (mCons (mName 0) (mNil))) (mCons (mCall (fn1 lenQ) (mCons (mName 1) (mNil))) (mNil))))) (gNm 3) [3] (mSeq (mIfS (mTst (mOp neO (mOp ixO (mName 0) (mName 3)) (mOp ixO (mName 1) (mName 3)))) (mRet (mShare 2)) (mNx))
    (mSetF 2 (mLift (mOp addO (mName 2) (mC (.int (1))))))))
    (mRet (mShare 2))))
abbrev s_common_of_two : Stmt := top 1
abbrev N_common_of_two : List Str := ["one", "other", "many"]
theorem sc_common_of_two : FnScope N_common_of_two ["one", "other"] (defScope s_common_of_two) := ⟨rfl, rfl, rfl, by decide +kernel, rfl, by decide +kernel, by decide +kernel⟩
def m_common_of_two : List O → FR := fnD 1
    (mSeq (mSetF 2 (mLift (mC (.int (0)))))
    (mSeq (mWhile (fun _ => 1000000000) (mAnd (mTst (mOp ltO (mName 2) (mCall (fn1 lenQ) (mCons (mName 0) (mNil))))) (mAnd (mTst (mOp ltO (mName 2) (mCall (fn1 lenQ) (mCons (mName 1) (mNil))))) (mTst (mOp eqO (mOp ixO (mName 0) (mName 2)) (mOp ixO (mName 1) (mName 2)))))) [] (mAug 2 (mC (.int (1)))))
    (mRet (mLift (mFzV (mSl slO (mName 0) (mPart none) (mPart (some (mName 2)))))))))
abbrev s_common : Stmt := top 2
abbrev N_common : List Str := ["words", "found", "word"]
theorem sc_common : FnScope N_common ["words"] (defScope s_common) := ⟨rfl, rfl, rfl, by decide +kernel, rfl, by decide +kernel, by decide +kernel⟩
def m_common : List O → FR := fnD 2
    (mSeq (mSetF 1 (mLift (mOp ixO (mName 0) (mC (.int (0))))))
    (mSeq (mFor (mItN 0) (gNm 2) [2] (mSetF 1 (mLift (mFn 2 m_common_of_two [] (mCons (mName 1) (mCons (mName 2) (mNil)))))))
    (mRet (mShare 1))))
abbrev s_left : Stmt := top 3
abbrev N_left : List Str := ["one", "other", "many"]
theorem sc_left : FnScope N_left ["one", "other"] (defScope s_left) := ⟨rfl, rfl, rfl, by decide +kernel, rfl, by decide +kernel, by decide +kernel⟩
def m_left : List O → FR := fnD 1
    (mSeq (mSetF 2 (mLift (mCall (fn1 lenQ) (mCons (mFn 2 m_common_of_two [] (mCons (mName 0) (mCons (mName 1) (mNil)))) (mNil)))))
    (mRet (mLift (mFzV (mTup (mCons (mFzV (mSl slO (mName 0) (mPart (some (mName 2))) (mPart none))) (mCons (mFzV (mSl slO (mName 1) (mPart (some (mName 2))) (mPart none))) (mNil))))))))
abbrev s_apart : Stmt := top 4
abbrev N_apart : List Str := ["one", "other", "rests"]
theorem sc_apart : FnScope N_apart ["one", "other"] (defScope s_apart) := ⟨rfl, rfl, rfl, by decide +kernel, rfl, by decide +kernel, by decide +kernel⟩
def m_apart : List O → FR := fnD 1
    (mSeq (mSetF 2 (mLift (mFn 2 m_left [] (mCons (mName 0) (mCons (mName 1) (mNil))))))
    (mRet (mLift (mFzV (mOp addO (mCall (fn1 lenQ) (mCons (mOp ixO (mName 2) (mC (.int (0)))) (mNil))) (mCall (fn1 lenQ) (mCons (mOp ixO (mName 2) (mC (.int (1)))) (mNil))))))))
abbrev s_law_right : Stmt := top 11
abbrev N_law_right : List Str := ["_law_cell", "_law_words", "_law_many", "_law_handed", "_law_one", "_law_other", "_law_alike", "_law_due", "_law_word"]
theorem sc_law_right : FnScope N_law_right ["_law_cell"] (defScope s_law_right) := ⟨rfl, rfl, rfl, by decide +kernel, rfl, by decide +kernel, by decide +kernel⟩
def m_law_right : List O → FR := fnD 8
    (mSeq (mSetF 1 (mLift (mFn 1 m_law_some [] (mCons (mName 0) (mNil)))))
    (mSeq (mSetF 2 (mLift (mCall (fn1 minL) (mCons (mLc (mJ (mName 1)) [8] (gNm 8) (mYes) (mFn 2 m_law_same [] (mCons (mOp ixO (mName 1) (mC (.int (0)))) (mCons (mName 8) (mNil))))) (mNil)))))
    (mSeq (mSetF 3 (mLift (mCall (fn1 listO) (mCons (mName 1) (mNil)))))
    (mSeq (mIfS (mOr (mTst (mOp neO (mFn 1 m_common [] (mCons (mName 3) (mNil))) (mSl slO (mOp ixO (mName 1) (mC (.int (0)))) (mPart none) (mPart (some (mName 2)))))) (mOr (mTst (mOp neO (mFn 1 m_common [] (mCons (mFzV (mUn revO (mName 3))) (mNil))) (mSl slO (mOp ixO (mName 1) (mC (.int (0)))) (mPart none) (mPart (some (mName 2)))))) (mTst (mOp neO (mName 3) (mName 1))))) (mRet (mLift (mC (.bl false)))) (mNx))
    (mSeq (mIfS (mTst (mOp neO (mFn 1 m_common [] (mCons (mCall (fn1 tupleO) (mCons (mName 1) (mNil))) (mNil))) (mSl slO (mOp ixO (mName 1) (mC (.int (0)))) (mPart none) (mPart (some (mName 2)))))) (mRet (mLift (mC (.bl false)))) (mNx))
    (mSeq (mSetF 4 (mLift (mOp ixO (mName 1) (mC (.int (0))))))
    (mSeq (mSetF 5 (mLift (mOp ixO (mName 1) (mUn negO (mC (.int (1)))))))
    (mSeq (mSetF 6 (mLift (mFn 2 m_law_same [] (mCons (mName 4) (mCons (mName 5) (mNil))))))
    (mSeq (mIfS (mOr (mTst (mOp neO (mFn 2 m_left [] (mCons (mName 4) (mCons (mName 5) (mNil)))) (mTup (mCons (mFzV (mSl slO (mName 4) (mPart (some (mName 6))) (mPart none))) (mCons (mFzV (mSl slO (mName 5) (mPart (some (mName 6))) (mPart none))) (mNil)))))) (mTst (mOp neO (mFn 2 m_left [] (mCons (mName 5) (mCons (mName 4) (mNil)))) (mTup (mCons (mFzV (mSl slO (mName 5) (mPart (some (mName 6))) (mPart none))) (mCons (mFzV (mSl slO (mName 4) (mPart (some (mName 6))) (mPart none))) (mNil))))))) (mRet (mLift (mC (.bl false)))) (mNx))
    (mSeq (mSetF 7 (mLift (mOp subO (mOp addO (mCall (fn1 lenQ) (mCons (mName 4) (mNil))) (mCall (fn1 lenQ) (mCons (mName 5) (mNil)))) (mOp mulO (mC (.int (2))) (mName 6)))))
    (mRet (mLift (mAndV (mOp eqO (mFn 2 m_apart [] (mCons (mName 4) (mCons (mName 5) (mNil)))) (mName 7)) (mAndV (mOp eqO (mFn 2 m_apart [] (mCons (mName 5) (mCons (mName 4) (mNil)))) (mName 7)) (mOp eqO (mFn 2 m_apart [] (mCons (mName 4) (mCons (mName 4) (mNil)))) (mC (.int (0))))))))))))))))))
abbrev s_law : Stmt := top 12
abbrev N_law : List Str := ["_law_script", "_law_cell"]
theorem sc_law : FnScope N_law ["_law_script"] (defScope s_law) := ⟨rfl, rfl, rfl, by decide +kernel, rfl, by decide +kernel, by decide +kernel⟩
def m_law : List O → FR := fnD 1
    (mRet (mLift (mCall (fn1 allO) (mCons (mLc (mJ (mOp addO (mName 0) (mLst (mCons (mC (.int (0))) (mCons (mC (.int (5))) (mNil)))))) [1] (gNm 1) (mYes) (mFn 1 m_law_right [] (mCons (mName 1) (mNil)))) (mNil)))))
section
variable {P : Program} {w : World} {K : PySem.W.Frag} {mg : Str → Option Value} {base : Heap} {cls : Nat → Addr} {nms : Nat → List Str}
theorem ok_law_draws {f : Addr} {fd : FuncData} (T : Txt K mg ⟨K, cls, nms⟩) (F : FunD K "_law_draws" "_law_draws" (defArgs s_law_draws) (defBody s_law_draws) (defScope s_law_draws) [] [] f fd) : FnOk P w K mg base (L2.CX P w) 1 f fd ["_law_number", "_law_sizes"] (spP ⟨K, cls, nms⟩ 2 m_law_draws) :=
  fn_okD F sc_law_draws fun cdv A outer s H E hr tk => dss_cons (ds_set 2 (dx_of (dp_lst (da_nil))) sc_law_draws.nd)
    (dss_cons (ds_for [3] (passes_of rfl) (di_name 1) (dg_name 3 sc_law_draws.nd) (dss_cons (ds_app 2 (dx_of (dp_op op_mod modO_ok (dp_name 0) (dp_name 3))))
    (dss_one (ds_f (ds_set 0 (dx_of (dp_op op_fdivW fdivO_ok (dp_name 0) (dp_name 3))) sc_law_draws.nd)))))
    (dss_one (ds_ret (dx_share 2))))
theorem ok_law_mix {f : Addr} {fd : FuncData} (T : Txt K mg ⟨K, cls, nms⟩) (F : FunD K "_law_mix" "_law_mix" (defArgs s_law_mix) (defBody s_law_mix) (defScope s_law_mix) [] [] f fd) : FnOk P w K mg base (L2.CX P w) 1 f fd ["_law_number", "_law_k"] (spP ⟨K, cls, nms⟩ 2 m_law_mix) :=
  fn_okD F sc_law_mix fun cdv A outer s H E hr tk => dss_cons (ds_f (ds_set 2 (dx_of (dp_op op_mod modO_ok (dp_op op_addO addO_ok (dp_op op_addO addO_ok (dp_op op_mulO mulO_ok (dp_name 0) (dp_int)) (dp_op op_mulO mulO_ok (dp_name 1) (dp_int))) (dp_int)) (dp_int))) sc_law_mix.nd))
    (dss_one (ds_ret (dx_of (dp_op op_mod modO_ok (dp_op op_addO addO_ok (dp_op op_addO addO_ok (dp_op op_mulO mulO_ok (dp_name 2) (dp_name 2)) (dp_op op_mulO mulO_ok (dp_int) (dp_name 2))) (dp_name 1)) (dp_int)))))
theorem ok_law_tail {f : Addr} {fd : FuncData} (T : Txt K mg ⟨K, cls, nms⟩) (F : FunD K "_law_tail" "_law_tail" (defArgs s_law_tail) (defBody s_law_tail) (defScope s_law_tail) [] [] f fd) (c_law_mix : Fnc P w K mg base ⟨K, cls, nms⟩ 1 "_law_mix" 2 m_law_mix []) : FnOk P w K mg base (L2.CX P w) 2 f fd ["_law_cell"] (spP ⟨K, cls, nms⟩ 1 m_law_tail) :=
  fn_okD F sc_law_tail fun cdv A outer s H E hr tk => dss_one (ds_ret (dx_of (dp_join (dp_str []) (dp_lc (own := [("_law_k", 1)]) sc_law_tail.nd (dj_range1 T.b_range (dp_op op_mod modO_ok (dp_op op_fdivW fdivO_ok (dp_name 0) (dp_int)) (dp_int))) (blkOk_by (own := [("_law_k", 1)]) (N := N_law_tail) (sc := defScope s_law_tail) (by decide +kernel)) (fun _ _ _ _ _ => dg_name 1 sc_law_tail.nd) (fun _ _ _ _ _ => dts_nil) (fun _ _ _ _ _ => dp_ix ix_O ixO_ok (dp_str [97, 98, 99, 100, 101, 102]) (dp_op op_mod modO_ok (dp_fn c_law_mix hr (takes0) (da_cons (dp_name 0) (da_cons (dp_op op_addO addO_ok (dp_int) (dp_name 1)) (da_nil)))) (dp_ix ix_O ixO_ok (dp_fz (dp_lst (da_cons (dp_int) (da_cons (dp_int) (da_nil))))) (dp_op op_mod modO_ok (dp_name 0) (dp_int)))))))))
theorem ok_law_some {f : Addr} {fd : FuncData} (T : Txt K mg ⟨K, cls, nms⟩) (F : FunD K "_law_some" "_law_some" (defArgs s_law_some) (defBody s_law_some) (defScope s_law_some) [] [] f fd) (c_law_mix : Fnc P w K mg base ⟨K, cls, nms⟩ 1 "_law_mix" 2 m_law_mix []) (c_law_draws : Fnc P w K mg base ⟨K, cls, nms⟩ 1 "_law_draws" 2 m_law_draws []) (c_law_tail : Fnc P w K mg base ⟨K, cls, nms⟩ 2 "_law_tail" 1 m_law_tail []) : FnOk P w K mg base (L2.CX P w) 3 f fd ["_law_cell"] (spP ⟨K, cls, nms⟩ 1 m_law_some) :=
  fn_okD F sc_law_some fun cdv A outer s H E hr tk => dss_cons (ds_asg (dx_of (dp_fz (dp_fn c_law_draws hr (tk) (da_cons (dp_fn c_law_mix hr (tk) (da_cons (dp_name 0) (da_cons (dp_int) (da_nil)))) (da_cons (dp_fz (dp_lst (da_cons (dp_int) (da_cons (dp_int) (da_cons (dp_int) (da_cons (dp_int) (da_nil))))))) (da_nil)))))) (dg_tup rfl (dgs_cons (dg_name 1 sc_law_some.nd) (dgs_cons (dg_name 2 sc_law_some.nd) (dgs_cons (dg_name 3 sc_law_some.nd) (dgs_cons (dg_name 4 sc_law_some.nd) (dgs_nil)))))))
    (dss_cons (ds_f (ds_set 5 (dx_of (dp_op op_mulO mulO_ok (dp_join (dp_str []) (dp_lc (own := [("_law_k", 7)]) sc_law_some.nd (dj_range1 T.b_range (dp_name 2)) (blkOk_by (own := [("_law_k", 7)]) (N := N_law_some) (sc := defScope s_law_some) (by decide +kernel)) (fun _ _ _ _ _ => dg_name 7 sc_law_some.nd) (fun _ _ _ _ _ => dts_nil) (fun _ _ _ _ _ => dp_ix ix_O ixO_ok (dp_str [97, 98, 99, 100, 101, 102]) (dp_op op_mod modO_ok (dp_fn c_law_mix hr (takes0) (da_cons (dp_name 0) (da_cons (dp_op op_addO addO_ok (dp_int) (dp_name 7)) (da_nil)))) (dp_int))))) (dp_ix ix_O ixO_ok (dp_fz (dp_lst (da_cons (dp_int) (da_cons (dp_int) (da_cons (dp_name 3) (da_nil)))))) (dp_op op_mod modO_ok (dp_name 0) (dp_int))))) sc_law_some.nd))
    (dss_cons (ds_set 6 (dx_of (dp_lst (da_nil))) sc_law_some.nd)
    (dss_cons (ds_for [7, 8] (passes_of rfl) (di_range1 T.b_range (dp_op op_addO addO_ok (dp_int) (dp_name 1))) (dg_name 7 sc_law_some.nd) (dss_cons (ds_f (ds_set 8 (dx_of (dp_op op_addO addO_ok (dp_name 5) (dp_fn c_law_tail hr (tk) (da_cons (dp_fn c_law_mix hr (tk) (da_cons (dp_name 0) (da_cons (dp_op op_addO addO_ok (dp_int) (dp_name 7)) (da_nil)))) (da_nil))))) sc_law_some.nd))
    (dss_cons (ds_if (dt_cmp (op_eqO hr) eqO_ok (dp_name 4) (dp_name 7) (nomark _)) (dss_one (ds_f (ds_set 8 (dx_of (dp_sl sl_O slO_ok (dp_name 5) (dp_pNone) (dp_pSome (dp_op op_mod modO_ok (dp_fn c_law_mix hr (tk) (da_cons (dp_name 0) (da_cons (dp_int) (da_nil)))) (dp_op op_addO addO_ok (dp_callB call_len lenQ_ok T.b_len (by decide +kernel) (da_cons (dp_name 5) (da_nil))) (dp_int)))))) sc_law_some.nd))) (dss_nil))
    (dss_one (ds_app 6 (dx_of (dp_name 8)))))))
    (dss_one (ds_ret (dx_share 6))))))
theorem ok_law_same {f : Addr} {fd : FuncData} (T : Txt K mg ⟨K, cls, nms⟩) (F : FunD K "_law_same" "_law_same" (defArgs s_law_same) (defBody s_law_same) (defScope s_law_same) [] [] f fd) : FnOk P w K mg base (L2.CX P w) 1 f fd ["_law_one", "_law_other"] (spP ⟨K, cls, nms⟩ 2 m_law_same) :=
  fn_okD F sc_law_same fun cdv A outer s H E hr tk => dss_cons (ds_f (ds_set 2 (dx_of (dp_int)) sc_law_same.nd))
    (dss_cons (ds_for [3] (passes_of rfl) (di_range1 T.b_range (dp_callB (call_min2 rfl) minO_ok T.b_min (by decide +kernel) (da_cons (dp_callB call_len lenQ_ok T.b_len (by decide +kernel) (da_cons (dp_name 0) (da_nil))) (da_cons (dp_callB call_len lenQ_ok T.b_len (by decide +kernel) (da_cons (dp_name 1) (da_nil))) (da_nil))))) (dg_name 3 sc_law_same.nd) (dss_cons (ds_if (dt_cmp (op_neO hr) neO_ok (dp_ix ix_O ixO_ok (dp_name 0) (dp_name 3)) (dp_ix ix_O ixO_ok (dp_name 1) (dp_name 3)) (nomark _)) (dss_one (ds_ret (dx_share 2))) (dss_nil))
    (dss_one (ds_f (ds_set 2 (dx_of (dp_op op_addO addO_ok (dp_name 2) (dp_int))) sc_law_same.nd)))))
    (dss_one (ds_ret (dx_share 2))))
theorem ok_common_of_two {f : Addr} {fd : FuncData} (T : Txt K mg ⟨K, cls, nms⟩) (F : FunD K "common_of_two" "common_of_two" (defArgs s_common_of_two) (defBody s_common_of_two) (defScope s_common_of_two) [] [] f fd) : FnOk P w K mg base (L2.CX P w) 1 f fd ["one", "other"] (spP ⟨K, cls, nms⟩ 2 m_common_of_two) :=
  fn_okD F sc_common_of_two fun cdv A outer s H E hr tk => dss_cons (ds_f (ds_set 2 (dx_of (dp_int)) sc_common_of_two.nd))
    (dss_cons (ds_while _ [] (passes_of rfl) (PW.pt (dt_and (dt_cmp op_ltO ltO_ok (dp_name 2) (dp_callB call_len lenQ_ok T.b_len (by decide +kernel) (da_cons (dp_name 0) (da_nil))) (nomark _)) (dt_and (dt_cmp op_ltO ltO_ok (dp_name 2) (dp_callB call_len lenQ_ok T.b_len (by decide +kernel) (da_cons (dp_name 1) (da_nil))) (nomark _)) (pw_and1 (dt_cmp (op_eqO hr) eqO_ok (dp_ix ix_O ixO_ok (dp_name 0) (dp_name 2)) (dp_ix ix_O ixO_ok (dp_name 1) (dp_name 2)) (nomark _)))))) (dss_one (ds_aug 2 sc_common_of_two.nd (dp_int))))
    (dss_one (ds_ret (dx_of (dp_fz (dp_sl sl_O slO_ok (dp_name 0) (dp_pNone) (dp_pSome (dp_name 2))))))))
theorem ok_common {f : Addr} {fd : FuncData} (T : Txt K mg ⟨K, cls, nms⟩) (F : FunD K "common" "common" (defArgs s_common) (defBody s_common) (defScope s_common) [] [] f fd) (c_common_of_two : Fnc P w K mg base ⟨K, cls, nms⟩ 1 "common_of_two" 2 m_common_of_two []) : FnOk P w K mg base (L2.CX P w) 2 f fd ["words"] (spP ⟨K, cls, nms⟩ 1 m_common) :=
  fn_okD F sc_common fun cdv A outer s H E hr tk => dss_cons (ds_f (ds_set 1 (dx_of (dp_ix ix_O ixO_ok (dp_name 0) (dp_int))) sc_common.nd))
    (dss_cons (ds_for [2] (passes_of rfl) (di_name 0) (dg_name 2 sc_common.nd) (dss_one (ds_f (ds_set 1 (dx_of (dp_fn c_common_of_two hr (tk) (da_cons (dp_name 1) (da_cons (dp_name 2) (da_nil))))) sc_common.nd))))
    (dss_one (ds_ret (dx_share 1))))
theorem ok_left {f : Addr} {fd : FuncData} (T : Txt K mg ⟨K, cls, nms⟩) (F : FunD K "left" "left" (defArgs s_left) (defBody s_left) (defScope s_left) [] [] f fd) (c_common_of_two : Fnc P w K mg base ⟨K, cls, nms⟩ 1 "common_of_two" 2 m_common_of_two []) : FnOk P w K mg base (L2.CX P w) 2 f fd ["one", "other"] (spP ⟨K, cls, nms⟩ 2 m_left) :=
  fn_okD F sc_left fun cdv A outer s H E hr tk => dss_cons (ds_f (ds_set 2 (dx_of (dp_callB call_len lenQ_ok T.b_len (by decide +kernel) (da_cons (dp_fn c_common_of_two hr (tk) (da_cons (dp_name 0) (da_cons (dp_name 1) (da_nil)))) (da_nil)))) sc_left.nd))
    (dss_one (ds_ret (dx_of (dp_fz (dp_tup (da_cons (dp_fz (dp_sl sl_O slO_ok (dp_name 0) (dp_pSome (dp_name 2)) (dp_pNone))) (da_cons (dp_fz (dp_sl sl_O slO_ok (dp_name 1) (dp_pSome (dp_name 2)) (dp_pNone))) (da_nil))))))))
theorem ok_apart {f : Addr} {fd : FuncData} (T : Txt K mg ⟨K, cls, nms⟩) (F : FunD K "apart" "apart" (defArgs s_apart) (defBody s_apart) (defScope s_apart) [] [] f fd) (c_left : Fnc P w K mg base ⟨K, cls, nms⟩ 2 "left" 2 m_left []) : FnOk P w K mg base (L2.CX P w) 3 f fd ["one", "other"] (spP ⟨K, cls, nms⟩ 2 m_apart) :=
  fn_okD F sc_apart fun cdv A outer s H E hr tk => dss_cons (ds_f (ds_set 2 (dx_of (dp_fn c_left hr (tk) (da_cons (dp_name 0) (da_cons (dp_name 1) (da_nil))))) sc_apart.nd))
    (dss_one (ds_ret (dx_of (dp_fz (dp_op op_addO addO_ok (dp_callB call_len lenQ_ok T.b_len (by decide +kernel) (da_cons (dp_ix ix_O ixO_ok (dp_name 2) (dp_int)) (da_nil))) (dp_callB call_len lenQ_ok T.b_len (by decide +kernel) (da_cons (dp_ix ix_O ixO_ok (dp_name 2) (dp_int)) (da_nil))))))))
theorem ok_law_right {f : Addr} {fd : FuncData} (T : Txt K mg ⟨K, cls, nms⟩) (F : FunD K "_law_right" "_law_right" (defArgs s_law_right) (defBody s_law_right) (defScope s_law_right) [] [] f fd) (c_law_some : Fnc P w K mg base ⟨K, cls, nms⟩ 3 "_law_some" 1 m_law_some []) (c_law_same : Fnc P w K mg base ⟨K, cls, nms⟩ 1 "_law_same" 2 m_law_same []) (c_common : Fnc P w K mg base ⟨K, cls, nms⟩ 2 "common" 1 m_common []) (c_left : Fnc P w K mg base ⟨K, cls, nms⟩ 2 "left" 2 m_left []) (c_apart : Fnc P w K mg base ⟨K, cls, nms⟩ 3 "apart" 2 m_apart []) : FnOk P w K mg base (L2.CX P w) 4 f fd ["_law_cell"] (spP ⟨K, cls, nms⟩ 1 m_law_right) :=
  fn_okD F sc_law_right fun cdv A outer s H E hr tk => dss_cons (ds_f (ds_set 1 (dx_of (dp_fn c_law_some hr (tk) (da_cons (dp_name 0) (da_nil)))) sc_law_right.nd))
    (dss_cons (ds_f (ds_set 2 (dx_of (dp_callB (cr_min rfl) minL_ok T.b_min (by decide +kernel) (da_cons (dp_lc (own := [("_law_word", 8)]) sc_law_right.nd (dj_val (dp_name 1)) (blkOk_by (own := [("_law_word", 8)]) (N := N_law_right) (sc := defScope s_law_right) (by decide +kernel)) (fun _ _ _ _ _ => dg_name 8 sc_law_right.nd) (fun _ _ _ _ _ => dts_nil) (fun _ _ _ _ _ => dp_fn c_law_same hr (takes0) (da_cons (dp_ix ix_O ixO_ok (dp_name 1) (dp_int)) (da_cons (dp_name 8) (da_nil))))) (da_nil)))) sc_law_right.nd))
    (dss_cons (ds_f (ds_set 3 (dx_of (dp_callT call_list_of listO_ok T.b_list (by decide +kernel) (da_cons (dp_name 1) (da_nil)))) sc_law_right.nd))
    (dss_cons (ds_if (PW.pt (dt_or (dt_cmp (op_neO hr) neO_ok (dp_fn c_common hr (tk) (da_cons (dp_name 3) (da_nil))) (dp_sl sl_O slO_ok (dp_ix ix_O ixO_ok (dp_name 1) (dp_int)) (dp_pNone) (dp_pSome (dp_name 2))) (nomark _)) (dt_or (dt_cmp (op_neO hr) neO_ok (dp_fn c_common hr (tk) (da_cons (dp_fz (dp_rev rfl (dp_name 3))) (da_nil))) (dp_sl sl_O slO_ok (dp_ix ix_O ixO_ok (dp_name 1) (dp_int)) (dp_pNone) (dp_pSome (dp_name 2))) (nomark _)) (pw_or1 (dt_cmp (op_neO hr) neO_ok (dp_name 3) (dp_name 1) (nomark _)))))) (dss_one (ds_ret (dx_of (dp_bl)))) (dss_nil))
    (dss_cons (ds_if (dt_cmp (op_neO hr) neO_ok (dp_fn c_common hr (tk) (da_cons (dp_callT call_tuple_of tupleO_ok T.b_tuple (by decide +kernel) (da_cons (dp_name 1) (da_nil))) (da_nil))) (dp_sl sl_O slO_ok (dp_ix ix_O ixO_ok (dp_name 1) (dp_int)) (dp_pNone) (dp_pSome (dp_name 2))) (nomark _)) (dss_one (ds_ret (dx_of (dp_bl)))) (dss_nil))
    (dss_cons (ds_f (ds_set 4 (dx_of (dp_ix ix_O ixO_ok (dp_name 1) (dp_int))) sc_law_right.nd))
    (dss_cons (ds_f (ds_set 5 (dx_of (dp_ix ix_O ixO_ok (dp_name 1) (dp_un un_neg negO_ok (dp_int)))) sc_law_right.nd))
    (dss_cons (ds_f (ds_set 6 (dx_of (dp_fn c_law_same hr (tk) (da_cons (dp_name 4) (da_cons (dp_name 5) (da_nil))))) sc_law_right.nd))
    (dss_cons (ds_if (PW.pt (dt_or (dt_cmp (op_neO hr) neO_ok (dp_fn c_left hr (tk) (da_cons (dp_name 4) (da_cons (dp_name 5) (da_nil)))) (dp_tup (da_cons (dp_fz (dp_sl sl_O slO_ok (dp_name 4) (dp_pSome (dp_name 6)) (dp_pNone))) (da_cons (dp_fz (dp_sl sl_O slO_ok (dp_name 5) (dp_pSome (dp_name 6)) (dp_pNone))) (da_nil)))) (nomark _)) (pw_or1 (dt_cmp (op_neO hr) neO_ok (dp_fn c_left hr (tk) (da_cons (dp_name 5) (da_cons (dp_name 4) (da_nil)))) (dp_tup (da_cons (dp_fz (dp_sl sl_O slO_ok (dp_name 5) (dp_pSome (dp_name 6)) (dp_pNone))) (da_cons (dp_fz (dp_sl sl_O slO_ok (dp_name 4) (dp_pSome (dp_name 6)) (dp_pNone))) (da_nil)))) (nomark _))))) (dss_one (ds_ret (dx_of (dp_bl)))) (dss_nil))
    (dss_cons (ds_f (ds_set 7 (dx_of (dp_op op_sub subO_ok (dp_op op_addO addO_ok (dp_callB call_len lenQ_ok T.b_len (by decide +kernel) (da_cons (dp_name 4) (da_nil))) (dp_callB call_len lenQ_ok T.b_len (by decide +kernel) (da_cons (dp_name 5) (da_nil)))) (dp_op op_mulO mulO_ok (dp_int) (dp_name 6)))) sc_law_right.nd))
    (dss_one (ds_ret (dx_of (dp_and (dp_cmp (op_eqO hr) eqO_ok (dp_fn c_apart hr (tk) (da_cons (dp_name 4) (da_cons (dp_name 5) (da_nil)))) (dp_name 7) (nomark _)) (dp_and (dp_cmp (op_eqO hr) eqO_ok (dp_fn c_apart hr (tk) (da_cons (dp_name 5) (da_cons (dp_name 4) (da_nil)))) (dp_name 7) (nomark _)) ((pe_one (dp_cmp (op_eqO hr) eqO_ok (dp_fn c_apart hr (tk) (da_cons (dp_name 4) (da_cons (dp_name 4) (da_nil)))) (dp_int) (nomark _))))))))))))))))))
theorem ok_law {f : Addr} {fd : FuncData} (T : Txt K mg ⟨K, cls, nms⟩) (F : FunD K "law" "law" (defArgs s_law) (defBody s_law) (defScope s_law) [] [] f fd) (c_law_right : Fnc P w K mg base ⟨K, cls, nms⟩ 4 "_law_right" 1 m_law_right []) : FnOk P w K mg base (L2.CX P w) 5 f fd ["_law_script"] (spP ⟨K, cls, nms⟩ 1 m_law) :=
  fn_okD F sc_law fun cdv A outer s H E hr tk => dss_one (ds_ret (dx_of (dp_callB (cr_all rfl) allO_ok T.b_all (by decide +kernel) (da_cons (dp_lc (own := [("_law_cell", 1)]) sc_law.nd (dj_val (dp_op op_addO addO_ok (dp_name 0) (dp_lst (da_cons (dp_int) (da_cons (dp_int) (da_nil)))))) (blkOk_by (own := [("_law_cell", 1)]) (N := N_law) (sc := defScope s_law) (by decide +kernel)) (fun _ _ _ _ _ => dg_name 1 sc_law.nd) (fun _ _ _ _ _ => dts_nil) (fun _ _ _ _ _ => dp_fn c_law_right hr (takes0) (da_cons (dp_name 1) (da_nil)))) (da_nil)))))
end
/-! the head -/
def D_law_draws : He.DefD := ⟨("_law_draws", none), "_law_draws", "_law_draws", defArgs s_law_draws, defBody s_law_draws, defScope s_law_draws, [], []⟩
def D_law_mix : He.DefD := ⟨("_law_mix", none), "_law_mix", "_law_mix", defArgs s_law_mix, defBody s_law_mix, defScope s_law_mix, [], []⟩
def D_law_tail : He.DefD := ⟨("_law_tail", none), "_law_tail", "_law_tail", defArgs s_law_tail, defBody s_law_tail, defScope s_law_tail, [], []⟩
def D_law_some : He.DefD := ⟨("_law_some", none), "_law_some", "_law_some", defArgs s_law_some, defBody s_law_some, defScope s_law_some, [], []⟩
def D_law_same : He.DefD := ⟨("_law_same", none), "_law_same", "_law_same", defArgs s_law_same, defBody s_law_same, defScope s_law_same, [], []⟩
def D_common_of_two : He.DefD := ⟨("common_of_two", none), "common_of_two", "common_of_two", defArgs s_common_of_two, defBody s_common_of_two, defScope s_common_of_two, [], []⟩
def D_common : He.DefD := ⟨("common", none), "common", "common", defArgs s_common, defBody s_common, defScope s_common, [], []⟩
def D_left : He.DefD := ⟨("left", none), "left", "left", defArgs s_left, defBody s_left, defScope s_left, [], []⟩
def D_apart : He.DefD := ⟨("apart", none), "apart", "apart", defArgs s_apart, defBody s_apart, defScope s_apart, [], []⟩
def D_law_right : He.DefD := ⟨("_law_right", none), "_law_right", "_law_right", defArgs s_law_right, defBody s_law_right, defScope s_law_right, [], []⟩
def D_law : He.DefD := ⟨("law", none), "law", "law", defArgs s_law, defBody s_law, defScope s_law, [], []⟩
def fnL : List He.DefD := [D_law_draws, D_law_mix, D_law_tail, D_law_some, D_law_same, D_common_of_two, D_common, D_left, D_apart, D_law_right, D_law]
def faL : List He.Fa := [.glo "_law_draws", .glo "_law_mix", .glo "_law_tail", .glo "_law_some", .glo "_law_same", .glo "common_of_two", .glo "common", .glo "left", .glo "apart", .glo "_law_right", .glo "law", .free "all", .free "len", .free "list", .free "min", .free "range", .free "tuple"]
abbrev RR : PySem.W.OpenRow := PySem.W.OpenLaw.row PySem.Challenge.rw_letterwend_k12_beginnings
abbrev hk : PySem.W.Hook := He.hookD 5 faL fnL
def obs1 (s : PySem.W.SharedT) : He.AlD := He.obsDG 5 faL fnL (HandSHeadRun.getT s)
theorem obs1_eq (s : PySem.W.SharedT) : obs1 s = hk.obs s.abs := He.obsDG_eq (HandSHeadRun.getT_eq s)
def names1 : List Str := ["common_of_two", "common", "left", "apart", "_law_draws", "_law_mix", "_law_tail", "_law_some", "_law_same", "_law_right"]
theorem run1 (w : World) : HandSHeadRun.RunEq RR (PySem.W.view RR.prog [12]) hk obs1 2000 names1 w := by
  intro os
  kernel_rfl
theorem facts {P : Program} {w : World} {K : PySem.W.Frag} {h : Heap} {mg : Str → Option Value} {f : Addr} (X : K.In h) (G : h.Ns mainGlobals mg) (hfa : mg ("law" : Str) = some (.ref f)) (c : He.SaysD faL fnL K) :
    ∃ fd : FuncData, (∀ (s : Shared) (v : Value), BindsTo s fd ⟨[v], []⟩ [("_law_script", v)]) ∧ ∀ base : Heap, K.In base → base.Ns mainGlobals mg → FnOk P w K mg base (L2.CX P w) 5 f fd ["_law_script"] (spP ⟨K, fun _ => 0, fun _ => []⟩ 1 m_law) := by
  obtain ⟨d0, F0⟩ := c.def_ 0 (d := D_law_draws) rfl
  obtain ⟨d1, F1⟩ := c.def_ 1 (d := D_law_mix) rfl
  obtain ⟨d2, F2⟩ := c.def_ 2 (d := D_law_tail) rfl
  obtain ⟨d3, F3⟩ := c.def_ 3 (d := D_law_some) rfl
  obtain ⟨d4, F4⟩ := c.def_ 4 (d := D_law_same) rfl
  obtain ⟨d5, F5⟩ := c.def_ 5 (d := D_common_of_two) rfl
  obtain ⟨d6, F6⟩ := c.def_ 6 (d := D_common) rfl
  obtain ⟨d7, F7⟩ := c.def_ 7 (d := D_left) rfl
  obtain ⟨d8, F8⟩ := c.def_ 8 (d := D_apart) rfl
  obtain ⟨d9, F9⟩ := c.def_ 9 (d := D_law_right) rfl
  obtain ⟨d10, F10⟩ := c.def_ 10 (d := D_law) rfl
  have T : Txt K mg ⟨K, fun _ => 0, fun _ => []⟩ := ⟨rfl, He.free_ok X G (c.fact 11 (f := .free "all") rfl), He.free_ok X G (c.fact 12 (f := .free "len") rfl), He.free_ok X G (c.fact 13 (f := .free "list") rfl), He.free_ok X G (c.fact 14 (f := .free "min") rfl), He.free_ok X G (c.fact 15 (f := .free "range") rfl), He.free_ok X G (c.fact 16 (f := .free "tuple") rfl)⟩
  have e := hfa.symm.trans (He.glo_ok X G (c.fact 10 (f := .glo "law") rfl))
  cases e
  refine ⟨d10, fun s v => FunD.bindsA (ps := ["_law_script"]) F10 (fun _ _ _ _ _ _ us hl => match us, hl with | [_], _ => rfl) s [v] rfl, fun base _ _ => ?_⟩
  have o_law_draws := ok_law_draws (P := P) (w := w) (base := base) T F0
  have k_law_draws := fnc (x := "_law_draws") o_law_draws (He.glo_ok X G (c.fact 0 (f := .glo "_law_draws") rfl)) F0.kp (F0.bindsN fun _ _ _ _ _ _ us hl => match us, hl with | [_, _], _ => rfl)
  have o_law_mix := ok_law_mix (P := P) (w := w) (base := base) T F1
  have k_law_mix := fnc (x := "_law_mix") o_law_mix (He.glo_ok X G (c.fact 1 (f := .glo "_law_mix") rfl)) F1.kp (F1.bindsN fun _ _ _ _ _ _ us hl => match us, hl with | [_, _], _ => rfl)
  have o_law_tail := ok_law_tail (P := P) (w := w) (base := base) T F2 k_law_mix
  have k_law_tail := fnc (x := "_law_tail") o_law_tail (He.glo_ok X G (c.fact 2 (f := .glo "_law_tail") rfl)) F2.kp (F2.bindsN fun _ _ _ _ _ _ us hl => match us, hl with | [_], _ => rfl)
  have o_law_some := ok_law_some (P := P) (w := w) (base := base) T F3 k_law_mix k_law_draws k_law_tail
  have k_law_some := fnc (x := "_law_some") o_law_some (He.glo_ok X G (c.fact 3 (f := .glo "_law_some") rfl)) F3.kp (F3.bindsN fun _ _ _ _ _ _ us hl => match us, hl with | [_], _ => rfl)
  have o_law_same := ok_law_same (P := P) (w := w) (base := base) T F4
  have k_law_same := fnc (x := "_law_same") o_law_same (He.glo_ok X G (c.fact 4 (f := .glo "_law_same") rfl)) F4.kp (F4.bindsN fun _ _ _ _ _ _ us hl => match us, hl with | [_, _], _ => rfl)
  have o_common_of_two := ok_common_of_two (P := P) (w := w) (base := base) T F5
  have k_common_of_two := fnc (x := "common_of_two") o_common_of_two (He.glo_ok X G (c.fact 5 (f := .glo "common_of_two") rfl)) F5.kp (F5.bindsN fun _ _ _ _ _ _ us hl => match us, hl with | [_, _], _ => rfl)
  have o_common := ok_common (P := P) (w := w) (base := base) T F6 k_common_of_two
  have k_common := fnc (x := "common") o_common (He.glo_ok X G (c.fact 6 (f := .glo "common") rfl)) F6.kp (F6.bindsN fun _ _ _ _ _ _ us hl => match us, hl with | [_], _ => rfl)
  have o_left := ok_left (P := P) (w := w) (base := base) T F7 k_common_of_two
  have k_left := fnc (x := "left") o_left (He.glo_ok X G (c.fact 7 (f := .glo "left") rfl)) F7.kp (F7.bindsN fun _ _ _ _ _ _ us hl => match us, hl with | [_, _], _ => rfl)
  have o_apart := ok_apart (P := P) (w := w) (base := base) T F8 k_left
  have k_apart := fnc (x := "apart") o_apart (He.glo_ok X G (c.fact 8 (f := .glo "apart") rfl)) F8.kp (F8.bindsN fun _ _ _ _ _ _ us hl => match us, hl with | [_, _], _ => rfl)
  have o_law_right := ok_law_right (P := P) (w := w) (base := base) T F9 k_law_some k_law_same k_common k_left k_apart
  have k_law_right := fnc (x := "_law_right") o_law_right (He.glo_ok X G (c.fact 9 (f := .glo "_law_right") rfl)) F9.kp (F9.bindsN fun _ _ _ _ _ _ us hl => match us, hl with | [_], _ => rfl)
  exact ok_law T F10 k_law_right
end k12
end DL

set_option maxHeartbeats 4000000
namespace DL
open PySem PySem.Spec L2
open PyProof.Rows hiding St
namespace k12
/-- the drawn numbers -/
def drawn (n : Int) : List Int → List Int
  | [] => []
  | s :: ss => n % s :: drawn (n / s) ss
theorem draws_loop : ∀ (ss : List Int) (n : Int) (acc : List Int) (y : Sl), (∀ s ∈ ss, 0 < s ∧ s < 2 ^ 64) → acc.length + ss.length < 1000 → ∃ n' : Int,
    forL (gNm 3) (mSeq (mApp 2 (mLift (mOp modO (mName 0) (mName 3)))) (mSetF 0 (mLift (mOp fdivO (mName 0) (mName 3))))) [3] (ss.map .int) [.own (.sh (.int n)), y, .own (.lst (acc.map fun x => .sh (.int x))), .un] =
      .nx [.own (.sh (.int n')), y, .own (.lst ((acc ++ drawn n ss).map fun x => .sh (.int x))), .un]
  | [], n, acc, y, _, _ => ⟨n, by simp [drawn]⟩
  | s :: ss, n, acc, y, h, hl => by
    obtain ⟨h1, h2⟩ := h s (List.mem_cons_self ..)
    obtain ⟨n', ih⟩ := draws_loop ss (n / s) (acc ++ [n % s]) y (fun x m => h x (List.mem_cons_of_mem _ m)) (by simp at hl ⊢; omega)
    refine ⟨n', ?_⟩
    have hm : acc.length < ML := by unfold ML; simp at hl; omega
    simp only [List.map_append, List.map_cons, List.map_nil, drawn] at ih ⊢
    simp [s_for1, e_mod h1, e_fdiv h1 (log_small h1 h2), hm, ih]
theorem draws_ok {n : Int} {ss : List Int} (h : ∀ s ∈ ss, 0 < s ∧ s < 2 ^ 64) (hl : ss.length < 1000) : m_law_draws [.sh (.int n), .sh (.lst (ss.map .int))] = .ok (.sh (.lst ((drawn n ss).map .int))) := by
  obtain ⟨n', e⟩ := draws_loop ss n [] (.own (.sh (.lst (ss.map .int)))) h (by simpa using hl)
  simp at e
  simp [m_law_draws, fnD, ML, e]
/-- the mixed number -/
def mix0 (n k : Int) : Int := (n * 48271 + k * 104729 + 11) % 2147483647
def mix (n k : Int) : Int := (mix0 n k * mix0 n k + 48271 * mix0 n k + k) % 2147483629
theorem mix_ok {n k : Int} (h1 : 0 ≤ k) (h2 : k < 1000) : m_law_mix [.sh (.int n), .sh (.int k)] = .ok (.sh (.int (mix n k))) := by
  have a1 : W64 48271 = true := by decide
  have a2 : W64 104729 = true := by decide
  have a3 : W64 (mix0 n k) = true := w64 (by unfold mix0; omega) (by unfold mix0; omega)
  have e0 : (n * 48271 + k * 104729 + 11) % 2147483647 = mix0 n k := rfl
  simp [m_law_mix, fnD, e_mul (.inr a1), e_mul (.inr a2), e_mod, e0, e_mul (.inl a3), e_mul (.inl a1), mix]

/-! ### texts -/
def sg : List Nat := [97, 98, 99, 100, 101, 102]
/-- how many signs two texts have in common at their beginnings -/
def cp : List Nat → List Nat → Nat
  | a :: as, b :: bs => if a = b then cp as bs + 1 else 0
  | _, _ => 0
theorem cp_le : ∀ a b : List Nat, cp a b ≤ a.length ∧ cp a b ≤ b.length
  | [], _ => by simp [cp]
  | _ :: _, [] => by simp [cp]
  | a :: as, b :: bs => by
    have := cp_le as bs
    unfold cp
    split <;> simp <;> omega
theorem cp_comm : ∀ a b : List Nat, cp a b = cp b a
  | [], [] => rfl
  | [], _ :: _ => by simp [cp]
  | _ :: _, [] => by simp [cp]
  | a :: as, b :: bs => by
    unfold cp
    by_cases h : a = b
    · rw [if_pos h, if_pos h.symm, cp_comm as bs]
    · rw [if_neg h, if_neg (Ne.symm h)]
theorem cp_take : ∀ (a b : List Nat) (n : Nat), n ≤ cp a b ↔ n ≤ a.length ∧ n ≤ b.length ∧ a.take n = b.take n
  | [], b, n => by
    simp only [cp, Nat.le_zero, List.length_nil]
    exact ⟨fun h => by subst h; simp, fun h => h.1⟩
  | _ :: _, [], n => by
    simp only [cp, Nat.le_zero, List.length_nil]
    exact ⟨fun h => by subst h; simp, fun h => h.2.1⟩
  | a :: as, b :: bs, 0 => by simp
  | a :: as, b :: bs, n + 1 => by
    have ih := cp_take as bs n
    unfold cp
    by_cases h : a = b
    · subst h
      rw [if_pos rfl]
      simp only [Nat.add_le_add_iff_right, List.length_cons, List.take_succ_cons, List.cons.injEq, true_and]
      exact ih
    · rw [if_neg h]
      constructor
      · intro z; omega
      · rintro ⟨_, _, z⟩
        simp only [List.take_succ_cons, List.cons.injEq] at z
        exact absurd z.1 h
theorem cp_at {a b : List Nat} {k : Nat} (h : k < cp a b) : k < a.length ∧ k < b.length ∧ a[k]? = b[k]? := by
  obtain ⟨h1, h2, h3⟩ := (cp_take a b (k + 1)).mp h
  refine ⟨h1, h2, ?_⟩
  have := congrArg (fun l : List Nat => l[k]?) h3
  simpa [List.getElem?_take] using this
theorem cp_end {a b : List Nat} (h1 : cp a b < a.length) (h2 : cp a b < b.length) : a[cp a b]? ≠ b[cp a b]? := fun h => by
  obtain ⟨_, _, h5⟩ := (cp_take a b (cp a b)).mp (Nat.le_refl _)
  have : cp a b + 1 ≤ cp a b := (cp_take a b (cp a b + 1)).mpr ⟨h1, h2, by rw [List.take_add_one, List.take_add_one, h5, h]⟩
  omega
theorem common2_ok {a b : List Nat} (ha : a.length ≤ 1000) (hb : b.length ≤ 1000) : m_common_of_two [.sh (.str a), .sh (.str b)] = .ok (.sh (.str (a.take (cp a b)))) := by
  have la : a.length ≤ ML := by unfold ML; omega
  have lb : b.length ≤ ML := by unfold ML; omega
  have hl := cp_le a b
  have loop : ∀ (n k : Nat) , k ≤ cp a b → cp a b - k < n → whileL (mAnd (mTst (mOp ltO (mName 2) (mCall (fn1 lenQ) (mCons (mName 0) (mNil))))) (mAnd (mTst (mOp ltO (mName 2) (mCall (fn1 lenQ) (mCons (mName 1) (mNil))))) (mTst (mOp eqO (mOp ixO (mName 0) (mName 2)) (mOp ixO (mName 1) (mName 2))))))
      (mAug 2 (mC (.int (1)))) [] n [.own (.sh (.str a)), .own (.sh (.str b)), .own (.sh (.int k))] = .nx [.own (.sh (.str a)), .own (.sh (.str b)), .own (.sh (.int (cp a b)))] := by
    intro n
    induction n with
    | zero => intro k _ h; omega
    | succ n ih =>
      intro k hk hn
      rw [s_wh1]
      by_cases he : k = cp a b
      · by_cases h1 : cp a b < a.length
        · by_cases h2 : cp a b < b.length
          · have h3 := cp_end h1 h2
            have i1 := ixO_Si (s := a) (i := (k : Int)) (by omega) (by omega) la
            have i2 := ixO_Si (s := b) (i := (k : Int)) (by omega) (by omega) lb
            have hne : ¬ a.getD k 0 = b.getD k 0 := fun z => h3 (by
              rw [← he, List.getElem?_eq_getElem (by omega), List.getElem?_eq_getElem (by omega)]
              rw [List.getD_eq_getElem?_getD, List.getD_eq_getElem?_getD, List.getElem?_eq_getElem (by omega), List.getElem?_eq_getElem (by omega)] at z
              simpa using z)
            rw [Int.toNat_natCast] at i1 i2
            generalize a.getD k 0 = x at *
            generalize b.getD k 0 = y at *
            have q1 : (k : Int) < a.length := by omega
            have q2 : (k : Int) < b.length := by omega
            rw [he] at i1 i2
            simp [lenQ_S la, lenQ_S lb, i1, i2, hne, h1, h2, he]
          · simp [lenQ_S la, lenQ_S lb, he, h1, h2]
        · simp [lenQ_S la, he, h1]
      · have hlt : k < cp a b := by omega
        obtain ⟨h1, h2, h3⟩ := cp_at hlt
        have i1 := ixO_Si (s := a) (i := (k : Int)) (by omega) (by omega) la
        have i2 := ixO_Si (s := b) (i := (k : Int)) (by omega) (by omega) lb
        have heq : a.getD k 0 = b.getD k 0 := by rw [List.getD_eq_getElem?_getD, List.getD_eq_getElem?_getD, h3]
        rw [Int.toNat_natCast] at i1 i2
        rw [← heq] at i2
        generalize a.getD k 0 = x at *
        have ih' := ih (k + 1) (by omega) (by omega)
        simp only [Int.natCast_add, Int.natCast_one] at ih'
        simp [lenQ_S la, lenQ_S lb, i1, i2, h1, h2, ih']
  have e := loop 1000000000 0 (Nat.zero_le _) (by omega)
  simp only [Int.natCast_zero] at e
  have sl : slO (.sh (.str a)) none (some (cp a b : Int)) = some (.own (.sh (.str (a.take (cp a b))))) := by rw [slO_S la, cut_to (by omega), Int.toNat_natCast]
  simp [m_common_of_two, fnD, e, sl]
theorem left_ok {a b : List Nat} (ha : a.length ≤ 1000) (hb : b.length ≤ 1000) : m_left [.sh (.str a), .sh (.str b)] = .ok (.sh (.tup [.str (a.drop (cp a b)), .str (b.drop (cp a b))])) := by
  have la : a.length ≤ ML := by unfold ML; omega
  have lb : b.length ≤ ML := by unfold ML; omega
  have hl := cp_le a b
  have e := common2_ok ha hb
  have l1 : (a.take (cp a b)).length = cp a b := by rw [List.length_take]; omega
  have l2 := lenQ_S (s := a.take (cp a b)) (by rw [l1]; omega)
  rw [l1] at l2
  have s1 : slO (.sh (.str a)) (some (cp a b : Int)) none = some (.own (.sh (.str (a.drop (cp a b))))) := by rw [slO_S la, cut_from (by omega), Int.toNat_natCast]
  have s2 : slO (.sh (.str b)) (some (cp a b : Int)) none = some (.own (.sh (.str (b.drop (cp a b))))) := by rw [slO_S lb, cut_from (by omega), Int.toNat_natCast]
  simp [m_left, fnD, e, l2, s1, s2, ML, shs]
theorem apart_ok {a b : List Nat} (ha : a.length ≤ 1000) (hb : b.length ≤ 1000) : m_apart [.sh (.str a), .sh (.str b)] = .ok (.sh (.int (a.length + b.length - 2 * cp a b))) := by
  have hl := cp_le a b
  have e := left_ok ha hb
  have i1 : ixO (.sh (.tup [.str (a.drop (cp a b)), .str (b.drop (cp a b))])) (.sh (.int 0)) = some (.own (.sh (.str (a.drop (cp a b))))) := rfl
  have i2 : ixO (.sh (.tup [.str (a.drop (cp a b)), .str (b.drop (cp a b))])) (.sh (.int 1)) = some (.own (.sh (.str (b.drop (cp a b))))) := rfl
  have hML : 1000 ≤ ML := by decide
  have l1 := lenQ_S (s := a.drop (cp a b)) (by rw [List.length_drop]; omega)
  have l2 := lenQ_S (s := b.drop (cp a b)) (by rw [List.length_drop]; omega)
  simp only [List.length_drop] at l1 l2
  simp [m_apart, fnD, e, i1, i2, l1, l2]
  omega
theorem same_loop {a b : List Nat} (la : a.length ≤ ML) (lb : b.length ≤ ML) : ∀ (m k : Nat), k + m = min a.length b.length → k ≤ cp a b → ∃ en, forL (gNm 3) (mSeq (mIfS (mTst (mOp neO (mOp ixO (mName 0) (mName 3)) (mOp ixO (mName 1) (mName 3)))) (mRet (mShare 2)) (mNx)) (mSetF 2 (mLift (mOp addO (mName 2) (mC (.int (1)))))))
      [3] ((List.range' k m).map fun (i : Nat) => D.int (0 + (i : Int))) [.own (.sh (.str a)), .own (.sh (.str b)), .own (.sh (.int k)), .un] = .rt (.sh (.int (cp a b))) en ∨
      forL (gNm 3) (mSeq (mIfS (mTst (mOp neO (mOp ixO (mName 0) (mName 3)) (mOp ixO (mName 1) (mName 3)))) (mRet (mShare 2)) (mNx)) (mSetF 2 (mLift (mOp addO (mName 2) (mC (.int (1)))))))
      [3] ((List.range' k m).map fun (i : Nat) => D.int (0 + (i : Int))) [.own (.sh (.str a)), .own (.sh (.str b)), .own (.sh (.int k)), .un] = .nx [.own (.sh (.str a)), .own (.sh (.str b)), .own (.sh (.int (cp a b))), .un] := by
    have hl := cp_le a b
    intro m
    induction m with
    | zero =>
      intro k h1 h2
      have : k = cp a b := by omega
      subst this
      exact ⟨[], .inr rfl⟩
    | succ m ih =>
      intro k h1 h2
      have i1 := ixO_Si (s := a) (i := (k : Int)) (by omega) (by omega) la
      have i2 := ixO_Si (s := b) (i := (k : Int)) (by omega) (by omega) lb
      rw [Int.toNat_natCast] at i1 i2
      by_cases he : k = cp a b
      · have h3 := cp_end (a := a) (b := b) (by omega) (by omega)
        have hne : ¬ a.getD k 0 = b.getD k 0 := fun z => h3 (by
          rw [← he, List.getElem?_eq_getElem (by omega), List.getElem?_eq_getElem (by omega)]
          rw [List.getD_eq_getElem?_getD, List.getD_eq_getElem?_getD, List.getElem?_eq_getElem (by omega), List.getElem?_eq_getElem (by omega)] at z
          simpa using z)
        generalize a.getD k 0 = x at *
        generalize b.getD k 0 = y at *
        refine ⟨[.own (.sh (.str a)), .own (.sh (.str b)), .own (.sh (.int (cp a b))), .own (.sh (.int (cp a b)))], .inl ?_⟩
        rw [he] at i1 i2
        simp [List.range'_succ, s_for1, i1, i2, hne, he]
      · obtain ⟨h4, h5, h3⟩ := cp_at (a := a) (b := b) (k := k) (by omega)
        have heq : a.getD k 0 = b.getD k 0 := by rw [List.getD_eq_getElem?_getD, List.getD_eq_getElem?_getD, h3]
        rw [← heq] at i2
        generalize a.getD k 0 = x at *
        obtain ⟨en, ih'⟩ := ih (k + 1) (by omega) (by omega)
        refine ⟨en, ?_⟩
        simp only [Int.natCast_add, Int.natCast_one] at ih'
        simp only [List.range'_succ, List.map_cons, s_for1]
        simp [i1, i2]
        simpa using ih'
theorem same_ok {a b : List Nat} (ha : a.length ≤ 1000) (hb : b.length ≤ 1000) : m_law_same [.sh (.str a), .sh (.str b)] = .ok (.sh (.int (cp a b))) := by
  have la : a.length ≤ ML := by unfold ML; omega
  have lb : b.length ≤ ML := by unfold ML; omega
  have hl := cp_le a b
  have loop := same_loop la lb
  obtain ⟨en, h⟩ := loop (min a.length b.length) 0 (by omega) (Nat.zero_le _)
  have er : rangeD 0 (min a.length b.length) = (List.range' 0 (min a.length b.length)).map fun (i : Nat) => D.int (0 + (i : Int)) := by unfold rangeD; rw [List.range_eq_range']
  rw [← er] at h
  have em := e_minN (m := a.length) (n := b.length)
  have eb : okR ((min a.length b.length : Nat) : Int) = true := okR_of (by omega) (by omega)
  simp only [Int.natCast_zero] at h
  generalize min a.length b.length = mn at *
  rcases h with h | h <;> simp [m_law_same, fnD, lenQ_S la, lenQ_S lb, -e_min, em, h, eb]
/-! ### the beginning of many -/
def mm (x : List Nat) (ws : List (List Nat)) (j : Nat) : Nat := ws.foldl (fun m z => min m (cp x z)) j
theorem mm_le (x : List Nat) : ∀ (ws : List (List Nat)) (j n : Nat), n ≤ mm x ws j ↔ n ≤ j ∧ ∀ z ∈ ws, n ≤ cp x z
  | [], j, n => by simp [mm]
  | w :: ws, j, n => by
    have := mm_le x ws (min j (cp x w)) n
    unfold mm at this ⊢
    rw [List.foldl_cons, this, List.forall_mem_cons]
    constructor
    · rintro ⟨h1, h2⟩; exact ⟨by omega, by omega, h2⟩
    · rintro ⟨h1, h2, h3⟩; exact ⟨by omega, h3⟩
theorem cp_taken {x z : List Nat} {j : Nat} (hj : j ≤ x.length) : cp (x.take j) z = min j (cp x z) := by
  apply Nat.le_antisymm
  · have h := Nat.le_refl (cp (x.take j) z)
    rw [cp_take] at h
    obtain ⟨h1, h2, h3⟩ := h
    rw [List.length_take] at h1
    rw [List.take_take, Nat.min_eq_left (by omega)] at h3
    have := (cp_take x z (cp (x.take j) z)).mpr ⟨by omega, h2, h3⟩
    omega
  · rw [cp_take]
    have h := (cp_take x z (min j (cp x z))).mp (Nat.min_le_right _ _)
    refine ⟨by rw [List.length_take]; omega, h.2.1, ?_⟩
    rw [List.take_take, Nat.min_eq_left (Nat.min_le_left _ _)]
    exact h.2.2
theorem fold_eq (x : List Nat) : ∀ (ws : List (List Nat)) (j : Nat), j ≤ x.length → ws.foldl (fun f z => f.take (cp f z)) (x.take j) = x.take (mm x ws j)
  | [], j, _ => rfl
  | w :: ws, j, h => by
    have := fold_eq x ws (min j (cp x w)) (by omega)
    unfold mm at this ⊢
    rw [List.foldl_cons, List.foldl_cons, cp_taken h, List.take_take, Nat.min_eq_left (Nat.min_le_left _ _)]
    exact this
theorem cm_eq {ws us : List (List Nat)} {x y : List Nat} (h : ∀ z, z ∈ ws ↔ z ∈ us) (hx : x ∈ ws) (hy : y ∈ ws) : mm x ws x.length = mm y us y.length ∧ x.take (mm x ws x.length) = y.take (mm y us y.length) := by
  have half : ∀ {ws us : List (List Nat)} {x y : List Nat}, (∀ z, z ∈ ws ↔ z ∈ us) → x ∈ ws → y ∈ ws → ∀ n, n ≤ mm x ws x.length → n ≤ mm y us y.length := fun {ws us x y} h hx hy n hn => by
    rw [mm_le] at hn ⊢
    obtain ⟨h1, h2⟩ := hn
    obtain ⟨_, g2, g3⟩ := (cp_take x y n).mp (h2 y hy)
    refine ⟨g2, fun z hz => (cp_take y z n).mpr ?_⟩
    obtain ⟨_, k2, k3⟩ := (cp_take x z n).mp (h2 z ((h z).mpr hz))
    exact ⟨g2, k2, g3.symm.trans k3⟩
  have e : mm x ws x.length = mm y us y.length := Nat.le_antisymm (half h hx hy _ (Nat.le_refl _)) (half (fun z => (h z).symm) ((h y).mp hy) ((h x).mp hx) _ (Nat.le_refl _))
  refine ⟨e, ?_⟩
  rw [← e]
  have := (mm_le x ws x.length _).mp (Nat.le_refl (mm x ws x.length))
  exact ((cp_take x y _).mp (this.2 y hy)).2.2
theorem mm_min {ws : List (List Nat)} {x : List Nat} (hx : x ∈ ws) : minI (ws.map fun z => (cp x z : Int)) = (mm x ws x.length : Int) := by
  have hn : (ws.map fun z => (cp x z : Int)) ≠ [] := fun z => by
    have := List.map_eq_nil_iff.mp z
    rw [this] at hx; cases hx
  obtain ⟨h1, h2⟩ := minI_ok hn
  obtain ⟨z, hz, e⟩ := List.mem_map.mp h1
  have a1 := ((mm_le x ws x.length _).mp (Nat.le_refl (mm x ws x.length))).2 z hz
  have a2 : cp x z ≤ mm x ws x.length := (mm_le x ws x.length _).mpr ⟨(cp_le x z).1, fun y hy => by
    have := h2 _ (List.mem_map.mpr ⟨y, hy, rfl⟩)
    rw [← e] at this
    omega⟩
  rw [← e]
  omega
theorem common_loop : ∀ (ws : List (List Nat)) (f : List Nat) (y : Sl), f.length ≤ 1000 → (∀ w ∈ ws, w.length ≤ 1000) →
    forL (gNm 2) (mSetF 1 (mLift (mFn 2 m_common_of_two [] (mCons (mName 1) (mCons (mName 2) (mNil)))))) [2] (ws.map .str) [y, .own (.sh (.str f)), .un] = .nx [y, .own (.sh (.str (ws.foldl (fun f z => f.take (cp f z)) f))), .un]
  | [], f, y, _, _ => rfl
  | w :: ws, f, y, h, hw => by
    have e := common2_ok h (hw w (List.mem_cons_self ..))
    have ih := common_loop ws (f.take (cp f w)) y (by rw [List.length_take]; omega) fun z m => hw z (List.mem_cons_of_mem _ m)
    simp [s_for1, e, ih]
theorem common_ok {ws : List (List Nat)} {d : D} (hd : d = .lst (ws.map .str) ∨ d = .tup (ws.map .str)) (hn : ws ≠ []) (hw : ∀ w ∈ ws, w.length ≤ 1000) : m_common [.sh d] = .ok (.sh (.str ((ws.head hn).take (mm (ws.head hn) ws (ws.head hn).length)))) := by
  have hp : 0 < ws.length := List.length_pos_iff.mpr hn
  have e1 : (ws.map D.str).getD 0 .non = .str (ws.head hn) := by
    cases ws with
    | nil => exact absurd rfl hn
    | cons a l => rfl
  have hix : ixO (.sh d) (.sh (.int 0)) = some (.own (.sh (.str (ws.head hn)))) := by
    rcases hd with rfl | rfl
    · rw [ixO_Li (Int.le_refl _) (by rw [List.length_map]; omega)]
      exact congrArg (fun z => some (R.own (.sh z))) e1
    · rw [ixO_Ti (Int.le_refl _) (by rw [List.length_map]; omega)]
      exact congrArg (fun z => some (R.own (.sh z))) e1
  have hs : d.seqI = some (ws.map .str) := by rcases hd with rfl | rfl <;> rfl
  have el := common_loop ws (ws.head hn) (.own (.sh d)) (hw _ (List.head_mem hn)) hw
  have ef := fold_eq (ws.head hn) ws (ws.head hn).length (Nat.le_refl _)
  rw [List.take_length] at ef
  rw [ef] at el
  simp [m_common, fnD, hix, hs, el]
end k12
end DL

set_option maxHeartbeats 4000000
namespace DL
open PySem PySem.Spec L2
open PyProof.Rows hiding St
namespace k12
theorem sg_lt : ∀ c ∈ sg, c < 0x110000 := by decide
theorem sg_getD (n : Nat) (h : n < 6) : sg.getD n 0 ∈ sg := by
  match n, h with
  | 0, _ => decide
  | 1, _ => decide
  | 2, _ => decide
  | 3, _ => decide
  | 4, _ => decide
  | 5, _ => decide
theorem two_six (n : Int) : ∃ m : Int, ixO (.sh (.lst [.int 2, .int 6])) (.sh (.int (n % 2))) = some (.own (.sh (.int m))) ∧ 0 < m ∧ m ≤ 6 := by
  have h := ixO_Lm (l := [.int 2, .int 6]) (a := n) (n := 2) rfl (by decide)
  obtain ⟨k, hk, hl⟩ : ∃ k : Nat, (n % 2).toNat = k ∧ k < 2 := ⟨_, rfl, by omega⟩
  rw [hk] at h
  match k, hl with
  | 0, _ => exact ⟨2, h, by decide, by decide⟩
  | 1, _ => exact ⟨6, h, by decide, by decide⟩
theorem tail_ok (n : Int) : ∃ t : List Nat, m_law_tail [.sh (.int n)] = .ok (.sh (.str t)) ∧ t.length ≤ 9 ∧ ∀ c ∈ t, c ∈ sg := by
  obtain ⟨m, hm, m0, m6⟩ := two_six n
  have hs := fun i : Int => ixO_Si (s := sg) (i := i)
  let q : Nat → Nat := fun i => sg.getD (mix n (20 + (i : Int)) % m).toNat 0
  have q0 : ∀ i : Nat, 0 ≤ mix n (20 + (i : Int)) % m := fun i => Int.emod_nonneg _ (by omega)
  have q1 : ∀ i : Nat, mix n (20 + (i : Int)) % m < m := fun i => Int.emod_lt_of_pos _ m0
  have hN : (n / 2 % 10).toNat ≤ 9 := by omega
  have lc : lcL (gNm 1) mYes (mOp ixO (mC (.str [97, 98, 99, 100, 101, 102])) (mOp modO (mFn 2 m_law_mix [] (mCons (mName 0) (mCons (mOp addO (mC (.int (20))) (mName 1)) (mNil)))) (mOp ixO (mFzV (mLst (mCons (mC (.int (2))) (mCons (mC (.int (6))) (mNil))))) (mOp modO (mName 0) (mC (.int (2))))))) [.own (.sh (.int n)), .un] (rangeD 0 (n / 2 % 10).toNat) = some ((List.range (n / 2 % 10).toNat).map fun i => .sh (.str [q i])) := by
    refine lcL_map (mk := fun i : Nat => D.int (0 + (i : Int))) fun i hi => ⟨[.own (.sh (.int n)), .own (.sh (.int (0 + (i : Int))))], by simp, ?_⟩
    have hi' : i < (n / 2 % 10).toNat := List.mem_range.mp hi
    have e1 := mix_ok (n := n) (k := 20 + (i : Int)) (by omega) (by omega)
    have e2 := ixO_Si (s := sg) (i := mix n (20 + (i : Int)) % m) (q0 i) (by have := q1 i; show _ < ((6 : Nat) : Int); omega) (by decide)
    have e3 := e_mod (i := mix n (20 + (i : Int))) (j := m) m0
    have e4 : q i = sg.getD (mix n (20 + (i : Int)) % m).toNat 0 := rfl
    rw [← e4] at e2
    generalize q i = qi at *
    generalize mix n (20 + (i : Int)) = mi at *
    unfold sg at e2
    simp [e1, hm, e_mod, ML, e2, e3]
  refine ⟨(List.range (n / 2 % 10).toNat).map q, ?_, by rw [List.length_map, List.length_range]; exact hN, fun c hc => ?_⟩
  · have ej := joinO_signs (q := q) (l := List.range (n / 2 % 10).toNat) (by rw [List.length_range]; unfold ML; omega)
    have e5 := e_fdiv (i := n) (j := 2) (by decide) (by decide)
    have er : okR (n / 2 % 10) = true := okR_of (by omega) (by omega)
    have el : (List.range (n / 2 % 10).toNat).length ≤ 16777216 := by rw [List.length_range]; omega
    generalize List.range (n / 2 % 10).toNat = rg at *
    generalize q = q' at *
    simp [m_law_tail, fnD, e5, e_mod, er, lc, el, ML, ej]
  · obtain ⟨i, _, rfl⟩ := List.mem_map.mp hc
    exact sg_getD _ (by have := q0 i; have := q1 i; omega)
end k12
end DL

set_option maxHeartbeats 4000000
namespace DL
open PySem PySem.Spec L2
open PyProof.Rows hiding St
namespace k12
/-- a text as the law draws it -/
def PW (w : List Nat) : Prop := w.length ≤ 600 ∧ ∀ c ∈ w, c < 0x110000
theorem PW_app {a b : List Nat} (ha : a.length ≤ 500) (hb : b.length ≤ 50) (h1 : ∀ c ∈ a, c ∈ sg) (h2 : ∀ c ∈ b, c ∈ sg) : PW (a ++ b) := by
  refine ⟨by rw [List.length_append]; omega, fun c hc => ?_⟩
  rcases List.mem_append.mp hc with hc | hc
  · exact sg_lt c (h1 c hc)
  · exact sg_lt c (h2 c hc)
theorem times_ok (c times : Int) (h0 : 0 ≤ times) (h1 : times < 60) : ∃ t : Int, ixO (.sh (.lst [.int 1, .int 1, .int times])) (.sh (.int (c % 3))) = some (.own (.sh (.int t))) ∧ 0 ≤ t ∧ t < 60 := by
  have h := ixO_Lm (l := [.int 1, .int 1, .int times]) (a := c) (n := 3) rfl (by decide)
  obtain ⟨k, hk, hl⟩ : ∃ k : Nat, (c % 3).toNat = k ∧ k < 3 := ⟨_, rfl, by omega⟩
  rw [hk] at h
  match k, hl with
  | 0, _ => exact ⟨1, h, by decide, by decide⟩
  | 1, _ => exact ⟨1, h, by decide, by decide⟩
  | 2, _ => exact ⟨times, h, h0, h1⟩
theorem stem_ok (c size : Int) (h0 : 0 ≤ size) (h1 : size < 7) (y1 y2 y3 : Sl) : ∃ s : List Nat, s.length ≤ 6 ∧ (∀ x ∈ s, x ∈ sg) ∧
    mS1 joinO (mC (.str [])) (mLc (mJRng1 (mName 2)) [7] (gNm 7) (mYes) (mOp ixO (mC (.str [97, 98, 99, 100, 101, 102])) (mOp modO (mFn 2 m_law_mix [] (mCons (mName 0) (mCons (mOp addO (mC (.int (3))) (mName 7)) (mNil)))) (mC (.int (6)))))) [.own (.sh (.int c)), y1, .own (.sh (.int size)), y2, y3, .un, .un, .un, .un] = .ok (.own (.sh (.str s))) := by
  let q : Nat → Nat := fun i => sg.getD (mix c (3 + (i : Int)) % 6).toNat 0
  have lc : lcL (gNm 7) mYes (mOp ixO (mC (.str [97, 98, 99, 100, 101, 102])) (mOp modO (mFn 2 m_law_mix [] (mCons (mName 0) (mCons (mOp addO (mC (.int (3))) (mName 7)) (mNil)))) (mC (.int (6))))) [.own (.sh (.int c)), y1, .own (.sh (.int size)), y2, y3, .un, .un, .un, .un] (rangeD 0 size.toNat) = some ((List.range size.toNat).map fun i => .sh (.str [q i])) := by
    refine lcL_map (mk := fun i : Nat => D.int (0 + (i : Int))) fun i hi => ⟨[.own (.sh (.int c)), y1, .own (.sh (.int size)), y2, y3, .un, .un, .own (.sh (.int (0 + (i : Int)))), .un], by simp, ?_⟩
    have hi' : i < size.toNat := List.mem_range.mp hi
    have e1 := mix_ok (n := c) (k := 3 + (i : Int)) (by omega) (by omega)
    have e2 := ixO_Sm (s := sg) (a := mix c (3 + (i : Int))) (n := 6) rfl (by decide) (by decide)
    have e4 : q i = sg.getD (mix c (3 + (i : Int)) % 6).toNat 0 := rfl
    rw [← e4] at e2
    generalize q i = qi at *
    generalize mix c (3 + (i : Int)) = mi at *
    unfold sg at e2
    simp [e1, e_mod, e2]
  refine ⟨(List.range size.toNat).map q, by rw [List.length_map, List.length_range]; omega, fun x hx => ?_, ?_⟩
  · obtain ⟨i, _, rfl⟩ := List.mem_map.mp hx
    exact sg_getD _ (by omega)
  · have ej := joinO_signs (q := q) (l := List.range size.toNat) (by rw [List.length_range]; unfold ML; omega)
    have er : okR size = true := okR_of (by omega) (by omega)
    have el : (List.range size.toNat).length ≤ 16777216 := by rw [List.length_range]; omega
    generalize List.range size.toNat = rg at *
    generalize q = q' at *
    have f7 : wipe1 [.own (.sh (.int c)), y1, .own (.sh (.int size)), y2, y3, .un, .un, .un, .un] 7 = [.own (.sh (.int c)), y1, .own (.sh (.int size)), y2, y3, .un, .un, .un, .un] := by simp
    simp [er, lc, el, ML, ej]
theorem rep_ok {s : List Nat} {t : Int} (hs : s.length ≤ 6) (ha : ∀ x ∈ s, x ∈ sg) (t0 : 0 ≤ t) (t1 : t < 60) : ∃ z : List Nat, z.length ≤ 500 ∧ (∀ x ∈ z, x ∈ sg) ∧ mulO (.sh (.str s)) (.sh (.int t)) = some (.own (.sh (.str z))) := by
  have hl : (rep1 s t.toNat).length = t.toNat * s.length := by unfold rep1; simp
  have hle : t.toNat * s.length ≤ 59 * 6 := Nat.mul_le_mul (by omega) hs
  refine ⟨rep1 s t.toNat, by rw [hl]; omega, fun x hx => ?_, ?_⟩
  · unfold rep1 at hx
    obtain ⟨l, h1, h2⟩ := List.mem_flatten.mp hx
    rw [List.eq_of_mem_replicate h1] at h2
    exact ha x h2
  · have c1 : lim 1000001 t = true := lim_iff.mpr (by omega)
    have c2 : Nat.ble s.length 1000 = true := Nat.ble_eq_true_of_le (by omega)
    have c3 : Nat.ble (s.length * t.toNat) 1000000 = true := Nat.ble_eq_true_of_le (by rw [Nat.mul_comm]; omega)
    unfold mulO orR mulO0 opI mulS
    simp only [s_intS, s_str, s_int, c1, c2, c3]
    rfl
end k12
end DL

set_option maxHeartbeats 4000000
namespace DL
open PySem PySem.Spec L2
open PyProof.Rows hiding St
namespace k12
theorem some_loop {c many size times cut : Int} {stem : List Nat} (hs : stem.length ≤ 500) (ha : ∀ x ∈ stem, x ∈ sg) (n : Nat) (hn : n ≤ 10) : ∃ ws : List (List Nat), ws.length = n ∧ (∀ w ∈ ws, PW w) ∧
    forL (gNm 7) (mSeq (mSetF 8 (mLift (mOp addO (mName 5) (mFn 1 m_law_tail [] (mCons (mFn 2 m_law_mix [] (mCons (mName 0) (mCons (mOp addO (mC (.int (40))) (mName 7)) (mNil)))) (mNil))))))
    (mSeq (mIfS (mTst (mOp eqO (mName 4) (mName 7))) (mSetF 8 (mLift (mSl slO (mName 5) (mPart none) (mPart (some (mOp modO (mFn 2 m_law_mix [] (mCons (mName 0) (mCons (mC (.int (60))) (mNil)))) (mOp addO (mCall (fn1 lenQ) (mCons (mName 5) (mNil))) (mC (.int (1)))))))))) (mNx))
    (mApp 6 (mLift (mName 8))))) [7, 8] (rangeD 0 n) [.own (.sh (.int c)), .own (.sh (.int many)), .own (.sh (.int size)), .own (.sh (.int times)), .own (.sh (.int cut)), .own (.sh (.str stem)), .own (.lst []), .un, .un] =
      .nx [.own (.sh (.int c)), .own (.sh (.int many)), .own (.sh (.int size)), .own (.sh (.int times)), .own (.sh (.int cut)), .own (.sh (.str stem)), .own (.lst (ws.map fun w => .sh (.str w))), .un, .un] := by
  have hML : 1000 ≤ ML := by decide
  let env : List (List Nat) → En := fun ws => [.own (.sh (.int c)), .own (.sh (.int many)), .own (.sh (.int size)), .own (.sh (.int times)), .own (.sh (.int cut)), .own (.sh (.str stem)), .own (.lst (ws.map fun w => .sh (.str w))), .un, .un]
  obtain ⟨en', h1, ws, h2, h3, h4⟩ := forL_inv (g := gNm 7) (body := mSeq (mSetF 8 (mLift (mOp addO (mName 5) (mFn 1 m_law_tail [] (mCons (mFn 2 m_law_mix [] (mCons (mName 0) (mCons (mOp addO (mC (.int (40))) (mName 7)) (mNil)))) (mNil))))))
    (mSeq (mIfS (mTst (mOp eqO (mName 4) (mName 7))) (mSetF 8 (mLift (mSl slO (mName 5) (mPart none) (mPart (some (mOp modO (mFn 2 m_law_mix [] (mCons (mName 0) (mCons (mC (.int (60))) (mNil)))) (mOp addO (mCall (fn1 lenQ) (mCons (mName 5) (mNil))) (mC (.int (1)))))))))) (mNx))
    (mApp 6 (mLift (mName 8))))) (dead := [7, 8]) (fun i en => ∃ ws : List (List Nat), ws.length = i ∧ (∀ w ∈ ws, PW w) ∧ en = env ws) (ds := rangeD 0 n) (en := env []) 0 (fun i en d p e => by
      obtain ⟨ws, w1, w2, rfl⟩ := p
      unfold rangeD at e
      rw [List.getElem?_map] at e
      have hi : i < n := by
        cases hh : (List.range n)[i]? with
        | none => rw [hh] at e; cases e
        | some z => have := (List.getElem?_eq_some_iff.mp hh).1; simpa using this
      rw [List.getElem?_range hi] at e
      cases e
      obtain ⟨t, t1, t2, t3⟩ := tail_ok (mix c (40 + (i : Int)))
      have e1 := mix_ok (n := c) (k := 40 + (i : Int)) (by omega) (by omega)
      have e2 := e_addS (s := stem) (t := t) (by omega)
      have hw : ws.length < 16777216 := by omega
      have e0 : (0 : Int) + (i : Int) = i := by omega
      by_cases hc : cut = (i : Int)
      · have e3 := mix_ok (n := c) (k := 60) (by decide) (by decide)
        have e4 := lenQ_S (s := stem) (by omega)
        have hp : (0 : Int) < (stem.length : Int) + 1 := by omega
        have e5 := e_mod (i := mix c 60) (j := (stem.length : Int) + 1) hp
        have m0 : 0 ≤ mix c 60 % ((stem.length : Int) + 1) := Int.emod_nonneg _ (by omega)
        have e6 : slO (.sh (.str stem)) none (some (mix c 60 % ((stem.length : Int) + 1))) = some (.own (.sh (.str (stem.take (mix c 60 % ((stem.length : Int) + 1)).toNat)))) := by rw [slO_S (by omega), cut_to m0]
        obtain ⟨z, hz⟩ : ∃ z, z = stem.take (mix c 60 % ((stem.length : Int) + 1)).toNat := ⟨_, rfl⟩
        rw [← hz] at e6
        refine ⟨[.own (.sh (.int c)), .own (.sh (.int many)), .own (.sh (.int size)), .own (.sh (.int times)), .own (.sh (.int cut)), .own (.sh (.str stem)), .own (.lst (ws.map fun w => .sh (.str w))), .own (.sh (.int i)), .un],
          [.own (.sh (.int c)), .own (.sh (.int many)), .own (.sh (.int size)), .own (.sh (.int times)), .own (.sh (.int cut)), .own (.sh (.str stem)), .own (.lst ((ws ++ [z]).map fun w => .sh (.str w))), .own (.sh (.int i)), .own (.sh (.str z))], by simp [env], ?_, ws ++ [z], by rw [List.length_append, w1, List.length_singleton, Nat.zero_add], fun w m => ?_, by simp [env]⟩
        · simp [e1, t1, e2, hc, e3, e4, e5, e6, ML, hw]
        · rcases List.mem_append.mp m with m | m
          · exact w2 w m
          · rw [List.mem_singleton.mp m, hz]
            exact ⟨by rw [List.length_take]; omega, fun x hx => sg_lt x (ha x (List.mem_of_mem_take hx))⟩
      · have hc2 : (cut == (i : Int)) = false := by simpa using hc
        refine ⟨[.own (.sh (.int c)), .own (.sh (.int many)), .own (.sh (.int size)), .own (.sh (.int times)), .own (.sh (.int cut)), .own (.sh (.str stem)), .own (.lst (ws.map fun w => .sh (.str w))), .own (.sh (.int i)), .un],
          [.own (.sh (.int c)), .own (.sh (.int many)), .own (.sh (.int size)), .own (.sh (.int times)), .own (.sh (.int cut)), .own (.sh (.str stem)), .own (.lst ((ws ++ [stem ++ t]).map fun w => .sh (.str w))), .own (.sh (.int i)), .own (.sh (.str (stem ++ t)))], by simp [env], ?_, ws ++ [stem ++ t], by rw [List.length_append, w1, List.length_singleton, Nat.zero_add], fun w m => ?_, by simp [env]⟩
        · simp [e1, t1, e2, hc2, ML, hw]
        · rcases List.mem_append.mp m with m | m
          · exact w2 w m
          · rw [List.mem_singleton.mp m]
            exact PW_app hs (by omega) ha t3) ⟨[], rfl, fun _ m => (nomatch m), rfl⟩
  refine ⟨ws, ?_, h3, ?_⟩
  · rw [h2]; unfold rangeD; simp
  · rw [h4] at h1; exact h1
theorem some_ok (c : Int) : ∃ ws : List (List Nat), ws ≠ [] ∧ ws.length ≤ 5 ∧ (∀ w ∈ ws, PW w) ∧ m_law_some [.sh (.int c)] = .ok (.sh (.lst (ws.map .str))) := by
  have hd := draws_ok (n := mix c 1) (ss := [5, 7, 60, 9]) (by simp) (by simp)
  have h1 := mix_ok (n := c) (k := 1) (by decide) (by decide)
  simp only [drawn] at hd
  have b0 : 0 ≤ mix c 1 % 5 := by omega
  have b1 : mix c 1 % 5 < 5 := by omega
  have b2 : 0 ≤ mix c 1 / 5 % 7 := by omega
  have b3 : mix c 1 / 5 % 7 < 7 := by omega
  have b4 : 0 ≤ mix c 1 / 5 / 7 % 60 := by omega
  have b5 : mix c 1 / 5 / 7 % 60 < 60 := by omega
  generalize mix c 1 % 5 = many at *
  generalize mix c 1 / 5 % 7 = size at *
  generalize mix c 1 / 5 / 7 % 60 = times at *
  generalize mix c 1 / 5 / 7 / 60 % 9 = cut at *
  simp only [List.map_cons, List.map_nil] at hd
  obtain ⟨s, s1, s2, s3⟩ := stem_ok c size b2 b3 (.own (.sh (.int many))) (.own (.sh (.int times))) (.own (.sh (.int cut)))
  obtain ⟨t, t1, t2, t3⟩ := times_ok c times b4 b5
  obtain ⟨z, z1, z2, z3⟩ := rep_ok s1 s2 t2 t3
  obtain ⟨ws, w1, w2, w3⟩ := some_loop (c := c) (many := many) (size := size) (times := times) (cut := cut) z1 z2 (1 + many).toNat (by omega)
  have er : okR (1 + many) = true := okR_of (by omega) (by omega)
  refine ⟨ws, fun e => by rw [e] at w1; simp at w1; omega, by omega, w2, ?_⟩
  simp [m_law_some, fnD, h1, hd, ML, -s_S1, s3, t1, z3, e_mod, er, w3]
end k12
end DL

set_option maxHeartbeats 4000000
namespace DL
open PySem PySem.Spec L2
open PyProof.Rows hiding St
namespace k12
theorem pl_str {w : List Nat} {n : Nat} (h : ∀ c ∈ w, c < 0x110000) : pl n (.str w) = true := by
  have : pl n (.str w) = w.all (· < 0x110000) := by cases n <;> rfl
  rw [this]
  exact List.all_eq_true.mpr fun c m => decide_eq_true (h c m)
theorem pl_words {ws : List (List Nat)} (h : ∀ w ∈ ws, PW w) : pl 60 (.lst (ws.map .str)) = true := by
  show (ws.map D.str).all (pl 59) = true
  rw [List.all_map]
  exact List.all_eq_true.mpr fun w m => pl_str (h w m).2
theorem cp_self (a : List Nat) : cp a a = a.length := Nat.le_antisymm (cp_le a a).1 ((cp_take a a _).mpr ⟨Nat.le_refl _, Nat.le_refl _, rfl⟩)
theorem right_ok (c : Int) : m_law_right [.sh (.int c)] = .ok (.sh (.bl true)) := by
  obtain ⟨ws, hn, hl, hw, hs⟩ := some_ok c
  have hML : 1000 ≤ ML := by decide
  have hw1 : ∀ w ∈ ws, w.length ≤ 1000 := fun w m => Nat.le_trans (hw w m).1 (by decide)
  have hx := List.head_mem hn
  have hy := List.getLast_mem hn
  have mmin := mm_min hx
  -- common
  have c1 := common_ok (ws := ws) (.inl rfl) hn hw1
  have c3 := common_ok (ws := ws) (.inr rfl) hn hw1
  have hnr : ws.reverse ≠ [] := fun z => hn (List.reverse_eq_nil_iff.mp z)
  have c2 := common_ok (ws := ws.reverse) (.inl rfl) hnr fun w m => hw1 w (List.mem_reverse.mp m)
  have hhr : ws.reverse.head hnr = ws.getLast hn := by rw [List.head_reverse]
  rw [hhr] at c2
  have ce := (cm_eq (ws := ws) (us := ws.reverse) (fun z => List.mem_reverse.symm) hx hy).2
  rw [← ce] at c2
  have p0 : 0 < ws.length := List.length_pos_iff.mpr hn
  have i0 : ixO (.sh (.lst (ws.map .str))) (.sh (.int 0)) = some (.own (.sh (.str (ws.head hn)))) := by
    rw [ixO_Li (Int.le_refl _) (by rw [List.length_map]; omega)]
    cases ws with
    | nil => exact absurd rfl hn
    | cons a l => rfl
  have hm : ws.map D.str ≠ [] := fun z => hn (List.map_eq_nil_iff.mp z)
  have i1 : ixO (.sh (.lst (ws.map .str))) (.sh (.int (-1))) = some (.own (.sh (.str (ws.getLast hn)))) := by
    rw [ixO_last hm, List.getLast_map]
  have lc : lcL (gNm 8) mYes (mFn 2 m_law_same [] (mCons (mOp ixO (mName 1) (mC (.int (0)))) (mCons (mName 8) (mNil)))) [.own (.sh (.int c)), .own (.sh (.lst (ws.map .str))), .un, .un, .un, .un, .un, .un, .un] (ws.map .str) = some (ws.map fun w => .sh (.int (cp (ws.head hn) w))) := by
    refine lcL_map (mk := D.str) (q := fun w => O.sh (.int (cp (ws.head hn) w))) fun w m => ⟨[.own (.sh (.int c)), .own (.sh (.lst (ws.map .str))), .un, .un, .un, .un, .un, .un, .own (.sh (.str w))], by simp, ?_⟩
    have := same_ok (hw1 _ hx) (hw1 w m)
    generalize ws.head hn = h0 at *
    simp [i0, this]
  have ml := minL_own (q := fun w => (cp (ws.head hn) w : Int)) (l := ws) hn
  rw [mmin] at ml
  have plw := pl_words hw
  have nel : neO (.sh (.lst (ws.map .str))) (.sh (.lst (ws.map .str))) = some (.own (.sh (.bl false))) := by rw [neO_pl plw plw, deq_refl 60 _ plw]; rfl
  have sl : slO (.sh (.str (ws.head hn))) none (some ((mm (ws.head hn) ws (ws.head hn).length : Nat) : Int)) = some (.own (.sh (.str ((ws.head hn).take (mm (ws.head hn) ws (ws.head hn).length))))) := by
    rw [slO_S (by have := hw1 _ hx; omega), cut_to (by omega), Int.toNat_natCast]
  have er : O.fzs (ws.map (O.sh ∘ D.str)).reverse = (ws.map D.str).reverse := by rw [← List.map_reverse, s_fzs_map3, List.map_reverse]
  rw [List.map_reverse] at c2
  have la := hw1 _ hx
  have lb := hw1 _ hy
  have pa := (hw _ hx).2
  have pb := (hw _ hy).2
  have el : ws.length ≤ 16777216 := by omega
  generalize ws.head hn = a at *
  generalize ws.getLast hn = b at *
  generalize mm a ws a.length = M at *
  generalize a.take M = aM at *
  have sm := same_ok la lb
  have l1 := left_ok la lb
  have l2 := left_ok lb la
  rw [cp_comm b a] at l2
  have d1 : slO (.sh (.str a)) (some (cp a b : Int)) none = some (.own (.sh (.str (a.drop (cp a b))))) := by rw [slO_S (by omega), cut_from (by omega), Int.toNat_natCast]
  have d2 : slO (.sh (.str b)) (some (cp a b : Int)) none = some (.own (.sh (.str (b.drop (cp a b))))) := by rw [slO_S (by omega), cut_from (by omega), Int.toNat_natCast]
  have p1 : ∀ {x y : List Nat}, (∀ c ∈ x, c < 0x110000) → (∀ c ∈ y, c < 0x110000) → pl 60 (.tup [.str x, .str y]) = true := fun {x y} h1 h2 => by
    show [D.str x, D.str y].all (pl 59) = true
    simp only [List.all_cons, List.all_nil, pl_str h1, pl_str h2, Bool.and_self]
  have q1 := p1 (fun c m => pa c (List.mem_of_mem_drop (i := cp a b) m)) (fun c m => pb c (List.mem_of_mem_drop (i := cp a b) m))
  have q2 := p1 (fun c m => pb c (List.mem_of_mem_drop (i := cp a b) m)) (fun c m => pa c (List.mem_of_mem_drop (i := cp a b) m))
  have n1 : neO (.sh (.tup [.str (a.drop (cp a b)), .str (b.drop (cp a b))])) (.sh (.tup [.str (a.drop (cp a b)), .str (b.drop (cp a b))])) = some (.own (.sh (.bl false))) := by rw [neO_pl q1 q1, deq_refl 60 _ q1]; rfl
  have n2 : neO (.sh (.tup [.str (b.drop (cp a b)), .str (a.drop (cp a b))])) (.sh (.tup [.str (b.drop (cp a b)), .str (a.drop (cp a b))])) = some (.own (.sh (.bl false))) := by rw [neO_pl q2 q2, deq_refl 60 _ q2]; rfl
  have a1 := apart_ok la lb
  have a2 := apart_ok lb la
  rw [cp_comm b a, Int.add_comm] at a2
  have a3 := apart_ok la la
  have e3 : ((a.length : Int) + a.length - 2 * (cp a a : Int)) = 0 := by rw [cp_self]; omega
  rw [e3] at a3
  have len1 := lenQ_S (s := a) (by omega)
  have len2 := lenQ_S (s := b) (by omega)
  have mu := e_mul (i := 2) (j := (cp a b : Int)) (.inl (by decide))
  simp [m_law_right, fnD, hs, lc, ML, el, ml, list_L, c1, c2, sl, nel, rev_L, er, tuple_L, c3, i0, i1, sm, l1, l2, d1, d2, n1, n2, shs, len1, len2, mu, a1, a2, a3]
theorem law_true (ns : List Int) (hl : ns.length ≤ 63) (_ : ∀ z ∈ ns, Builtin.Int.intBits z ≤ 1048576) : m_law [.sh (.lst (ns.map .int))] = .ok (.sh (.bl true)) := by
  have h1 := e_addLo (x := ns.map .int) (y := [.int 0, .int 5]) (by simp [ML]; omega)
  have h2 : lcL (gNm 1) mYes (mFn 1 m_law_right [] (mCons (mName 1) mNil)) [.own (.sh (.lst (ns.map .int))), .un] ((ns ++ [0, 5]).map .int) = some ((ns ++ [0, 5]).map fun _ => .sh (.bl true)) :=
    lcL_map (mk := D.int) fun c _ => ⟨[.own (.sh (.lst (ns.map .int))), .own (.sh (.int c))], by simp, by simp [right_ok]⟩
  have h3 := allO_true (l := ns ++ [0, 5])
  have e : ns.map D.int ++ [.int 0, .int 5] = (ns ++ [0, 5]).map D.int := by simp
  rw [e] at h1
  have hz : (ns ++ [0, 5]).length ≤ 16777216 := by simp; omega
  simp only [List.map_cons, List.map_nil] at h1
  generalize ns ++ [0, 5] = zs at *
  simp [m_law, fnD, h1, h2, h3, hz, ML]
end k12
end DL

set_option maxHeartbeats 0
open PySem PySem.W PySem.Calls PyProof.Rows
theorem PySem.Challenge.cw_letterwend_k12_beginnings_holds : PySem.Challenge.rw_letterwend_k12_beginnings.Holds := by
  w_on; o_law
  refine HandSHeadRun.head_any (r := OpenLaw.row PySem.Challenge.rw_letterwend_k12_beginnings) (q := view (OpenLaw.row PySem.Challenge.rw_letterwend_k12_beginnings).prog [12]) (H := DL.k12.hk) (ob := DL.k12.obs1) (M := 2000) (loose := DL.k12.names1) (d := HandSHeadRun.topDef (OpenLaw.row PySem.Challenge.rw_letterwend_k12_beginnings).prog 12) (kwd := []) DL.k12.obs1_eq
    (by kernel_rfl) (fun s => by kernel_rfl) DL.k12.run1 (by kernel_rfl) (by kernel_rfl) (by kernel_rfl) (by rfl) (by first | assumption | decide +kernel) (by decide +kernel) ⟨rfl, rfl, rfl, rfl, rfl, by decide +kernel⟩ ?hw ?hc
  case hw => w_witness2
  case hc =>
    refine DL.law_walkE (l := PySem.Challenge.rw_letterwend_k12_beginnings) (k := 5) (x := "_law_script") (m := DL.k12.m_law) rfl (by kernel_rfl) ⟨rfl, by decide, by decide⟩ ?F (fun ns hl hb => DL.k12.law_true ns hl hb)
    intro w mg fa h Y G hmg0
    obtain ⟨K, KX, c⟩ := Y
    have hmg : mg ("law" : PySem.Str) = some (.ref fa) := by
      have e : (HandSHeadRun.topDef (OpenLaw.row PySem.Challenge.rw_letterwend_k12_beginnings).prog 12).name = ("law" : PySem.Str) := by kernel_rfl
      rw [← e]
      exact hmg0
    obtain ⟨fd, hb, hF⟩ := DL.k12.facts (P := (PySem.Challenge.rw_letterwend_k12_beginnings).prog) (w := w) KX G hmg c
    exact ⟨⟨K, fun _ => 0, fun _ => []⟩, fd, KX, hb, hF⟩
#print axioms PySem.Challenge.cw_letterwend_k12_beginnings_holds
