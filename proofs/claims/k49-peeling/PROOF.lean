import PyProof.Rows.All
import Wide.All
import OpenK.AllK
import Wide.FinOn
import HandS.ForMost
import HandS.Wide
import HandS.WordsExc
import HandS.Deep
import HandS.TupAny
import KE.KDictKeyed
import KE.KeyNested
import HandS.IsInst
import HandS.ExcCtx
import HandS.HotCalls
import HandS.CallSlots
import HandS.ExcInitHot
import HandS.Defaults
import HandS.ExcIs
import HandS.ExcField
import HandS.Dict
import HandS.Spec
import KE.GoesEnum
import HandS.Iter
import HandS.Strs
import HandS.SetFor
import HandS.Star
import KE.KOpsOwn
import HandS.List
import KE.KStateDown
import HandS.Ends
import HandS.More
import HandS.Words
import HandS.Head0
import HandS.Head1
import HandS.Head2
import HandS.HeadEnd
import HandS.HeadHook1
import HandS.HeadHook2
import HandS.HeadHook3
import HandS.HeadHook4
import HandS.HeadNt
import HandS.Rev
import HandS.Conv
import KE.DataFind
import PySem.Challenge.RW_leavetaking_k49_peeling_whole
set_option Elab.async false
set_option linter.all false
set_option maxRecDepth 100000
/-! DL1: plain data D, owned trees T, how they stand in the abstract heap; slots; growth. -/
namespace Dl
open PySem PySem.Spec PyProof.Rows L2

/-- what representation leans on -/
structure Ct where
  P : Program
  w : World
  K : PySem.W.Frag
  /-- the module's names -/
  mg : Str → Option Value
  /-- the exception that is handled: its object, its dict, its class -/
  xa : Addr
  xd : Option Addr
  xc : Value
/-- the same, another exception handled -/
def Ct.re (c : Ct) (a : Addr) (d : Option Addr) (x : Value) : Ct := ⟨c.P, c.w, c.K, c.mg, a, d, x⟩
def clOf (mg : Str → Option Value) (n : Str) : Addr := match mg n with
  | some (.ref a) => a
  | _ => 0
/-- a class by its name -/
def Ct.cl (c : Ct) (n : Str) : Addr := clOf c.mg n

/-- plain data -/
inductive D where
  | non | bl (b : Bool) | int (i : Int) | str (s : Str) | ty (n : String)
  | tup (ds : List D) | lst (ds : List D)
  | scr (ns : List Int)
  | obj (C : Str) (fs : List (Str × D))
  | dic (kvs : List (NestedKey × D))
mutual
/-- a key as data -/
def keyD : NestedKey → D
  | .none => .non
  | .num i => .int i
  | .text x => .str x
  | .tup ks => .tup (keyDs ks)
def keyDs : List NestedKey → List D
  | [] => []
  | k :: ks => keyD k :: keyDs ks
end
/-- a dict with tuple keys, as its object stands -/
def dcO (c : Ct) (d : Addr) (xs : List (NestedKey × Addr × Value)) : HO := .ext fun h => ∃ o es ep, h.get? d = some o ∧ o.ExactDict ∧ o.data = .dict es ep ∧ es.toList = xs.map (entryOfKey (nestedKind c.P c.w)) ∧ (xs.map (·.1)).Nodup ∧ xs.length ≤ sizeLine ∧ (d == sysModules) = false

/-- a tuple: tracked, or an object of the module -/
def TupAt (K : PySem.W.Frag) (H : Hp) (a : Addr) (xs : List V) : Prop :=
  (∃ o : Obj, H a = some (.frz o (.tup xs)) ∧ o.dict = none) ∨ ∃ (o : Obj) (its : Array Value) (n : Nat), K.lookup a = some o ∧ o.cls = .type "tuple" ∧ o.dict = none ∧ o.data = .seq its n ∧ its.size ≤ sizeLine ∧ Vals xs its.toList
theorem TupAt.sq {K : PySem.W.Frag} {H : Hp} {a : Addr} {xs : List V} (h : TupAt K H a xs) : SqT K H a xs := h.imp (fun ⟨o, e, _⟩ => .inr ⟨o, e⟩) fun ⟨o, its, n, h1, h2, _, h3⟩ => ⟨o, its, n, h1, h2, h3⟩
theorem TupAt.mono {K : PySem.W.Frag} {H H' : Hp} {a : Addr} {xs : List V} (e : Same H H') (h : TupAt K H a xs) : TupAt K H' a xs := h.imp (fun ⟨o, q, d⟩ => ⟨o, e _ _ q, d⟩) id
theorem TupAt.typed {X : Cx} {pins : List (Addr × Obj)} {σ : L2.St} {H : Hp} {s : Shared} {a : Addr} {xs : List V} (I : Inv X pins σ H s) (h : TupAt X.K H a xs) : ∃ o, s.heap.get? a = some o ∧ o.cls = .type "tuple" ∧ o.dict = none := by
  rcases h with ⟨o, e, d⟩ | ⟨o, its, n, e, hc, d, _⟩
  · obtain ⟨h1, _, _, _, o2, h2, h3, _⟩ := (show ObjOk X.prog X.w H s.heap a (.frz o (.tup xs)) from I.hok a _ e)
    rw [h1] at h2
    cases h2
    exact ⟨o, h1, h3, d⟩
  · exact ⟨o, I.kIn a o e, hc, d⟩
mutual
/-- v is the data d in H (shared: never written again) -/
inductive Rep (c : Ct) (H : Hp) : V → D → Prop
  | non : Rep c H .non .non
  | bl (b : Bool) : Rep c H (.bl b) (.bl b)
  | int (i : Int) : Rep c H (.int i) (.int i)
  | str (s : Str) : Rep c H (.str s) (.str s)
  | ty (n : String) : Rep c H (.ty n) (.ty n)
  | tup {a : Addr} {vs : List V} {ds : List D} : TupAt c.K H a vs → Reps c H vs ds → Rep c H (.ref a) (.tup ds)
  | lst {a : Addr} {vs : List V} {ds : List D} : H a = some (.lst vs) → Reps c H vs ds → Rep c H (.ref a) (.lst ds)
  | scr {a : Addr} {ns : List Int} : SqL c.K H a (ns.map V.int) → Rep c H (.ref a) (.scr ns)
  | obj {a dx : Addr} {C : Str} {vfs : List (Str × V)} {fs : List (Str × D)} : H a = some (.ins (c.cl C) dx vfs) → FReps c H vfs fs → Rep c H (.ref a) (.obj C fs)
  | dic {d : Addr} {xs : List (NestedKey × Addr × Value)} {kvs : List (NestedKey × D)} : H d = some (dcO c d xs) → KReps c H xs kvs → Rep c H (.ref d) (.dic kvs)
inductive Reps (c : Ct) (H : Hp) : List V → List D → Prop
  | nil : Reps c H [] []
  | cons {v : V} {d : D} {vs : List V} {ds : List D} : Rep c H v d → Reps c H vs ds → Reps c H (v :: vs) (d :: ds)
inductive FReps (c : Ct) (H : Hp) : List (Str × V) → List (Str × D) → Prop
  | nil : FReps c H [] []
  | cons {f : Str} {v : V} {d : D} {vs : List (Str × V)} {ds : List (Str × D)} : Rep c H v d → FReps c H vs ds → FReps c H ((f, v) :: vs) ((f, d) :: ds)
inductive KReps (c : Ct) (H : Hp) : List (NestedKey × Addr × Value) → List (NestedKey × D) → Prop
  | nil : KReps c H [] []
  | cons {k : NestedKey} {a : Addr} {v : V} {u : Value} {d : D} {xs : List (NestedKey × Addr × Value)} {kvs : List (NestedKey × D)} : Rep c H (.ref a) (keyD k) → k.depth ≤ 8 → RelV v u → Rep c H v d → KReps c H xs kvs → KReps c H ((k, a, u) :: xs) ((k, d) :: kvs)
end

section
variable {c : Ct} {H H' : Hp}
mutual
theorem Rep.mono (e : Same H H') : ∀ {v : V} {d : D}, Rep c H v d → Rep c H' v d
  | _, _, .non => .non
  | _, _, .bl b => .bl b
  | _, _, .int i => .int i
  | _, _, .str s => .str s
  | _, _, .ty n => .ty n
  | _, _, .tup h r => .tup (h.mono e) (Reps.mono e r)
  | _, _, .lst h r => .lst (e _ _ h) (Reps.mono e r)
  | _, _, .scr h => .scr (e.seq h)
  | _, _, .obj h r => .obj (e _ _ h) (FReps.mono e r)
  | _, _, .dic h r => .dic (e _ _ h) (KReps.mono e r)
theorem Reps.mono (e : Same H H') : ∀ {vs : List V} {ds : List D}, Reps c H vs ds → Reps c H' vs ds
  | _, _, .nil => .nil
  | _, _, .cons h r => .cons (Rep.mono e h) (Reps.mono e r)
theorem FReps.mono (e : Same H H') : ∀ {vs : List (Str × V)} {ds : List (Str × D)}, FReps c H vs ds → FReps c H' vs ds
  | _, _, .nil => .nil
  | _, _, .cons h r => .cons (Rep.mono e h) (FReps.mono e r)
theorem KReps.mono (e : Same H H') : ∀ {xs : List (NestedKey × Addr × Value)} {kvs : List (NestedKey × D)}, KReps c H xs kvs → KReps c H' xs kvs
  | _, _, .nil => .nil
  | _, _, .cons h l q r s => .cons (Rep.mono e h) l q (Rep.mono e r) (KReps.mono e s)
end
theorem Reps.length : ∀ {vs : List V} {ds : List D}, Reps c H vs ds → vs.length = ds.length
  | _, _, .nil => rfl
  | _, _, .cons _ r => congrArg (· + 1) (Reps.length r)
theorem Reps.get : ∀ {vs : List V} {ds : List D} {i : Nat} {d : D}, Reps c H vs ds → ds[i]? = some d → ∃ v, vs[i]? = some v ∧ Rep c H v d
  | _, _, _, _, .nil, h => by simp at h
  | _, _, 0, _, .cons h _, e => by
    simp at e
    subst e
    exact ⟨_, rfl, h⟩
  | _, _, i + 1, _, .cons _ r, e => by
    obtain ⟨v, h1, h2⟩ := Reps.get (i := i) r (by simpa using e)
    exact ⟨v, by simpa using h1, h2⟩
theorem Reps.get' : ∀ {vs : List V} {ds : List D} {i : Nat} {v : V}, Reps c H vs ds → vs[i]? = some v → ∃ d, ds[i]? = some d ∧ Rep c H v d
  | _, _, _, _, .nil, h => by simp at h
  | _, _, 0, _, .cons h _, e => by
    simp at e
    subst e
    exact ⟨_, rfl, h⟩
  | _, _, i + 1, _, .cons _ r, e => by
    obtain ⟨v, h1, h2⟩ := Reps.get' (i := i) r (by simpa using e)
    exact ⟨v, by simpa using h1, h2⟩
theorem Reps.append : ∀ {vs ws : List V} {ds es : List D}, Reps c H vs ds → Reps c H ws es → Reps c H (vs ++ ws) (ds ++ es)
  | _, _, _, _, .nil, s => s
  | _, _, _, _, .cons h r, s => .cons h (Reps.append r s)
theorem Reps.take : ∀ {vs : List V} {ds : List D} (n : Nat), Reps c H vs ds → Reps c H (vs.take n) (ds.take n)
  | _, _, 0, _ => .nil
  | _, _, _ + 1, .nil => .nil
  | _, _, n + 1, .cons h r => .cons h (Reps.take n r)
theorem Reps.drop : ∀ {vs : List V} {ds : List D} (n : Nat), Reps c H vs ds → Reps c H (vs.drop n) (ds.drop n)
  | _, _, 0, r => r
  | _, _, _ + 1, .nil => .nil
  | _, _, n + 1, .cons _ r => Reps.drop n r
theorem FReps.lookup {f : Str} {d : D} : ∀ {vs : List (Str × V)} {ds : List (Str × D)}, FReps c H vs ds → ds.lookup f = some d → ∃ v, vs.lookup f = some v ∧ Rep c H v d
  | _, _, .nil, h => by cases h
  | _, _, .cons (f := g) h r, e => by
    rw [List.lookup_cons] at e ⊢
    cases q : f == g with
    | true =>
      rw [q] at e
      cases e
      exact ⟨_, rfl, h⟩
    | false =>
      rw [q] at e
      exact FReps.lookup r e
theorem FReps.lookup_none {f : Str} : ∀ {vs : List (Str × V)} {ds : List (Str × D)}, FReps c H vs ds → ds.lookup f = none → vs.lookup f = none
  | _, _, .nil, _ => rfl
  | _, _, .cons (f := g) h r, e => by
    rw [List.lookup_cons] at e ⊢
    cases q : f == g with
    | true =>
      rw [q] at e
      cases e
    | false =>
      rw [q] at e
      exact FReps.lookup_none r e
end

/-! ### trees of lists that one slot (or one value at hand) owns -/
inductive T where
  | leaf (d : D)
  | node (ts : List T)
mutual
def T.toD : T → D
  | .leaf d => d
  | .node ts => .lst (T.toDs ts)
def T.toDs : List T → List D
  | [] => []
  | t :: ts => t.toD :: T.toDs ts
end
theorem T.toDs_eq : ∀ ts : List T, T.toDs ts = ts.map T.toD
  | [] => rfl
  | t :: ts => by rw [T.toDs, T.toDs_eq ts]; rfl
mutual
/-- the lists of the tree stand at A, in H, and are not shared (not in S) -/
inductive Own (c : Ct) (S H : Hp) : List Addr → V → T → Prop
  | leaf {v : V} {d : D} : Rep c S v d → Own c S H [] v (.leaf d)
  | node {a : Addr} {A : List Addr} {vs : List V} {ts : List T} : H a = some (.lst vs) → S a = none → Owns c S H A vs ts → Own c S H (a :: A) (.ref a) (.node ts)
inductive Owns (c : Ct) (S H : Hp) : List Addr → List V → List T → Prop
  | nil : Owns c S H [] [] []
  | cons {A B : List Addr} {v : V} {t : T} {vs : List V} {ts : List T} : Own c S H A v t → Owns c S H B vs ts → Owns c S H (A ++ B) (v :: vs) (t :: ts)
end
section
variable {c : Ct} {S S' H H' : Hp}
/-- the cells A stay -/
def Keeps (A : List Addr) (S' H H' : Hp) : Prop := ∀ a ∈ A, H' a = H a ∧ S' a = none
theorem Keeps.sub {A B : List Addr} (k : Keeps B S' H H') (h : ∀ a ∈ A, a ∈ B) : Keeps A S' H H' := fun a ha => k a (h a ha)
mutual
theorem Own.mono (e : Same S S') : ∀ {A : List Addr} {v : V} {t : T}, Keeps A S' H H' → Own c S H A v t → Own c S' H' A v t
  | _, _, _, _, .leaf r => .leaf (r.mono e)
  | _, _, _, k, .node h n r => .node ((k _ List.mem_cons_self).1.trans h) (k _ List.mem_cons_self).2 (Owns.mono e (fun a ha => k a (List.mem_cons_of_mem _ ha)) r)
theorem Owns.mono (e : Same S S') : ∀ {A : List Addr} {vs : List V} {ts : List T}, Keeps A S' H H' → Owns c S H A vs ts → Owns c S' H' A vs ts
  | _, _, _, _, .nil => .nil
  | _, _, _, k, .cons h r => .cons (Own.mono e (fun a ha => k a (List.mem_append_left _ ha)) h) (Owns.mono e (fun a ha => k a (List.mem_append_right _ ha)) r)
end
mutual
theorem Own.alive : ∀ {A : List Addr} {v : V} {t : T}, Own c S H A v t → ∀ a ∈ A, (∃ vs, H a = some (.lst vs)) ∧ S a = none
  | _, _, _, .leaf _, a, ha => by cases ha
  | _, _, _, .node h n r, a, ha => by
    rcases List.mem_cons.mp ha with e | ha
    · subst e
      exact ⟨⟨_, h⟩, n⟩
    · exact Owns.alive r a ha
theorem Owns.alive : ∀ {A : List Addr} {vs : List V} {ts : List T}, Owns c S H A vs ts → ∀ a ∈ A, (∃ vs, H a = some (.lst vs)) ∧ S a = none
  | _, _, _, .nil, a, ha => by cases ha
  | _, _, _, .cons h r, a, ha => by
    rcases List.mem_append.mp ha with ha | ha
    · exact Own.alive h a ha
    · exact Owns.alive r a ha
end
theorem Own.live {A : List Addr} {v : V} {t : T} (h : Own c S H A v t) : ∀ a ∈ A, (∃ ob, H a = some ob) ∧ S a = none := fun a ha => ⟨let ⟨_, e⟩ := (h.alive a ha).1; ⟨_, e⟩, (h.alive a ha).2⟩
mutual
/-- read as plain data, in the heap as it stands -/
theorem Own.rep (e : Same S H) : ∀ {A : List Addr} {v : V} {t : T}, Own c S H A v t → Rep c H v t.toD
  | _, _, _, .leaf r => r.mono e
  | _, _, _, .node h n r => by
    rw [T.toD]
    exact .lst h (Owns.rep e r)
theorem Owns.rep (e : Same S H) : ∀ {A : List Addr} {vs : List V} {ts : List T}, Owns c S H A vs ts → Reps c H vs (T.toDs ts)
  | _, _, _, .nil => by rw [T.toDs]; exact .nil
  | _, _, _, .cons h r => by rw [T.toDs]; exact .cons (Own.rep e h) (Owns.rep e r)
end
/-- S and the cells A of H besides -/
def grab (S H : Hp) (A : List Addr) : Hp := fun b => if b ∈ A then H b else S b
theorem grab_in {A : List Addr} {a : Addr} (h : a ∈ A) : grab S H A a = H a := if_pos h
theorem grab_out {A : List Addr} {a : Addr} (h : a ∉ A) : grab S H A a = S a := if_neg h
theorem same_grab {A : List Addr} (h : ∀ a ∈ A, S a = none) : Same S (grab S H A) := fun b o e => by
  by_cases hb : b ∈ A
  · rw [h b hb] at e
    cases e
  · rw [grab_out hb]
    exact e
theorem grab_same {A : List Addr} (e : Same S H) : Same (grab S H A) H := fun b o h => by
  by_cases hb : b ∈ A
  · rw [grab_in hb] at h
    exact h
  · rw [grab_out hb] at h
    exact e b o h
mutual
theorem Own.grabbed {G : Hp} (e : Same S G) : ∀ {A : List Addr} {v : V} {t : T}, (∀ a ∈ A, G a = H a) → Own c S H A v t → Rep c G v t.toD
  | _, _, _, _, .leaf r => r.mono e
  | _, _, _, k, .node h n r => by
    rw [T.toD]
    exact .lst ((k _ List.mem_cons_self).trans h) (Owns.grabbed e (fun a ha => k a (List.mem_cons_of_mem _ ha)) r)
theorem Owns.grabbed {G : Hp} (e : Same S G) : ∀ {A : List Addr} {vs : List V} {ts : List T}, (∀ a ∈ A, G a = H a) → Owns c S H A vs ts → Reps c G vs (T.toDs ts)
  | _, _, _, _, .nil => by rw [T.toDs]; exact .nil
  | _, _, _, k, .cons h r => by
    rw [T.toDs]
    exact .cons (Own.grabbed e (fun a ha => k a (List.mem_append_left _ ha)) h) (Owns.grabbed e (fun a ha => k a (List.mem_append_right _ ha)) r)
end
theorem Owns.length : ∀ {A : List Addr} {vs : List V} {ts : List T}, Owns c S H A vs ts → vs.length = ts.length
  | _, _, _, .nil => rfl
  | _, _, _, .cons _ r => congrArg (· + 1) (Owns.length r)
theorem Owns.append : ∀ {A B : List Addr} {vs ws : List V} {ts us : List T}, Owns c S H A vs ts → Owns c S H B ws us → Owns c S H (A ++ B) (vs ++ ws) (ts ++ us)
  | _, _, _, _, _, _, .nil, s => s
  | _, _, _, _, _, _, .cons h r, s => by
    rw [List.append_assoc]
    exact .cons h (Owns.append r s)
theorem Owns.get : ∀ {A : List Addr} {vs : List V} {ts : List T} {i : Nat} {t : T}, Owns c S H A vs ts → ts[i]? = some t → ∃ v B, vs[i]? = some v ∧ Own c S H B v t ∧ ∀ a ∈ B, a ∈ A
  | _, _, _, _, _, .nil, h => by simp at h
  | _, _, _, 0, _, .cons h _, e => by
    simp at e
    subst e
    exact ⟨_, _, rfl, h, fun a ha => List.mem_append_left _ ha⟩
  | _, _, _, i + 1, _, .cons _ r, e => by
    obtain ⟨v, B, h1, h2, h3⟩ := Owns.get (i := i) r (by simpa using e)
    exact ⟨v, B, by simpa using h1, h2, fun a ha => List.mem_append_right _ (h3 a ha)⟩
theorem Owns.leaves : ∀ {vs : List V} {ds : List D}, Reps c S vs ds → Owns c S H [] vs (ds.map T.leaf)
  | _, _, .nil => .nil
  | _, _, .cons h r => by
    have q : Owns c S H ([] ++ []) _ (T.leaf _ :: _) := Owns.cons (.leaf h) (Owns.leaves r)
    exact q
end

/-! ### exceptions -/
/-- an exception: its class, its fields -/
structure Xc where
  C : Str
  fs : List (Str × D)
/-- how an exception lies -/
def XRep (c : Ct) (S H : Hp) (e : Value) (dx : Option Addr) (x : Xc) : Prop :=
  e = .ref (c.cl x.C) ∧ match x.fs with
    | [] => dx = none
    | fs => ∃ d vfs, dx = some d ∧ H d = some (.xd vfs) ∧ FReps c S vfs fs
/-- its dict is new -/
def FrX (H : Hp) (dx : Option Addr) : Prop := ∀ d, dx = some d → H d = none
theorem XRep.mono {c : Ct} {S S' H H' : Hp} {e : Value} {dx : Option Addr} {x : Xc} (h : Same S S') (g : Same H H') (r : XRep c S H e dx x) : XRep c S' H' e dx x := by
  obtain ⟨C, fs⟩ := x
  obtain ⟨h1, h2⟩ := r
  refine ⟨h1, ?_⟩
  cases fs with
  | nil => exact h2
  | cons p fs =>
    obtain ⟨d, vfs, q1, q2, q3⟩ := h2
    exact ⟨d, vfs, q1, g _ _ q2, q3.mono h⟩

/-! ### slots -/
/-- what a slot holds: nothing known; shared data; an owned tree; an owned tree that a loop walks -/
inductive SV where
  | no | sh (d : D) | own (ts : List T) | lk (ts : List T) | mk (C : Str) (fs : List (Str × D)) | dic (kvs : List (NestedKey × D)) | xc (z : Xc)
abbrev Env := List SV
inductive SRep (c : Ct) (S H : Hp) : List Addr → Option V → SV → Prop
  | no {o : Option V} : SRep c S H [] o .no
  | sh {v : V} {d : D} : Rep c S v d → SRep c S H [] (some v) (.sh d)
  | own {A : List Addr} {v : V} {ts : List T} : Own c S H A v (.node ts) → SRep c S H A (some v) (.own ts)
  | lk {A : List Addr} {v : V} {ts : List T} : Own c S H A v (.node ts) → SRep c S H A (some v) (.lk ts)
  | mk {x dx : Addr} {C : Str} {vfs : List (Str × V)} {fs : List (Str × D)} : H x = some (.ins (c.cl C) dx vfs) → S x = none → FReps c S vfs fs → SRep c S H [x] (some (.ref x)) (.mk C fs)
  | dic {d : Addr} {xs : List (NestedKey × Addr × Value)} {kvs : List (NestedKey × D)} : H d = some (dcO c d xs) → S d = none → KReps c S xs kvs → SRep c S H [d] (some (.ref d)) (.dic kvs)
  | xc {z : Xc} : XRep c S S c.xc c.xd z → SRep c S H [] (some (.ref c.xa)) (.xc z)
inductive Slots (c : Ct) (S H : Hp) : L2.St → Dl.Env → List Addr → Prop
  | nil : Slots c S H [] [] []
  | cons {A O : List Addr} {o : Option V} {v : SV} {σ : L2.St} {ρ : Dl.Env} : SRep c S H A o v → Slots c S H σ ρ O → Slots c S H (o :: σ) (v :: ρ) (A ++ O)
section
variable {c : Ct} {S S' H H' : Hp}
theorem SRep.mono (e : Same S S') {A : List Addr} {o : Option V} {v : SV} (k : Keeps A S' H H') (h : SRep c S H A o v) : SRep c S' H' A o v := by
  cases h with
  | no => exact .no
  | sh r => exact .sh (r.mono e)
  | own r => exact .own (r.mono e k)
  | lk r => exact .lk (r.mono e k)
  | mk h n r => exact .mk ((k _ List.mem_cons_self).1.trans h) (k _ List.mem_cons_self).2 (r.mono e)
  | dic h n r => exact .dic ((k _ List.mem_cons_self).1.trans h) (k _ List.mem_cons_self).2 (r.mono e)
  | xc r => exact .xc (r.mono e e)
theorem SRep.alive {A : List Addr} {o : Option V} {v : SV} (h : SRep c S H A o v) : ∀ a ∈ A, (∃ ob, H a = some ob) ∧ S a = none := by
  cases h with
  | no => exact fun a ha => by cases ha
  | sh r => exact fun a ha => by cases ha
  | own r => exact r.live
  | lk r => exact r.live
  | mk h n r =>
    intro a ha
    rw [List.mem_singleton.mp ha]
    exact ⟨⟨_, h⟩, n⟩
  | dic h n r =>
    intro a ha
    rw [List.mem_singleton.mp ha]
    exact ⟨⟨_, h⟩, n⟩
  | xc r => exact fun a ha => by cases ha
theorem Slots.mono (e : Same S S') : ∀ {σ : L2.St} {ρ : Dl.Env} {O : List Addr}, Keeps O S' H H' → Slots c S H σ ρ O → Slots c S' H' σ ρ O
  | _, _, _, _, .nil => .nil
  | _, _, _, k, .cons h r => .cons (h.mono e fun a ha => k a (List.mem_append_left _ ha)) (Slots.mono e (fun a ha => k a (List.mem_append_right _ ha)) r)
theorem Slots.alive : ∀ {σ : L2.St} {ρ : Dl.Env} {O : List Addr}, Slots c S H σ ρ O → ∀ a ∈ O, (∃ ob, H a = some ob) ∧ S a = none
  | _, _, _, .nil, a, ha => by cases ha
  | _, _, _, .cons h r, a, ha => by
    rcases List.mem_append.mp ha with ha | ha
    · exact h.alive a ha
    · exact Slots.alive r a ha
theorem Slots.length : ∀ {σ : L2.St} {ρ : Dl.Env} {O : List Addr}, Slots c S H σ ρ O → σ.length = ρ.length
  | _, _, _, .nil => rfl
  | _, _, _, .cons _ r => congrArg (· + 1) (Slots.length r)
/-- slot i: what it holds, and how it may be replaced -/
theorem Slots.at_ : ∀ {σ : L2.St} {ρ : Dl.Env} {O : List Addr} {i : Nat} {x : SV}, Slots c S H σ ρ O → O.Nodup → ρ[i]? = some x →
    ∃ A o, σ[i]? = some o ∧ SRep c S H A o x ∧ A.Nodup ∧ (∀ a ∈ A, a ∈ O) ∧
      ∀ (S' H' : Hp) (A' : List Addr) (o' : Option V) (x' : SV), Same S S' → (∀ a ∈ O, a ∉ A → H' a = H a ∧ S' a = none) → SRep c S' H' A' o' x' → A'.Nodup → (∀ a ∈ A', a ∈ O → a ∈ A) →
        ∃ O', Slots c S' H' (σ.set i o') (ρ.set i x') O' ∧ O'.Nodup ∧ (∀ a ∈ O', a ∈ A' ∨ (a ∈ O ∧ a ∉ A))
  | _, _, _, _, _, .nil, _, h => by simp at h
  | _, _, _, 0, _, .cons (A := A) (O := O) (o := o) h r, nd, e => by
    simp at e
    subst e
    obtain ⟨n1, n2, n3⟩ := List.nodup_append.mp nd
    refine ⟨A, o, rfl, h, n1, fun a ha => List.mem_append_left _ ha, fun S' H' A' o' x' es k h' nd' di => ?_⟩
    have hO : ∀ a ∈ O, a ∉ A := fun a ha hA => n3 a hA a ha rfl
    refine ⟨A' ++ O, .cons h' (r.mono es fun a ha => k a (List.mem_append_right _ ha) (hO a ha)), List.nodup_append.mpr ⟨nd', n2, fun a ha b hb e => ?_⟩, fun a ha => ?_⟩
    · subst e
      exact hO a hb (di a ha (List.mem_append_right _ hb))
    · rcases List.mem_append.mp ha with ha | ha
      · exact .inl ha
      · exact .inr ⟨List.mem_append_right _ ha, hO a ha⟩
  | _, _, _, i + 1, _, .cons (A := B) (O := O) (o := ob) h r, nd, e => by
    obtain ⟨n1, n2, n3⟩ := List.nodup_append.mp nd
    obtain ⟨A, o, q1, q2, q3, q4, q5⟩ := Slots.at_ (i := i) r n2 (by simpa using e)
    have hB : ∀ a ∈ B, a ∉ A := fun a ha hA => n3 a ha a (q4 a hA) rfl
    refine ⟨A, o, by simpa using q1, q2, q3, fun a ha => List.mem_append_right _ (q4 a ha), fun S' H' A' o' x' es k h' nd' di => ?_⟩
    obtain ⟨O', p1, p2, p3⟩ := q5 S' H' A' o' x' es (fun a ha hn => k a (List.mem_append_right _ ha) hn) h' nd' (fun a ha ho => di a ha (List.mem_append_right _ ho))
    refine ⟨B ++ O', .cons (h.mono es fun a ha => k a (List.mem_append_left _ ha) (hB a ha)) p1, List.nodup_append.mpr ⟨n1, p2, fun a ha b hb e => ?_⟩, fun a ha => ?_⟩
    · subst e
      rcases p3 a hb with z | z
      · exact hB a ha (di a z (List.mem_append_left _ ha))
      · exact n3 a ha a z.1 rfl
    · rcases List.mem_append.mp ha with ha | ha
      · exact .inr ⟨List.mem_append_left _ ha, hB a ha⟩
      · rcases p3 a ha with z | z
        · exact .inl z
        · exact .inr ⟨List.mem_append_right _ z.1, z.2⟩
end

/-! ### another exception handled: data stand as they stood -/
section
variable {c : Ct} {S H : Hp} {xa : Addr} {xd : Option Addr} {xc : Value}
mutual
theorem Rep.re : ∀ {v : V} {d : D}, Rep c H v d → Rep (c.re xa xd xc) H v d
  | _, _, .non => .non
  | _, _, .bl b => .bl b
  | _, _, .int i => .int i
  | _, _, .str s => .str s
  | _, _, .ty n => .ty n
  | _, _, .tup h r => .tup h (Reps.re r)
  | _, _, .lst h r => .lst h (Reps.re r)
  | _, _, .scr h => .scr h
  | _, _, .obj h r => .obj h (FReps.re r)
  | _, _, .dic h r => .dic h (KReps.re r)
theorem Reps.re : ∀ {vs : List V} {ds : List D}, Reps c H vs ds → Reps (c.re xa xd xc) H vs ds
  | _, _, .nil => .nil
  | _, _, .cons h r => .cons (Rep.re h) (Reps.re r)
theorem FReps.re : ∀ {vs : List (Str × V)} {ds : List (Str × D)}, FReps c H vs ds → FReps (c.re xa xd xc) H vs ds
  | _, _, .nil => .nil
  | _, _, .cons h r => .cons (Rep.re h) (FReps.re r)
theorem KReps.re : ∀ {xs : List (NestedKey × Addr × Value)} {kvs : List (NestedKey × D)}, KReps c H xs kvs → KReps (c.re xa xd xc) H xs kvs
  | _, _, .nil => .nil
  | _, _, .cons h l q r s => .cons (Rep.re h) l q (Rep.re r) (KReps.re s)
end
mutual
theorem Own.re : ∀ {A : List Addr} {v : V} {t : T}, Own c S H A v t → Own (c.re xa xd xc) S H A v t
  | _, _, _, .leaf r => .leaf r.re
  | _, _, _, .node h n r => .node h n (Owns.re r)
theorem Owns.re : ∀ {A : List Addr} {vs : List V} {ts : List T}, Owns c S H A vs ts → Owns (c.re xa xd xc) S H A vs ts
  | _, _, _, .nil => .nil
  | _, _, _, .cons h r => .cons (Own.re h) (Owns.re r)
end
theorem XRep.re {e : Value} {dx : Option Addr} {x : Xc} (r : XRep c S H e dx x) : XRep (c.re xa xd xc) S H e dx x := by
  obtain ⟨C, fs⟩ := x
  obtain ⟨h1, h2⟩ := r
  refine ⟨h1, ?_⟩
  cases fs with
  | nil => exact h2
  | cons p fs =>
    obtain ⟨d, vfs, q1, q2, q3⟩ := h2
    exact ⟨d, vfs, q1, q2, q3.re⟩
def SV.noXc : SV → Bool
  | .xc _ => false
  | _ => true
theorem SRep.re {A : List Addr} {o : Option V} {v : SV} (h : SRep c S H A o v) (n : v.noXc = true) : SRep (c.re xa xd xc) S H A o v := by
  cases h with
  | no => exact .no
  | sh r => exact .sh r.re
  | own r => exact .own r.re
  | lk r => exact .lk r.re
  | mk h m r => exact .mk h m r.re
  | dic h m r => exact .dic h m r.re
  | xc r => cases n
theorem Slots.re : ∀ {σ : L2.St} {ρ : Dl.Env} {O : List Addr}, Slots c S H σ ρ O → ρ.all SV.noXc = true → Slots (c.re xa xd xc) S H σ ρ O
  | _, _, _, .nil, _ => .nil
  | _, _, _, .cons h r, n => by
    rw [List.all_cons, Bool.and_eq_true] at n
    exact .cons (h.re n.1) (Slots.re r n.2)
end

/-! ### growth -/
/-- from (S, H) to (S', H'): all is kept; what is newly shared was not there -/
structure Gr (S H S' H' : Hp) : Prop where
  hh : Same H H'
  ss : Same S S'
  sub : Same S' H'
  new : ∀ a o, H a = some o → S a = none → S' a = none
section
variable {c : Ct} {S H S1 H1 S2 H2 : Hp}
theorem Gr.refl (e : Same S H) : Gr S H S H := ⟨Same.refl _, Same.refl _, e, fun _ _ _ h => h⟩
theorem Gr.trans (a : Gr S H S1 H1) (b : Gr S1 H1 S2 H2) : Gr S H S2 H2 :=
  ⟨a.hh.trans b.hh, a.ss.trans b.ss, b.sub, fun x o e n => b.new x o (a.hh x o e) (a.new x o e n)⟩
theorem Gr.keeps (g : Gr S H S1 H1) {A : List Addr} (al : ∀ a ∈ A, (∃ ob, H a = some ob) ∧ S a = none) : Keeps A S1 H H1 := fun a ha => by
  obtain ⟨⟨vs, e⟩, n⟩ := al a ha
  exact ⟨by rw [e]; exact g.hh a _ e, g.new a _ e n⟩
theorem Gr.own (g : Gr S H S1 H1) {A : List Addr} {v : V} {t : T} (h : Own c S H A v t) : Own c S1 H1 A v t := h.mono g.ss (g.keeps h.live)
theorem Gr.owns (g : Gr S H S1 H1) {A : List Addr} {vs : List V} {ts : List T} (h : Owns c S H A vs ts) : Owns c S1 H1 A vs ts := h.mono g.ss (g.keeps fun a ha => ⟨let ⟨vs, e⟩ := (h.alive a ha).1; ⟨_, e⟩, (h.alive a ha).2⟩)
/-- a new object, shared -/
theorem Gr.push (e : Same S H) {p : Addr} {o : HO} (hp : H p = none) : Gr S H (upd S p o) (upd H p o) := by
  have hs : S p = none := by
    cases q : S p with
    | none => rfl
    | some u =>
      rw [e p u q] at hp
      cases hp
  refine ⟨fun b u h => ?_, fun b u h => ?_, fun b u h => ?_, fun a u h n => ?_⟩
  · rw [upd_ne (ne_of_none h hp)]
    exact h
  · rw [upd_ne (ne_of_none h hs)]
    exact h
  · by_cases q : b = p
    · subst q
      rw [upd_same] at h ⊢
      exact h
    · rw [upd_ne q] at h ⊢
      exact e b u h
  · rw [upd_ne (ne_of_none h hp)]
    exact n
/-- a new object, owned -/
theorem Gr.pushO (e : Same S H) {p : Addr} {o : HO} (hp : H p = none) : Gr S H S (upd H p o) := by
  refine ⟨fun b u h => ?_, Same.refl _, fun b u h => ?_, fun a u h n => n⟩
  · rw [upd_ne (ne_of_none h hp)]
    exact h
  · rw [upd_ne (ne_of_none (e b u h) hp)]
    exact e b u h
/-- owned cells become shared -/
theorem Gr.grab (g : Gr S H S1 H1) {A : List Addr} (hA : ∀ a ∈ A, H a = none) (nA : ∀ a ∈ A, S1 a = none) : Gr S H (Dl.grab S1 H1 A) H1 := by
  refine ⟨g.hh, g.ss.trans (same_grab nA), grab_same g.sub, fun a o e n => ?_⟩
  have h : a ∉ A := fun z => by
    rw [hA a z] at e
    cases e
  rw [grab_out h]
  exact g.new a o e n
end

/-- the slots as they stand: σ and ρ over S, H -/
structure View (c : Ct) (S H : Hp) (σ : L2.St) (ρ : Dl.Env) (O : List Addr) : Prop where
  sub : Same S H
  sl : Slots c S H σ ρ O
  nd : O.Nodup
theorem View.gr {c : Ct} {S H S1 H1 : Hp} {σ : L2.St} {ρ : Dl.Env} {O : List Addr} (h : View c S H σ ρ O) (g : Gr S H S1 H1) : View c S1 H1 σ ρ O :=
  ⟨g.sub, h.sl.mono g.ss (g.keeps h.sl.alive), h.nd⟩
end Dl
set_option Elab.async false
set_option linter.all false
set_option maxRecDepth 100000
/-! DL2: results, expression values, readings, judgements; expressions. -/
namespace Dl
open PySem PySem.Spec PyProof.Rows L2

inductive Res (α : Type) where
  | ok (a : α) | exc (x : Xc) | stuck
def Res.bind {α β : Type} (r : Res α) (k : α → Res β) : Res β := match r with
  | .ok a => k a
  | .exc x => .exc x
  | .stuck => .stuck
instance : Monad Res where
  pure := .ok
  bind := Res.bind
section
variable {α β : Type}
@[simp] theorem Res.ok_bind (a : α) (k : α → Res β) : ((Res.ok a) >>= k) = k a := rfl
@[simp] theorem Res.exc_bind (x : Xc) (k : α → Res β) : ((Res.exc x) >>= k) = .exc x := rfl
@[simp] theorem Res.stuck_bind (k : α → Res β) : ((Res.stuck) >>= k) = .stuck := rfl
@[simp] theorem Res.ok_bind' (a : α) (k : α → Res β) : (Res.ok a).bind k = k a := rfl
@[simp] theorem Res.exc_bind' (x : Xc) (k : α → Res β) : (Res.exc x).bind k = .exc x := rfl
@[simp] theorem Res.stuck_bind' (k : α → Res β) : (Res.stuck).bind k = .stuck := rfl
@[simp] theorem Res.pure_eq (a : α) : (pure a : Res α) = .ok a := rfl
end
def ofOpt {α : Type} : Option α → Res α
  | some a => .ok a
  | none => .stuck

/-- an expression's value: shared data; a new list (its tree owned by nobody else); a list that a slot owns -/
inductive EV where
  | sh (d : D) | fr (ts : List T) | bo (ts : List T)
/-- as plain data -/
def EV.d : EV → D
  | .sh d => d
  | .fr ts => .lst (T.toDs ts)
  | .bo ts => .lst (T.toDs ts)
inductive EvRep (c : Ct) (S H : Hp) : List Addr → V → EV → Prop
  | sh {v : V} {d : D} : Rep c S v d → EvRep c S H [] v (.sh d)
  | fr {A : List Addr} {v : V} {ts : List T} : Own c S H A v (.node ts) → EvRep c S H A v (.fr ts)
  | bo {A : List Addr} {v : V} {ts : List T} : Own c S H A v (.node ts) → EvRep c S H [] v (.bo ts)
inductive EvsRep (c : Ct) (S H : Hp) : List Addr → List V → List EV → Prop
  | nil : EvsRep c S H [] [] []
  | cons {A B : List Addr} {v : V} {e : EV} {vs : List V} {es : List EV} : EvRep c S H A v e → EvsRep c S H B vs es → EvsRep c S H (A ++ B) (v :: vs) (e :: es)

/-- wishes about exceptions: with the shared part; with the slots -/
abbrev XS := Hp → XK
abbrev WS := L2.St → XK
section
variable {c : Ct} {S H S1 H1 S2 H2 : Hp} {E : XS}
theorem EvRep.rep (e : Same S H) {A : List Addr} {v : V} {x : EV} (h : EvRep c S H A v x) : Rep c H v x.d := by
  cases h with
  | sh r => exact r.mono e
  | fr r => simpa [EV.d, T.toD] using r.rep e
  | bo r => simpa [EV.d, T.toD] using r.rep e
theorem EvRep.gr (g : Gr S H S1 H1) {A : List Addr} {v : V} {x : EV} (h : EvRep c S H A v x) : EvRep c S1 H1 A v x := by
  cases h with
  | sh r => exact .sh (r.mono g.ss)
  | fr r => exact .fr (g.own r)
  | bo r => exact .bo (g.own r)
theorem EvRep.alive {A : List Addr} {v : V} {x : EV} (h : EvRep c S H A v x) : ∀ a ∈ A, (∃ vs, H a = some (.lst vs)) ∧ S a = none := by
  cases h with
  | sh r => exact fun a ha => by cases ha
  | fr r => exact r.alive
  | bo r => exact fun a ha => by cases ha
theorem EvRep.re {xa : Addr} {xd : Option Addr} {xc : Value} {A : List Addr} {v : V} {x : EV} (h : EvRep c S H A v x) : EvRep (c.re xa xd xc) S H A v x := by
  cases h with
  | sh r => exact .sh r.re
  | fr r => exact .fr r.re
  | bo r => exact .bo r.re
theorem EvsRep.gr (g : Gr S H S1 H1) : ∀ {A : List Addr} {vs : List V} {xs : List EV}, EvsRep c S H A vs xs → EvsRep c S1 H1 A vs xs
  | _, _, _, .nil => .nil
  | _, _, _, .cons h r => .cons (h.gr g) (EvsRep.gr g r)
theorem EvsRep.alive : ∀ {A : List Addr} {vs : List V} {xs : List EV}, EvsRep c S H A vs xs → ∀ a ∈ A, (∃ vs, H a = some (.lst vs)) ∧ S a = none
  | _, _, _, .nil, a, ha => by cases ha
  | _, _, _, .cons h r, a, ha => by
    rcases List.mem_append.mp ha with ha | ha
    · exact h.alive a ha
    · exact EvsRep.alive r a ha
theorem EvsRep.reps (e : Same S H) : ∀ {A : List Addr} {vs : List V} {xs : List EV}, EvsRep c S H A vs xs → Reps c H vs (xs.map EV.d)
  | _, _, _, .nil => .nil
  | _, _, _, .cons h r => .cons (h.rep e) (EvsRep.reps e r)

/-! ### what is wanted of a result, from (S, H) on -/
def Post (c : Ct) (E : XS) (S H : Hp) (r : Res EV) (Q : VK) : Prop := match r with
  | .ok x => ∀ (S' H' : Hp) (A : List Addr) (v : V), Gr S H S' H' → EvRep c S' H' A v x → A.Nodup → (∀ a ∈ A, H a = none) → Q v H'
  | .exc x => ∀ (S' H' : Hp) (e : Value) (dx : Option Addr), Gr S H S' H' → XRep c S' H' e dx x → FrX H dx → E S' e dx H'
  | .stuck => False
def PostA (c : Ct) (E : XS) (S H : Hp) (r : Res (List EV)) (Q : List V → Hp → Prop) : Prop := match r with
  | .ok xs => ∀ (S' H' : Hp) (A : List Addr) (vs : List V), Gr S H S' H' → EvsRep c S' H' A vs xs → A.Nodup → (∀ a ∈ A, H a = none) → Q vs H'
  | .exc x => ∀ (S' H' : Hp) (e : Value) (dx : Option Addr), Gr S H S' H' → XRep c S' H' e dx x → FrX H dx → E S' e dx H'
  | .stuck => False
def PostT (c : Ct) (E : XS) (S H : Hp) (r : Res Bool) (Q : Bool → Hp → Prop) : Prop := match r with
  | .ok b => ∀ (S' H' : Hp), Gr S H S' H' → Q b H'
  | .exc x => ∀ (S' H' : Hp) (e : Value) (dx : Option Addr), Gr S H S' H' → XRep c S' H' e dx x → FrX H dx → E S' e dx H'
  | .stuck => False
/-- what is wished for where an expression raises: at all slots that are as told -/
def xs (c : Ct) (E : WS) (ρ : Dl.Env) (O : List Addr) : XS := fun S' e dx H' => ∀ σ', Slots c S' H' σ' ρ O → E σ' e dx H'
/-- the readings -/
def rE (c : Ct) (E : WS) (f : Dl.Env → Res EV) : TE := fun σ H Q => ∃ S ρ O, View c S H σ ρ O ∧ Post c (xs c E ρ O) S H (f ρ) Q
def rA (c : Ct) (E : WS) (f : Dl.Env → Res (List EV)) : TA := fun σ H Q => ∃ S ρ O, View c S H σ ρ O ∧ PostA c (xs c E ρ O) S H (f ρ) Q
def rT (c : Ct) (E : WS) (f : Dl.Env → Res Bool) : TT := fun σ H Q => ∃ S ρ O, View c S H σ ρ O ∧ PostT c (xs c E ρ O) S H (f ρ) Q
end
/-- what X's handled exception is -/
def hxOf (X : Cx) : Addr × Option Addr × Value := match X.calm, X.pn with
  | false, p :: _ => (p.1, p.2.dict, p.2.cls)
  | _, _ => (0, none, .none)
abbrev ct0 (X : Cx) : Ct := ⟨X.prog, X.w, X.K, X.mg, 0, none, .none⟩
abbrev ctOf (X : Cx) : Ct := (ct0 X).re (hxOf X).1 (hxOf X).2.1 (hxOf X).2.2
theorem hxOf_calm {X : Cx} (h : X.calm = true) : hxOf X = (0, none, .none) := by
  unfold hxOf
  rw [h]
theorem ctOf_calm {X : Cx} (h : X.calm = true) : ctOf X = ct0 X := by
  unfold ctOf
  rw [hxOf_calm h]
  rfl
def DE (X : Cx) (E : WS) (e : Expr) (f : Dl.Env → Res EV) : Prop := PE X e (rE (ctOf X) E f)
def DA (X : Cx) (E : WS) (es : List Expr) (f : Dl.Env → Res (List EV)) : Prop := PA X es (rA (ctOf X) E f)
def DT (X : Cx) (E : WS) (e : Expr) (f : Dl.Env → Res Bool) : Prop := PT X e (rT (ctOf X) E f)

theorem pe_imp {X : Cx} {e : Expr} {t t' : TE} (h : PE X e t) (i : ∀ σ H Q, t' σ H Q → t σ H Q) : PE X e t' := ⟨fun pins s σ H Q I z => h.run pins s σ H Q I (i σ H Q z)⟩
theorem pt_imp {X : Cx} {e : Expr} {t t' : TT} (h : PT X e t) (i : ∀ σ H Q, t' σ H Q → t σ H Q) : PT X e t' := ⟨fun pins s σ H Q I z => h.run pins s σ H Q I (i σ H Q z)⟩
theorem pw_imp {X : Cx} {e : Expr} {t t' : TT} (h : PW X e t) (i : ∀ σ H Q, t' σ H Q → t σ H Q) : PW X e t' := ⟨fun wh pins s σ H Q I z => h.run wh pins s σ H Q I (i σ H Q z)⟩
theorem pa_imp {X : Cx} {e : List Expr} {t t' : TA} (h : PA X e t) (i : ∀ σ H Q, t' σ H Q → t σ H Q) : PA X e t' := ⟨fun p pins s σ H Q I z => h.run p pins s σ H Q I (i σ H Q z)⟩

section
variable {c : Ct} {E : XS} {S H S1 H1 : Hp}
/-- an exception, a stuck result: whatever is wanted of the value -/
theorem Post.exc {x : Xc} {Q Q' : VK} (h : Post c E S H (.exc x) Q) : Post c E S H (.exc x) Q' := h
theorem Post.sh {d : D} {v : V} {Q : VK} (h : Post c E S H (.ok (.sh d)) Q) (g : Gr S H S1 H1) (r : Rep c S1 v d) : Q v H1 :=
  h S1 H1 [] v g (.sh r) List.nodup_nil fun _ z => by cases z
/-- first one expression, then what follows -/
theorem Post.fst {r : Res EV} {k : EV → Res EV} {Q Q1 : VK} (h : Post c E S H (r.bind k) Q)
    (go : ∀ x, r = .ok x → Post c E S H (k x) Q → ∀ S1 H1 A v, Gr S H S1 H1 → EvRep c S1 H1 A v x → A.Nodup → (∀ a ∈ A, H a = none) → Q1 v H1) : Post c E S H r Q1 := by
  cases r with
  | ok x => exact fun S1 H1 A v g re nd fr => go x rfl h S1 H1 A v g re nd fr
  | exc x => exact h
  | stuck => exact h
theorem Post.later {r : Res EV} {Q : VK} (h : Post c E S H r Q) (g : Gr S H S1 H1) : Post c E S1 H1 r Q := by
  cases r with
  | ok x => exact fun S2 H2 A v g2 re nd fr => h S2 H2 A v (g.trans g2) re nd fun a ha => g.hh.free (fr a ha)
  | exc x => exact fun S2 H2 e dx g2 z f => h S2 H2 e dx (g.trans g2) z fun d e => g.hh.free (f d e)
  | stuck => exact h
theorem PostA.later {r : Res (List EV)} {Q : List V → Hp → Prop} (h : PostA c E S H r Q) (g : Gr S H S1 H1) : PostA c E S1 H1 r Q := by
  cases r with
  | ok x => exact fun S2 H2 A v g2 re nd fr => h S2 H2 A v (g.trans g2) re nd fun a ha => g.hh.free (fr a ha)
  | exc x => exact fun S2 H2 e dx g2 z f => h S2 H2 e dx (g.trans g2) z fun d e => g.hh.free (f d e)
  | stuck => exact h
theorem PostT.later {r : Res Bool} {Q : Bool → Hp → Prop} (h : PostT c E S H r Q) (g : Gr S H S1 H1) : PostT c E S1 H1 r Q := by
  cases r with
  | ok x => exact fun S2 H2 g2 => h S2 H2 (g.trans g2)
  | exc x => exact fun S2 H2 e dx g2 z f => h S2 H2 e dx (g.trans g2) z fun d e => g.hh.free (f d e)
  | stuck => exact h
/-- a new tuple of shared things -/
theorem Post.tup {ds : List D} {vs : List V} {Q : VK} {p : Addr} (h : Post c E S H (.ok (.sh (.tup ds))) Q) (g : Gr S H S1 H1) (r : Reps c S1 vs ds) (o : Obj) (ho : o.dict = none) (hp : H1 p = none) : Q (.ref p) (upd H1 p (.frz o (.tup vs))) := by
  have g1 : Gr S1 H1 (upd S1 p (.frz o (.tup vs))) (upd H1 p (.frz o (.tup vs))) := Gr.push g.sub hp
  exact h.sh (g.trans g1) (.tup (.inl ⟨o, upd_same, ho⟩) (r.mono g1.ss))
/-- a new list -/
theorem Post.lst {ts : List T} {A : List Addr} {vs : List V} {Q : VK} {p : Addr} (h : Post c E S H (.ok (.fr ts)) Q) (g : Gr S H S1 H1) (r : Owns c S1 H1 A vs ts) (nd : A.Nodup) (fr : ∀ a ∈ A, H a = none) (hp : H1 p = none) :
    Q (.ref p) (upd H1 p (.lst vs)) := by
  have g1 : Gr S1 H1 S1 (upd H1 p (.lst vs)) := Gr.pushO g.sub hp
  refine h S1 _ (p :: A) _ (g.trans g1) (.fr (.node upd_same (g.sub.free hp) (g1.owns r))) ?_ ?_
  · refine List.nodup_cons.mpr ⟨fun z => ?_, nd⟩
    obtain ⟨⟨_, e⟩, _⟩ := r.alive p z
    rw [hp] at e
    cases e
  · intro a ha
    rcases List.mem_cons.mp ha with e | ha
    · subst e
      exact g.hh.free hp
    · exact fr a ha
end

/-! ### names, constants -/
def dVar (i : Nat) : Dl.Env → Res EV := fun ρ => match ρ[i]? with
  | some (.sh d) => .ok (.sh d)
  | some (.own ts) => .ok (.bo ts)
  | some (.lk ts) => .ok (.bo ts)
  | _ => .stuck
def dC (d : D) : Dl.Env → Res EV := fun _ => .ok (.sh d)
section
variable {X : Cx} {E : WS} {pos : Pos}
theorem de_var (i : Nat) {x : Str} {pos : Pos} (hN : X.N[i]? = some x := by rfl) (hv : Vis X.env.scope x := by first | exact Or.inl rfl | exact Or.inr (Or.inl rfl) | exact Or.inr (Or.inr rfl)) (hd : (x == ("__debug__" : Str)) = false := by decide)
    (hcd : (x == ("__classdict__" : Str)) = false := by decide) : DE X E (.Name x pos) (dVar i) := by
  refine pe_imp (pe_var (i := i) hN hv hd hcd) fun σ H Q h => ?_
  obtain ⟨S, ρ, O, V, h⟩ := h
  unfold dVar at h
  cases e : ρ[i]? with
  | none =>
    rw [e] at h
    exact h.elim
  | some x =>
    obtain ⟨A, o, q1, q2, q3, q4, _⟩ := V.sl.at_ V.nd e
    rw [e] at h
    cases q2 with
    | no => exact h.elim
    | sh r => exact ⟨_, q1, h.sh (Gr.refl V.sub) r⟩
    | own r => exact ⟨_, q1, h S H [] _ (Gr.refl V.sub) (.bo r) List.nodup_nil fun _ z => by cases z⟩
    | lk r => exact ⟨_, q1, h S H [] _ (Gr.refl V.sub) (.bo r) List.nodup_nil fun _ z => by cases z⟩
    | mk _ _ _ => exact h.elim
    | dic _ _ _ => exact h.elim
    | xc _ => exact h.elim
theorem de_c {e : Expr} {v : V} {d : D} (h : PE X e (tC v)) (r : ∀ c H, Rep c H v d) : DE X E e (dC d) := by
  refine pe_imp h fun σ H Q h => ?_
  obtain ⟨S, ρ, O, V, h⟩ := h
  exact h.sh (Gr.refl V.sub) (r _ _)
theorem de_int {i j pos} : DE X E (.Constant (.int i) j pos) (dC (.int i)) := de_c pe_int fun _ _ => .int i
theorem de_bl {b j pos} : DE X E (.Constant (.bool b) j pos) (dC (.bl b)) := de_c pe_bl fun _ _ => .bl b
theorem de_non {j pos} : DE X E (.Constant .none j pos) (dC .non) := de_c pe_non fun _ _ => .non
theorem de_str {s j pos} : DE X E (.Constant (.str s) j pos) (dC (.str s)) := de_c pe_str fun _ _ => .str s
end

/-! ### two operands -/
/-- an operation's rule r does what g says -/
def OpS (c : Ct) (r : R2) (g : EV → EV → Res EV) : Prop := ∀ (E : XS) (S H S1 H1 : Hp) (A B : List Addr) (x y : V) (a b : EV) (Q : VK), Gr S H S1 H1 → EvRep c S1 H1 A x a → EvRep c S1 H1 B y b → (A ++ B).Nodup → (∀ u ∈ A ++ B, H u = none) →
  (∀ z, g a b ≠ .exc z) → Post c E S H (g a b) Q → r x y H1 Q
def d2 (g : EV → EV → Res EV) (f1 f2 : Dl.Env → Res EV) : Dl.Env → Res EV := fun ρ => (f1 ρ).bind fun a => (f2 ρ).bind fun b => g a b
section
variable {X : Cx} {E : WS} {pos : Pos} {a b : Expr} {f1 f2 : Dl.Env → Res EV} {g : EV → EV → Res EV} {r : R2}
theorem two {c : Ct} (hs : OpS c r g) (ne : ∀ a b z, g a b ≠ .exc z) {σ : L2.St} {H : Hp} {Q : VK} (h : rE c E (d2 g f1 f2) σ H Q) : tOp r (rE c E f1) (rE c E f2) σ H Q := by
  obtain ⟨S, ρ, O, V, h⟩ := h
  refine ⟨S, ρ, O, V, Post.fst h fun x e1 h1 S1 H1 A v g1 r1 n1 fr1 => ?_⟩
  refine ⟨S1, ρ, O, V.gr g1, Post.fst (h1.later g1) fun y e2 _ S2 H2 B w g2 r2 n2 fr2 => ?_⟩
  have h3 : Post c (xs c E ρ O) S H (g x y) Q := by
    have z := h1
    rw [e2] at z
    exact z
  have r1' := r1.gr g2
  refine hs _ S H S2 H2 A B v w x y Q (g1.trans g2) r1' r2 (List.nodup_append.mpr ⟨n1, n2, fun u hu t ht q => ?_⟩) (fun u hu => ?_) (ne x y) h3
  · subst q
    obtain ⟨⟨_, e⟩, _⟩ := r1.alive u hu
    rw [fr2 u ht] at e
    cases e
  · rcases List.mem_append.mp hu with hu | hu
    · exact fr1 u hu
    · exact g1.hh.free (fr2 u hu)
theorem de_op {op : Operator} (ho : OpR X (binaryOp op) r) (hs : OpS (ctOf X) r g) (ne : ∀ a b z, g a b ≠ .exc z) (ha : DE X E a f1) (hb : DE X E b f2) : DE X E (.BinOp a op b pos) (d2 g f1 f2) :=
  pe_imp (pe_op ho ha hb) fun _ _ _ h => two hs ne h
theorem de_cmp {op : CmpOp} (ho : OpR X (compareOp op) r) (hs : OpS (ctOf X) r g) (ne : ∀ a b z, g a b ≠ .exc z) (ha : DE X E a f1) (hb : DE X E b f2) (hm : behindInMarks op b = false) : DE X E (.Compare a [op] [b] pos) (d2 g f1 f2) :=
  pe_imp (pe_cmpR ho ha hb hm) fun _ _ _ h => two hs ne h
theorem de_ix (ho : IxR X r) (hs : OpS (ctOf X) r g) (ne : ∀ a b z, g a b ≠ .exc z) (ha : DE X E a f1) (hb : DE X E b f2) (hp : PlainIx b) : DE X E (.Subscript a b pos) (d2 g f1 f2) :=
  pe_imp (pe_ix ho ha hb hp) fun _ _ _ h => two hs ne h
end
theorem OpR.or {X : Cx} {f : Value → Value → Sem Value} {r r' : R2} (h : OpR X f r) (h' : OpR X f r') : OpR X f (fun x y H Q => r x y H Q ∨ r' x y H Q) := by
  intro pins s σ H x y v u Q I rx ry q
  rcases q with q | q
  · exact h pins s σ H x y v u Q I rx ry q
  · exact h' pins s σ H x y v u Q I rx ry q
end Dl
set_option Elab.async false
set_option linter.all false
set_option maxRecDepth 100000
/-! DL3: operators. -/
namespace Dl
open PySem PySem.Spec PyProof.Rows L2

/-! ### data as the library's data -/
mutual
def D.py : D → Option PyData
  | .non => some .none
  | .bl b => some (.bool b)
  | .int i => some (.int i)
  | .str s => some (.str s)
  | .tup ds => (D.pys ds).map .tuple
  | .lst ds => (D.pys ds).map .list
  | .scr ns => some (.list (ns.map .int))
  | .ty _ => none
  | .obj _ _ => none
  | .dic _ => none
def D.pys : List D → Option (List PyData)
  | [] => some []
  | d :: ds => match d.py, D.pys ds with
    | some p, some ps => some (p :: ps)
    | _, _ => none
end
section
variable {c : Ct} {H : Hp}
theorem dp_ints : ∀ ns : List Int, DpAll c.K H (ns.map V.int) (ns.map PyData.int)
  | [] => .nil
  | n :: ns => .cons (.int n) (dp_ints ns)
mutual
theorem Rep.dp : ∀ {v : V} {d : D} {p : PyData}, Rep c H v d → d.py = some p → Dp c.K H v p
  | _, _, _, .non, e => by cases e; exact .non
  | _, _, _, .bl b, e => by cases e; exact .bl b
  | _, _, _, .int i, e => by cases e; exact .int i
  | _, _, _, .str s, e => by cases e; exact .str s
  | _, _, _, .ty n, e => by cases e
  | _, _, _, .tup (ds := ds) h r, e => by
    rw [D.py] at e
    cases q : D.pys ds with
    | none => rw [q] at e; cases e
    | some ps =>
      rw [q] at e
      cases e
      exact .tup h.sq (Reps.dp r q)
  | _, _, _, .lst (ds := ds) h r, e => by
    rw [D.py] at e
    cases q : D.pys ds with
    | none => rw [q] at e; cases e
    | some ps =>
      rw [q] at e
      cases e
      exact .lst (SqL.of h) (Reps.dp r q)
  | _, _, _, .scr (ns := ns) h, e => by
    cases e
    exact .lst h (dp_ints ns)
  | _, _, _, .obj h r, e => by cases e
  | _, _, _, .dic h r, e => by cases e
theorem Reps.dp : ∀ {vs : List V} {ds : List D} {ps : List PyData}, Reps c H vs ds → D.pys ds = some ps → DpAll c.K H vs ps
  | _, _, _, .nil, e => by cases e; exact .nil
  | _, _, _, .cons (d := d) (ds := ds) h r, e => by
    rw [D.pys] at e
    cases q1 : d.py with
    | none => rw [q1] at e; cases e
    | some p =>
      cases q2 : D.pys ds with
      | none => rw [q1, q2] at e; cases e
      | some ps =>
        rw [q1, q2] at e
        cases e
        exact .cons (Rep.dp h q1) (Reps.dp r q2)
end
end

/-! ### results that are no objects -/
/-- the value of data that is no object -/
def D.at? : D → Option V
  | .non => some .non
  | .bl b => some (.bl b)
  | .int i => some (.int i)
  | .str s => some (.str s)
  | .ty n => some (.ty n)
  | _ => none
theorem D.at_rep {d : D} {v : V} (h : d.at? = some v) (c : Ct) (H : Hp) : Rep c H v d := by
  cases d <;> first | (cases h; constructor) | cases h
/-- g by the plain data of its operands, its result no object -/
def gF (g : D → D → Option D) (a b : EV) : Res EV := match g a.d b.d with
  | some z => .ok (.sh z)
  | none => .stuck
theorem gF_ne (g : D → D → Option D) (a b : EV) (z : Xc) : gF g a b ≠ .exc z := by
  unfold gF
  split <;> exact fun h => by cases h
theorem opS_flat {c : Ct} {r : R2} {g : D → D → Option D} (h : ∀ (H : Hp) (x y : V) (a b z : D) (Q : VK), Rep c H x a → Rep c H y b → g a b = some z → (∀ v, z.at? = some v → Q v H) → r x y H Q) : OpS c r (gF g) := by
  intro E S H S1 H1 A B x y a b Q g1 ra rb _ _ _ p
  unfold gF at p
  cases e : g a.d b.d with
  | none =>
    rw [e] at p
    exact p.elim
  | some z =>
    rw [e] at p
    exact h H1 x y a.d b.d z Q (ra.rep g1.sub) (rb.rep g1.sub) e fun v hv => p.sh g1 (D.at_rep hv c S1)

/-! ### ints -/
def iI (f : Int → Int → Option D) (a b : D) : Option D := match a, b with
  | .int i, .int j => f i j
  | _, _ => none
theorem opS_int {c : Ct} {r : R2} {f : Int → Int → Option D} (h : ∀ (H : Hp) (i j : Int) (z : D) (Q : VK), f i j = some z → (∀ v, z.at? = some v → Q v H) → r (.int i) (.int j) H Q) : OpS c r (gF (iI f)) := opS_flat fun H x y a b z Q ra rb e q => by
  cases ra with
  | int i =>
    cases rb with
    | int j => exact h H i j z Q e q
    | _ => cases e
  | _ => cases e
def gSub : EV → EV → Res EV := gF (iI fun i j => some (.int (i - j)))
theorem s_sub {c : Ct} : OpS c (rI0 fun i j => .int (i - j)) gSub := opS_int fun H i j z Q e q => by
  cases e
  exact ⟨i, j, rfl, rfl, q _ rfl⟩
def gMod : EV → EV → Res EV := gF (iI fun i j => if 0 < j then some (.int (i % j)) else none)
theorem s_mod {c : Ct} : OpS c (rI (fun _ j => 0 < j) fun i j => .int (i % j)) gMod := opS_int fun H i j z Q e q => by
  by_cases hj : 0 < j
  · simp only [if_pos hj] at e
    cases e
    exact ⟨i, j, rfl, rfl, hj, q _ rfl⟩
  · simp only [if_neg hj] at e
    cases e
def gFdv : EV → EV → Res EV := gF (iI fun i j => if 0 < j ∧ j < 1073741824 then some (.int (i / j)) else none)
theorem s_fdv {c : Ct} : OpS c (rI CDiv fun i j => .int (i / j)) gFdv := opS_int fun H i j z Q e q => by
  by_cases hj : 0 < j ∧ j < 1073741824
  · simp only [if_pos hj] at e
    cases e
    exact ⟨i, j, rfl, rfl, hj, q _ rfl⟩
  · simp only [if_neg hj] at e
    cases e
def gPow : EV → EV → Res EV := gF (iI fun i j => if 0 ≤ j ∧ j ≤ 1000000 ∧ i.natAbs < 18446744073709551616 then some (.int (i ^ j.toNat)) else none)
theorem s_pow {c : Ct} : OpS c (rI CPow fun i j => .int (i ^ j.toNat)) gPow := opS_int fun H i j z Q e q => by
  by_cases hj : 0 ≤ j ∧ j ≤ 1000000 ∧ i.natAbs < 18446744073709551616
  · simp only [if_pos hj] at e
    cases e
    exact ⟨i, j, rfl, rfl, hj, q _ rfl⟩
  · simp only [if_neg hj] at e
    cases e
def gLt : EV → EV → Res EV := gF (iI fun i j => some (.bl (decide (i < j))))
def gLe : EV → EV → Res EV := gF (iI fun i j => some (.bl (decide (i ≤ j))))
def gGt : EV → EV → Res EV := gF (iI fun i j => some (.bl (decide (j < i))))
def gGe : EV → EV → Res EV := gF (iI fun i j => some (.bl (decide (j ≤ i))))
theorem s_lt {c : Ct} : OpS c (rI0 fun i j => .bl (decide (i < j))) gLt := opS_int fun H i j z Q e q => by
  cases e
  exact ⟨i, j, rfl, rfl, q _ rfl⟩
theorem s_le {c : Ct} : OpS c (rI0 fun i j => .bl (decide (i ≤ j))) gLe := opS_int fun H i j z Q e q => by
  cases e
  exact ⟨i, j, rfl, rfl, q _ rfl⟩
theorem s_gt {c : Ct} : OpS c (rI0 fun i j => .bl (decide (j < i))) gGt := opS_int fun H i j z Q e q => by
  cases e
  exact ⟨i, j, rfl, rfl, q _ rfl⟩
theorem s_ge {c : Ct} : OpS c (rI0 fun i j => .bl (decide (j ≤ i))) gGe := opS_int fun H i j z Q e q => by
  cases e
  exact ⟨i, j, rfl, rfl, q _ rfl⟩
section
variable {X : Cx} {E : WS} {pos : Pos} {a b : Expr} {f1 f2 : Dl.Env → Res EV}
theorem de_sub (ha : DE X E a f1) (hb : DE X E b f2) : DE X E (.BinOp a .Sub b pos) (d2 gSub f1 f2) := de_op op_sub s_sub (fun _ _ => gF_ne _ _ _) ha hb
theorem de_mod (ha : DE X E a f1) (hb : DE X E b f2) : DE X E (.BinOp a .Mod b pos) (d2 gMod f1 f2) := de_op op_mod s_mod (fun _ _ => gF_ne _ _ _) ha hb
theorem de_fdv (ha : DE X E a f1) (hb : DE X E b f2) : DE X E (.BinOp a .FloorDiv b pos) (d2 gFdv f1 f2) := de_op op_fdiv s_fdv (fun _ _ => gF_ne _ _ _) ha hb
theorem de_pow (ha : DE X E a f1) (hb : DE X E b f2) : DE X E (.BinOp a .Pow b pos) (d2 gPow f1 f2) := de_op op_pow s_pow (fun _ _ => gF_ne _ _ _) ha hb
theorem de_lt (ha : DE X E a f1) (hb : DE X E b f2) : DE X E (.Compare a [.Lt] [b] pos) (d2 gLt f1 f2) := de_cmp op_lt s_lt (fun _ _ => gF_ne _ _ _) ha hb (nomark _)
theorem de_le (ha : DE X E a f1) (hb : DE X E b f2) : DE X E (.Compare a [.LtE] [b] pos) (d2 gLe f1 f2) := de_cmp op_le s_le (fun _ _ => gF_ne _ _ _) ha hb (nomark _)
theorem de_gt (ha : DE X E a f1) (hb : DE X E b f2) : DE X E (.Compare a [.Gt] [b] pos) (d2 gGt f1 f2) := de_cmp op_gt s_gt (fun _ _ => gF_ne _ _ _) ha hb (nomark _)
theorem de_ge (ha : DE X E a f1) (hb : DE X E b f2) : DE X E (.Compare a [.GtE] [b] pos) (d2 gGe f1 f2) := de_cmp op_ge s_ge (fun _ _ => gF_ne _ _ _) ha hb (nomark _)
end

/-! ### the items of a list as shared data -/
def T.leaf? : T → Option D
  | .leaf d => some d
  | .node _ => none
def leaves? : List T → Option (List D)
  | [] => some []
  | .leaf d :: ts => (leaves? ts).map (d :: ·)
  | .node _ :: _ => none
theorem leaves_map : ∀ ds : List D, leaves? (ds.map T.leaf) = some ds
  | [] => rfl
  | d :: ds => by rw [List.map_cons, leaves?, leaves_map ds]; rfl
/-- of a list -/
def EV.lvs : EV → Option (List D)
  | .sh (.lst ds) => some ds
  | .fr ts => some (T.toDs ts)
  | .bo ts => leaves? ts
  | _ => none
theorem toDs_leaves : ∀ ds : List D, T.toDs (ds.map T.leaf) = ds
  | [] => rfl
  | d :: ds => by rw [List.map_cons, T.toDs, toDs_leaves ds]; rfl
section
variable {c : Ct} {S H S1 H1 : Hp}
theorem leaves_reps : ∀ {A : List Addr} {vs : List V} {ts : List T} {ds : List D}, Owns c S H A vs ts → leaves? ts = some ds → Reps c S vs ds
  | _, _, _, _, .nil, e => by cases e; exact .nil
  | _, _, _, _, .cons (t := .node _) h r, e => by cases e
  | _, _, _, _, .cons (t := .leaf d) (ts := ts) h r, e => by
    rw [leaves?] at e
    cases q : leaves? ts with
    | none => rw [q] at e; cases e
    | some es =>
      rw [q] at e
      cases e
      cases h with
      | leaf z => exact .cons z (leaves_reps r q)
/-- a list's items, shared over a grown S; x's own lists are given away -/
theorem EvRep.items {A : List Addr} {v : V} {x : EV} {ds : List D} (h : EvRep c S1 H1 A v x) (g : Gr S H S1 H1) (fr : ∀ u ∈ A, H u = none) (e : x.lvs = some ds) :
    ∃ a vs, v = .ref a ∧ H1 a = some (.lst vs) ∧ Reps c (grab S1 H1 A) vs ds := by
  cases h with
  | sh r =>
    cases r with
    | lst ha r =>
      cases e
      exact ⟨_, _, rfl, g.sub _ _ ha, r.mono (same_grab fun a z => by cases z)⟩
    | _ => cases e
  | fr r =>
    cases e
    cases r with
    | node ha n r =>
      rename_i a B vs
      have z : Reps c (grab S1 H1 (a :: B)) vs (T.toDs _) := Owns.grabbed (same_grab fun u hu => by
        rcases List.mem_cons.mp hu with q | q
        · rw [q]; exact n
        · exact (r.alive u q).2) (fun u hu => grab_in (List.mem_cons_of_mem _ hu)) r
      exact ⟨_, _, rfl, ha, z⟩
  | bo r =>
    cases r with
    | node ha n r => exact ⟨_, _, rfl, ha, (leaves_reps r e).mono (same_grab fun a z => by cases z)⟩
theorem EvRep.gone {A : List Addr} {v : V} {x : EV} (h : EvRep c S1 H1 A v x) (g : Gr S H S1 H1) (fr : ∀ u ∈ A, H u = none) : Gr S H (grab S1 H1 A) H1 := g.grab fr fun a ha => (h.alive a ha).2
theorem grab_app {A B : List Addr} : grab (grab S H A) H B = grab S H (A ++ B) := by
  funext b
  by_cases h1 : b ∈ B
  · rw [grab_in h1, grab_in (List.mem_append_right _ h1)]
  · rw [grab_out h1]
    by_cases h2 : b ∈ A
    · rw [grab_in h2, grab_in (List.mem_append_left _ h2)]
    · rw [grab_out h2, grab_out (fun z => (List.mem_append.mp z).elim h2 h1)]
theorem same_grab_l {A B : List Addr} (nB : ∀ a ∈ B, S a = none) : Same (grab S H A) (grab S H (A ++ B)) := fun b o e => by
  by_cases h2 : b ∈ A
  · rw [grab_in (List.mem_append_left _ h2)]
    rw [grab_in h2] at e
    exact e
  · rw [grab_out h2] at e
    by_cases h1 : b ∈ B
    · rw [nB b h1] at e
      cases e
    · rw [grab_out (fun z => (List.mem_append.mp z).elim h2 h1)]
      exact e
theorem same_grab_r {A B : List Addr} (nA : ∀ a ∈ A, S a = none) : Same (grab S H B) (grab S H (A ++ B)) := fun b o e => by
  by_cases h2 : b ∈ B
  · rw [grab_in (List.mem_append_right _ h2)]
    rw [grab_in h2] at e
    exact e
  · rw [grab_out h2] at e
    by_cases h1 : b ∈ A
    · rw [nA b h1] at e
      cases e
    · rw [grab_out (fun z => (List.mem_append.mp z).elim h1 h2)]
      exact e
end

/-! ### + -/
def gAdd (a b : EV) : Res EV := match a, b with
  | .sh (.int i), .sh (.int j) => .ok (.sh (.int (i + j)))
  | .sh (.str s), .sh (.str t) => if s.length + t.length ≤ 16777216 then .ok (.sh (.str (s ++ t))) else .stuck
  | .sh (.tup ds), .sh (.tup es) => if ds.length + es.length ≤ 16777216 then .ok (.sh (.tup (ds ++ es))) else .stuck
  | a, b => match a.lvs, b.lvs with
    | some ds, some es => if ds.length + es.length ≤ 16777216 then .ok (.fr ((ds ++ es).map T.leaf)) else .stuck
    | _, _ => .stuck
theorem gAdd_ne (a b : EV) (z : Xc) : gAdd a b ≠ .exc z := by
  unfold gAdd
  split
  · exact fun h => by cases h
  · split <;> exact fun h => by cases h
  · split <;> exact fun h => by cases h
  · split
    · split <;> exact fun h => by cases h
    · exact fun h => by cases h
def rAddS : R2 := fun x y H Q => ∃ i j, x = .str i ∧ y = .str j ∧ i.length + j.length ≤ sizeLine ∧ Q (.str (i ++ j)) H
/-- t + u; the new tuple is known to have no dict -/
def rCatF (K : PySem.W.Frag) : R2 := fun x y H Q => ∃ a b xs ys, x = .ref a ∧ y = .ref b ∧ SqT K H a xs ∧ SqT K H b ys ∧ xs.length + ys.length ≤ sizeLine ∧
  (xs = [] → Q (.ref b) H) ∧ (xs ≠ [] → ys = [] → Q (.ref a) H) ∧ (xs ≠ [] → ys ≠ [] → ∀ (p : Addr) (o : Obj), o.dict = none → H p = none → Q (.ref p) (upd H p (.frz o (.tup (xs ++ ys)))))
theorem op_catF {X : Cx} : OpR X (binaryOp .Add) (rCatF X.K) := by
  intro pins s σ H x y v u Q I rx ry h
  obtain ⟨a, b, xs, ys, rfl, rfl, ha, hb, hz, q0, q1, q2⟩ := h
  by_cases hx : xs = []
  · exact op_catA pins s σ H _ _ v u Q I rx ry ⟨a, b, xs, ys, rfl, rfl, ha, hb, hz, q0, q1, fun z => absurd hx z⟩
  · cases rx
    cases ry
    obtain ⟨us, r1, p1, _⟩ := I.tuple ha
    obtain ⟨ws, r2, p2, _⟩ := I.tuple hb
    have room : us.length + ws.length ≤ sizeLine := by rw [← r1.length, ← r2.length]; exact hz
    refine HT.cat_tup p1 p2 (fun z => hx (r1.nil_iff.mp z)) (fun z => ⟨.ref a, H, I, rfl, q1 hx (r2.nil_iff.mp z)⟩) (fun z => ?_) room
    have ob : ∀ G, ObjOk X.prog X.w G (s.heap.push { cls := .type "tuple", data := .seq (us ++ ws).toArray }) s.heap.objs.size (.frz { cls := .type "tuple", data := .seq (us ++ ws).toArray } (.tup (xs ++ ys))) := fun _ => ⟨Heap.get?_push_size _ rfl, by rw [List.length_append]; exact hz, _, r1.append r2, IsTup.new _ _⟩
    have fresh := I.hok.fresh (Nat.le_refl s.heap.objs.size)
    exact ⟨.ref s.heap.objs.size, _, I.laid (t' := s.toks) (fun _ _ q => Heap.get?_push_of_some _ q) (Nat.le_refl _) (ob _), rfl, q2 hx (fun w => z (r2.nil_iff.mpr w)) _ _ rfl fresh⟩
def rAddAll (K : PySem.W.Frag) : R2 := fun x y H Q => (rI0 (fun i j => .int (i + j))) x y H Q ∨ rAddS x y H Q ∨ rCatF K x y H Q ∨ rCat x y H Q
theorem op_addAll {X : Cx} : OpR X (binaryOp .Add) (rAddAll X.K) := OpR.or op_add (OpR.or op_add_str (OpR.or op_catF op_cat))
theorem lst_or {a b : EV} {Q : VK} {c : Ct} {E : XS} {S H : Hp} (h : Post c E S H (match a.lvs, b.lvs with
    | some ds, some es => if ds.length + es.length ≤ 16777216 then .ok (.fr ((ds ++ es).map T.leaf)) else .stuck
    | _, _ => .stuck) Q) : ∃ ds es, a.lvs = some ds ∧ b.lvs = some es ∧ ds.length + es.length ≤ 16777216 ∧ Post c E S H (.ok (.fr ((ds ++ es).map T.leaf))) Q := by
  cases e1 : a.lvs with
  | none =>
    rw [e1] at h
    exact h.elim
  | some ds =>
    cases e2 : b.lvs with
    | none =>
      rw [e1, e2] at h
      exact h.elim
    | some es =>
      rw [e1, e2] at h
      by_cases hl : ds.length + es.length ≤ 16777216
      · simp only [if_pos hl] at h
        exact ⟨ds, es, rfl, rfl, hl, h⟩
      · simp only [if_neg hl] at h
        exact h.elim
theorem s_add {c : Ct} : OpS c (rAddAll c.K) gAdd := by
  intro E S H S1 H1 A B x y a b Q g ra rb nd fr _ p
  have hs : sizeLine = 16777216 := sizeLine_eq
  unfold gAdd at p
  split at p
  · cases ra with
    | sh ra => cases rb with
      | sh rb =>
        cases ra with
        | int i => cases rb with
          | int j => exact .inl ⟨_, _, rfl, rfl, p.sh g (.int _)⟩
  · split at p
    · rename_i hl
      cases ra with
      | sh ra => cases rb with
        | sh rb =>
          cases ra with
          | str i => cases rb with
            | str j => exact .inr (.inl ⟨_, _, rfl, rfl, by omega, p.sh g (.str _)⟩)
    · exact p.elim
  · split at p
    · rename_i hl
      cases ra with
      | sh ra => cases rb with
        | sh rb =>
          cases ra with
          | tup ha ra => cases rb with
            | tup hb rb =>
              have la := ra.length
              have lb := rb.length
              refine .inr (.inr (.inl ⟨_, _, _, _, rfl, rfl, (ha.mono g.sub).sq, (hb.mono g.sub).sq, by omega, fun e => ?_, fun e1 e2 => ?_, fun e1 e2 q o ho hq => ?_⟩))
              · subst e
                cases ra
                exact p.sh g (.tup hb rb)
              · subst e2
                cases rb
                rw [List.append_nil] at p
                exact p.sh g (.tup ha ra)
              · exact p.tup g (ra.append rb) o ho hq
    · exact p.elim
  · obtain ⟨ds, es, e1, e2, hl, p⟩ := lst_or p
    have frA : ∀ u ∈ A, H u = none := fun u hu => fr u (List.mem_append_left _ hu)
    have frB : ∀ u ∈ B, H u = none := fun u hu => fr u (List.mem_append_right _ hu)
    obtain ⟨a1, vs1, q1, h1, r1⟩ := ra.items g frA e1
    obtain ⟨a2, vs2, q2, h2, r2⟩ := rb.items g frB e2
    have nA : ∀ u ∈ A, S1 u = none := fun u hu => (ra.alive u hu).2
    have nB : ∀ u ∈ B, S1 u = none := fun u hu => (rb.alive u hu).2
    have g2 : Gr S H (grab S1 H1 (A ++ B)) H1 := g.grab fr fun u hu => (List.mem_append.mp hu).elim (nA u) (nB u)
    have r3 := (r1.mono (same_grab_l nB)).append (r2.mono (same_grab_r nA))
    have l1 := r1.length
    have l2 := r2.length
    refine .inr (.inr (.inr ⟨a1, a2, vs1, vs2, q1, q2, h1, h2, by omega, fun q hq => ?_⟩))
    exact p.lst (A := []) g2 (Owns.leaves r3) List.nodup_nil (fun u z => by cases z) hq
theorem de_add {X : Cx} {E : WS} {pos : Pos} {a b : Expr} {f1 f2 : Dl.Env → Res EV} (ha : DE X E a f1) (hb : DE X E b f2) : DE X E (.BinOp a .Add b pos) (d2 gAdd f1 f2) := de_op op_addAll s_add gAdd_ne ha hb

/-! ### * -/
def strMul (s : Str) (n : Nat) : Str := ⟨((List.replicate n s.cps.toList).flatten).toArray⟩
def gMul (a b : EV) : Res EV := match a, b with
  | .sh (.int i), .sh (.int j) => if (-18446744073709551616 < i ∧ i < 18446744073709551616) ∨ (-18446744073709551616 < j ∧ j < 18446744073709551616) then .ok (.sh (.int (i * j))) else .stuck
  | .sh (.str z), .sh (.int k) => if 1 ≤ k ∧ k < 1000 ∧ z.length ≤ 1000 then .ok (.sh (.str (strMul z k.toNat))) else .stuck
  | a, .sh (.int k) => match a.lvs with
    | some ds => if -9223372036854775808 ≤ k ∧ k < 9223372036854775808 ∧ ds.length * k.toNat ≤ 16777216 then .ok (.fr (((List.replicate k.toNat ds).flatten).map T.leaf)) else .stuck
    | none => .stuck
  | _, _ => .stuck
theorem gMul_ne (a b : EV) (z : Xc) : gMul a b ≠ .exc z := by
  unfold gMul
  split
  · split <;> exact fun h => by cases h
  · split <;> exact fun h => by cases h
  · split
    · split <;> exact fun h => by cases h
    · exact fun h => by cases h
  · exact fun h => by cases h
theorem foldl_toList : ∀ (l : List (Array Nat)) (a : Array Nat), (l.foldl (· ++ ·) a).toList = a.toList ++ (l.map Array.toList).flatten
  | [], a => by simp
  | b :: l, a => by
    rw [List.foldl_cons, foldl_toList l]
    simp
def rMulS : R2 := fun x y H Q => ∃ z k, x = .str z ∧ y = .int k ∧ 1 ≤ k ∧ k < 1000 ∧ z.length ≤ 1000 ∧ Q (.str (strMul z k.toNat)) H
theorem op_mulS {X : Cx} : OpR X (binaryOp .Mult) rMulS := by
  intro pins s σ H x y v u Q I rx ry h
  obtain ⟨z, k, rfl, rfl, h1, h2, h3, q⟩ := h
  obtain ⟨t, rfl⟩ := rx
  obtain ⟨t', rfl⟩ := ry
  have hz : sizeLine = 16777216 := sizeLine_eq
  have hm : z.length * k.toNat ≤ 1000 * 1000 := Nat.mul_le_mul h3 (by omega)
  have hv : (⟨(List.replicate k.toNat z.cps).foldl (· ++ ·) #[]⟩ : Str) = strMul z k.toNat := by
    unfold strMul
    congr 1
    apply Array.toList_inj.mp
    rw [foldl_toList]
    simp
  refine P.mul_str ?_ (fun _ _ => ?_) (fun _ _ => ?_) ?_
  · rw [decide_eq_false (by omega), decide_eq_false (by omega)]
    rfl
  · have : (1000 : Int) ≤ (2 ^ 63 - 1) / k := by
      rw [Int.le_ediv_iff_mul_le (by omega)]
      omega
    omega
  · unfold Builtin.Str.tooLong
    exact decide_eq_false (by omega)
  · rw [if_neg (by omega)]
    split
    · rename_i e
      have ev : strMul z k.toNat = z := by
        rw [← hv]
        rcases Bool.or_eq_true_iff.mp e with e | e
        · have : k = 1 := by simpa using e
          subst this
          simp
        · have e : z.cps.size = 0 := by simpa [Str.length] using e
          have : z.cps = #[] := Array.eq_empty_of_size_eq_zero e
          obtain ⟨zc⟩ := z
          simp only at this
          subst this
          congr 1
          apply Array.toList_inj.mp
          rw [foldl_toList]
          simp
      rw [ev] at q
      exact ⟨.str z, H, I, ⟨_, rfl⟩, q⟩
    · rw [hv]
      have hlen : (strMul z k.toNat).length = k.toNat * z.length := by simp [strMul, Str.length]
      exact ⟨by rw [hlen, Nat.mul_comm]; omega, .str _, H, I.tok _, ⟨_, rfl⟩, q⟩
def rMulAll : R2 := fun x y H Q => (rI CMul fun i j => .int (i * j)) x y H Q ∨ rRep x y H Q ∨ rMulS x y H Q
theorem op_mulAll {X : Cx} : OpR X (binaryOp .Mult) rMulAll := OpR.or op_mul (OpR.or op_rep op_mulS)
theorem reps_rep {c : Ct} {H : Hp} {vs : List V} {ds : List D} (r : Reps c H vs ds) : ∀ n : Nat, Reps c H (List.replicate n vs).flatten (List.replicate n ds).flatten
  | 0 => .nil
  | n + 1 => by
    rw [List.replicate_succ, List.replicate_succ, List.flatten_cons, List.flatten_cons]
    exact r.append (reps_rep r n)
theorem s_mul {c : Ct} : OpS c rMulAll gMul := by
  intro E S H S1 H1 A B x y a b Q g ra rb nd fr _ p
  have hs : sizeLine = 16777216 := sizeLine_eq
  unfold gMul at p
  split at p
  · split at p
    · rename_i hl
      cases ra with
      | sh ra => cases rb with
        | sh rb =>
          cases ra with
          | int i => cases rb with
            | int j => exact .inl ⟨_, _, rfl, rfl, hl, p.sh g (.int _)⟩
    · exact p.elim
  · split at p
    · rename_i hl
      cases ra with
      | sh ra => cases rb with
        | sh rb =>
          cases ra with
          | str z => cases rb with
            | int j => exact .inr (.inr ⟨_, _, rfl, rfl, hl.1, hl.2.1, hl.2.2, p.sh g (.str _)⟩)
    · exact p.elim
  · rename_i k _ _ _
    cases e1 : a.lvs with
    | none =>
      rw [e1] at p
      exact p.elim
    | some ds =>
      rw [e1] at p
      by_cases hl : -9223372036854775808 ≤ k ∧ k < 9223372036854775808 ∧ ds.length * k.toNat ≤ 16777216
      · simp only [if_pos hl] at p
        have frA : ∀ u ∈ A, H u = none := fun u hu => fr u (List.mem_append_left _ hu)
        obtain ⟨a1, vs1, q1, h1, r1⟩ := ra.items g frA e1
        have l1 := r1.length
        cases rb with
        | sh rb => cases rb with
          | int k =>
            refine .inr (.inl ⟨a1, k, vs1, q1, rfl, h1, by omega, by omega, by rw [l1]; omega, fun q hq => ?_⟩)
            exact p.lst (A := []) (ra.gone g frA) (Owns.leaves (reps_rep r1 _)) List.nodup_nil (fun u z => by cases z) hq
      · simp only [if_neg hl] at p
        exact p.elim
  · exact p.elim
theorem de_mul {X : Cx} {E : WS} {pos : Pos} {a b : Expr} {f1 f2 : Dl.Env → Res EV} (ha : DE X E a f1) (hb : DE X E b f2) : DE X E (.BinOp a .Mult b pos) (d2 gMul f1 f2) := de_op op_mulAll s_mul gMul_ne ha hb

/-! ### ==, in -/
def eqD (a b : D) : Option Bool := match a.py, b.py with
  | some p, some q => if SeqAt.shaped p && SeqAt.shaped q then some (PyData.eqv p q) else none
  | _, _ => none
def gEq : EV → EV → Res EV := gF fun a b => (eqD a b).map .bl
def gNe : EV → EV → Res EV := gF fun a b => (eqD a b).map fun k => .bl (!k)
theorem eqD_ok {c : Ct} {H : Hp} {x y : V} {a b : D} {k : Bool} (ra : Rep c H x a) (rb : Rep c H y b) (e : eqD a b = some k) : ∃ d e, Dp c.K H x d ∧ Dp c.K H y e ∧ SeqAt.shaped d = true ∧ SeqAt.shaped e = true ∧ PyData.eqv d e = k := by
  unfold eqD at e
  cases q1 : a.py with
  | none => rw [q1] at e; cases e
  | some p =>
    cases q2 : b.py with
    | none => rw [q1, q2] at e; cases e
    | some q =>
      rw [q1, q2] at e
      by_cases hs : (SeqAt.shaped p && SeqAt.shaped q) = true
      · simp only [if_pos hs] at e
        cases e
        obtain ⟨h1, h2⟩ := Bool.and_eq_true_iff.mp hs
        exact ⟨p, q, ra.dp q1, rb.dp q2, h1, h2, rfl⟩
      · simp only [if_neg hs] at e
        cases e
theorem s_eq {c : Ct} : OpS c (rEqD c.K) gEq := opS_flat fun H x y a b z Q ra rb e q => by
  cases h : eqD a b with
  | none => rw [h] at e; cases e
  | some k =>
    rw [h] at e
    cases e
    obtain ⟨d1, d2, h1, h2, h3, h4, h5⟩ := eqD_ok ra rb h
    exact ⟨d1, d2, h1, h2, h3, h4, by rw [h5]; exact q _ rfl⟩
theorem s_ne {c : Ct} : OpS c (rNeD c.K) gNe := opS_flat fun H x y a b z Q ra rb e q => by
  cases h : eqD a b with
  | none => rw [h] at e; cases e
  | some k =>
    rw [h] at e
    cases e
    obtain ⟨d1, d2, h1, h2, h3, h4, h5⟩ := eqD_ok ra rb h
    exact ⟨d1, d2, h1, h2, h3, h4, by rw [h5]; exact q _ rfl⟩
def inD (a b : D) : Option Bool := match a.py, b.py with
  | some p, some (.list qs) => if SeqAt.shaped p && SeqAt.shaped (.list qs) then some (qs.any fun z => PyData.eqv z p) else none
  | some p, some (.tuple qs) => if SeqAt.shaped p && SeqAt.shaped (.tuple qs) then some (qs.any fun z => PyData.eqv z p) else none
  | _, _ => match a, b with
    | .str x, .str z => match x.cps.toList with
      | [c] => some (decide (c ∈ z.cps.toList))
      | _ => none
    | _, _ => none
def gIn : EV → EV → Res EV := gF fun a b => (inD a b).map .bl
def gNotIn : EV → EV → Res EV := gF fun a b => (inD a b).map fun k => .bl (!k)
def rInT (K : PySem.W.Frag) : R2 := fun x y H Q => ∃ d ds, Dp K H x d ∧ Dp K H y (.tuple ds) ∧ SeqAt.shaped d = true ∧ SeqAt.shaped (.tuple ds) = true ∧ Q (.bl (ds.any fun z => PyData.eqv z d)) H
def rNotInT (K : PySem.W.Frag) : R2 := fun x y H Q => ∃ d ds, Dp K H x d ∧ Dp K H y (.tuple ds) ∧ SeqAt.shaped d = true ∧ SeqAt.shaped (.tuple ds) = true ∧ Q (.bl (!ds.any fun z => PyData.eqv z d)) H
theorem room_tup {A : Around} {d : PyData} {ds : List PyData} (sd : SeqAt.shaped d = true) (hu : A.units + 65 < cLine) : A.units + 1 + min (PyData.depthAll ds) d.depth < cLine := by
  have h := SeqAt.depth_of_shaped sd
  have := Nat.min_le_right (PyData.depthAll ds) d.depth
  omega
theorem op_inT {X : Cx} (hu : X.A.units + 65 < cLine) : OpR X (compareOp .In) (rInT X.K) := by
  intro pins s σ H x y v u Q I rx ry h
  obtain ⟨d, ds, hd, he, sd, se, q⟩ := h
  obtain ⟨as, r1⟩ := Dp.reads I d x v hd rx
  obtain ⟨bs, r2⟩ := Dp.reads I (.tuple ds) y u he ry
  exact SeqAt.in_tuple_reads r2 r1 (SeqAt.canLay_of_shaped se) (SeqAt.canLay_of_shaped sd) (room_tup sd hu) ⟨.bl _, H, I, rfl, q⟩
theorem op_notInT {X : Cx} (hu : X.A.units + 65 < cLine) : OpR X (compareOp .NotIn) (rNotInT X.K) := by
  intro pins s σ H x y v u Q I rx ry h
  obtain ⟨d, ds, hd, he, sd, se, q⟩ := h
  obtain ⟨as, r1⟩ := Dp.reads I d x v hd rx
  obtain ⟨bs, r2⟩ := Dp.reads I (.tuple ds) y u he ry
  exact SeqAt.notIn_tuple_reads r2 r1 (SeqAt.canLay_of_shaped se) (SeqAt.canLay_of_shaped sd) (room_tup sd hu) ⟨.bl _, H, I, rfl, q⟩
def rInSg : R2 := fun x y H Q => ∃ (c : Nat) (z : Str), x = .str ⟨#[c]⟩ ∧ y = .str z ∧ Q (.bl (decide (c ∈ z.cps.toList))) H
def rNotInSg : R2 := fun x y H Q => ∃ (c : Nat) (z : Str), x = .str ⟨#[c]⟩ ∧ y = .str z ∧ Q (.bl (!decide (c ∈ z.cps.toList))) H
def rInAll (K : PySem.W.Frag) : R2 := fun x y H Q => rInD K x y H Q ∨ rInT K x y H Q ∨ rInSg x y H Q
def rNotInAll (K : PySem.W.Frag) : R2 := fun x y H Q => rNotInD K x y H Q ∨ rNotInT K x y H Q ∨ rNotInSg x y H Q
theorem op_inAll {X : Cx} (hu : X.A.units + 65 < cLine) : OpR X (compareOp .In) (rInAll X.K) := OpR.or (op_inD hu) (OpR.or (op_inT hu) op_in_sign)
theorem op_notInAll {X : Cx} (hu : X.A.units + 65 < cLine) : OpR X (compareOp .NotIn) (rNotInAll X.K) := OpR.or (op_notInD hu) (OpR.or (op_notInT hu) op_notIn_sign)
theorem inD_ok {c : Ct} {H : Hp} {x y : V} {a b : D} {k : Bool} (ra : Rep c H x a) (rb : Rep c H y b) (e : inD a b = some k) :
    (∃ d ds, Dp c.K H x d ∧ Dp c.K H y (.list ds) ∧ SeqAt.shaped d = true ∧ SeqAt.shaped (.list ds) = true ∧ (ds.any fun z => PyData.eqv z d) = k) ∨
    (∃ d ds, Dp c.K H x d ∧ Dp c.K H y (.tuple ds) ∧ SeqAt.shaped d = true ∧ SeqAt.shaped (.tuple ds) = true ∧ (ds.any fun z => PyData.eqv z d) = k) ∨
    (∃ (c : Nat) (z : Str), x = .str ⟨#[c]⟩ ∧ y = .str z ∧ decide (c ∈ z.cps.toList) = k) := by
  unfold inD at e
  split at e
  · rename_i p qs q1 q2
    split at e
    · rename_i hs
      cases e
      obtain ⟨h1, h2⟩ := Bool.and_eq_true_iff.mp hs
      exact .inl ⟨p, qs, ra.dp q1, rb.dp q2, h1, h2, rfl⟩
    · cases e
  · rename_i p qs q1 q2
    split at e
    · rename_i hs
      cases e
      obtain ⟨h1, h2⟩ := Bool.and_eq_true_iff.mp hs
      exact .inr (.inl ⟨p, qs, ra.dp q1, rb.dp q2, h1, h2, rfl⟩)
    · cases e
  · split at e
    · rename_i x' z' _ _
      split at e
      · rename_i c' hc
        cases e
        cases ra
        cases rb
        have ex : x' = (⟨#[c']⟩ : Str) := by
          obtain ⟨⟨l⟩⟩ := x'
          simp only at hc
          rw [hc]
        exact .inr (.inr ⟨c', z', by rw [ex], rfl, rfl⟩)
      · cases e
    · cases e
theorem s_in {c : Ct} : OpS c (rInAll c.K) gIn := opS_flat fun H x y a b z Q ra rb e q => by
  cases h : inD a b with
  | none => rw [h] at e; cases e
  | some k =>
    rw [h] at e
    cases e
    rcases inD_ok ra rb h with ⟨d, ds, h1, h2, h3, h4, h5⟩ | ⟨d, ds, h1, h2, h3, h4, h5⟩ | ⟨d, ds, h1, h2, h3⟩
    · exact .inl ⟨d, ds, h1, h2, h3, h4, by rw [h5]; exact q _ rfl⟩
    · exact .inr (.inl ⟨d, ds, h1, h2, h3, h4, by rw [h5]; exact q _ rfl⟩)
    · exact .inr (.inr ⟨d, ds, h1, h2, by rw [h3]; exact q _ rfl⟩)
theorem s_notIn {c : Ct} : OpS c (rNotInAll c.K) gNotIn := opS_flat fun H x y a b z Q ra rb e q => by
  cases h : inD a b with
  | none => rw [h] at e; cases e
  | some k =>
    rw [h] at e
    cases e
    rcases inD_ok ra rb h with ⟨d, ds, h1, h2, h3, h4, h5⟩ | ⟨d, ds, h1, h2, h3, h4, h5⟩ | ⟨d, ds, h1, h2, h3⟩
    · exact .inl ⟨d, ds, h1, h2, h3, h4, by rw [h5]; exact q _ rfl⟩
    · exact .inr (.inl ⟨d, ds, h1, h2, h3, h4, by rw [h5]; exact q _ rfl⟩)
    · exact .inr (.inr ⟨d, ds, h1, h2, by rw [h3]; exact q _ rfl⟩)
section
variable {X : Cx} {E : WS} {pos : Pos} {a b : Expr} {f1 f2 : Dl.Env → Res EV}
theorem de_eq (hu : X.A.units + 65 < cLine) (ha : DE X E a f1) (hb : DE X E b f2) : DE X E (.Compare a [.Eq] [b] pos) (d2 gEq f1 f2) := de_cmp (op_eqD (by omega)) s_eq (fun _ _ => gF_ne _ _ _) ha hb (nomark _)
theorem de_ne (hu : X.A.units + 65 < cLine) (ha : DE X E a f1) (hb : DE X E b f2) : DE X E (.Compare a [.NotEq] [b] pos) (d2 gNe f1 f2) := de_cmp (op_neD (by omega)) s_ne (fun _ _ => gF_ne _ _ _) ha hb (nomark _)
theorem de_in (hu : X.A.units + 65 < cLine) (ha : DE X E a f1) (hb : DE X E b f2) (hm : behindInMarks .In b = false := by rfl) : DE X E (.Compare a [.In] [b] pos) (d2 gIn f1 f2) := de_cmp (op_inAll hu) s_in (fun _ _ => gF_ne _ _ _) ha hb hm
theorem de_notIn (hu : X.A.units + 65 < cLine) (ha : DE X E a f1) (hb : DE X E b f2) (hm : behindInMarks .NotIn b = false := by rfl) : DE X E (.Compare a [.NotIn] [b] pos) (d2 gNotIn f1 f2) := de_cmp (op_notInAll hu) s_notIn (fun _ _ => gF_ne _ _ _) ha hb hm
end

/-! ### is None -/
def D.isNon : D → Bool
  | .non => true
  | _ => false
theorem Rep.isNon {c : Ct} {H : Hp} {v : V} {d : D} (r : Rep c H v d) : decide (v = .non) = d.isNon := by
  cases r <;> rfl
def dIsN (f : Dl.Env → Res EV) : Dl.Env → Res EV := fun ρ => (f ρ).bind fun a => .ok (.sh (.bl a.d.isNon))
def dNotN (f : Dl.Env → Res EV) : Dl.Env → Res EV := fun ρ => (f ρ).bind fun a => .ok (.sh (.bl (!a.d.isNon)))
section
variable {X : Cx} {E : WS} {pos : Pos} {a b : Expr} {f1 f2 : Dl.Env → Res EV}
theorem de_isN {j p2} (ha : DE X E a f1) : DE X E (.Compare a [.Is] [.Constant .none j p2] pos) (dIsN f1) := by
  refine pe_imp (pe_cmp (pc_isN ha)) fun σ H Q h => ?_
  obtain ⟨S, ρ, O, V, h⟩ := h
  refine ⟨S, ρ, O, V, Post.fst h fun x e1 h1 S1 H1 A v g1 r1 n1 fr1 => ?_⟩
  rw [(r1.rep g1.sub).isNon]
  exact h1.sh g1 (.bl _)
theorem de_notN {j p2} (ha : DE X E a f1) : DE X E (.Compare a [.IsNot] [.Constant .none j p2] pos) (dNotN f1) := by
  refine pe_imp (pe_cmp (pc_notN ha)) fun σ H Q h => ?_
  obtain ⟨S, ρ, O, V, h⟩ := h
  refine ⟨S, ρ, O, V, Post.fst h fun x e1 h1 S1 H1 A v g1 r1 n1 fr1 => ?_⟩
  rw [(r1.rep g1.sub).isNon]
  exact h1.sh g1 (.bl _)

/-! ### not, and, or, if as values (truths) -/
def dNot (f : Dl.Env → Res EV) : Dl.Env → Res EV := fun ρ => (f ρ).bind fun a => match a with
  | .sh (.bl k) => .ok (.sh (.bl (!k)))
  | _ => .stuck
def dAnd (f1 f2 : Dl.Env → Res EV) : Dl.Env → Res EV := fun ρ => (f1 ρ).bind fun a => match a with
  | .sh (.bl true) => f2 ρ
  | .sh (.bl false) => .ok (.sh (.bl false))
  | _ => .stuck
def dOr (f1 f2 : Dl.Env → Res EV) : Dl.Env → Res EV := fun ρ => (f1 ρ).bind fun a => match a with
  | .sh (.bl true) => .ok (.sh (.bl true))
  | .sh (.bl false) => f2 ρ
  | _ => .stuck
theorem de_not (ha : DE X E a f1) : DE X E (.UnaryOp .Not a pos) (dNot f1) := by
  refine pe_imp (pe_not ha) fun σ H Q h => ?_
  obtain ⟨S, ρ, O, V, h⟩ := h
  refine ⟨S, ρ, O, V, Post.fst h fun x e1 h1 S1 H1 A v g1 r1 n1 fr1 => ?_⟩
  split at h1
  · cases r1 with
    | sh r => cases r with
      | bl k => exact ⟨_, rfl, h1.sh g1 (.bl _)⟩
  · exact h1.elim
theorem de_one {op} (ha : DE X E a f1) : DE X E (.BoolOp op [a] pos) f1 := pe_one ha
theorem de_and {rest : List Expr} (ha : DE X E a f1) (hb : DE X E (.BoolOp .And (b :: rest) pos) f2) : DE X E (.BoolOp .And (a :: b :: rest) pos) (dAnd f1 f2) := by
  refine pe_imp (pe_and ha hb) fun σ H Q h => ?_
  obtain ⟨S, ρ, O, V, h⟩ := h
  refine ⟨S, ρ, O, V, Post.fst h fun x e1 h1 S1 H1 A v g1 r1 n1 fr1 => ?_⟩
  split at h1
  · cases r1 with
    | sh r => cases r with
      | bl k => exact ⟨true, rfl, iteT ⟨S1, ρ, O, V.gr g1, h1.later g1⟩⟩
  · cases r1 with
    | sh r => cases r with
      | bl k => exact ⟨false, rfl, iteF (h1.sh g1 (.bl _))⟩
  · exact h1.elim
theorem de_or {rest : List Expr} (ha : DE X E a f1) (hb : DE X E (.BoolOp .Or (b :: rest) pos) f2) : DE X E (.BoolOp .Or (a :: b :: rest) pos) (dOr f1 f2) := by
  refine pe_imp (pe_or ha hb) fun σ H Q h => ?_
  obtain ⟨S, ρ, O, V, h⟩ := h
  refine ⟨S, ρ, O, V, Post.fst h fun x e1 h1 S1 H1 A v g1 r1 n1 fr1 => ?_⟩
  split at h1
  · cases r1 with
    | sh r => cases r with
      | bl k => exact ⟨true, rfl, iteT (h1.sh g1 (.bl _))⟩
  · cases r1 with
    | sh r => cases r with
      | bl k => exact ⟨false, rfl, iteF ⟨S1, ρ, O, V.gr g1, h1.later g1⟩⟩
  · exact h1.elim

/-! ### tests -/
def tBool : EV → Res Bool
  | .sh (.bl k) => .ok k
  | _ => .stuck
def D.truth : D → Option Bool
  | .non => some false
  | .bl b => some b
  | .int i => some (i != 0)
  | .str s => if s.length ≤ 16777216 then some (decide (s.length ≠ 0)) else none
  | .tup ds => some (!ds.isEmpty)
  | .lst ds => some (!ds.isEmpty)
  | .scr ns => some (!ns.isEmpty)
  | _ => none
def tTru (x : EV) : Res Bool := match x.d.truth with
  | some k => .ok k
  | none => .stuck
def dT (t : EV → Res Bool) (f : Dl.Env → Res EV) : Dl.Env → Res Bool := fun ρ => (f ρ).bind t
theorem Post.fstT {c : Ct} {E : XS} {S H : Hp} {r : Res EV} {k : EV → Res Bool} {Q : Bool → Hp → Prop} {Q1 : VK} (h : PostT c E S H (r.bind k) Q)
    (go : ∀ x, r = .ok x → PostT c E S H (k x) Q → ∀ S1 H1 A v, Gr S H S1 H1 → EvRep c S1 H1 A v x → A.Nodup → (∀ a ∈ A, H a = none) → Q1 v H1) : Post c E S H r Q1 := by
  cases r with
  | ok x => exact fun S1 H1 A v g re nd fr => go x rfl h S1 H1 A v g re nd fr
  | exc x => exact h
  | stuck => exact h
theorem dt_cmp {op : CmpOp} {r : R2} {g : EV → EV → Res EV} (ho : OpR X (compareOp op) r) (hs : OpS (ctOf X) r g) (ne : ∀ a b z, g a b ≠ .exc z) (ha : DE X E a f1) (hb : DE X E b f2) (hm : behindInMarks op b = false) :
    DT X E (.Compare a [op] [b] pos) (dT tBool (d2 g f1 f2)) := by
  refine pt_imp (pt_cmpR ho ha hb hm) fun σ H Q h => ?_
  obtain ⟨S, ρ, O, V, h⟩ := h
  show tOp r (rE (ctOf X) E f1) (rE (ctOf X) E f2) σ H _
  refine two hs ne ⟨S, ρ, O, V, Post.fstT h fun x e1 h1 S1 H1 A v g1 r1 n1 fr1 => ?_⟩
  unfold tBool at h1
  split at h1
  · cases r1 with
    | sh r => cases r with
      | bl k => exact ⟨_, rfl, h1 S1 H1 g1⟩
  · exact h1.elim
theorem dt_lt (ha : DE X E a f1) (hb : DE X E b f2) : DT X E (.Compare a [.Lt] [b] pos) (dT tBool (d2 gLt f1 f2)) := dt_cmp op_lt s_lt (fun _ _ => gF_ne _ _ _) ha hb (nomark _)
theorem dt_le (ha : DE X E a f1) (hb : DE X E b f2) : DT X E (.Compare a [.LtE] [b] pos) (dT tBool (d2 gLe f1 f2)) := dt_cmp op_le s_le (fun _ _ => gF_ne _ _ _) ha hb (nomark _)
theorem dt_gt (ha : DE X E a f1) (hb : DE X E b f2) : DT X E (.Compare a [.Gt] [b] pos) (dT tBool (d2 gGt f1 f2)) := dt_cmp op_gt s_gt (fun _ _ => gF_ne _ _ _) ha hb (nomark _)
theorem dt_ge (ha : DE X E a f1) (hb : DE X E b f2) : DT X E (.Compare a [.GtE] [b] pos) (dT tBool (d2 gGe f1 f2)) := dt_cmp op_ge s_ge (fun _ _ => gF_ne _ _ _) ha hb (nomark _)
theorem dt_eq (hu : X.A.units + 65 < cLine) (ha : DE X E a f1) (hb : DE X E b f2) : DT X E (.Compare a [.Eq] [b] pos) (dT tBool (d2 gEq f1 f2)) := dt_cmp (op_eqD (by omega)) s_eq (fun _ _ => gF_ne _ _ _) ha hb (nomark _)
theorem dt_ne (hu : X.A.units + 65 < cLine) (ha : DE X E a f1) (hb : DE X E b f2) : DT X E (.Compare a [.NotEq] [b] pos) (dT tBool (d2 gNe f1 f2)) := dt_cmp (op_neD (by omega)) s_ne (fun _ _ => gF_ne _ _ _) ha hb (nomark _)
theorem dt_in (hu : X.A.units + 65 < cLine) (ha : DE X E a f1) (hb : DE X E b f2) (hm : behindInMarks .In b = false := by rfl) : DT X E (.Compare a [.In] [b] pos) (dT tBool (d2 gIn f1 f2)) := dt_cmp (op_inAll hu) s_in (fun _ _ => gF_ne _ _ _) ha hb hm
theorem dt_notIn (hu : X.A.units + 65 < cLine) (ha : DE X E a f1) (hb : DE X E b f2) (hm : behindInMarks .NotIn b = false := by rfl) : DT X E (.Compare a [.NotIn] [b] pos) (dT tBool (d2 gNotIn f1 f2)) := dt_cmp (op_notInAll hu) s_notIn (fun _ _ => gF_ne _ _ _) ha hb hm
theorem dt_isN {j p2} (ha : DE X E a f1) : DT X E (.Compare a [.Is] [.Constant .none j p2] pos) (dT tBool (dIsN f1)) := by
  refine pt_imp (pt_cmp (pc_isN ha)) fun σ H Q h => ?_
  obtain ⟨S, ρ, O, V, h⟩ := h
  refine ⟨S, ρ, O, V, ?_⟩
  unfold dT dIsN at h
  cases e : f1 ρ with
  | ok x =>
    rw [e] at h
    intro S1 H1 A v g1 r1 n1 fr1
    rw [(r1.rep g1.sub).isNon]
    exact ⟨_, rfl, h S1 H1 g1⟩
  | exc x =>
    rw [e] at h
    exact h
  | stuck =>
    rw [e] at h
    exact h
theorem dt_notN {j p2} (ha : DE X E a f1) : DT X E (.Compare a [.IsNot] [.Constant .none j p2] pos) (dT tBool (dNotN f1)) := by
  refine pt_imp (pt_cmp (pc_notN ha)) fun σ H Q h => ?_
  obtain ⟨S, ρ, O, V, h⟩ := h
  refine ⟨S, ρ, O, V, ?_⟩
  unfold dT dNotN at h
  cases e : f1 ρ with
  | ok x =>
    rw [e] at h
    intro S1 H1 A v g1 r1 n1 fr1
    rw [(r1.rep g1.sub).isNon]
    exact ⟨_, rfl, h S1 H1 g1⟩
  | exc x =>
    rw [e] at h
    exact h
  | stuck =>
    rw [e] at h
    exact h
theorem str_ne {s : Str} : decide (s.length ≠ 0) = ((s.length : Int) != 0) := by
  by_cases h : s.length = 0
  · rw [decide_eq_false (by simpa using h), h]
    rfl
  · rw [decide_eq_true h]
    exact (bne_iff_ne.mpr (by omega)).symm
theorem tru_of {c : Ct} {H : Hp} {v : V} {d : D} {k : Bool} (r : Rep c H v d) (e : d.truth = some k) : TruV c.K v H k := by
  have hs : sizeLine = 16777216 := sizeLine_eq
  cases r with
  | non => cases e; rfl
  | bl b => cases e; rfl
  | int i => cases e; rfl
  | str s =>
    simp only [D.truth] at e
    split at e
    · rename_i hl
      cases e
      exact ⟨by omega, str_ne⟩
    · cases e
  | ty n => cases e
  | tup h r =>
    cases e
    refine .inr (.inl ⟨_, h.sq, ?_⟩)
    cases r <;> rfl
  | lst h r =>
    cases e
    refine .inl ⟨_, SqL.of h, ?_⟩
    cases r <;> rfl
  | @scr _ ns h =>
    cases e
    refine .inl ⟨_, h, ?_⟩
    cases ns <;> rfl
  | obj h r => cases e
  | dic h r => cases e
/-- any other expression as a test -/
theorem dt_tru (ha : DE X E a f1) (he : ∀ whole, isTrue a X.env whole = (do let v ← whole; standAt a.pos; holding [v] (truthy v)) := by intro _; rfl) : DT X E a (dT tTru f1) := by
  refine pt_imp (pt_truth ha he) fun σ H Q h => ?_
  obtain ⟨S, ρ, O, V, h⟩ := h
  refine ⟨S, ρ, O, V, Post.fstT h fun x e1 h1 S1 H1 A v g1 r1 n1 fr1 => ?_⟩
  unfold tTru at h1
  cases e : x.d.truth with
  | none =>
    rw [e] at h1
    exact h1.elim
  | some k =>
    rw [e] at h1
    exact ⟨k, tru_of (r1.rep g1.sub) e, h1 S1 H1 g1⟩
def dNotT (f : Dl.Env → Res Bool) : Dl.Env → Res Bool := fun ρ => (f ρ).bind fun k => .ok (!k)
def dAndT (f g : Dl.Env → Res Bool) : Dl.Env → Res Bool := fun ρ => (f ρ).bind fun k => if k = true then g ρ else .ok false
def dOrT (f g : Dl.Env → Res Bool) : Dl.Env → Res Bool := fun ρ => (f ρ).bind fun k => if k = true then .ok true else g ρ
def DW (X : Cx) (E : WS) (e : Expr) (f : Dl.Env → Res Bool) : Prop := PW X e (rT (ctOf X) E f)
theorem PostT.fst {c : Ct} {E : XS} {S H : Hp} {r : Res Bool} {k : Bool → Res Bool} {Q Q1 : Bool → Hp → Prop} (h : PostT c E S H (r.bind k) Q)
    (go : ∀ x, r = .ok x → PostT c E S H (k x) Q → ∀ S1 H1, Gr S H S1 H1 → Q1 x H1) : PostT c E S H r Q1 := by
  cases r with
  | ok x => exact fun S1 H1 g => go x rfl h S1 H1 g
  | exc x => exact h
  | stuck => exact h
variable {t1 t2 : Dl.Env → Res Bool} {rest : List Expr}
theorem dt_not (ha : DT X E a t1) : DT X E (.UnaryOp .Not a pos) (dNotT t1) := by
  refine pt_imp (pt_not ha) fun σ H Q h => ?_
  obtain ⟨S, ρ, O, V, h⟩ := h
  exact ⟨S, ρ, O, V, PostT.fst h fun x e1 h1 S1 H1 g1 => h1 S1 H1 g1⟩
theorem dw_and1 (ha : DT X E a t1) : DW X E (.BoolOp .And [a] pos) t1 := pw_and1 ha
theorem dw_or1 (ha : DT X E a t1) : DW X E (.BoolOp .Or [a] pos) t1 := pw_or1 ha
theorem dw_and (ha : DT X E a t1) (hb : DW X E (.BoolOp .And (b :: rest) pos) t2) : DW X E (.BoolOp .And (a :: b :: rest) pos) (dAndT t1 t2) := by
  refine pw_imp (pw_and ha hb) fun σ H Q h => ?_
  obtain ⟨S, ρ, O, V, h⟩ := h
  refine ⟨S, ρ, O, V, PostT.fst h fun x e1 h1 S1 H1 g1 => ?_⟩
  cases x with
  | true => exact iteT ⟨S1, ρ, O, V.gr g1, PostT.later h1 g1⟩
  | false => exact iteF (h1 S1 H1 g1)
theorem dw_or (ha : DT X E a t1) (hb : DW X E (.BoolOp .Or (b :: rest) pos) t2) : DW X E (.BoolOp .Or (a :: b :: rest) pos) (dOrT t1 t2) := by
  refine pw_imp (pw_or ha hb) fun σ H Q h => ?_
  obtain ⟨S, ρ, O, V, h⟩ := h
  refine ⟨S, ρ, O, V, PostT.fst h fun x e1 h1 S1 H1 g1 => ?_⟩
  cases x with
  | true => exact iteT (h1 S1 H1 g1)
  | false => exact iteF ⟨S1, ρ, O, V.gr g1, PostT.later h1 g1⟩
theorem dw_t {e : Expr} (h : DW X E e t1) : DT X E e t1 := PW.pt h
/-- a if t else b -/
def dIfE (t : Dl.Env → Res Bool) (f1 f2 : Dl.Env → Res EV) : Dl.Env → Res EV := fun ρ => (t ρ).bind fun k => if k = true then f1 ρ else f2 ρ
theorem de_ifExp {e : Expr} (ht : DT X E e t1) (ha : DE X E a f1) (hb : DE X E b f2) : DE X E (.IfExp e a b pos) (dIfE t1 f1 f2) := by
  refine pe_imp (pe_ifExp ht ha hb) fun σ H Q h => ?_
  obtain ⟨S, ρ, O, V, h⟩ := h
  refine ⟨S, ρ, O, V, ?_⟩
  unfold dIfE at h
  cases e : t1 ρ with
  | ok k =>
    rw [e] at h
    intro S1 H1 g1
    cases k with
    | true => exact iteT ⟨S1, ρ, O, V.gr g1, Post.later (r := f1 ρ) h g1⟩
    | false => exact iteF ⟨S1, ρ, O, V.gr g1, Post.later (r := f2 ρ) h g1⟩
  | exc x =>
    rw [e] at h
    exact h
  | stuck =>
    rw [e] at h
    exact h
end
end Dl
set_option Elab.async false
set_option linter.all false
set_option maxRecDepth 100000
/-! DL4: subscripts, slices, displays, calls. -/
namespace Dl
open PySem PySem.Spec PyProof.Rows L2

/-! ### x[i] -/
def tAt (ts : List T) (i : Int) : Res EV := match atI ts i with
  | some (.leaf d) => .ok (.sh d)
  | some (.node us) => .ok (.bo us)
  | none => .stuck
def gIx (a b : EV) : Res EV := match b with
  | .sh (.int i) => match a with
    | .sh (.str z) => if z.length ≤ 16777216 then (match atI z.cps.toList i with
      | some c => .ok (.sh (.str ⟨#[c]⟩))
      | none => .stuck) else .stuck
    | .sh (.tup ds) => (match atI ds i with
      | some d => .ok (.sh d)
      | none => .stuck)
    | .sh (.lst ds) => (match atI ds i with
      | some d => .ok (.sh d)
      | none => .stuck)
    | .sh (.scr ns) => (match atI ns i with
      | some n => .ok (.sh (.int n))
      | none => .stuck)
    | .fr ts => tAt ts i
    | .bo ts => tAt ts i
    | _ => .stuck
  | _ => .stuck
theorem tAt_ne (ts : List T) (i : Int) (z : Xc) : tAt ts i ≠ .exc z := by
  unfold tAt
  split <;> exact fun h => by cases h
theorem gIx_ne (a b : EV) (z : Xc) : gIx a b ≠ .exc z := by
  unfold gIx
  split
  · split
    · split
      · split <;> exact fun h => by cases h
      · exact fun h => by cases h
    · split <;> exact fun h => by cases h
    · split <;> exact fun h => by cases h
    · split <;> exact fun h => by cases h
    · exact tAt_ne _ _ _
    · exact tAt_ne _ _ _
    · exact fun h => by cases h
  · exact fun h => by cases h
theorem atI_len {α β : Type} {xs : List α} {ys : List β} {i : Int} {y : β} (hl : xs.length = ys.length) (h : atI ys i = some y) : ∃ j : Nat, ys[j]? = some y ∧ ∀ x, xs[j]? = some x → atI xs i = some x := by
  unfold atI at h ⊢
  cases e : ixN ys.length i with
  | none => rw [e] at h; cases h
  | some j =>
    rw [e] at h
    exact ⟨j, h, fun x hx => by rw [hl, e]; exact hx⟩
theorem Reps.atI {c : Ct} {H : Hp} {vs : List V} {ds : List D} {i : Int} {d : D} (r : Reps c H vs ds) (h : L2.atI ds i = some d) : ∃ v, L2.atI vs i = some v ∧ Rep c H v d := by
  obtain ⟨j, h1, h2⟩ := atI_len r.length h
  obtain ⟨v, hv, rv⟩ := r.get h1
  exact ⟨v, h2 v hv, rv⟩
theorem Owns.atI {c : Ct} {S H : Hp} {A : List Addr} {vs : List V} {ts : List T} {i : Int} {t : T} (r : Owns c S H A vs ts) (h : L2.atI ts i = some t) : ∃ v B, L2.atI vs i = some v ∧ Own c S H B v t := by
  obtain ⟨j, h1, h2⟩ := atI_len r.length h
  obtain ⟨v, B, hv, rv, _⟩ := r.get h1
  exact ⟨v, B, h2 v hv, rv⟩
theorem atI_map {α β : Type} (f : α → β) {xs : List α} {i : Int} {x : α} (h : atI xs i = some x) : atI (xs.map f) i = some (f x) := by
  obtain ⟨j, h1, h2⟩ := atI_len (xs := xs.map f) (by simp) h
  exact h2 _ (by simp [h1])
theorem own_at {c : Ct} {E : XS} {S H S1 H1 : Hp} {A : List Addr} {x : V} {ts : List T} {i : Int} {Q : VK} (h : Post c E S H (tAt ts i) Q) (g : Gr S H S1 H1) (r : Own c S1 H1 A x (.node ts)) :
    ∃ p xs v, x = .ref p ∧ SqL c.K H1 p xs ∧ atI xs i = some v ∧ Q v H1 := by
  cases r with
  | node ha n r =>
    unfold tAt at h
    cases e : atI ts i with
    | none =>
      rw [e] at h
      exact h.elim
    | some t =>
      rw [e] at h
      obtain ⟨v, B, hv, rv⟩ := r.atI e
      refine ⟨_, _, v, rfl, SqL.of ha, hv, ?_⟩
      cases t with
      | leaf d => cases rv with
        | leaf q => exact h.sh g q
      | node us => exact h S1 H1 [] v g (.bo rv) List.nodup_nil fun _ z => by cases z
theorem s_ix {c : Ct} : OpS c (rIx c.K) gIx := by
  intro E S H S1 H1 A B x y a b Q g ra rb nd fr hne p
  clear hne
  have hs : sizeLine = 16777216 := sizeLine_eq
  unfold gIx at p
  split at p
  · rename_i i
    cases rb with
    | sh rb => cases rb with
      | int i =>
        split at p
        · rename_i z
          cases ra with
          | sh ra => cases ra with
            | str z =>
              split at p
              · rename_i hl
                split at p
                · rename_i c0 hc
                  exact .inr (.inr ⟨z, i, c0, rfl, rfl, by omega, hc, p.sh g (.str _)⟩)
                · exact p.elim
              · exact p.elim
        · cases ra with
          | sh ra => cases ra with
            | tup ha r =>
              split at p
              · rename_i d hd
                obtain ⟨v, hv, rv⟩ := r.atI hd
                exact .inr (.inl ⟨_, _, i, v, rfl, rfl, (ha.mono g.sub).sq, hv, p.sh g rv⟩)
              · exact p.elim
        · cases ra with
          | sh ra => cases ra with
            | lst ha r =>
              split at p
              · rename_i d hd
                obtain ⟨v, hv, rv⟩ := r.atI hd
                exact .inl ⟨_, _, i, v, rfl, rfl, SqL.of (g.sub _ _ ha), hv, p.sh g rv⟩
              · exact p.elim
        · cases ra with
          | sh ra => cases ra with
            | scr ha =>
              split at p
              · rename_i n hn
                exact .inl ⟨_, _, i, _, rfl, rfl, g.sub.seq ha, atI_map V.int hn, p.sh g (.int n)⟩
              · exact p.elim
        · cases ra with
          | fr r =>
            obtain ⟨q, xs, v, e1, e2, e3, e4⟩ := own_at p g r
            exact .inl ⟨q, xs, i, v, e1, rfl, e2, e3, e4⟩
        · cases ra with
          | bo r =>
            obtain ⟨q, xs, v, e1, e2, e3, e4⟩ := own_at p g r
            exact .inl ⟨q, xs, i, v, e1, rfl, e2, e3, e4⟩
        · exact p.elim
  · exact p.elim
theorem de_sub_ix {X : Cx} {E : WS} {pos : Pos} {a b : Expr} {f1 f2 : Dl.Env → Res EV} (ha : DE X E a f1) (hb : DE X E b f2) (hp : PlainIx b := by intro _ _; rfl) : DE X E (.Subscript a b pos) (d2 gIx f1 f2) := de_ix ix_seq s_ix gIx_ne ha hb hp

/-! ### x[i:j] -/
def cutL {α : Type} (xs : List α) (lo hi : Option Int) : List α := (xs.drop (HT.sIx xs.length 0 lo)).take (HT.sIx xs.length xs.length hi - HT.sIx xs.length 0 lo)
def gSl (a : EV) (lo hi : Option Int) : Res EV := match a with
  | .sh (.str z) => if z.length ≤ 16777216 then .ok (.sh (.str (cutS z lo hi))) else .stuck
  | .sh (.tup ds) => .ok (.sh (.tup (cutL ds lo hi)))
  | .sh (.scr ns) => .ok (.fr ((cutL ns lo hi).map fun n => .leaf (.int n)))
  | a => match a.lvs with
    | some ds => .ok (.fr ((cutL ds lo hi).map T.leaf))
    | none => .stuck
/-- t[lo:hi]: the whole of it is t itself; a new one is known to have no dict -/
def rSlF (K : PySem.W.Frag) : V → Option Int → Option Int → Hp → VK → Prop := fun x lo hi H Q => ∃ a xs, x = .ref a ∧ SqT K H a xs ∧
  (HT.sIx xs.length 0 lo = 0 ∧ HT.sIx xs.length xs.length hi = xs.length → Q (.ref a) H) ∧ (¬ (HT.sIx xs.length 0 lo = 0 ∧ HT.sIx xs.length xs.length hi = xs.length) → ∀ (p : Addr) (o : Obj), o.dict = none → H p = none → Q (.ref p) (upd H p (.frz o (.tup (cutV xs lo hi)))))
theorem sl_tupF {X : Cx} : SlR X (rSlF X.K) := by
  intro pins s σ H x v vl vu lo hi sl Q I rx hs pl pu h
  obtain ⟨a, xs, rfl, hx, q1, q2⟩ := h
  by_cases hw : HT.sIx xs.length 0 lo = 0 ∧ HT.sIx xs.length xs.length hi = xs.length
  · exact sl_tupA pins s σ H _ v vl vu lo hi sl Q I rx hs pl pu ⟨a, xs, rfl, hx, q1, fun z => absurd hw z⟩
  · cases rx
    obtain ⟨us, r, ht, hz⟩ := I.tuple hx
    have len : us.toArray.size = xs.length := by rw [List.size_toArray]; exact r.length.symm
    refine ⟨"tuple", _, PyProof.Rows.slot_tuple_getitem.lookup, ht.typeIs, HT.getItem_tuple_cut ht hs pl pu (by rw [len]; exact hw) ?_ (by rw [len]; exact hz)⟩
    rw [len]
    have fresh := I.hok.fresh (Nat.le_refl s.heap.objs.size)
    have part := (r.drop (HT.sIx xs.length 0 lo)).take (HT.sIx xs.length xs.length hi - HT.sIx xs.length 0 lo)
    have short := Nat.le_trans (cutV_length xs lo hi) hz
    have fin : ∀ ws : List Value, Vals (cutV xs lo hi) ws → EP X pins σ Q (.ref s.heap.objs.size) { s with heap := s.heap.push { cls := .type "tuple", data := .seq ws.toArray } } := fun ws rw_ =>
      ⟨.ref s.heap.objs.size, _, I.laid (t' := s.toks) (o := .frz { cls := .type "tuple", data := .seq ws.toArray } (.tup (cutV xs lo hi))) (fun _ _ q => Heap.get?_push_of_some _ q) (Nat.le_refl _) ⟨Heap.get?_push_size _ rfl, short, ws, rw_, IsTup.new _ _⟩, rfl, q2 hw _ _ rfl fresh⟩
    exact fin _ part
def rSlAll (K : PySem.W.Frag) : V → Option Int → Option Int → Hp → VK → Prop := fun x lo hi H Q => rSlL K x lo hi H Q ∨ rSlF K x lo hi H Q ∨ rSlS x lo hi H Q
theorem sl_all {X : Cx} : SlR X (rSlAll X.K) := SlR.or sl_list (SlR.or sl_tupF sl_str)
def dPart (f : Dl.Env → Res EV) : Dl.Env → Res EV := f
def dSl (f : Dl.Env → Res EV) (lo hi : Option (Dl.Env → Res EV)) : Dl.Env → Res EV := fun ρ => (f ρ).bind fun a => match lo, hi with
  | none, none => gSl a none none
  | some g, none => (g ρ).bind fun l => match l with
    | .sh (.int i) => gSl a (some i) none
    | _ => .stuck
  | none, some g => (g ρ).bind fun l => match l with
    | .sh (.int i) => gSl a none (some i)
    | _ => .stuck
  | some g, some h => (g ρ).bind fun l => match l with
    | .sh (.int i) => (h ρ).bind fun u => match u with
      | .sh (.int j) => gSl a (some i) (some j)
      | _ => .stuck
    | _ => .stuck
theorem reps_cut {c : Ct} {H : Hp} {vs : List V} {ds : List D} (r : Reps c H vs ds) (lo hi : Option Int) : Reps c H (cutV vs lo hi) (cutL ds lo hi) := by
  unfold cutV cutL
  rw [r.length]
  exact (r.drop _).take _
theorem cut_whole {α : Type} {xs : List α} {lo hi : Option Int} (h : HT.sIx xs.length 0 lo = 0 ∧ HT.sIx xs.length xs.length hi = xs.length) : cutL xs lo hi = xs := by
  unfold cutL
  rw [h.1, h.2]
  simp
theorem cut_map {α β : Type} (f : α → β) (xs : List α) (lo hi : Option Int) : cutL (xs.map f) lo hi = (cutL xs lo hi).map f := by
  unfold cutL
  simp
theorem reps_ints {c : Ct} {H : Hp} : ∀ ns : List Int, Reps c H (ns.map V.int) (ns.map D.int)
  | [] => .nil
  | n :: ns => .cons (.int n) (reps_ints ns)
theorem s_sl {c : Ct} {E : XS} {S H S1 H1 : Hp} {A : List Addr} {x : V} {a : EV} {lo hi : Option Int} {Q : VK} (p : Post c E S H (gSl a lo hi) Q) (g : Gr S H S1 H1) (ra : EvRep c S1 H1 A x a) (fr : ∀ u ∈ A, H u = none) : rSlAll c.K x lo hi H1 Q := by
  have hs : sizeLine = 16777216 := sizeLine_eq
  unfold gSl at p
  split at p
  · rename_i z
    cases ra with
    | sh ra => cases ra with
      | str z =>
        split at p
        · rename_i hl
          exact .inr (.inr ⟨z, rfl, by omega, p.sh g (.str _)⟩)
        · exact p.elim
  · cases ra with
    | sh ra => cases ra with
      | tup ha r =>
        refine .inr (.inl ⟨_, _, rfl, (ha.mono g.sub).sq, fun w => ?_, fun _ q o ho hq => ?_⟩)
        · rw [r.length] at w
          rw [cut_whole w] at p
          exact p.sh g (.tup ha r)
        · exact p.tup g (reps_cut r lo hi) o ho hq
  · rename_i ns
    cases ra with
    | sh ra => cases ra with
      | @scr _ ns ha =>
        refine .inl ⟨_, _, rfl, g.sub.seq ha, fun q hq => ?_⟩
        have e : ((cutL ns lo hi).map fun n => T.leaf (.int n)) = (cutL (ns.map D.int) lo hi).map T.leaf := by
          rw [cut_map, List.map_map]
          rfl
        rw [e] at p
        exact p.lst (A := []) g (Owns.leaves (reps_cut (reps_ints ns) lo hi)) List.nodup_nil (fun u z => by cases z) hq
  · cases e1 : a.lvs with
    | none =>
      rw [e1] at p
      exact p.elim
    | some ds =>
      rw [e1] at p
      obtain ⟨a1, vs1, q1, h1, r1⟩ := ra.items g fr e1
      exact .inl ⟨a1, vs1, q1, SqL.of h1, fun q hq => p.lst (A := []) (ra.gone g fr) (Owns.leaves (reps_cut r1 lo hi)) List.nodup_nil (fun u z => by cases z) hq⟩
section
variable {X : Cx} {E : WS} {pos p2 : Pos} {a b b2 : Expr} {f1 f2 f3 : Dl.Env → Res EV}
theorem de_sl00 (ha : DE X E a f1) : DE X E (.Subscript a (.Slice none none none p2) pos) (dSl f1 none none) := by
  refine pe_imp (pe_slice sl_all ha po_none po_none) fun σ H Q h => ?_
  obtain ⟨S, ρ, O, V, h⟩ := h
  exact ⟨S, ρ, O, V, Post.fst h fun x e1 h1 S1 H1 A v g1 r1 n1 fr1 => s_sl h1 g1 r1 fr1⟩
theorem int_of {c : Ct} {S H : Hp} {A : List Addr} {v : V} {i : Int} (r : EvRep c S H A v (.sh (.int i))) : v = .int i := by
  cases r with
  | sh r => cases r with
    | int i => rfl
theorem de_sl10 (ha : DE X E a f1) (hb : DE X E b f2) : DE X E (.Subscript a (.Slice (some b) none none p2) pos) (dSl f1 (some f2) none) := by
  refine pe_imp (pe_slice sl_all ha (po_some hb) po_none) fun σ H Q h => ?_
  obtain ⟨S, ρ, O, V, h⟩ := h
  refine ⟨S, ρ, O, V, Post.fst h fun x e1 h1 S1 H1 A v g1 r1 n1 fr1 => ?_⟩
  change Post _ _ _ _ ((f2 ρ).bind fun l => match l with | .sh (.int i) => gSl x (some i) none | _ => .stuck) Q at h1
  refine ⟨S1, ρ, O, V.gr g1, Post.fst (h1.later g1) fun y e2 _ S2 H2 B w g2 r2 n2 fr2 => ?_⟩
  rw [e2] at h1
  simp only [Res.ok_bind'] at h1
  split at h1
  · rename_i i _
    exact ⟨i, int_of r2, s_sl h1 (g1.trans g2) (r1.gr g2) fr1⟩
  · exact h1.elim
theorem de_sl01 (ha : DE X E a f1) (hb : DE X E b f2) : DE X E (.Subscript a (.Slice none (some b) none p2) pos) (dSl f1 none (some f2)) := by
  refine pe_imp (pe_slice sl_all ha po_none (po_some hb)) fun σ H Q h => ?_
  obtain ⟨S, ρ, O, V, h⟩ := h
  refine ⟨S, ρ, O, V, Post.fst h fun x e1 h1 S1 H1 A v g1 r1 n1 fr1 => ?_⟩
  change Post _ _ _ _ ((f2 ρ).bind fun l => match l with | .sh (.int i) => gSl x none (some i) | _ => .stuck) Q at h1
  refine ⟨S1, ρ, O, V.gr g1, Post.fst (h1.later g1) fun y e2 _ S2 H2 B w g2 r2 n2 fr2 => ?_⟩
  rw [e2] at h1
  simp only [Res.ok_bind'] at h1
  split at h1
  · rename_i i _
    exact ⟨i, int_of r2, s_sl h1 (g1.trans g2) (r1.gr g2) fr1⟩
  · exact h1.elim
theorem de_sl11 (ha : DE X E a f1) (hb : DE X E b f2) (hc : DE X E b2 f3) : DE X E (.Subscript a (.Slice (some b) (some b2) none p2) pos) (dSl f1 (some f2) (some f3)) := by
  refine pe_imp (pe_slice sl_all ha (po_some hb) (po_some hc)) fun σ H Q h => ?_
  obtain ⟨S, ρ, O, V, h⟩ := h
  refine ⟨S, ρ, O, V, Post.fst h fun x e1 h1 S1 H1 A v g1 r1 n1 fr1 => ?_⟩
  change Post _ _ _ _ ((f2 ρ).bind fun l => match l with | .sh (.int i) => (f3 ρ).bind fun u => (match u with | .sh (.int j) => gSl x (some i) (some j) | _ => .stuck) | _ => .stuck) Q at h1
  refine ⟨S1, ρ, O, V.gr g1, Post.fst (h1.later g1) fun y e2 h2 S2 H2 B w g2 r2 n2 fr2 => ?_⟩
  rw [e2] at h1
  simp only [Res.ok_bind'] at h1
  split at h1
  · rename_i i
    refine ⟨i, int_of r2, S2, ρ, O, (V.gr g1).gr g2, Post.fst (h1.later (g1.trans g2)) fun z e3 h3 S3 H3 C u g3 r3 n3 fr3 => ?_⟩
    rw [e3] at h1
    simp only [Res.ok_bind'] at h1
    split at h1
    · rename_i j
      exact ⟨j, int_of r3, s_sl h1 ((g1.trans g2).trans g3) ((r1.gr g2).gr g3) fr1⟩
    · exact h1.elim
  · exact h1.elim
end

/-! ### argument lists -/
def aNil : Dl.Env → Res (List EV) := fun _ => .ok []
def aCons (f : Dl.Env → Res EV) (g : Dl.Env → Res (List EV)) : Dl.Env → Res (List EV) := fun ρ => (f ρ).bind fun x => (g ρ).bind fun xs => .ok (x :: xs)
section
variable {X : Cx} {E : WS} {pos : Pos} {a : Expr} {es : List Expr} {f1 : Dl.Env → Res EV} {fs : Dl.Env → Res (List EV)}
theorem da_nil : DA X E [] aNil := by
  refine pa_imp pa_nil fun σ H Q h => ?_
  obtain ⟨S, ρ, O, V, h⟩ := h
  exact h S H [] [] (Gr.refl V.sub) .nil List.nodup_nil fun _ z => by cases z
theorem da_cons (ha : DE X E a f1) (hr : DA X E es fs) (hs : starEach (a :: es) X.env = (false, eval a X.env) :: starEach es X.env := by rfl) : DA X E (a :: es) (aCons f1 fs) := by
  refine pa_imp (pa_cons ha hr hs) fun σ H Q h => ?_
  obtain ⟨S, ρ, O, V, h⟩ := h
  refine ⟨S, ρ, O, V, ?_⟩
  unfold aCons at h
  cases e1 : f1 ρ with
  | exc x => rw [e1] at h; exact h
  | stuck => rw [e1] at h; exact h
  | ok x =>
    rw [e1] at h
    intro S1 H1 A v g1 r1 n1 fr1
    refine ⟨S1, ρ, O, V.gr g1, ?_⟩
    have h' := PostA.later h g1
    cases e2 : fs ρ with
    | exc x => rw [e2] at h'; exact h'
    | stuck => rw [e2] at h'; exact h'
    | ok xs =>
      rw [e2] at h
      intro S2 H2 B vs g2 r2 n2 fr2
      refine h S2 H2 (A ++ B) (v :: vs) (g1.trans g2) (.cons (r1.gr g2) r2) (List.nodup_append.mpr ⟨n1, n2, fun u hu t ht q => ?_⟩) fun u hu => ?_
      · subst q
        obtain ⟨⟨_, e⟩, _⟩ := r1.alive u hu
        rw [fr2 u ht] at e
        cases e
      · rcases List.mem_append.mp hu with hu | hu
        · exact fr1 u hu
        · exact g1.hh.free (fr2 u hu)
end
theorem PostA.fst {c : Ct} {E : XS} {S H : Hp} {r : Res (List EV)} {k : List EV → Res EV} {Q : VK} {Q1 : List V → Hp → Prop} (h : Post c E S H (r.bind k) Q)
    (go : ∀ x, r = .ok x → Post c E S H (k x) Q → ∀ S1 H1 A vs, Gr S H S1 H1 → EvsRep c S1 H1 A vs x → A.Nodup → (∀ a ∈ A, H a = none) → Q1 vs H1) : PostA c E S H r Q1 := by
  cases r with
  | ok x => exact fun S1 H1 A v g re nd fr => go x rfl h S1 H1 A v g re nd fr
  | exc x => exact h
  | stuck => exact h

/-! ### displays -/
def EV.t? : EV → Option T
  | .sh d => some (.leaf d)
  | .fr ts => some (.node ts)
  | .bo _ => none
def evTs : List EV → Option (List T)
  | [] => some []
  | x :: xs => match x.t?, evTs xs with
    | some t, some ts => some (t :: ts)
    | _, _ => none
theorem evs_owns {c : Ct} {S H : Hp} : ∀ {A : List Addr} {vs : List V} {xs : List EV} {ts : List T}, EvsRep c S H A vs xs → evTs xs = some ts → Owns c S H A vs ts
  | _, _, _, _, .nil, e => by cases e; exact .nil
  | _, _, _, _, .cons (e := x) (es := xs) h r, e => by
    rw [evTs] at e
    cases e1 : x.t? with
    | none => rw [e1] at e; cases e
    | some t =>
      cases e2 : evTs xs with
      | none => rw [e1, e2] at e; cases e
      | some ts =>
        rw [e1, e2] at e
        cases e
        refine .cons ?_ (evs_owns r e2)
        cases h with
        | sh q => cases e1; exact .leaf q
        | fr q => cases e1; exact q
        | bo q => cases e1
/-- [e, ..] -/
def dLst (fs : Dl.Env → Res (List EV)) : Dl.Env → Res EV := fun ρ => (fs ρ).bind fun xs => match evTs xs with
  | some ts => if ts.length ≤ 16777216 then .ok (.fr ts) else .stuck
  | none => .stuck
/-- (e, ..): new lists are given away -/
def dTup (fs : Dl.Env → Res (List EV)) : Dl.Env → Res EV := fun ρ => (fs ρ).bind fun xs => match evTs xs with
  | some ts => if ts.length ≤ 16777216 then .ok (.sh (.tup (T.toDs ts))) else .stuck
  | none => .stuck
section
variable {X : Cx} {E : WS} {pos : Pos} {es : List Expr} {fs : Dl.Env → Res (List EV)}
theorem de_lst (h : DA X E es fs) : DE X E (.List es pos) (dLst fs) := by
  refine pe_imp (pe_lst h) fun σ H Q h => ?_
  obtain ⟨S, ρ, O, V, h⟩ := h
  have hs : sizeLine = 16777216 := sizeLine_eq
  refine ⟨S, ρ, O, V, PostA.fst h fun xs e1 h1 S1 H1 A vs g1 r1 n1 fr1 => ?_⟩
  cases e2 : evTs xs with
  | none =>
    rw [e2] at h1
    exact h1.elim
  | some ts =>
    rw [e2] at h1
    by_cases hl : ts.length ≤ 16777216
    · simp only [if_pos hl] at h1
      have r := evs_owns r1 e2
      have l := r.length
      exact ⟨by omega, fun p hp => h1.lst g1 r n1 fr1 hp⟩
    · simp only [if_neg hl] at h1
      exact h1.elim
def tTupF (t : TA) : TE := fun σ H Q => t σ H fun xs H1 => xs.length ≤ sizeLine ∧ ∀ (p : Addr) (o : Obj), o.dict = none → H1 p = none → Q (.ref p) (upd H1 p (.frz o (.tup xs)))
theorem pe_tupF {t : TA} {x1} (h : PA X es t) : PE X (.Tuple es x1 pos) (tTupF t) := by
  refine ⟨fun pins s σ H Q I hq => wpAny_Tuple_spliced (thn (h.run pos pins s σ H _ I hq) fun us s1 ⟨xs, H1, I1, r, z, q⟩ => ⟨by rw [← r.length]; exact z, ?_⟩)⟩
  have fresh := I1.hok.fresh (Nat.le_refl s1.heap.objs.size)
  exact ⟨.ref s1.heap.objs.size, _, I1.laid (t' := s1.toks) (o := .frz _ (.tup xs)) (fun _ _ e => Heap.get?_push_of_some _ e) (Nat.le_refl _) ⟨Heap.get?_push_size _ rfl, z, us, r, ⟨_, Heap.get?_push_size _ rfl, rfl, _, rfl⟩⟩, rfl, q _ _ rfl fresh⟩
theorem de_tup {x1} (h : DA X E es fs) : DE X E (.Tuple es x1 pos) (dTup fs) := by
  refine pe_imp (pe_tupF h) fun σ H Q h => ?_
  obtain ⟨S, ρ, O, V, h⟩ := h
  have hs : sizeLine = 16777216 := sizeLine_eq
  refine ⟨S, ρ, O, V, PostA.fst h fun xs e1 h1 S1 H1 A vs g1 r1 n1 fr1 => ?_⟩
  cases e2 : evTs xs with
  | none =>
    rw [e2] at h1
    exact h1.elim
  | some ts =>
    rw [e2] at h1
    by_cases hl : ts.length ≤ 16777216
    · simp only [if_pos hl] at h1
      have r := evs_owns r1 e2
      have l := r.length
      have nA : ∀ u ∈ A, S1 u = none := fun u hu => (r1.alive u hu).2
      have r2 : Reps _ (grab S1 H1 A) vs (T.toDs ts) := r.grabbed (same_grab nA) fun u hu => grab_in hu
      exact ⟨by omega, fun p o ho hp => h1.tup (g1.grab fr1 nA) r2 o ho hp⟩
    · simp only [if_neg hl] at h1
      exact h1.elim
end

/-! ### calls of built-ins -/
/-- a rule for a call by values does what g says -/
def CallS (c : Ct) (r : List V → Hp → VK → Prop) (g : List EV → Res EV) : Prop := ∀ (E : XS) (S H S1 H1 : Hp) (A : List Addr) (vs : List V) (xs : List EV) (Q : VK), Gr S H S1 H1 → EvsRep c S1 H1 A vs xs → A.Nodup → (∀ u ∈ A, H u = none) →
  Post c E S H (g xs) Q → r vs H1 Q
def dC1 (g : List EV → Res EV) (fs : Dl.Env → Res (List EV)) : Dl.Env → Res EV := fun ρ => (fs ρ).bind g
section
variable {X : Cx} {E : WS} {x : Str} {p pos : Pos} {e : Expr} {es : List Expr} {id T : String} {r : List V → Hp → VK → Prop} {g : List EV → Res EV} {fs : Dl.Env → Res (List EV)}
theorem cb_imp {c : Ct} (hs : CallS c r g) {σ : L2.St} {H : Hp} {Q : VK} (h : rE c E (dC1 g fs) σ H Q) : tCB r (rA c E fs) σ H Q := by
  obtain ⟨S, ρ, O, V, h⟩ := h
  exact ⟨S, ρ, O, V, PostA.fst h fun xs e1 h1 S1 H1 A vs g1 r1 n1 fr1 => hs _ S H S1 H1 A vs xs Q g1 r1 n1 fr1 h1⟩
theorem de_callB (hc : CallR X (.builtin id) r) (hs : CallS (ctOf X) r g) (hg : Gl X x) (hm : X.mg x = none) (hv : bootBuiltins x = some (.builtin id)) (ha : DA X E (e :: es) fs) (hn : x ≠ "__name__" := by decide) (hdb : (x == ("__debug__" : Str)) = false := by decide)
    (he : starEach (e :: es) X.env = (false, eval e X.env) :: starEach es X.env := by rfl) (hpl : (backTo pos (starEach es X.env)).any (·.1) = false := by rfl) : DE X E (.Call (.Name x p) (e :: es) [] pos) (dC1 g fs) :=
  pe_imp (pe_callB hc hg hm hv ha hn hdb he hpl) fun _ _ _ h => cb_imp hs h
theorem de_callTy (hc : CallR X (.type T) r) (hs : CallS (ctOf X) r g) (hg : Gl X x) (hm : X.mg x = none) (hv : bootBuiltins x = some (.type T)) (ha : DA X E (e :: es) fs) (hn : x ≠ "__name__" := by decide) (hdb : (x == ("__debug__" : Str)) = false := by decide)
    (he : starEach (e :: es) X.env = (false, eval e X.env) :: starEach es X.env := by rfl) (hpl : (backTo pos (starEach es X.env)).any (·.1) = false := by rfl) : DE X E (.Call (.Name x p) (e :: es) [] pos) (dC1 g fs) :=
  pe_imp (pe_callTy hc hg hm hv ha hn hdb he hpl) fun _ _ _ h => cb_imp hs h
/-- a built-in class as a value -/
theorem de_ty {n : String} (hg : Gl X x) (hm : X.mg x = none) (hv : bootBuiltins x = some (.type n)) (hn : x ≠ "__name__" := by decide) (hd : (x == ("__debug__" : Str)) = false := by decide) : DE X E (.Name x pos) (dC (.ty n)) :=
  de_c (pe_bltn (v := .ty n) hg hm hv rfl hn hd) fun _ _ => .ty n
end
section
variable {c : Ct}
theorem ev1 {S H : Hp} {A : List Addr} {vs : List V} {x : EV} (r : EvsRep c S H A vs [x]) : ∃ v, vs = [v] ∧ EvRep c S H A v x := by
  cases r with
  | cons h t =>
    cases t
    rw [List.append_nil]
    exact ⟨_, rfl, h⟩
theorem ev2 {S H : Hp} {A : List Addr} {vs : List V} {x y : EV} (r : EvsRep c S H A vs [x, y]) : ∃ v w B C, vs = [v, w] ∧ EvRep c S H B v x ∧ EvRep c S H C w y := by
  cases r with
  | cons h t =>
    cases t with
    | cons h2 t2 =>
      cases t2
      exact ⟨_, _, _, _, rfl, h, h2⟩
/-- one argument, read as it stands; a result that is no object -/
def g1F (g : D → Option D) : List EV → Res EV
  | [x] => match g x.d with
    | some z => .ok (.sh z)
    | none => .stuck
  | _ => .stuck
theorem callS_flat {r : List V → Hp → VK → Prop} {g : D → Option D} (h : ∀ (H : Hp) (v : V) (a z : D) (Q : VK), Rep c H v a → g a = some z → (∀ u, z.at? = some u → Q u H) → r [v] H Q) : CallS c r (g1F g) := by
  intro E S H S1 H1 A vs xs Q g1 ra _ _ p
  unfold g1F at p
  split at p
  · rename_i x
    obtain ⟨v, rfl, rv⟩ := ev1 ra
    cases e : g x.d with
    | none =>
      rw [e] at p
      exact p.elim
    | some z =>
      rw [e] at p
      exact h H1 v x.d z Q (rv.rep g1.sub) e fun u hu => p.sh g1 (D.at_rep hu c S1)
  · exact p.elim
/-- int(x) of an int, a truth -/
def gInt : List EV → Res EV := g1F fun a => match a with
  | .int i => some (.int i)
  | .bl k => some (.int (if k then 1 else 0))
  | _ => none
theorem s_int : CallS c (fun xs H Q => (∃ i, xs = [.int i] ∧ Q (.int i) H) ∨ ∃ k, xs = [.bl k] ∧ Q (.int (if k then 1 else 0)) H) gInt := callS_flat fun H v a z Q r e q => by
  cases r with
  | int i => cases e; exact .inl ⟨_, rfl, q _ rfl⟩
  | bl k => cases e; exact .inr ⟨_, rfl, q _ rfl⟩
  | _ => cases e
/-- len(x) -/
def D.len? : D → Option Nat
  | .str s => if s.length ≤ 16777216 then some s.length else none
  | .tup ds => some ds.length
  | .lst ds => some ds.length
  | .scr ns => some ns.length
  | _ => none
def gLen : List EV → Res EV := g1F fun a => a.len?.map fun (n : Nat) => .int n
theorem s_len : CallS c (fun xs H Q => ∃ x n, xs = [x] ∧ LenV c.K x H n ∧ Q (.int n) H) gLen := callS_flat fun H v a z Q r e q => by
  have hs : sizeLine = 16777216 := sizeLine_eq
  cases r with
  | str s =>
    simp only [D.len?] at e
    split at e
    · rename_i hl
      cases e
      exact ⟨_, _, rfl, ⟨by omega, rfl⟩, q _ rfl⟩
    · cases e
  | tup h r =>
    cases e
    exact ⟨_, _, rfl, .inr ⟨_, h.sq, r.length.symm⟩, q _ rfl⟩
  | lst h r =>
    cases e
    exact ⟨_, _, rfl, .inl ⟨_, SqL.of h, r.length.symm⟩, q _ rfl⟩
  | scr h =>
    cases e
    exact ⟨_, _, rfl, .inl ⟨_, h, (List.length_map _).symm⟩, q _ rfl⟩
  | _ => cases e
/-- list(x), tuple(x) of a list, a tuple -/
def gList : List EV → Res EV
  | [.sh (.tup ds)] => .ok (.fr (ds.map T.leaf))
  | [.sh (.scr ns)] => .ok (.fr (ns.map fun n => T.leaf (.int n)))
  | [x] => match x.lvs with
    | some ds => .ok (.fr (ds.map T.leaf))
    | none => .stuck
  | _ => .stuck
theorem s_list : CallS c (fun xs H Q => ∃ p ys, xs = [.ref p] ∧ (SqL c.K H p ys ∨ SqT c.K H p ys) ∧ ∀ l, H l = none → Q (.ref l) (upd H l (.lst ys))) gList := by
  intro E S H S1 H1 A vs xs Q g ra nd fr p
  unfold gList at p
  split at p
  · obtain ⟨v, rfl, rv⟩ := ev1 ra
    cases rv with
    | sh r => cases r with
      | tup h r => exact ⟨_, _, rfl, .inr (h.mono g.sub).sq, fun l hl => p.lst (A := []) g (Owns.leaves r) List.nodup_nil (fun u z => by cases z) hl⟩
  · rename_i ns
    obtain ⟨v, rfl, rv⟩ := ev1 ra
    cases rv with
    | sh r => cases r with
      | @scr _ ns h =>
        have e : (ns.map fun n => T.leaf (.int n)) = (ns.map D.int).map T.leaf := by rw [List.map_map]; rfl
        rw [e] at p
        exact ⟨_, _, rfl, .inl (g.sub.seq h), fun l hl => p.lst (A := []) g (Owns.leaves (reps_ints ns)) List.nodup_nil (fun u z => by cases z) hl⟩
  · rename_i x _ _
    obtain ⟨v, rfl, rv⟩ := ev1 ra
    cases e : x.lvs with
    | none =>
      rw [e] at p
      exact p.elim
    | some ds =>
      rw [e] at p
      obtain ⟨a1, vs1, q1, h1, r1⟩ := rv.items g fr e
      exact ⟨a1, vs1, by rw [q1], .inl (SqL.of h1), fun l hl => p.lst (A := []) (rv.gone g fr) (Owns.leaves r1) List.nodup_nil (fun u z => by cases z) hl⟩
  · exact p.elim
def gTuple : List EV → Res EV
  | [.sh (.tup ds)] => .ok (.sh (.tup ds))
  | [.sh (.scr ns)] => .ok (.sh (.tup (ns.map D.int)))
  | [x] => match x.lvs with
    | some ds => .ok (.sh (.tup ds))
    | none => .stuck
  | _ => .stuck
theorem s_tuple : CallS c (fun xs H Q => ∃ p ys, xs = [.ref p] ∧ ((SqL c.K H p ys ∧ ∀ (l : Addr) (o : Obj), o.dict = none → H l = none → Q (.ref l) (upd H l (.frz o (.tup ys)))) ∨ (SqT c.K H p ys ∧ Q (.ref p) H))) gTuple := by
  intro E S H S1 H1 A vs xs Q g ra nd fr p
  unfold gTuple at p
  split at p
  · obtain ⟨v, rfl, rv⟩ := ev1 ra
    cases rv with
    | sh r => cases r with
      | tup h r => exact ⟨_, _, rfl, .inr ⟨(h.mono g.sub).sq, p.sh g (.tup h r)⟩⟩
  · rename_i ns
    obtain ⟨v, rfl, rv⟩ := ev1 ra
    cases rv with
    | sh r => cases r with
      | @scr _ ns h => exact ⟨_, _, rfl, .inl ⟨g.sub.seq h, fun l o ho hl => p.tup g (reps_ints ns) o ho hl⟩⟩
  · rename_i x _ _
    obtain ⟨v, rfl, rv⟩ := ev1 ra
    cases e : x.lvs with
    | none =>
      rw [e] at p
      exact p.elim
    | some ds =>
      rw [e] at p
      obtain ⟨a1, vs1, q1, h1, r1⟩ := rv.items g fr e
      exact ⟨a1, vs1, by rw [q1], .inl ⟨SqL.of h1, fun l o ho hl => p.tup (rv.gone g fr) r1 o ho hl⟩⟩
  · exact p.elim
end
end Dl
set_option Elab.async false
set_option linter.all false
set_option maxRecDepth 100000
/-! DL5: isinstance; own defs, methods, instances. -/
namespace Dl
open PySem PySem.Spec PyProof.Rows L2

/-! ### isinstance -/
def isaB (a b : String) : Bool := a == b || (a == "bool" && b == "int")
def tyNms : List String := ["NoneType", "bool", "int", "str", "tuple", "list"]
def clss : List String := ["bool", "int", "str", "tuple", "list"]
theorem kitB_all : (tyNms.all fun a => clss.all fun b => decide (kitB a b = some (isaB a b))) = true := by decide +kernel
theorem kitB_of {a b : String} (ha : a ∈ tyNms) (hb : b ∈ clss) : kitB a b = some (isaB a b) := of_decide_eq_true (List.all_eq_true.mp (List.all_eq_true.mp kitB_all a ha) b hb)
def D.tyn : D → Option String
  | .non => some "NoneType"
  | .bl _ => some "bool"
  | .int _ => some "int"
  | .str _ => some "str"
  | .tup _ => some "tuple"
  | .lst _ => some "list"
  | .scr _ => some "list"
  | _ => none
theorem tyn_in {d : D} {a : String} (h : d.tyn = some a) : a ∈ tyNms := by
  cases d <;> first | (cases h; decide) | cases h
theorem Rep.tyX {c : Ct} {H : Hp} {v : V} {d : D} {a : String} (r : Rep c H v d) (h : d.tyn = some a) : TyX c.K H v (.type a) := by
  cases r with
  | non => cases h; exact .base .non
  | bl b => cases h; exact .base (.bl b)
  | int i => cases h; exact .base (.int i)
  | str s => cases h; exact .base (.str s)
  | tup ha r =>
    cases h
    rcases ha with ⟨o, ha, _⟩ | ⟨o, its, n, e, hc, _⟩
    · exact .fTuple ha
    · exact .kTuple e hc
  | lst ha r => cases h; exact .base (.lst ha)
  | scr ha =>
    cases h
    rcases ha with (ha | ⟨o, ha⟩) | ⟨o, its, n, e, hc, _⟩
    · exact .base (.lst ha)
    · exact .base (.frz ha)
    · exact .kList e hc
  | _ => cases h
def tyNames : List D → Option (List String)
  | [] => some []
  | .ty n :: ds => if clss.contains n then (tyNames ds).map (n :: ·) else none
  | _ :: _ => none
def isaD (a b : D) : Option D := match a.tyn, b with
  | some t, .ty n => if clss.contains n then some (.bl (isaB t n)) else none
  | some t, .tup ds => (tyNames ds).map fun ns => .bl (ns.any (isaB t))
  | _, _ => none
def gIsi : List EV → Res EV
  | [x, y] => match isaD x.d y.d with
    | some z => .ok (.sh z)
    | none => .stuck
  | _ => .stuck
/-- isinstance(x, (c1, c2, ..)), the tuple known -/
def rIsiF (K : PySem.W.Frag) : List V → Hp → VK → Prop := fun xs H Q => ∃ (x : V) (tp : Addr) (cs : List V) (t : Value) (us : List Value) (b : Bool), xs = [x, .ref tp] ∧ (∃ o : Obj, H tp = some (.frz o (.tup cs)) ∧ o.dict = none) ∧ Paired ClsV cs us ∧ TyX K H x t ∧ PySem.W.kitAny K t us = some b ∧ Q (.bl b) H
theorem call_isiF {X : Cx} : CallR X (.builtin "isinstance") (rIsiF X.K) := by
  intro pins s σ H xs us Q I r h
  obtain ⟨x, tp, cs, t, ws, b, rfl, ⟨ob, hT, _⟩, k, ty, e, q⟩ := h
  obtain ⟨u1, u2, rfl, r1, r2⟩ := vals2 r
  obtain rfl : u2 = Value.ref tp := r2
  obtain ⟨P, Z, p, hx⟩ := kit_of I r1 ty
  obtain ⟨_, _, vs, rv, o, h1, h2, n, h3⟩ := (show ObjOk X.prog X.w H s.heap tp (.frz ob (.tup cs)) from I.hok tp _ hT)
  obtain rfl := ClsV.all k rv
  obtain ⟨c1, c2, c3, c4⟩ := o
  obtain rfl : c1 = .type "tuple" := h2
  obtain rfl : c3 = .seq vs.toArray n := h3
  exact PySem.W.kia_tup Z I.kIn p h1 e hx fun tk => ⟨.bl b, H, I.tok tk, rfl, q⟩
def rIsiAll (K : PySem.W.Frag) : List V → Hp → VK → Prop := fun xs H Q => rIsi K xs H Q ∨ rIsiF K xs H Q ∨ rIsiK K xs H Q
theorem call_isiAll {X : Cx} : CallR X (.builtin "isinstance") (rIsiAll X.K) := by
  intro pins s σ H xs us Q I r h
  rcases h with h | h | h
  · exact call_isi pins s σ H xs us Q I r h
  · exact call_isiF pins s σ H xs us Q I r h
  · exact call_isiK pins s σ H xs us Q I r h
theorem tyNames_vals {c : Ct} {H : Hp} {t : String} (ht : t ∈ tyNms) : ∀ {ds : List D} {ns : List String} {vs : List V}, tyNames ds = some ns → Reps c H vs ds → Paired ClsV vs (ns.map Value.type) ∧ PySem.W.kitAny c.K (.type t) (ns.map Value.type) = some (ns.any (isaB t))
  | [], _, _, e, r => by
    cases e
    cases r
    exact ⟨.nil, rfl⟩
  | .ty n :: ds, _, _, e, r => by
    rw [tyNames] at e
    split at e
    · rename_i hn
      cases q : tyNames ds with
      | none => rw [q] at e; cases e
      | some ns =>
        rw [q] at e
        cases e
        cases r with
        | cons h r =>
          cases h
          obtain ⟨p1, p2⟩ := tyNames_vals ht q r
          refine ⟨.cons (.ty n) p1, ?_⟩
          refine kitAny_cons (kit_ty (kitB_of ht (by simpa using hn))) (fun hb => ?_) fun hb => ?_
          · rw [List.any_cons, hb, Bool.false_or]
            exact p2
          · rw [List.any_cons, hb]
            rfl
    · cases e
  | .non :: _, _, _, e, _ => by cases e
  | .bl _ :: _, _, _, e, _ => by cases e
  | .int _ :: _, _, _, e, _ => by cases e
  | .str _ :: _, _, _, e, _ => by cases e
  | .tup _ :: _, _, _, e, _ => by cases e
  | .lst _ :: _, _, _, e, _ => by cases e
  | .scr _ :: _, _, _, e, _ => by cases e
  | .obj _ _ :: _, _, _, e, _ => by cases e
  | .dic _ :: _, _, _, e, _ => by cases e
theorem rel_types : ∀ {ns : List String} {vs : List V} {its : List Value}, Paired ClsV vs (ns.map Value.type) → Vals vs its → its = ns.map Value.type
  | _, _, _, k, r => ClsV.all k r
theorem s_isi {c : Ct} : CallS c (rIsiAll c.K) gIsi := by
  intro E S H S1 H1 A vs xs Q g ra nd fr p
  unfold gIsi at p
  split at p
  · rename_i x y
    obtain ⟨v, w, B, C, rfl, rx, ry⟩ := ev2 ra
    have rx := rx.rep g.sub
    have ry := ry.rep g.sub
    cases e : isaD x.d y.d with
    | none =>
      rw [e] at p
      exact p.elim
    | some z =>
      rw [e] at p
      generalize x.d = dx at rx e
      generalize y.d = dy at ry e
      unfold isaD at e
      split at e
      · rename_i t n ht
        split at e
        · rename_i hn
          cases e
          cases ry
          exact .inl ⟨v, _, _, _, _, rfl, .ty n, rx.tyX ht, kit_ty (kitB_of (tyn_in ht) (by simpa using hn)), p.sh g (.bl _)⟩
        · cases e
      · rename_i t ds ht
        cases q : tyNames ds with
        | none => rw [q] at e; cases e
        | some ns =>
          rw [q] at e
          cases e
          cases ry with
          | tup ha r =>
            obtain ⟨p1, p2⟩ := tyNames_vals (tyn_in ht) q r
            rcases ha with ha | ⟨o, its, n, ek, hc, _, hd, hz, rv⟩
            · exact .inr (.inl ⟨v, _, _, _, _, _, rfl, ha, p1, rx.tyX ht, p2, p.sh g (.bl _)⟩)
            · have e3 := ClsV.all p1 rv
              obtain ⟨oc, od, dt, sl⟩ := o
              simp only at hc hd
              subst hc hd
              refine .inr (.inr ⟨v, _, od, ns.map Value.type, n, sl, _, _, rfl, ?_, rx.tyX ht, p2, p.sh g (.bl _)⟩)
              rw [ek, ← e3]
      · cases e
  · exact p.elim

/-! ### data without lists -/
mutual
def D.ll : D → Bool
  | .tup ds => D.lls ds
  | .lst _ => false
  | .scr _ => false
  | .obj _ fs => D.llf fs
  | .dic kvs => D.llk kvs
  | _ => true
def D.lls : List D → Bool
  | [] => true
  | d :: ds => d.ll && D.lls ds
def D.llf : List (Str × D) → Bool
  | [] => true
  | (_, d) :: ds => d.ll && D.llf ds
def D.llk : List (NestedKey × D) → Bool
  | [] => true
  | (_, d) :: ds => d.ll && D.llk ds
end
mutual
theorem keyD_ll : ∀ k : NestedKey, (keyD k).ll = true
  | .none => rfl
  | .num _ => rfl
  | .text _ => rfl
  | .tup ks => by rw [keyD, D.ll]; exact keyDs_ll ks
theorem keyDs_ll : ∀ ks : List NestedKey, D.lls (keyDs ks) = true
  | [] => rfl
  | k :: ks => by rw [keyDs, D.lls, keyD_ll k, keyDs_ll ks]; rfl
end
mutual
def T.ll : T → Bool
  | .leaf d => d.ll
  | .node ts => T.lls ts
def T.lls : List T → Bool
  | [] => true
  | t :: ts => t.ll && T.lls ts
end
def EV.ll : EV → Bool
  | .sh d => d.ll
  | .fr ts => T.lls ts
  | .bo _ => false
def EV.noBo : EV → Bool
  | .bo _ => false
  | _ => true
def drop (S : Hp) (B : List Addr) : Hp := fun b => if b ∈ B then none else S b
section
variable {c : Ct} {S H S1 H1 S2 H2 S3 H3 : Hp} {B : List Addr}
theorem drop_out {b : Addr} (h : b ∉ B) : drop S B b = S b := if_neg h
theorem drop_in {b : Addr} (h : b ∈ B) : drop S B b = none := if_pos h
theorem drop_none {b : Addr} (h : S b = none) : drop S B b = none := by
  unfold drop
  split
  · rfl
  · exact h
mutual
theorem Rep.dropped (hB : ∀ b ∈ B, ∃ vs, S b = some (.lst vs)) : ∀ {v : V} {d : D}, Rep c S v d → d.ll = true → Rep c (drop S B) v d
  | _, _, .non, _ => .non
  | _, _, .bl b, _ => .bl b
  | _, _, .int i, _ => .int i
  | _, _, .str s, _ => .str s
  | _, _, .ty n, _ => .ty n
  | _, _, .tup h r, e => by
    rw [D.ll] at e
    refine .tup (h.imp (fun ⟨o, q, d⟩ => ⟨o, ?_, d⟩) id) (Reps.dropped hB r e)
    rw [drop_out]
    · exact q
    · intro z
      obtain ⟨vs, y⟩ := hB _ z
      rw [q] at y
      cases y
  | _, _, .lst h r, e => by rw [D.ll] at e; cases e
  | _, _, .scr h, e => by rw [D.ll] at e; cases e
  | _, _, .obj h r, e => by
    rw [D.ll] at e
    refine .obj (Eq.trans (drop_out ?_) h) (FReps.dropped hB r e)
    intro z
    obtain ⟨vs, y⟩ := hB _ z
    rw [h] at y
    cases y
  | _, _, .dic h r, e => by
    rw [D.ll] at e
    refine .dic (Eq.trans (drop_out ?_) h) (KReps.dropped hB r e)
    intro z
    obtain ⟨vs, y⟩ := hB _ z
    rw [h] at y
    cases y
theorem Reps.dropped (hB : ∀ b ∈ B, ∃ vs, S b = some (.lst vs)) : ∀ {vs : List V} {ds : List D}, Reps c S vs ds → D.lls ds = true → Reps c (drop S B) vs ds
  | _, _, .nil, _ => .nil
  | _, _, .cons h r, e => by
    rw [D.lls, Bool.and_eq_true] at e
    exact .cons (Rep.dropped hB h e.1) (Reps.dropped hB r e.2)
theorem FReps.dropped (hB : ∀ b ∈ B, ∃ vs, S b = some (.lst vs)) : ∀ {vs : List (Str × V)} {ds : List (Str × D)}, FReps c S vs ds → D.llf ds = true → FReps c (drop S B) vs ds
  | _, _, .nil, _ => .nil
  | _, _, .cons h r, e => by
    rw [D.llf, Bool.and_eq_true] at e
    exact .cons (Rep.dropped hB h e.1) (FReps.dropped hB r e.2)
theorem KReps.dropped (hB : ∀ b ∈ B, ∃ vs, S b = some (.lst vs)) : ∀ {xs : List (NestedKey × Addr × Value)} {kvs : List (NestedKey × D)}, KReps c S xs kvs → D.llk kvs = true → KReps c (drop S B) xs kvs
  | _, _, .nil, _ => .nil
  | _, _, .cons h l q r s, e => by
    rw [D.llk, Bool.and_eq_true] at e
    exact .cons (Rep.dropped hB h (keyD_ll _)) l q (Rep.dropped hB r e.1) (KReps.dropped hB s e.2)
end
mutual
theorem Own.dropped (hB : ∀ b ∈ B, ∃ vs, S b = some (.lst vs)) : ∀ {A : List Addr} {v : V} {t : T}, Own c S H A v t → t.ll = true → Own c (drop S B) H A v t
  | _, _, _, .leaf r, e => .leaf (r.dropped hB (by rw [T.ll] at e; exact e))
  | _, _, _, .node h n r, e => .node h (drop_none n) (Owns.dropped hB r (by rw [T.ll] at e; exact e))
theorem Owns.dropped (hB : ∀ b ∈ B, ∃ vs, S b = some (.lst vs)) : ∀ {A : List Addr} {vs : List V} {ts : List T}, Owns c S H A vs ts → T.lls ts = true → Owns c (drop S B) H A vs ts
  | _, _, _, .nil, _ => .nil
  | _, _, _, .cons h r, e => by
    rw [T.lls, Bool.and_eq_true] at e
    exact .cons (Own.dropped hB h e.1) (Owns.dropped hB r e.2)
end
/-- the values as shared data, over S with the values' own lists (A) and those of slots (B) -/
theorem EvsRep.pool : ∀ {A : List Addr} {vs : List V} {xs : List EV}, EvsRep c S H A vs xs → ∃ B, (∀ b ∈ B, (∃ ws, H b = some (.lst ws)) ∧ S b = none) ∧ (xs.all EV.noBo = true → B = []) ∧
      ∀ G : List Addr, (∀ a ∈ A, a ∈ G) → (∀ a ∈ B, a ∈ G) → (∀ a ∈ G, S a = none) → Reps c (grab S H G) vs (xs.map EV.d)
  | _, _, _, .nil => ⟨[], (fun b z => by cases z), (fun _ => rfl), fun _ _ _ _ => Reps.nil⟩
  | _, _, _, .cons (A := A) (B := A2) h r => by
    obtain ⟨B, b1, b2, b3⟩ := EvsRep.pool r
    cases h with
    | sh q =>
      refine ⟨B, b1, fun z => b2 (by simpa [EV.noBo] using z), fun G g1 g2 g3 => .cons (q.mono (same_grab g3)) (b3 G (fun a ha => g1 a (List.mem_append_right _ ha)) g2 g3)⟩
    | fr q =>
      refine ⟨B, b1, fun z => b2 (by simpa [EV.noBo] using z), fun G g1 g2 g3 => .cons ?_ (b3 G (fun a ha => g1 a (List.mem_append_right _ ha)) g2 g3)⟩
      have := q.grabbed (same_grab g3) fun u hu => grab_in (g1 u (List.mem_append_left _ hu))
      simpa [EV.d, T.toD] using this
    | @bo C _ _ q =>
      refine ⟨C ++ B, fun b hb => ?_, fun z => by simp [EV.noBo] at z, fun G g1 g2 g3 => .cons ?_ (b3 G (fun a ha => g1 a (List.mem_append_right _ ha)) (fun a ha => g2 a (List.mem_append_right _ ha)) g3)⟩
      · rcases List.mem_append.mp hb with hb | hb
        · exact q.alive b hb
        · exact b1 b hb
      · have := q.grabbed (same_grab g3) fun u hu => grab_in (g2 u (List.mem_append_left _ hu))
        simpa [EV.d, T.toD] using this
/-- behind a call over the pool: the slots' lists are no longer shared -/
theorem Gr.back (g : Gr S H S1 H1) {A : List Addr} (fr : ∀ a ∈ A, H a = none) (nA : ∀ a ∈ A, S1 a = none) (nB : ∀ b ∈ B, S1 b = none) (g3 : Gr (Dl.grab S1 H1 (A ++ B)) H1 S3 H3) : Gr S H (drop S3 B) H3 := by
  refine ⟨g.hh.trans g3.hh, fun b o e => ?_, fun b o e => ?_, fun a o e n => ?_⟩
  · have e1 := g.ss b o e
    have h1 : b ∉ A ++ B := fun z => (List.mem_append.mp z).elim (fun z => by rw [nA b z] at e1; cases e1) fun z => by rw [nB b z] at e1; cases e1
    rw [drop_out (fun z => h1 (List.mem_append_right _ z))]
    exact g3.ss b o (by rw [grab_out h1]; exact e1)
  · by_cases hb : b ∈ B
    · rw [drop_in hb] at e
      cases e
    · rw [drop_out hb] at e
      exact g3.sub b o e
  · by_cases hb : a ∈ B
    · exact drop_in hb
    · rw [drop_out hb]
      have hA : a ∉ A := fun z => by
        rw [fr a z] at e
        cases e
      exact g3.new a o (g.hh a o e) (by rw [grab_out (fun z => (List.mem_append.mp z).elim hA hb)]; exact g.new a o e n)
end

/-! ### own defs -/
/-- F at the values: where a slot's own list is handed in, nothing with lists may come back -/
def callR (F : List D → Res EV) (xs : List EV) : Res EV := match F (xs.map EV.d) with
  | .ok x => if xs.all EV.noBo || x.ll then .ok x else .stuck
  | .exc x => if xs.all EV.noBo || D.llf x.fs then .exc x else .stuck
  | .stuck => .stuck
/-- THE PROMISE of a def that is the function F on data -/
def spD (c : Ct) (n : Nat) (F : List D → Res EV) : Sp := fun vs H Q E => vs.length = n ∧ ∃ S ds, Same S H ∧ Reps c S vs ds ∧ Post c (fun _ => E) S H (F ds) Q
/-- the same where the defaults dds fill up -/
def spF (c : Ct) (n : Nat) (F : List D → Res EV) (dds : List D) : Sp := fun vs H Q E => vs.length + dds.length = n ∧ ∃ S ds, Same S H ∧ Reps c S vs ds ∧ Post c (fun _ => E) S H (F (ds ++ dds)) Q
theorem XRep.dropped {c : Ct} {S H : Hp} {B : List Addr} {e : Value} {dx : Option Addr} {x : Xc} (hB : ∀ b ∈ B, ∃ vs, S b = some (.lst vs)) (h : XRep c S H e dx x) (l : D.llf x.fs = true) : XRep c (drop S B) H e dx x := by
  obtain ⟨C, fs⟩ := x
  obtain ⟨h1, h2⟩ := h
  refine ⟨h1, ?_⟩
  cases fs with
  | nil => exact h2
  | cons p fs =>
    obtain ⟨d, vfs, q1, q2, q3⟩ := h2
    exact ⟨d, vfs, q1, q2, q3.dropped hB l⟩
theorem call_post {c : Ct} {E : XS} {E0 : XK} {S H S1 H1 : Hp} {A : List Addr} {vs : List V} {xs : List EV} {F : List D → Res EV} {Q : VK} (g : Gr S H S1 H1) (r : EvsRep c S1 H1 A vs xs) (fr : ∀ a ∈ A, H a = none) (p : Post c E S H (callR F xs) Q)
    (hE : ∀ S' e dx H', Gr S H S' H' → E S' e dx H' → E0 e dx H') : ∃ S2, Same S2 H1 ∧ Reps (c.re 0 none .none) S2 vs (xs.map EV.d) ∧ Post (c.re 0 none .none) (fun _ => E0) S2 H1 (F (xs.map EV.d)) Q := by
  obtain ⟨B, b1, b2, b3⟩ := r.pool
  have nA : ∀ a ∈ A, S1 a = none := fun a ha => (r.alive a ha).2
  have nB : ∀ b ∈ B, S1 b = none := fun b hb => (b1 b hb).2
  have nG : ∀ a ∈ A ++ B, S1 a = none := fun a ha => (List.mem_append.mp ha).elim (nA a) (nB a)
  refine ⟨grab S1 H1 (A ++ B), grab_same g.sub, (b3 _ (fun a ha => List.mem_append_left _ ha) (fun a ha => List.mem_append_right _ ha) nG).re, ?_⟩
  unfold callR at p
  have lB : ∀ {S3 H3 : Hp}, Gr (grab S1 H1 (A ++ B)) H1 S3 H3 → ∀ b ∈ B, ∃ vs, S3 b = some (.lst vs) := fun {S3 H3} g3 b hb => by
    obtain ⟨⟨ws, e⟩, _⟩ := b1 b hb
    exact ⟨ws, g3.ss b _ (by rw [grab_in (List.mem_append_right _ hb)]; exact e)⟩
  cases e : F (xs.map EV.d) with
  | stuck =>
    rw [e] at p
    exact p.elim
  | ok x =>
    rw [e] at p
    intro S3 H3 C v g3 r3' n3 f3
    have r3 : EvRep c S3 H3 C v x := r3'.re (xa := c.xa) (xd := c.xd) (xc := c.xc)
    by_cases hb : xs.all EV.noBo = true
    · rw [b2 hb, List.append_nil] at g3
      simp only [hb, Bool.true_or, if_true] at p
      exact p S3 H3 C v ((g.grab fr nA).trans g3) r3 n3 fun a ha => g.hh.free (f3 a ha)
    · simp only [hb, Bool.false_or] at p
      by_cases hl : x.ll = true
      · simp only [if_pos hl] at p
        refine p (drop S3 B) H3 C v (g.back fr nA nB g3) ?_ n3 fun a ha => g.hh.free (f3 a ha)
        cases r3 with
        | sh q => exact .sh (q.dropped (lB g3) hl)
        | fr q => exact .fr (q.dropped (lB g3) (by rw [T.ll]; exact hl))
        | bo q => cases hl
      · simp only [if_neg hl] at p
        exact p.elim
  | exc x =>
    rw [e] at p
    intro S3 H3 z dx g3 r3' f3
    have r3 : XRep c S3 H3 z dx x := r3'.re (xa := c.xa) (xd := c.xd) (xc := c.xc)
    have f3 : FrX H dx := fun d e => g.hh.free (f3 d e)
    by_cases hb : xs.all EV.noBo = true
    · rw [b2 hb, List.append_nil] at g3
      simp only [hb, Bool.true_or, if_true] at p
      have g4 := (g.grab fr nA).trans g3
      exact hE S3 z dx H3 g4 (p S3 H3 z dx g4 r3 f3)
    · simp only [hb, Bool.false_or] at p
      by_cases hl : D.llf x.fs = true
      · simp only [if_pos hl] at p
        have g4 := g.back fr nA nB g3
        exact hE _ z dx H3 g4 (p (drop S3 B) H3 z dx g4 (r3.dropped (lB g3) hl) f3)
      · simp only [if_neg hl] at p
        exact p.elim

/-! ### what may be called -/
theorem EvsRep.length {c : Ct} {S H : Hp} : ∀ {A : List Addr} {vs : List V} {xs : List EV}, EvsRep c S H A vs xs → vs.length = xs.length
  | _, _, _, .nil => rfl
  | _, _, _, .cons _ r => congrArg (· + 1) (EvsRep.length r)
/-- behind a callee's code -/
abbrev CodeR (X : Cx) (pins : List (Addr × Obj)) (σ : L2.St) (Q : VK) : Result → Shared → Prop := fun r s' => match r with | .ok (.ret v) => EP X pins σ Q v s' | .ok _ => False | .error e => X.xe e s'
/-- f may be called in X, it is the function F -/
structure CallD (X : Cx) (E : WS) (f : Addr) (n : Nat) (F : List D → Res EV) (dds : List D) : Prop where
  kp : PySem.W.keepIn X.K (.ref f) = true
  run : ∀ (pins : List (Addr × Obj)) (σ : L2.St) (H : Hp) (s : Shared) (Q : VK) (us : List Value) (vs : List V), Inv X pins σ H s → Vals vs us → spF (ct0 X) n F dds vs H Q (E σ) → codeAny (model X.prog X.w) X.A (.call (.ref f) ⟨us, []⟩) (CodeR X pins σ Q) s
theorem CallD.wp {X : Cx} {E : WS} {f : Addr} {n : Nat} {F : List D → Res EV} {dds : List D} (G : CallD X E f n F dds) {pins : List (Addr × Obj)} {σ : L2.St} {H : Hp} {s : Shared} {Q : VK} {us : List Value} {vs : List V} (I : Inv X pins σ H s) (r : Vals vs us) (h : spF (ct0 X) n F dds vs H Q (E σ)) :
    wpAny (model X.prog X.w) X.A (call (.ref f) us) (EP X pins σ Q) X.xe s := wpAny_call (G.run pins σ H s Q us vs I r h)
def callN (n : Nat) (F : List D → Res EV) (dds : List D) (xs : List EV) : Res EV := if xs.length + dds.length = n then callR (fun ds => F (ds ++ dds)) xs else .stuck
def dCall (n : Nat) (F : List D → Res EV) (dds : List D) (fs : Dl.Env → Res (List EV)) : Dl.Env → Res EV := fun ρ => (fs ρ).bind fun xs => callN n F dds xs
theorem call_at {c : Ct} {E : XS} {E0 : XK} {n : Nat} {F : List D → Res EV} {dds : List D} {S H S1 H1 : Hp} {A : List Addr} {vs : List V} {xs : List EV} {Q : VK} (g : Gr S H S1 H1) (r : EvsRep c S1 H1 A vs xs) (fr : ∀ a ∈ A, H a = none) (p : Post c E S H (callN n F dds xs) Q)
    (hE : ∀ S' e dx H', Gr S H S' H' → E S' e dx H' → E0 e dx H') : spF (c.re 0 none .none) n F dds vs H1 Q E0 := by
  unfold callN at p
  by_cases hl : xs.length + dds.length = n
  · rw [if_pos hl] at p
    obtain ⟨S2, q1, q2, q3⟩ := call_post g r fr p hE
    exact ⟨by rw [r.length]; exact hl, S2, _, q1, q2, q3⟩
  · rw [if_neg hl] at p
    exact p.elim
theorem xs_at {c : Ct} {E : WS} {S H : Hp} {σ : L2.St} {ρ : Dl.Env} {O : List Addr} (V : View c S H σ ρ O) : ∀ S' e dx H', Gr S H S' H' → xs c E ρ O S' e dx H' → E σ e dx H' := fun S' e dx H' g h => h σ (V.gr g).sl
/-- calls by values: what the call's own reading is -/
def tCb (c : Ct) (n : Nat) (F : List D → Res EV) (dds : List D) (E : WS) (t : TA) : TE := fun σ H Q => t σ H fun vs H1 => spF c n F dds vs H1 Q (E σ)
section
variable {X : Cx} {CX : CXT} {k n : Nat} {f C : Addr} {fd : FuncData} {ps : List Str} {dvs : List V} {dds : List D} {ds : List Value} {E : WS} {x m : Str} {p pos apos : Pos} {e o : Expr} {es : List Expr} {F : List D → Res EV} {fs : Dl.Env → Res (List EV)} {f0 : Dl.Env → Res EV}
theorem spF_D {c : Ct} {vs : List V} {H : Hp} {Q : VK} {E0 : XK} (hdd : ∀ H, Reps c H dvs dds) (h : spF c n F dds vs H Q E0) : spD c n F (vs ++ dvs) H Q E0 := by
  obtain ⟨hl, S, ds, sub, r, p⟩ := h
  have l2 := (hdd S).length
  exact ⟨by rw [List.length_append]; omega, S, _, sub, r.append (hdd S), p⟩
theorem run_fnOD {sp : Sp} {E0 : XK} {pins : List (Addr × Obj)} {σ : L2.St} {H : Hp} {s : Shared} {Q : VK} {us : List Value} {vs : List V} (G : FnOk X.prog X.w X.K X.mg X.base CX k f fd ps sp) (hr : Room k X.A) (hb : Binds X.K fd ps ds) (hd : Vals dvs ds) (hx : PassesAt CX X σ E0)
    (I : Inv X pins σ H s) (r : Vals vs us) (h : sp (vs ++ dvs) H Q E0) : codeAny (model X.prog X.w) X.A (.call (.ref f) ⟨us, []⟩) (CodeR X pins σ Q) s := by
  have r2 : Vals (vs ++ dvs) (us ++ ds) := r.append hd
  have hl : (us ++ ds).length = ps.length := by rw [← r2.length]; exact G.len _ _ _ _ h
  refine codeAny_mono (G.run X.A X.stack s H ⟨us, []⟩ (us ++ ds) (vs ++ dvs) Q E0 hr I.env0 (hb s us I.kIn hl) r2 h) fun r s' hq => ?_
  cases r with
  | error e => exact hx pins H s e s' I hq
  | ok fl =>
    cases fl with
    | ret u => exact I.after hq
    | next => exact False.elim hq
    | brk => exact False.elim hq
    | cont => exact False.elim hq
theorem callD_ok (G : FnOk X.prog X.w X.K X.mg X.base CX k f fd ps (spD (ct0 X) n F)) (hr : Room k X.A) (hk : PySem.W.keepIn X.K (.ref f) = true) (hb : Binds X.K fd ps ds) (hd : Vals dvs ds) (hdd : ∀ c H, Reps c H dvs dds) (hx : ∀ σ, PassesAt CX X σ (E σ)) : CallD X E f n F dds :=
  ⟨hk, fun pins σ H s Q us vs I r h => run_fnOD G hr hb hd (hx σ) I r (spF_D (hdd _) h)⟩
theorem run_fnHD {sp : Sp} {E0 : XK} {pins : List (Addr × Obj)} {σ : L2.St} {H : Hp} {s : Shared} {Q : VK} {us : List Value} {vs : List V} (G : L2H.FnH X.prog X.w X.K X.mg X.base CX k f fd ps sp) (hr : L2H.RoomH k X.A) (hc : L2H.HotC X) (hb : Binds X.K fd ps ds) (hd : Vals dvs ds) (hx : PassesAt CX X σ E0)
    (I : Inv X pins σ H s) (r : Vals vs us) (h : sp (vs ++ dvs) H Q E0) : codeAny (model X.prog X.w) X.A (.call (.ref f) ⟨us, []⟩) (CodeR X pins σ Q) s := by
  obtain ⟨p, hot, hp⟩ := hc
  have r2 : Vals (vs ++ dvs) (us ++ ds) := r.append hd
  have hl : (us ++ ds).length = ps.length := by rw [← r2.length]; exact G.len _ _ _ _ h
  have P1 := I.pin p (List.mem_append_left _ hp)
  have hpin : L2H.PinOk X.stack H s p := ⟨P1.1, P1.2.1, fun hm => (List.mem_cons.mp (I.stkSub p.1 hm)).elim P1.2.2.1 P1.2.2.2.1, P1.2.2.2.2⟩
  refine codeAny_mono (G.run X.A X.stack s H ⟨us, []⟩ (us ++ ds) (vs ++ dvs) Q E0 p hr hot hpin I.env0 (hb s us I.kIn hl) r2 h) fun r s' hq => ?_
  cases r with
  | error e => exact hx pins H s e s' I hq
  | ok fl =>
    cases fl with
    | ret u => exact I.after hq
    | next => exact False.elim hq
    | brk => exact False.elim hq
    | cont => exact False.elim hq
theorem callD_hot (G : L2H.FnH X.prog X.w X.K X.mg X.base CX k f fd ps (spD (ct0 X) n F)) (hr : L2H.RoomH k X.A) (hc : L2H.HotC X) (hk : PySem.W.keepIn X.K (.ref f) = true) (hb : Binds X.K fd ps ds) (hd : Vals dvs ds) (hdd : ∀ c H, Reps c H dvs dds) (hx : ∀ σ, PassesAt CX X σ (E σ)) : CallD X E f n F dds :=
  ⟨hk, fun pins σ H s Q us vs I r h => run_fnHD G hr hc hb hd (hx σ) I r (spF_D (hdd _) h)⟩
theorem callD_imp {σ : L2.St} {H : Hp} {Q : VK} (h : rE (ctOf X) E (dCall n F dds fs) σ H Q) : tCb (ct0 X) n F dds E (rA (ctOf X) E fs) σ H Q := by
  obtain ⟨S, ρ, O, V, h⟩ := h
  exact ⟨S, ρ, O, V, PostA.fst h fun xs e1 h1 S1 H1 A vs g1 r1 n1 fr1 => call_at g1 r1 fr1 h1 (xs_at V)⟩
theorem de_call (G : CallD X E f n F dds) (hm : X.mg x = some (.ref f)) (ha : DA X E (e :: es) fs) (hg : Gl X x := by rfl) (hdb : (x == ("__debug__" : Str)) = false := by decide) (he : starEach (e :: es) X.env = (false, eval e X.env) :: starEach es X.env := by rfl)
    (hpl : (backTo pos (starEach es X.env)).any (·.1) = false := by rfl) : DE X E (.Call (.Name x p) (e :: es) [] pos) (dCall n F dds fs) := by
  refine pe_imp (t := tCb (ct0 X) n F dds E (rA (ctOf X) E fs)) ⟨fun pins s σ H Q I h => ?_⟩ fun _ _ _ h => callD_imp h
  refine wpAny_Call_Name_kw (ld_glob I hg hm ?_ hdb)
  refine PySem.W.callWith_K (h₀ := X.base) I.ok.mod.kin G.kp (thn (PA.run ha pos pins s σ H _ I h) fun us s1 ⟨vs, H1, I1, r, q⟩ => ⟨I1.kIn, ?_⟩) he hpl
  exact G.wp I1 r q
theorem de_call0 (G : CallD X E f n F dds) (hm : X.mg x = some (.ref f)) (hg : Gl X x := by rfl) (hdb : (x == ("__debug__" : Str)) = false := by decide) : DE X E (.Call (.Name x p) [] [] pos) (dCall n F dds aNil) := by
  refine pe_imp (t := tCb (ct0 X) n F dds E tNil) ⟨fun pins s σ H Q I h => ?_⟩ fun σ H Q h => ?_
  · refine wpAny_Call_Name_kw (ld_glob I hg hm ?_ hdb)
    exact PySem.W.callWith_K0 I.kIn G.kp (G.wp (us := []) (vs := []) I .nil h)
  · obtain ⟨S, ρ, O, V, h⟩ := h
    exact call_at (Gr.refl V.sub) .nil (fun _ z => by cases z) h (xs_at V)

/-! ### fields and methods of instances -/
/-- the value is an instance of the class at C -/
def asObj (C : Str) (x : EV) : Option (List (Str × D)) := match x with
  | .sh (.obj C' fl) => if C' = C then some fl else none
  | _ => none
theorem asObj_rep {c : Ct} {S H : Hp} {A : List Addr} {v : V} {x : EV} {C : Str} {fl : List (Str × D)} (r : EvRep c S H A v x) (h : asObj C x = some fl) : ∃ a dx vfl, v = .ref a ∧ S a = some (.ins (c.cl C) dx vfl) ∧ FReps c S vfl fl ∧ x = .sh (.obj C fl) := by
  unfold asObj at h
  split at h
  · split at h
    · rename_i hc
      cases h
      subst hc
      cases r with
      | sh r => cases r with
        | obj h r => exact ⟨_, _, _, rfl, h, r, rfl⟩
    · cases h
  · cases h
def dFld (C : Str) (f : Str) (f0 : Dl.Env → Res EV) : Dl.Env → Res EV := fun ρ => (f0 ρ).bind fun x => match asObj C x with
  | some fl => (match fl.lookup f with
    | some d => .ok (.sh d)
    | none => .stuck)
  | none => .stuck
theorem de_fld {C f : Str} (he : DE X E o f0) (cl : Cls X.K (clOf X.mg C)) (na : NoAttr X.K (clOf X.mg C) f) (hb : attributeBase o f X.env (eval o X.env) = eval o X.env := by rfl) : DE X E (.Attribute o f pos) (dFld C f f0) := by
  refine pe_imp (pe_fld he hb) fun σ H Q h => ?_
  obtain ⟨S, ρ, O, V, h⟩ := h
  refine ⟨S, ρ, O, V, Post.fst h fun x e1 h1 S1 H1 A v g1 r1 n1 fr1 => ?_⟩
  cases q : asObj C x with
  | none =>
    rw [q] at h1
    exact h1.elim
  | some fl =>
    rw [q] at h1
    obtain ⟨a, dx, vfl, rfl, ha, rf, _⟩ := asObj_rep r1 q
    cases q2 : fl.lookup f with
    | none =>
      simp only [q2] at h1
      exact h1.elim
    | some d =>
      simp only [q2] at h1
      obtain ⟨v, hv, rv⟩ := rf.lookup q2
      exact ⟨a, clOf X.mg C, dx, vfl, v, rfl, g1.sub _ _ ha, cl, na, hv, h1.sh g1 rv⟩
def dMeth (C m : Str) (n : Nat) (F : List D → Res EV) (dds : List D) (f0 : Dl.Env → Res EV) (fs : Dl.Env → Res (List EV)) : Dl.Env → Res EV := fun ρ => (f0 ρ).bind fun x => match asObj C x with
  | some fl => (match fl.lookup m with
    | none => (fs ρ).bind fun xs => callN n F dds (x :: xs)
    | some _ => .stuck)
  | none => .stuck
def tMb (c : Ct) (C : Addr) (m : Str) (n : Nat) (F : List D → Res EV) (dds : List D) (E : WS) (ta : TE) (t : TA) : TE := fun σ H Q => ta σ H fun x H1 => ∃ a dx fs, x = .ref a ∧ H1 a = some (.ins C dx fs) ∧ fs.lookup m = none ∧ t σ H1 fun vs H2 => spF c n F dds (x :: vs) H2 Q (E σ)
theorem meth_imp {C : Str} {σ : L2.St} {H : Hp} {Q : VK} (h : rE (ctOf X) E (dMeth C m n F dds f0 fs) σ H Q) : tMb (ct0 X) ((ct0 X).cl C) m n F dds E (rE (ctOf X) E f0) (rA (ctOf X) E fs) σ H Q := by
  obtain ⟨S, ρ, O, V, h⟩ := h
  refine ⟨S, ρ, O, V, Post.fst h fun x e1 h1 S1 H1 A v g1 r1 n1 fr1 => ?_⟩
  cases q : asObj C x with
  | none =>
    rw [q] at h1
    exact h1.elim
  | some fl =>
    rw [q] at h1
    obtain ⟨a, dx, vfl, rfl, ha, rf, ex⟩ := asObj_rep r1 q
    cases q2 : fl.lookup m with
    | some d =>
      simp only [q2] at h1
      exact h1.elim
    | none =>
      simp only [q2] at h1
      refine ⟨a, dx, vfl, rfl, g1.sub _ _ ha, rf.lookup_none q2, S1, ρ, O, V.gr g1, PostA.fst (Post.later h1 g1) fun xs e2 _ S2 H2 B vs g2 r2 n2 fr2 => ?_⟩
      rw [e2] at h1
      subst ex
      have rx : EvRep (ctOf X) S1 H1 [] (.ref a) (.sh (.obj C fl)) := .sh (.obj ha rf)
      have rr : EvsRep (ctOf X) S2 H2 ([] ++ B) (.ref a :: vs) (.sh (.obj C fl) :: xs) := .cons (rx.gr g2) r2
      exact call_at (g1.trans g2) rr (fun u hu => g1.hh.free (fr2 u (by simpa using hu))) h1 (xs_at V)
theorem de_meth {C : Str} {pl : Sem Bool} (he : DE X E o f0) (cl : Cls X.K (clOf X.mg C)) (hm : Meth X.K (clOf X.mg C) m f) (G : CallD X E f n F dds) (ha : DA X E (e :: es) fs)
    (hst : starEach (e :: es) X.env = (false, eval e X.env) :: starEach es X.env := by rfl) (hpl : (backTo pos (starEach es X.env)).any (·.1) = false := by rfl)
    (ht : eval (.Call (.Attribute o m apos) (e :: es) [] pos) X.env = (do
      let ov ← eval o X.env
      standAt apos.atName
      let (f, first) ← holding [ov] (getMethod ov m pl)
      callWith pos f first (backTo pos (starEach (e :: es) X.env)) (backToKw pos (keywordEach [] X.env))) := by rfl) :
    DE X E (.Call (.Attribute o m apos) (e :: es) [] pos) (dMeth C m n F dds f0 fs) := by
  refine pe_imp (t := tMb (ct0 X) ((ct0 X).cl C) m n F dds E (rE (ctOf X) E f0) (rA (ctOf X) E fs)) ⟨fun pins s σ H Q I h => ?_⟩ fun _ _ _ h => meth_imp h
  refine PySem.W.methodCall_KW (pl := pl) (thn (PE.run he pins s σ H _ I h) fun u s1 ⟨x, H1, I1, rx, a, dx, fs, ex, ea, l, q⟩ => ?_) ht
  subst ex
  obtain rfl : u = Value.ref a := rx
  refine getmeth_ok I1 ea cl hm l ?_
  refine PySem.W.callWith_K (first := [.ref a]) (h₀ := X.base) I.ok.mod.kin hm.kp (thn (PA.run ha pos pins s1 σ H1 _ I1 q) fun us s2 ⟨vs, H2, I2, r, q2⟩ => ⟨I2.kIn, ?_⟩) hst hpl
  exact G.wp (us := .ref a :: us) (vs := .ref a :: vs) I2 (.cons rfl r) q2
theorem de_meth0 {C : Str} {pl : Sem Bool} (he : DE X E o f0) (cl : Cls X.K (clOf X.mg C)) (hm : Meth X.K (clOf X.mg C) m f) (G : CallD X E f n F dds)
    (ht : eval (.Call (.Attribute o m apos) [] [] pos) X.env = (do
      let ov ← eval o X.env
      standAt apos.atName
      let (f, first) ← holding [ov] (getMethod ov m pl)
      callWith pos f first (backTo pos (starEach [] X.env)) (backToKw pos (keywordEach [] X.env))) := by rfl) :
    DE X E (.Call (.Attribute o m apos) [] [] pos) (dMeth C m n F dds f0 aNil) := by
  refine pe_imp (t := tMb (ct0 X) ((ct0 X).cl C) m n F dds E (rE (ctOf X) E f0) tNil) ⟨fun pins s σ H Q I h => ?_⟩ fun σ H Q h => ?_
  · refine PySem.W.methodCall_KW (pl := pl) (thn (PE.run he pins s σ H _ I h) fun u s1 ⟨x, H1, I1, rx, a, dx, fs, ex, ea, l, q⟩ => ?_) ht
    subst ex
    obtain rfl : u = Value.ref a := rx
    refine getmeth_ok I1 ea cl hm l ?_
    exact PySem.W.callWith_K0 (first := [.ref a]) I1.kIn hm.kp (G.wp (us := [.ref a]) (vs := [.ref a]) I1 (.cons rfl .nil) q)
  · obtain ⟨S, ρ, O, V, h⟩ := h
    refine ⟨S, ρ, O, V, Post.fst h fun x e1 h1 S1 H1 A v g1 r1 n1 fr1 => ?_⟩
    cases q : asObj C x with
    | none =>
      rw [q] at h1
      exact h1.elim
    | some fl =>
      rw [q] at h1
      obtain ⟨a, dx, vfl, rfl, ha, rf, ex⟩ := asObj_rep r1 q
      cases q2 : fl.lookup m with
      | some d =>
        simp only [q2] at h1
        exact h1.elim
      | none =>
        simp only [q2] at h1
        refine ⟨a, dx, vfl, rfl, g1.sub _ _ ha, rf.lookup_none q2, ?_⟩
        subst ex
        have rx : EvRep (ctOf X) S1 H1 [] (.ref a) (.sh (.obj C fl)) := .sh (.obj ha rf)
        have rr : EvsRep (ctOf X) S1 H1 ([] ++ []) [.ref a] [.sh (.obj C fl)] := .cons rx .nil
        exact call_at g1 rr (fun u hu => by cases hu) h1 (xs_at V)
end

/-! ### new instances -/
/-- growth but for the instance at x -/
structure GrX (x : Addr) (S H S' H' : Hp) : Prop where
  hh : ∀ b o, b ≠ x → H b = some o → H' b = some o
  ss : Same S S'
  sub : Same S' H'
  new : ∀ a o, H a = some o → S a = none → S' a = none
def PostI (c : Ct) (E : XK) (S H : Hp) (x : Addr) (C : Str) (r : Res (List (Str × D))) (k : Hp → Prop) : Prop := match r with
  | .ok fl => ∀ (S' H' : Hp) (dx : Addr) (vfl : List (Str × V)), GrX x S H S' H' → H' x = some (.ins (c.cl C) dx vfl) → FReps c S' vfl fl → S' x = none → k H'
  | .exc z => ∀ (S' H' : Hp) (e : Value) (d : Option Addr), GrX x S H S' H' → XRep c S' H' e d z → FrX H d → E e d H'
  | .stuck => False
/-- THE PROMISE of an __init__: the new instance's fields -/
def spI (c : Ct) (C : Str) (n : Nat) (F : List D → Res (List (Str × D))) : Sp := fun vs H Q E => vs.length = n + 1 ∧ ∃ S ds x dx ws, vs = .ref x :: ws ∧ Same S H ∧ S x = none ∧ H x = some (.ins (c.cl C) dx []) ∧ Reps c S ws ds ∧ PostI c E S H x C (F ds) (Q .non)
/-- C(..) as a function -/
def mkF (C : Str) (F : List D → Res (List (Str × D))) (ds : List D) : Res EV := (F ds).bind fun fl => .ok (.sh (.obj C fl))
theorem make_post {c : Ct} {E : XK} {x dx : Addr} {C : Str} {S H : Hp} {ds : List D} {vs : List V} {F : List D → Res (List (Str × D))} {Q : VK} (sub : Same S H) (r : Reps c S vs ds) (p : Post c (fun _ => E) S H (mkF C F ds) Q)
    (hx : H x = none) (hd : H dx = none) (hne : dx ≠ x) : PostI c E S (upd (upd H dx (.own x)) x (.ins (c.cl C) dx [])) x C (F ds) (fun H2 => V.non = .non ∧ Q (.ref x) H2) := by
  have up : ∀ b o, H b = some o → (upd (upd H dx (.own x)) x (.ins (c.cl C) dx [])) b = some o := fun b o e => by
    rw [upd_ne (ne_of_none e hx), upd_ne (ne_of_none e hd)]
    exact e
  have back : ∀ {S3 H3 : Hp}, GrX x S (upd (upd H dx (.own x)) x (.ins (c.cl C) dx [])) S3 H3 → Gr S H S3 H3 := fun {S3 H3} g3 =>
    ⟨fun b o e => g3.hh b o (ne_of_none e hx) (up b o e), g3.ss, g3.sub, fun a o e n => g3.new a o (up a o e) n⟩
  unfold mkF at p
  cases e : F ds with
  | stuck =>
    rw [e] at p
    exact p.elim
  | exc z =>
    rw [e] at p
    intro S3 H3 ev d g3 r3 f3
    refine p S3 H3 ev d (back g3) r3 fun d e => ?_
    cases q : H d with
    | none => rfl
    | some o =>
      have z := f3 d e
      rw [up d o q] at z
      cases z
  | ok fl =>
    rw [e] at p
    intro S3 H3 d vfl g3 hx3 rf nx
    have g4 : Gr S H (grab S3 H3 [x]) H3 := (back g3).grab (fun a ha => by
      rw [List.mem_singleton.mp ha]
      exact hx) fun a ha => by
      rw [List.mem_singleton.mp ha]
      exact nx
    refine ⟨rfl, Post.sh p g4 (.obj ((grab_in List.mem_cons_self).trans hx3) (rf.mono (same_grab fun a ha => ?_)))⟩
    rw [List.mem_singleton.mp ha]
    exact nx
section
variable {X : Cx} {CX : CXT} {k n : Nat} {f C : Addr} {fd : FuncData} {ps : List Str} {dvs : List V} {dds : List D} {ds : List Value} {E : WS} {F : List D → Res (List (Str × D))}
theorem run_makeS {sp : Sp} {E0 : XK} {pins : List (Addr × Obj)} {σ : L2.St} {H : Hp} {s : Shared} {Q : VK} {us : List Value} {vs : List V} (M : Mk X.K C f) (G : FnOk X.prog X.w X.K X.mg X.base CX k f fd ps sp) (hr : Room (k + 1) X.A) (hb : Binds X.K fd ps ds) (hd : Vals dvs ds)
    (hx : PassesAt CX X σ E0) (I : Inv X pins σ H s) (r : Vals vs us)
    (h : ∀ x dx, H x = none → H dx = none → dx ≠ x → sp (.ref x :: (vs ++ dvs)) (upd (upd H dx (.own x)) x (.ins C dx [])) (fun v H2 => v = .non ∧ Q (.ref x) H2) E0) :
    codeAny (model X.prog X.w) X.A (.call (.ref C) ⟨us, []⟩) (CodeR X pins σ Q) s := by
  have hq := h (s.heap.objs.size + 1) s.heap.objs.size (I.hok.fresh (Nat.le_succ _)) (I.hok.fresh (Nat.le_refl _)) (Nat.ne_of_lt (Nat.lt_succ_self _))
  have I2 := Inv.made (C := C) I
  have r2 : Vals (V.ref (s.heap.objs.size + 1) :: (vs ++ dvs)) (Value.ref (s.heap.objs.size + 1) :: (us ++ ds)) := .cons rfl (r.append hd)
  have hl : (Value.ref (s.heap.objs.size + 1) :: us ++ ds).length = ps.length := by
    have e := r2.length
    rw [G.len _ _ _ _ hq] at e
    exact e.symm
  refine (make_map (f := f) I.kIn M.makes M.init (beq_iff_eq.mp M.fn) (codeAny_mono (G.run _ X.stack _ _ ⟨Value.ref (s.heap.objs.size + 1) :: us, []⟩ (Value.ref (s.heap.objs.size + 1) :: (us ++ ds)) _ _ E0 (hr.make C us [])
    (I2.env0.make C us []) (hb _ (Value.ref (s.heap.objs.size + 1) :: us) I2.kIn hl) r2 hq) fun r s' hq' => ?_))
  cases r with
  | error e => exact hx pins _ _ e s' I2 hq'
  | ok fl =>
    cases fl with
    | ret u =>
      obtain ⟨v, H', I3, rv, ev, q3⟩ := I2.after hq'
      subst ev
      exact ⟨rv, ⟨V.ref (s.heap.objs.size + 1), H', I3, rfl, q3⟩⟩
    | next => exact False.elim hq'
    | brk => exact False.elim hq'
    | cont => exact False.elim hq'
/-- C(..) is called as a def is -/
theorem callD_make {C : Str} (M : Mk X.K (clOf X.mg C) f) (G : FnOk X.prog X.w X.K X.mg X.base CX k f fd ps (spI (ct0 X) C n F)) (hr : Room (k + 1) X.A) (hb : Binds X.K fd ps ds) (hd : Vals dvs ds) (hdd : ∀ c H, Reps c H dvs dds) (hx : ∀ σ, PassesAt CX X σ (E σ)) : CallD X E (clOf X.mg C) n (mkF C F) dds := by
  refine ⟨M.kp, fun pins σ H s Q us vs I r h => run_makeS M G hr hb hd (hx σ) I r fun x dx hx hd hne => ?_⟩
  obtain ⟨hl, S, ds, sub, rr, p⟩ := h
  have l2 := (hdd (ct0 X) S).length
  have rr2 := rr.append (hdd (ct0 X) S)
  have hp := make_post sub rr2 p hx hd hne
  refine ⟨by rw [List.length_cons, List.length_append]; omega, S, _, x, dx, _, rfl, fun b o e => ?_, sub.free hx, upd_same, rr2, hp⟩
  rw [upd_ne (ne_of_none (sub b o e) hx), upd_ne (ne_of_none (sub b o e) hd)]
  exact sub b o e
end
end Dl
set_option Elab.async false
set_option linter.all false
set_option maxRecDepth 100000
/-! DL6: statements, defs. -/
namespace Dl
open PySem PySem.Spec PyProof.Rows L2

/-- where a statement goes on -/
inductive Out where
  | nx (ρ : Dl.Env) | ret (x : EV) | bk (ρ : Dl.Env) | ct (ρ : Dl.Env) | ex (z : Xc) (ρ : Dl.Env)
abbrev Stm := Dl.Env → Res Out
/-- an expression within a statement: what it raises leaves from these slots -/
def Res.at {α : Type} (r : Res α) (ρ : Dl.Env) (k : α → Res Out) : Res Out := match r with
  | .ok a => k a
  | .exc z => .ok (.ex z ρ)
  | .stuck => .stuck
section
variable {α : Type} {ρ : Dl.Env} {k : α → Res Out}
@[simp] theorem Res.ok_at (a : α) : (Res.ok a).at ρ k = k a := rfl
@[simp] theorem Res.exc_at (z : Xc) : (Res.exc z).at ρ k = .ok (.ex z ρ) := rfl
@[simp] theorem Res.stuck_at : (Res.stuck).at ρ k = .stuck := rfl
end
/-- the entry: the heap, its shared part, the instance that an __init__ fills -/
structure Base where
  H : Hp
  S : Hp
  ex : List Addr
structure GrB (B : Base) (S' H' : Hp) : Prop where
  hh : ∀ b o, b ∉ B.ex → B.H b = some o → H' b = some o
  ss : Same B.S S'
  sub : Same S' H'
  new : ∀ a o, B.H a = some o → B.S a = none → S' a = none
  exs : ∀ a ∈ B.ex, ∃ C dx vfl, H' a = some (.ins C dx vfl)
structure Vw (c : Ct) (B : Base) (S H : Hp) (σ : L2.St) (ρ : Dl.Env) (O : List Addr) : Prop where
  v : View c S H σ ρ O
  g : GrB B S H
  own : ∀ a ∈ O, B.H a = none ∨ a ∈ B.ex
  ni : ∀ a ∈ O, ∀ C dx vfs, H a = some (.ins C dx vfs) → a ∈ B.ex
/-- a value handed back -/
def RetOk (c : Ct) (B : Base) (S' H' : Hp) (A : List Addr) (v : V) (x : EV) : Prop := GrB B S' H' ∧ EvRep c S' H' A v x ∧ A.Nodup ∧ (∀ a ∈ A, B.H a = none) ∧ x.noBo = true
def postS (c : Ct) (B : Base) (E : WS) (D : Ends) (r : Res Out) : Prop := match r with
  | .ok (.nx ρ) => ∀ S' H' σ' O', Vw c B S' H' σ' ρ O' → D.nx σ' H'
  | .ok (.bk ρ) => ∀ S' H' σ' O', Vw c B S' H' σ' ρ O' → D.bk σ' H'
  | .ok (.ct ρ) => ∀ S' H' σ' O', Vw c B S' H' σ' ρ O' → D.ct σ' H'
  | .ok (.ret x) => ∀ S' H' A v, RetOk c B S' H' A v x → D.rt v H'
  | .ok (.ex z ρ) => ∀ S' H' σ' O' e dx, Vw c B S' H' σ' ρ O' → XRep c S' H' e dx z → FrX B.H dx → E σ' e dx H'
  | .exc _ => False
  | .stuck => False
def rS (c : Ct) (E : WS) (g : Stm) : TS := fun D σ H => ∃ B S ρ O, Vw c B S H σ ρ O ∧ postS c B E D (g ρ)
def DS (X : Cx) (E : WS) (st : Stmt) (g : Stm) : Prop := PS X st (rS (ctOf X) E g)
def DSs (X : Cx) (E : WS) (st : List Stmt) (g : Stm) : Prop := PSs X st (rS (ctOf X) E g)
theorem ps_imp {X : Cx} {st : Stmt} {t t' : TS} (h : PS X st t) (i : ∀ D σ H, t' D σ H → t D σ H) : PS X st t' := ⟨fun pins s σ H D I z => h.run pins s σ H D I (i D σ H z)⟩
theorem pss_imp {X : Cx} {st : List Stmt} {t t' : TS} (h : PSs X st t) (i : ∀ D σ H, t' D σ H → t D σ H) : PSs X st t' := ⟨fun pins s σ H D I z => h.run pins s σ H D I (i D σ H z)⟩

section
variable {c : Ct} {B : Base} {E : WS} {D : Ends} {S H S1 H1 : Hp} {σ : L2.St} {ρ : Dl.Env} {O : List Addr}
theorem GrB.gr (b : GrB B S H) (g : Gr S H S1 H1) : GrB B S1 H1 :=
  ⟨fun x o h e => g.hh x o (b.hh x o h e), b.ss.trans g.ss, g.sub, fun a o e n => by
    by_cases h : a ∈ B.ex
    · obtain ⟨_, _, _, q⟩ := b.exs a h
      exact g.new a _ q (b.new a o e n)
    · exact g.new a o (b.hh a o h e) (b.new a o e n), fun a h => by
    obtain ⟨C, dx, vfl, q⟩ := b.exs a h
    exact ⟨C, dx, vfl, g.hh a _ q⟩⟩
theorem Vw.niG (v : Vw c B S H σ ρ O) (g : Same H H1) : ∀ a ∈ O, ∀ C dx vfs, H1 a = some (.ins C dx vfs) → a ∈ B.ex := fun a ha C dx vfs e => by
  obtain ⟨⟨ob, eo⟩, _⟩ := v.v.sl.alive a ha
  have z := g a ob eo
  rw [e] at z
  cases z
  exact v.ni a ha C dx vfs eo
theorem Vw.gr (v : Vw c B S H σ ρ O) (g : Gr S H S1 H1) : Vw c B S1 H1 σ ρ O := ⟨v.v.gr g, v.g.gr g, v.own, v.niG g.hh⟩
/-- fresh behind growth: fresh ahead of the entry -/
theorem Vw.fresh (v : Vw c B S H σ ρ O) {A : List Addr} (fr : ∀ a ∈ A, H a = none) : ∀ a ∈ A, B.H a = none := fun a ha => by
  cases q : B.H a with
  | none => rfl
  | some o =>
    by_cases h : a ∈ B.ex
    · obtain ⟨_, _, _, z⟩ := v.g.exs a h
      rw [fr a ha] at z
      cases z
    · have z := v.g.hh a o h q
      rw [fr a ha] at z
      cases z
theorem Vw.freshX (v : Vw c B S H σ ρ O) {dx : Option Addr} (f : FrX H dx) : FrX B.H dx := fun d e => v.fresh (A := [d]) (fun a ha => by rw [List.mem_singleton.mp ha]; exact f d e) d List.mem_cons_self
theorem Vw.sub (v : Vw c B S H σ ρ O) : Same S H := v.v.sub
/-- an expression ahead of a statement's end -/
theorem postS.fst {r : Res EV} {k : EV → Res Out} {Q : VK} (h : postS c B E D (r.at ρ k)) (v : Vw c B S H σ ρ O)
    (go : ∀ x, r = .ok x → postS c B E D (k x) → ∀ S1 H1 A u, Gr S H S1 H1 → EvRep c S1 H1 A u x → A.Nodup → (∀ a ∈ A, H a = none) → Q u H1) : Post c (xs c E ρ O) S H r Q := by
  cases r with
  | ok x => exact fun S1 H1 A u g re nd fr => go x rfl h S1 H1 A u g re nd fr
  | exc x => exact fun S1 H1 e dx g z f σ' sl => h S1 H1 σ' O e dx ⟨⟨g.sub, sl, v.v.nd⟩, v.g.gr g, v.own, v.niG g.hh⟩ z (v.freshX f)
  | stuck => exact h
theorem postS.fstT {r : Res Bool} {k : Bool → Res Out} {Q : Bool → Hp → Prop} (h : postS c B E D (r.at ρ k)) (v : Vw c B S H σ ρ O)
    (go : ∀ x, r = .ok x → postS c B E D (k x) → ∀ S1 H1, Gr S H S1 H1 → Q x H1) : PostT c (xs c E ρ O) S H r Q := by
  cases r with
  | ok x => exact fun S1 H1 g => go x rfl h S1 H1 g
  | exc x => exact fun S1 H1 e dx g z f σ' sl => h S1 H1 σ' O e dx ⟨⟨g.sub, sl, v.v.nd⟩, v.g.gr g, v.own, v.niG g.hh⟩ z (v.freshX f)
  | stuck => exact h

/-! ### slots replaced -/
def SV.free : SV → Bool
  | .lk _ => false
  | .mk _ _ => false
  | _ => true
/-- slot i gets x' (what it held is dropped) -/
theorem Vw.put {i : Nat} {x x' : SV} {A' : List Addr} {v' : V} (v : Vw c B S H σ ρ O) (e : ρ[i]? = some x) (r : SRep c S H A' (some v') x') (nd : A'.Nodup) (fr : ∀ a ∈ A', B.H a = none) (ap : ∀ a ∈ A', a ∉ O) (hA : ∀ a ∈ A', ∀ C dx vfs, H a ≠ some (.ins C dx vfs)) : ∃ O', Vw c B S H (σ.set i (some v')) (ρ.set i x') O' := by
  obtain ⟨A, o, q1, q2, q3, q4, q5⟩ := v.v.sl.at_ v.v.nd e
  obtain ⟨O', p1, p2, p3⟩ := q5 S H A' (some v') x' (Same.refl _) (fun a ha _ => ⟨rfl, (v.v.sl.alive a ha).2⟩) r nd (fun a ha ho => absurd ho (ap a ha))
  exact ⟨O', ⟨v.sub, p1, p2⟩, v.g, fun a ha => (p3 a ha).elim (fun z => .inl (fr a z)) fun z => v.own a z.1, fun a ha C dx vfs e => (p3 a ha).elim (fun z => absurd e (hA a z C dx vfs)) fun z => v.ni a z.1 C dx vfs e⟩
theorem List.set_same {α : Type} {l : List α} {i : Nat} {x : α} (h : l[i]? = some x) : l.set i x = l := by
  obtain ⟨hi, e⟩ := List.getElem?_eq_some_iff.mp h
  rw [← e]
  exact List.set_getElem_self hi
/-- the object of slot i is changed in place -/
theorem Vw.write {i : Nat} {x x' : SV} {H2 : Hp} {v0 : V} (v : Vw c B S H σ ρ O) (e : ρ[i]? = some x) (hσ : σ[i]? = some (some v0))
    (go : ∀ A, SRep c S H A (some v0) x → A.Nodup → (∀ a ∈ A, a ∈ O) → ∃ A', SRep c S H2 A' (some v0) x' ∧ A'.Nodup ∧ (∀ a ∈ A', a ∈ A ∨ (a ∉ O ∧ B.H a = none)) ∧ (∀ b, b ∉ A → ∀ o, H b = some o → H2 b = some o) ∧ (∀ a ∈ B.ex, a ∈ A → ∃ C dx vfl, H2 a = some (.ins C dx vfl)) ∧ (∀ a ∈ A', ∀ C dx vfs, H2 a = some (.ins C dx vfs) → a ∈ B.ex)) :
    ∃ O', Vw c B S H2 σ (ρ.set i x') O' := by
  obtain ⟨A, o, q1, q2, q3, q4, q5⟩ := v.v.sl.at_ v.v.nd e
  rw [hσ] at q1
  cases q1
  obtain ⟨A', a1, a2, a3, a4, a5, a6⟩ := go A q2 q3 q4
  obtain ⟨O', p1, p2, p3⟩ := q5 S H2 A' (some v0) x' (Same.refl _) (fun a ha hn => by
    obtain ⟨⟨ob, eo⟩, en⟩ := v.v.sl.alive a ha
    exact ⟨by rw [eo]; exact a4 a hn ob eo, en⟩) a1 a2 fun a ha ho => by
      rcases a3 a ha with z | z
      · exact z
      · exact absurd ho z.1
  rw [List.set_same hσ] at p1
  have sub2 : Same S H2 := fun b ob eb => a4 b (fun z => by
    have := (v.v.sl.alive b (q4 b z)).2
    rw [eb] at this
    cases this) ob (v.sub b ob eb)
  refine ⟨O', ⟨sub2, p1, p2⟩, ⟨fun b ob hb eb => ?_, v.g.ss, sub2, v.g.new, fun a ha => ?_⟩, fun a ha => ?_, fun a ha => ?_⟩
  · by_cases hA : b ∈ A
    · rcases v.own b (q4 b hA) with z | z
      · rw [eb] at z
        cases z
      · exact absurd z hb
    · exact a4 b hA ob (v.g.hh b ob hb eb)
  · by_cases hA : a ∈ A
    · exact a5 a ha hA
    · obtain ⟨C, dx, vfl, q⟩ := v.g.exs a ha
      exact ⟨C, dx, vfl, a4 a hA _ q⟩
  · rcases p3 a ha with z | z
    · rcases a3 a z with z | z
      · exact v.own a (q4 a z)
      · exact .inl z.2
    · exact v.own a z.1
  · intro C dx vfs e
    rcases p3 a ha with z | z
    · exact a6 a z C dx vfs e
    · obtain ⟨⟨ob, eo⟩, _⟩ := v.v.sl.alive a z.1
      have y := a4 a z.2 ob eo
      rw [e] at y
      cases y
      exact v.ni a z.1 C dx vfs eo
end

/-! ### blocks and small statements -/
def dNext : Stm := fun ρ => .ok (.nx ρ)
def dSeq (g1 g2 : Stm) : Stm := fun ρ => (g1 ρ).bind fun o => match o with
  | .nx ρ1 => g2 ρ1
  | o => .ok o
def dIf (t : Dl.Env → Res Bool) (g1 g2 : Stm) : Stm := fun ρ => (t ρ).at ρ fun k => if k = true then g1 ρ else g2 ρ
def dDrop (f : Dl.Env → Res EV) : Stm := fun ρ => (f ρ).at ρ fun _ => .ok (.nx ρ)
def dRet (f : Dl.Env → Res EV) : Stm := fun ρ => (f ρ).at ρ fun x => match x with
  | .bo _ => .stuck
  | x => .ok (.ret x)
def dRetV (i : Nat) : Stm := fun ρ => match ρ[i]? with
  | some (.sh d) => .ok (.ret (.sh d))
  | some (.own ts) => .ok (.ret (.fr ts))
  | some (.lk ts) => .ok (.ret (.fr ts))
  | _ => .stuck
def dRetN : Stm := fun _ => .ok (.ret (.sh .non))
def dBreak : Stm := fun ρ => .ok (.bk ρ)
def dCont : Stm := fun ρ => .ok (.ct ρ)
def dNever : Stm := fun _ => .stuck
section
variable {X : Cx} {E : WS} {st : Stmt} {rest : List Stmt} {g1 g2 : Stm} {f1 : Dl.Env → Res EV} {t1 : Dl.Env → Res Bool} {e : Expr} {pos : Pos}
theorem dss_nil : DSs X E [] dNext := by
  refine pss_imp pss_nil fun D σ H h => ?_
  obtain ⟨B, S, ρ, O, V, h⟩ := h
  exact h S H σ O V
theorem dss_cons (h1 : DS X E st g1) (h2 : DSs X E rest g2) : DSs X E (st :: rest) (dSeq g1 g2) := by
  refine pss_imp (pss_cons h1 h2) fun D σ H h => ?_
  obtain ⟨B, S, ρ, O, V, h⟩ := h
  refine ⟨B, S, ρ, O, V, ?_⟩
  unfold dSeq at h
  cases q : g1 ρ with
  | stuck => rw [q] at h; exact h
  | exc z => rw [q] at h; exact h
  | ok o =>
    rw [q] at h
    cases o with
    | nx ρ1 => exact fun S1 H1 σ1 O1 V1 => ⟨B, S1, ρ1, O1, V1, h⟩
    | ret x => exact h
    | bk ρ1 => exact h
    | ct ρ1 => exact h
    | ex z ρ1 => exact h
theorem dss_one (h1 : DS X E st g1) : DSs X E [st] g1 := by
  refine pss_imp (pss_one h1) fun D σ H h => h
theorem ds_pass : DS X E (.Pass pos) dNext := by
  refine ps_imp ps_pass fun D σ H h => ?_
  obtain ⟨B, S, ρ, O, V, h⟩ := h
  exact h S H σ O V
theorem ds_break : DS X E (.Break pos) dBreak := by
  refine ps_imp ps_break fun D σ H h => ?_
  obtain ⟨B, S, ρ, O, V, h⟩ := h
  exact h S H σ O V
theorem ds_cont : DS X E (.Continue pos) dCont := by
  refine ps_imp ps_continue fun D σ H h => ?_
  obtain ⟨B, S, ρ, O, V, h⟩ := h
  exact h S H σ O V
theorem ds_never : DS X E st dNever := by
  refine ps_imp ps_never fun D σ H h => ?_
  obtain ⟨B, S, ρ, O, V, h⟩ := h
  exact h
theorem ds_if {a b : List Stmt} (ht : DT X E e t1) (ha : DSs X E a g1) (hb : DSs X E b g2) : DS X E (.If e a b pos) (dIf t1 g1 g2) := by
  refine ps_imp (ps_if ht ha hb) fun D σ H h => ?_
  obtain ⟨B, S, ρ, O, V, h⟩ := h
  refine ⟨S, ρ, O, V.v, postS.fstT h V fun k e1 h1 S1 H1 g => ?_⟩
  cases k with
  | true => exact iteT ⟨B, S1, ρ, O, V.gr g, h1⟩
  | false => exact iteF ⟨B, S1, ρ, O, V.gr g, h1⟩
theorem ds_drop (he : DE X E e f1) (hs : swapsWith e none pos.line X.env = pure false := by rfl) : DS X E (.Expr e pos) (dDrop f1) := by
  refine ps_imp (ps_expr he hs) fun D σ H h => ?_
  obtain ⟨B, S, ρ, O, V, h⟩ := h
  exact ⟨S, ρ, O, V.v, postS.fst h V fun x e1 h1 S1 H1 A u g r nd fr => h1 S1 H1 σ O (V.gr g)⟩
theorem ds_ret (he : DE X E e f1) : DS X E (.Return (some e) pos) (dRet f1) := by
  refine ps_imp (ps_ret he) fun D σ H h => ?_
  obtain ⟨B, S, ρ, O, V, h⟩ := h
  refine ⟨S, ρ, O, V.v, postS.fst h V fun x e1 h1 S1 H1 A u g r nd fr => ?_⟩
  split at h1
  · exact h1.elim
  · rename_i hx
    refine h1 S1 H1 A u ⟨V.g.gr g, r, nd, V.fresh fr, ?_⟩
    cases x with
    | bo ts => exact absurd rfl (hx ts)
    | _ => rfl
theorem ds_retV (i : Nat) {x : Str} {pos' : Pos} (hN : X.N[i]? = some x := by rfl) (hv : Vis X.env.scope x := by first | exact Or.inl rfl | exact Or.inr (Or.inl rfl) | exact Or.inr (Or.inr rfl)) (hd : (x == ("__debug__" : Str)) = false := by decide)
    (hcd : (x == ("__classdict__" : Str)) = false := by decide) : DS X E (.Return (some (.Name x pos')) pos) (dRetV i) := by
  refine ps_imp (ps_ret (pe_var (i := i) hN hv hd hcd)) fun D σ H h => ?_
  obtain ⟨B, S, ρ, O, V, h⟩ := h
  unfold dRetV at h
  cases e : ρ[i]? with
  | none =>
    rw [e] at h
    exact h.elim
  | some y =>
    obtain ⟨A, o, q1, q2, q3, q4, _⟩ := V.v.sl.at_ V.v.nd e
    rw [e] at h
    have notEx : (∀ a ∈ A, ∃ vs, H a = some (.lst vs)) → ∀ a ∈ A, B.H a = none := fun al a ha => by
      rcases V.own a (q4 a ha) with z | z
      · exact z
      · obtain ⟨_, _, _, y⟩ := V.g.exs a z
        obtain ⟨_, w⟩ := al a ha
        rw [w] at y
        cases y
    cases q2 with
    | no => exact h.elim
    | sh r => exact ⟨_, q1, h S H [] _ ⟨V.g, .sh r, List.nodup_nil, fun _ z => (by cases z), rfl⟩⟩
    | own r => exact ⟨_, q1, h S H A _ ⟨V.g, .fr r, q3, notEx fun a ha => (r.alive a ha).1, rfl⟩⟩
    | lk r => exact ⟨_, q1, h S H A _ ⟨V.g, .fr r, q3, notEx fun a ha => (r.alive a ha).1, rfl⟩⟩
    | mk _ _ _ => exact h.elim
    | dic _ _ _ => exact h.elim
    | xc _ => exact h.elim
theorem ds_retN : DS X E (.Return none pos) dRetN := by
  refine ps_imp ps_retN fun D σ H h => ?_
  obtain ⟨B, S, ρ, O, V, h⟩ := h
  exact h S H [] .non ⟨V.g, .sh .non, List.nodup_nil, fun _ z => (by cases z), rfl⟩

/-! ### name = e -/
def SV.of (x : EV) : Option SV := match x with
  | .sh d => some (.sh d)
  | .fr ts => some (.own ts)
  | .bo _ => none
def putR (i : Nat) (x : SV) (ρ : Dl.Env) : Option Dl.Env := match ρ[i]? with
  | some y => if y.free then some (ρ.set i x) else none
  | none => none
def dSet (i : Nat) (f : Dl.Env → Res EV) : Stm := fun ρ => (f ρ).at ρ fun x => match SV.of x with
  | some y => (match putR i y ρ with
    | some ρ1 => .ok (.nx ρ1)
    | none => .stuck)
  | none => .stuck
theorem put_ev {c : Ct} {B : Base} {S H S1 H1 : Hp} {σ : L2.St} {ρ ρ1 : Dl.Env} {O A : List Addr} {i : Nat} {u : V} {x : EV} {y : SV} (V : Vw c B S H σ ρ O) (g : Gr S H S1 H1) (r : EvRep c S1 H1 A u x) (nd : A.Nodup) (fr : ∀ a ∈ A, H a = none) (e1 : SV.of x = some y) (e2 : putR i y ρ = some ρ1) :
    ∃ O', Vw c B S1 H1 (σ.set i (some u)) ρ1 O' := by
  unfold putR at e2
  cases q : ρ[i]? with
  | none => rw [q] at e2; cases e2
  | some z =>
    rw [q] at e2
    simp only at e2
    split at e2
    · cases e2
      have ap : ∀ a ∈ A, a ∉ O := fun a ha ho => by
        obtain ⟨⟨ob, eo⟩, _⟩ := V.v.sl.alive a ho
        rw [fr a ha] at eo
        cases eo
      cases r with
      | sh r =>
        cases e1
        exact (V.gr g).put q (.sh r) nd (V.fresh fr) ap (fun _ z => by cases z)
      | fr r =>
        cases e1
        exact (V.gr g).put q (.own r) nd (V.fresh fr) ap fun a ha C dx vfs z => by
          obtain ⟨⟨_, e⟩, _⟩ := r.alive a ha
          rw [e] at z
          cases z
      | bo r => cases e1
    · cases e2
theorem ds_set {i : Nat} {x : Str} {pos' : Pos} (hN : X.N.Nodup) (he : DE X E e f1) (hi : X.N[i]? = some x := by rfl) (hx : Loc X.env.scope x := by first | exact Or.inl rfl | exact Or.inr rfl) (hs : swapsWith e (some (.Name x pos')) pos.line X.env = pure false := by rfl)
    (hf : X.fn x = true ∨ X.env.scope.names.lookup x = some .local := by first | exact .inl rfl | exact .inr rfl) : DS X E (.Assign [.Name x pos'] e pos) (dSet i f1) := by
  refine ps_imp (ps_set (i := i) hN hi hx he hs hf) fun D σ H h => ?_
  obtain ⟨B, S, ρ, O, V, h⟩ := h
  refine ⟨S, ρ, O, V.v, postS.fst h V fun x e1 h1 S1 H1 A u g r nd fr => ?_⟩
  cases q : SV.of x with
  | none =>
    rw [q] at h1
    exact h1.elim
  | some y =>
    simp only [q] at h1
    cases q2 : putR i y ρ with
    | none =>
      simp only [q2] at h1
      exact h1.elim
    | some ρ1 =>
      simp only [q2] at h1
      obtain ⟨O', V'⟩ := put_ev V g r nd fr q q2
      exact h1 S1 H1 _ O' V'

/-! ### x.append(e), x[j] = e for a list that the slot owns -/
def dApp (i : Nat) (f : Dl.Env → Res EV) : Stm := fun ρ => match ρ[i]? with
  | some (.own ts) => (f ρ).at ρ fun x => match x.t? with
    | some t => if ts.length < 16777216 then .ok (.nx (ρ.set i (.own (ts ++ [t])))) else .stuck
    | none => .stuck
  | _ => .stuck
theorem PostA.one {c : Ct} {S H : Hp} {r : Res EV} {Q : List V → Hp → Prop} (h : Post c (xs c E ρ O) S H r (fun v H1 => Q [v] H1)) : PostA c (xs c E ρ O) S H (r.bind fun x => .ok [x]) Q := by
  cases r with
  | ok x =>
    intro S1 H1 A vs g r nd fr
    obtain ⟨v, rfl, rv⟩ := ev1 r
    exact h S1 H1 A v g rv nd fr
  | exc x => exact h
  | stuck => exact h
theorem da_one (he : DE X E e f1) (hs : starEach [e] X.env = (false, eval e X.env) :: starEach [] X.env := by rfl) : PA X [e] (fun σ H Q => rE (ctOf X) E f1 σ H fun v H1 => Q [v] H1) := by
  refine pa_imp (pa_cons he pa_nil hs) fun σ H Q h => h
theorem ev_tree {c : Ct} {S H : Hp} {A : List Addr} {v : V} {x : EV} {t : T} (r : EvRep c S H A v x) (e : x.t? = some t) : Own c S H A v t := by
  cases r with
  | sh r => cases e; exact .leaf r
  | fr r => cases e; exact r
  | bo r => cases e
theorem ds_app (i : Nat) {x : Str} {p1 p2 p3 : Pos} (he : DE X E e f1) (hN : X.N[i]? = some x := by rfl) (hv : Vis X.env.scope x := by first | exact Or.inl rfl | exact Or.inr (Or.inl rfl) | exact Or.inr (Or.inr rfl)) (hd : (x == ("__debug__" : Str)) = false := by decide)
    (hcd : (x == ("__classdict__" : Str)) = false := by decide) (hbase : attributeBase (.Name x p1) "append" X.env (eval (.Name x p1) X.env) = eval (.Name x p1) X.env := by rfl)
    (hfew : ((backTo p3 (starEach [e] X.env)).all (fun x => !x.1) && (backToKw p3 (keywordEach [] X.env)).all (fun x => x.1.isSome)
      && decide ([e].length + ([] : List Keyword).length + (if ([] : List Keyword).isEmpty then 0 else 1) < 30)) = true := by rfl)
    (hline : (p2.endLine == p3.line) = true := by rfl) (hs : starEach [e] X.env = (false, eval e X.env) :: starEach [] X.env := by rfl) (hplain : (backTo p3 (starEach [] X.env)).any (·.1) = false := by rfl)
    (hsw : swapsWith (.Call (.Attribute (.Name x p1) "append" p2) [e] [] p3) none pos.line X.env = pure false := by rfl) :
    DS X E (.Expr (.Call (.Attribute (.Name x p1) "append" p2) [e] [] p3) pos) (dApp i f1) := by
  refine ps_imp (ps_expr (pe_bm PySem.F.plainAttrs_list PySem.F.slot_list_append PySem.F.type_list_append mt_append (pe_var (i := i) hN hv hd hcd) (da_one he hs) hbase hfew hline hs hplain) hsw) fun D σ H h => ?_
  obtain ⟨B, S, ρ, O, V, h⟩ := h
  have hz : sizeLine = 16777216 := sizeLine_eq
  unfold dApp at h
  cases q : ρ[i]? with
  | none =>
    rw [q] at h
    exact h.elim
  | some y =>
    rw [q] at h
    cases y with
    | own ts =>
      obtain ⟨A, o, q1, q2, q3, q4, _⟩ := V.v.sl.at_ V.v.nd q
      cases q2 with
      | own r =>
        cases r with
        | @node a A0 vs _ ha na rs =>
          refine ⟨_, q1, .inl ⟨rfl, _, SqL.of ha⟩, S, ρ, O, V.v, postS.fst h V fun x e1 h1 S1 H1 C u g r nd fr => ?_⟩
          cases q5 : x.t? with
          | none =>
            rw [q5] at h1
            exact h1.elim
          | some t =>
            simp only [q5] at h1
            split at h1
            · rename_i hl
              have hlen := rs.length
              refine ⟨a, vs, u, rfl, rfl, g.hh _ _ ha, by omega, ?_⟩
              have V1 := V.gr g
              have ot := ev_tree r q5
              obtain ⟨O', V'⟩ := V1.write (H2 := upd H1 a (.lst (vs ++ [u]))) (x' := .own (ts ++ [t])) q q1 fun A2 r2 n2 s2 => by
                cases r2 with
                | own r2 =>
                  cases r2 with
                  | @node _ A3 vs3 _ ha3 na3 rs3 =>
                    have ev : vs3 = vs := by
                      have := g.hh _ _ ha
                      rw [ha3] at this
                      cases this
                      rfl
                    subst ev
                    have n3 := List.nodup_cons.mp n2
                    have aC : a ∉ C := fun z => by
                      have y := fr a z
                      rw [ha] at y
                      cases y
                    have dj : ∀ b ∈ A3, b ∉ C := fun b hb hc => by
                      have y := fr b hc
                      have al := V.v.sl.alive b (s2 b (List.mem_cons_of_mem _ hb))
                      obtain ⟨⟨_, eo⟩, _⟩ := al
                      rw [y] at eo
                      cases eo
                    have k1 : Keeps A3 S1 H1 (upd H1 a (.lst (vs3 ++ [u]))) := fun b hb => ⟨upd_ne fun z => n3.1 (z ▸ hb), (rs3.alive b hb).2⟩
                    have k2 : Keeps C S1 H1 (upd H1 a (.lst (vs3 ++ [u]))) := fun b hb => ⟨upd_ne fun z => aC (z ▸ hb), (ot.alive b hb).2⟩
                    have o1 := rs3.mono (Same.refl _) k1
                    have o2 := ot.mono (Same.refl _) k2
                    refine ⟨a :: (A3 ++ (C ++ [])), .own (.node upd_same na3 (o1.append (.cons o2 .nil))), ?_, fun b hb => ?_, fun b hb ob eb => ?_, fun b hx hb => ?_, fun b hb C' dx' vf' eb => ?_⟩
                    · rw [List.append_nil]
                      refine List.nodup_cons.mpr ⟨fun z => (List.mem_append.mp z).elim n3.1 aC, List.nodup_append.mpr ⟨n3.2, nd, fun b hb b' hb' z => ?_⟩⟩
                      subst z
                      exact dj b hb hb'
                    · rcases List.mem_cons.mp hb with z | hb
                      · exact .inl (List.mem_cons.mpr (.inl z))
                      · rw [List.append_nil] at hb
                        rcases List.mem_append.mp hb with hb | hb
                        · exact .inl (List.mem_cons_of_mem _ hb)
                        · refine .inr ⟨fun ho => ?_, V.fresh fr b hb⟩
                          obtain ⟨⟨_, eo⟩, _⟩ := V.v.sl.alive b ho
                          rw [fr b hb] at eo
                          cases eo
                    · rw [upd_ne fun z => hb (List.mem_cons.mpr (.inl z))]
                      exact eb
                    · obtain ⟨C', dx', vf', y⟩ := V1.g.exs b hx
                      rcases List.mem_cons.mp hb with z | hb
                      · subst z
                        rw [ha3] at y
                        cases y
                      · obtain ⟨⟨_, eo⟩, _⟩ := rs3.alive b hb
                        rw [eo] at y
                        cases y
                    · rw [List.append_nil] at hb
                      rcases List.mem_cons.mp hb with z | hb
                      · rw [z, upd_same] at eb
                        cases eb
                      · rcases List.mem_append.mp hb with hb | hb
                        · rw [(k1 b hb).1] at eb
                          obtain ⟨⟨_, eo⟩, _⟩ := rs3.alive b hb
                          rw [eo] at eb
                          cases eb
                        · rw [(k2 b hb).1] at eb
                          obtain ⟨⟨_, eo⟩, _⟩ := ot.alive b hb
                          rw [eo] at eb
                          cases eb
              exact h1 S1 _ σ O' V'
            · exact h1.elim
    | no => exact h.elim
    | sh d => exact h.elim
    | lk ts => exact h.elim
    | mk C fs => exact h.elim
    | dic kvs => exact h.elim
    | xc z => exact h.elim
end

/-! ### a slot's list is given away (nothing runs) -/
def dFrz (i : Nat) (g : Stm) : Stm := fun ρ => match ρ[i]? with
  | some (.own ts) => g (ρ.set i (.sh (.lst (T.toDs ts))))
  | _ => g ρ
theorem dss_frz (i : Nat) {sts : List Stmt} (h : DSs X E sts g1) : DSs X E sts (dFrz i g1) := by
  refine pss_imp h fun D σ H h => ?_
  obtain ⟨B, S, ρ, O, V, h⟩ := h
  have stay : ∀ {g : Stm}, g = g1 → postS (ctOf X) B E D (g1 ρ) → rS (ctOf X) E g1 D σ H := fun _ z => ⟨B, S, ρ, O, V, z⟩
  unfold dFrz at h
  cases q : ρ[i]? with
  | none =>
    rw [q] at h
    exact ⟨B, S, ρ, O, V, h⟩
  | some y =>
    rw [q] at h
    cases y with
    | own ts =>
      obtain ⟨A, o, q1, q2, q3, q4, q5⟩ := V.v.sl.at_ V.v.nd q
      cases q2 with
      | own r =>
        rename_i v
        have nS : ∀ a ∈ A, S a = none := fun a ha => (r.alive a ha).2
        have hB : ∀ a ∈ A, B.H a = none := fun a ha => by
          rcases V.own a (q4 a ha) with z | z
          · exact z
          · obtain ⟨_, _, _, y⟩ := V.g.exs a z
            obtain ⟨⟨_, w⟩, _⟩ := r.alive a ha
            rw [w] at y
            cases y
        have rr : Rep (ctOf X) (grab S H A) v (.lst (T.toDs ts)) := by
          have := r.grabbed (same_grab nS) fun u hu => grab_in hu
          rw [T.toD] at this
          exact this
        obtain ⟨O', p1, p2, p3⟩ := q5 (grab S H A) H [] (some v) (.sh (.lst (T.toDs ts))) (same_grab nS) (fun a ha hn => ⟨rfl, by rw [grab_out hn]; exact (V.v.sl.alive a ha).2⟩) (.sh rr) List.nodup_nil fun a ha => by cases ha
        rw [List.set_same q1] at p1
        refine ⟨B, grab S H A, _, O', ⟨⟨grab_same V.sub, p1, p2⟩, ⟨V.g.hh, V.g.ss.trans (same_grab nS), grab_same V.sub, fun a ob e n => ?_, V.g.exs⟩, fun a ha => ?_, fun a ha => ?_⟩, h⟩
        · have hn : a ∉ A := fun z => by
            rw [hB a z] at e
            cases e
          rw [grab_out hn]
          exact V.g.new a ob e n
        · rcases p3 a ha with z | z
          · cases z
          · exact V.own a z.1
        · intro C dx vfs e
          rcases p3 a ha with z | z
          · cases z
          · exact V.ni a z.1 C dx vfs e
    | no => exact ⟨B, S, ρ, O, V, h⟩
    | sh d => exact ⟨B, S, ρ, O, V, h⟩
    | lk ts => exact ⟨B, S, ρ, O, V, h⟩
    | mk C fs => exact ⟨B, S, ρ, O, V, h⟩
    | dic kvs => exact ⟨B, S, ρ, O, V, h⟩
    | xc z => exact ⟨B, S, ρ, O, V, h⟩


/-! ### a def -/
def runD (n : Nat) (g : Stm) (ds : List D) : Res EV := match g (ds.map SV.sh ++ List.replicate (n - ds.length) SV.no) with
  | .ok (.nx _) => .ok (.sh .non)
  | .ok (.ret x) => .ok x
  | .ok (.ex z _) => .exc z
  | _ => .stuck
theorem slots_start {c : Ct} {S H : Hp} : ∀ {vs : List V} {ds : List D} (n : Nat), Reps c S vs ds → Slots c S H (vs.map some ++ List.replicate n none) (ds.map SV.sh ++ List.replicate n SV.no) []
  | _, _, 0, .nil => .nil
  | _, _, n + 1, .nil => by
    have q : Slots c S H (none :: (([] : List V).map some ++ List.replicate n none)) (SV.no :: (([] : List D).map SV.sh ++ List.replicate n SV.no)) ([] ++ []) := .cons .no (slots_start n .nil)
    exact q
  | _, _, n, .cons h r => by
    have q : Slots c S H (_ :: _) (_ :: _) ([] ++ []) := .cons (.sh h) (slots_start (H := H) n r)
    exact q
theorem Post.re {c : Ct} {xa : Addr} {xd : Option Addr} {xc : Value} {E : XS} {S H : Hp} {r : Res EV} {Q : VK} (p : Post c E S H r Q) : Post (c.re xa xd xc) E S H r Q := by
  cases r with
  | ok x => exact fun S' H' A v g r => p S' H' A v g (r.re (xa := c.xa) (xd := c.xd) (xc := c.xc))
  | exc z => exact fun S' H' e dx g r => p S' H' e dx g (r.re (xa := c.xa) (xd := c.xd) (xc := c.xc))
  | stuck => exact p
theorem spD.re {c : Ct} {xa : Addr} {xd : Option Addr} {xc : Value} {n : Nat} {F : List D → Res EV} {vs : List V} {H : Hp} {Q : VK} {E : XK} (h : spD c n F vs H Q E) : spD (c.re xa xd xc) n F vs H Q E := by
  obtain ⟨hl, S, ds, sub, r, p⟩ := h
  exact ⟨hl, S, ds, sub, r.re, p.re⟩
/-- the body's reading at the entry gives the promise -/
theorem run_start {c : Ct} {N : List Str} {n : Nat} {g : Stm} {vs : List V} {H : Hp} {Q : VK} {E : XK} (hn : n ≤ N.length) (h : spD c n (runD N.length g) vs H Q E) : rS c (fun _ => E) g { nx := fun _ H' => Q .non H', rt := Q } (start N vs) H := by
  obtain ⟨hl, S, ds, sub, r, p⟩ := h
  have hd : ds.length = n := r.length.symm.trans hl
  have sl : Slots c S H (start N vs) (ds.map SV.sh ++ List.replicate (N.length - ds.length) SV.no) [] := by
    have := slots_start (H := H) (N.length - vs.length) r
    rw [← r.length]
    exact this
  refine ⟨⟨H, S, []⟩, S, _, [], ⟨⟨sub, sl, List.nodup_nil⟩, ⟨fun b o _ e => e, Same.refl _, sub, fun a o _ n => n, fun a ha => by cases ha⟩, (fun a ha => by cases ha), fun a ha => by cases ha⟩, ?_⟩
  have toGr : ∀ {S' H' : Hp}, GrB ⟨H, S, []⟩ S' H' → Gr S H S' H' := fun {S' H'} b => ⟨fun x o e => b.hh x o (fun z => by cases z) e, b.ss, b.sub, b.new⟩
  unfold runD at p
  cases e : g (ds.map SV.sh ++ List.replicate (N.length - ds.length) SV.no) with
  | stuck => rw [e] at p; exact p.elim
  | exc z =>
    rw [e] at p
    exact p.elim
  | ok o =>
    rw [e] at p
    cases o with
    | nx ρ => exact fun S' H' σ' O' V => p S' H' [] .non (toGr V.g) (.sh .non) List.nodup_nil fun _ z => by cases z
    | ret x => exact fun S' H' A v ⟨b, re, nd, fr, _⟩ => p S' H' A v (toGr b) re nd fr
    | bk ρ => exact p.elim
    | ct ρ => exact p.elim
    | ex z ρ => exact fun S' H' σ' O' ev dx V x => p S' H' ev dx (toGr V.g) x
section
variable {P : Program} {w : World} {K : PySem.W.Frag} {mg : Str → Option Value} {base : Heap} {x qual : Str} {params : Arguments} {body : List Stmt} {scope : Scope} {dvs : List V} {kws : List (Str × V)} {f : Addr} {fd : FuncData}
/-- a context in which nothing is handled; k: how deep calls may go -/
structure Lv (X : Cx) (W : WX) (k : Nat) : Prop where
  tk : L2N.Takes X W
  own : PassesOwn (model X.prog X.w) X.A X.env X.xe
  calm : X.calm = true
  room : Room k X.A
  hs : X.stack = X.env :: X.outer
  hf : X.env.frame = some X.env.locals
/-- a context in which an exception is handled -/
structure LvH (X : Cx) (W : WX) (k : Nat) : Prop where
  tk : L2N.Takes X W
  own : PassesOwn (model X.prog X.w) X.A X.env X.xe
  hot : L2H.HotC X
  room : L2H.RoomH k X.A
theorem Lv.mono {X : Cx} {W : WX} {j k : Nat} (L : Lv X W k) (h : j ≤ k) : Lv X W j := { L with room := L.room.mono h }
theorem LvH.mono {X : Cx} {W : WX} {j k : Nat} (L : LvH X W k) (h : j ≤ k) : LvH X W j := { L with room := L.room.mono h }
theorem Lv.call {X : Cx} {W : WX} {j k n : Nat} {f : Addr} {fd : FuncData} {ps : List Str} {F : List D → Res EV} {dvs : List V} {dds : List D} {ds : List Value} (L : Lv X W k) (G : FnOk X.prog X.w X.K X.mg X.base (L2N.CX X.prog X.w) j f fd ps (spD (ct0 X) n F)) (hj : j ≤ k)
    (hk : PySem.W.keepIn X.K (.ref f) = true) (hb : Binds X.K fd ps ds) (hd : Vals dvs ds) (hdd : ∀ c H, Reps c H dvs dds) : CallD X (WE W) f n F dds := callD_ok G (L.room.mono hj) hk hb hd hdd (L2N.passAt L.tk)
theorem Lv.make {X : Cx} {W : WX} {j k n : Nat} {f : Addr} {C : Str} {fd : FuncData} {ps : List Str} {F : List D → Res (List (Str × D))} {dvs : List V} {dds : List D} {ds : List Value} (L : Lv X W k) (M : Mk X.K (clOf X.mg C) f) (G : FnOk X.prog X.w X.K X.mg X.base (L2N.CX X.prog X.w) j f fd ps (spI (ct0 X) C n F)) (hj : j + 1 ≤ k)
    (hb : Binds X.K fd ps ds) (hd : Vals dvs ds) (hdd : ∀ c H, Reps c H dvs dds) : CallD X (WE W) (clOf X.mg C) n (mkF C F) dds := callD_make M G (L.room.mono hj) hb hd hdd (L2N.passAt L.tk)
theorem LvH.call {X : Cx} {W : WX} {j k n : Nat} {f : Addr} {fd : FuncData} {ps : List Str} {F : List D → Res EV} {dvs : List V} {dds : List D} {ds : List Value} (L : LvH X W k) (G : L2H.FnH X.prog X.w X.K X.mg X.base (L2N.CX X.prog X.w) j f fd ps (spD (ct0 X) n F)) (hj : j ≤ k)
    (hk : PySem.W.keepIn X.K (.ref f) = true) (hb : Binds X.K fd ps ds) (hd : Vals dvs ds) (hdd : ∀ c H, Reps c H dvs dds) : CallD X (WE W) f n F dds := callD_hot G (L.room.mono hj) L.hot hk hb hd hdd (L2N.passAt L.tk)
/-- a def's wish about exceptions -/
abbrev wOf (E : XK) : WX := fun cls d _ H => E cls d H
/-- THE RULE: a def is the function of its body -/
theorem fn_d {N ps : List Str} {k n : Nat} {g : Stm} (F : FunD K x qual params body scope dvs kws f fd) (Sc : FnScope N ps scope) (hn : ps.length = n)
    (hb : ∀ (cdv : Value) (A : Around) (outer : List PySem.Env) (s : Shared) (H : Hp) (E : XK), Lv (cxOf (L2N.CX P w) P w K mg base N qual scope f cdv A outer s H E) (wOf E) k → DSs (cxOf (L2N.CX P w) P w K mg base N qual scope f cdv A outer s H E) (WE (wOf E)) body g) :
    FnOk P w K mg base (L2N.CX P w) (k + 1) f fd ps (spD ⟨P, w, K, mg, 0, none, .none⟩ n (runD N.length g)) := by
  refine F.ok Sc (fun vs H Q E h => h.1.trans hn.symm) fun cdv A outer s H vs Q E hr h => ⟨_, hb cdv A outer s H E ⟨L2N.takes_of rfl rfl rfl rfl, passes_of rfl, rfl, hr, rfl, rfl⟩, run_start ?_ h⟩
  have := congrArg List.length Sc.pre
  rw [List.length_take] at this
  omega
/-- the same where an exception is handled -/
theorem fn_dH {N ps : List Str} {k n : Nat} {g : Stm} (F : FunD K x qual params body scope dvs kws f fd) (Sc : FnScope N ps scope) (hn : ps.length = n)
    (hb : ∀ (cdv : Value) (A : Around) (outer : List PySem.Env) (s : Shared) (H : Hp) (E : XK) (p : Addr × Obj), LvH (L2H.cxH (L2N.CX P w) P w K mg base N qual scope f cdv A outer s H E p) (wOf E) k → DSs (L2H.cxH (L2N.CX P w) P w K mg base N qual scope f cdv A outer s H E p) (WE (wOf E)) body g) :
    L2H.FnH P w K mg base (L2N.CX P w) (k + 1) f fd ps (spD ⟨P, w, K, mg, 0, none, .none⟩ n (runD N.length g)) := by
  obtain ⟨oc, od, dV, kV, doc, pm, an, cdv, ct, osl, rfl, lk, hcd, _, _⟩ := F.ex
  refine L2H.fn_ofH lk hcd Sc (fun vs H Q E h => h.1.trans hn.symm) fun A outer s H vs Q E p hot hr h => ⟨_, hb cdv A outer s H E p ⟨L2N.takes_of rfl rfl rfl rfl, passes_of rfl, ⟨p, hot, List.mem_cons_self⟩, hr⟩, run_start ?_ (spD.re h)⟩
  have := congrArg List.length Sc.pre
  rw [List.length_take] at this
  omega
/-- no fuel: nothing is promised -/
theorem fn_stuck {c : Ct} {CX : CXT} {ps : List Str} {k n : Nat} (hn : ps.length = n) : FnOk P w K mg base CX k f fd ps (spD c n fun _ => .stuck) :=
  ⟨fun vs H Q E h => h.1.trans hn.symm, fun _ _ _ _ _ _ _ _ _ _ _ _ _ h => by
    obtain ⟨_, _, _, _, _, p⟩ := h
    exact p.elim⟩
end
end Dl
set_option Elab.async false
set_option linter.all false
set_option maxRecDepth 100000
/-! DL7: targets, what is walked, for, while, comprehensions. -/
namespace Dl
open PySem PySem.Spec PyProof.Rows L2

/-! ### targets -/
abbrev Bnd := D → Dl.Env → Option Dl.Env
def rG (c : Ct) (b : Bnd) (ms : List Nat) : TG := fun v σ H Q => ∃ S ρ O d, View c S H σ ρ O ∧ Rep c S v d ∧ ∃ ρ1, b d ρ = some ρ1 ∧
  ∀ σ' O', View c S H σ' ρ1 O' → (∀ a ∈ O', a ∈ O) → (∀ vs : List Nat, (∀ i ∈ ms, i ∈ vs) → wipe σ' vs = wipe σ vs) → Q σ' H
abbrev Bnds := List D → Dl.Env → Option Dl.Env
def rGs (c : Ct) (b : Bnds) (ms : List Nat) : TGs := fun us σ H Q => ∃ S ρ O ds, View c S H σ ρ O ∧ Reps c S us ds ∧ ∃ ρ1, b ds ρ = some ρ1 ∧
  ∀ σ' O', View c S H σ' ρ1 O' → (∀ a ∈ O', a ∈ O) → (∀ vs : List Nat, (∀ i ∈ ms, i ∈ vs) → wipe σ' vs = wipe σ vs) → Q σ' H
def DG (X : Cx) (tg : Expr) (b : Bnd) (ms : List Nat) : Prop := PG X tg (rG (ctOf X) b ms)
def DGs (X : Cx) (tg : List Expr) (b : Bnds) (ms : List Nat) : Prop := PGs X tg (rGs (ctOf X) b ms)
theorem pg_imp {X : Cx} {e : Expr} {t t' : TG} (h : PG X e t) (i : ∀ v σ H Q, t' v σ H Q → t v σ H Q) : PG X e t' := ⟨fun pins s σ H v u Q I r z => h.run pins s σ H v u Q I r (i v σ H Q z)⟩
theorem pgs_imp {X : Cx} {e : List Expr} {t t' : TGs} (h : PGs X e t) (i : ∀ v σ H Q, t' v σ H Q → t v σ H Q) : PGs X e t' := ⟨fun pins s σ H v u Q I r z => h.run pins s σ H v u Q I r (i v σ H Q z)⟩
def bName (i : Nat) : Bnd := fun d ρ => putR i (.sh d) ρ
def bNil : Bnds := fun ds ρ => match ds with
  | [] => some ρ
  | _ => none
def bCons (b : Bnd) (bs : Bnds) : Bnds := fun ds ρ => match ds with
  | d :: r => (b d ρ).bind (bs r)
  | [] => none
def bTup (n : Nat) (bs : Bnds) : Bnd := fun d ρ => match d with
  | .tup ds => if ds.length = n then bs ds ρ else none
  | _ => none
theorem wipe_set {σ : L2.St} {i : Nat} {x : Option V} : ∀ {vs : List Nat}, i ∈ vs → wipe (σ.set i x) vs = wipe σ vs
  | [], h => by cases h
  | v :: vs, h => by
    unfold wipe
    by_cases hv : i ∈ vs
    · rw [wipe_set hv]
    · have e : v = i := by
        rcases List.mem_cons.mp h with e | e
        · exact e.symm
        · exact absurd e hv
      subst e
      have sw : ∀ {us : List Nat} (τ : L2.St), v ∉ us → wipe (τ.set v x) us = (wipe τ us).set v x := by
        intro us
        induction us with
        | nil => intro τ _; rfl
        | cons u us ih =>
          intro τ hu
          have h1 : u ≠ v := fun q => hu (q ▸ List.mem_cons_self)
          have h2 : v ∉ us := fun q => hu (List.mem_cons_of_mem _ q)
          unfold wipe
          rw [ih τ h2, List.set_comm _ _ (Ne.symm h1)]
      rw [sw σ hv, List.set_set]
theorem View.put {c : Ct} {S H : Hp} {σ : L2.St} {ρ ρ1 : Dl.Env} {O : List Addr} {i : Nat} {v : V} {d : D} (V : View c S H σ ρ O) (r : Rep c S v d) (e : putR i (.sh d) ρ = some ρ1) : ∃ O', View c S H (σ.set i (some v)) ρ1 O' ∧ ∀ a ∈ O', a ∈ O := by
  unfold putR at e
  cases q : ρ[i]? with
  | none => rw [q] at e; cases e
  | some z =>
    rw [q] at e
    simp only at e
    split at e
    · cases e
      obtain ⟨A, o, q1, q2, q3, q4, q5⟩ := V.sl.at_ V.nd q
      obtain ⟨O', p1, p2, p3⟩ := q5 S H [] (some v) (.sh d) (Same.refl _) (fun a ha _ => ⟨rfl, (V.sl.alive a ha).2⟩) (.sh r) List.nodup_nil fun a ha => by cases ha
      exact ⟨O', ⟨V.sub, p1, p2⟩, fun a ha => (p3 a ha).elim (fun z => by cases z) fun z => z.1⟩
    · cases e
section
variable {X : Cx} {pos : Pos}
theorem dg_name {i : Nat} {x : Str} (hN : X.N.Nodup) (hi : X.N[i]? = some x := by rfl) (hx : Loc X.env.scope x := by first | exact Or.inl rfl | exact Or.inr rfl) (hf : X.fn x = true ∨ X.env.scope.names.lookup x = some .local := by first | exact .inl rfl | exact .inr rfl) : DG X (.Name x pos) (bName i) [i] := by
  refine pg_imp (pg_name (i := i) hN hi hx hf) fun v σ H Q h => ?_
  obtain ⟨S, ρ, O, d, V, r, ρ1, e, h⟩ := h
  obtain ⟨O', V', s⟩ := V.put r e
  exact h _ O' V' s fun vs hv => wipe_set (hv i List.mem_cons_self)
theorem dgs_nil : DGs X [] bNil [] := by
  refine pgs_imp pgs_nil fun v σ H Q h => ?_
  obtain ⟨S, ρ, O, ds, V, r, ρ1, e, h⟩ := h
  cases r with
  | nil =>
    cases e
    exact ⟨rfl, h σ O V (fun a ha => ha) fun _ _ => rfl⟩
  | cons _ _ => cases e
theorem dgs_cons {e : Expr} {es : List Expr} {b : Bnd} {bs : Bnds} {ms ns : List Nat} (h1 : DG X e b ms) (h2 : DGs X es bs ns) (hs : (assignEach (e :: es) X.env).map (·.2) = assign e X.env :: (assignEach es X.env).map (·.2) := by rfl) : DGs X (e :: es) (bCons b bs) (ms ++ ns) := by
  refine pgs_imp (pgs_cons h1 h2 hs) fun v σ H Q h => ?_
  obtain ⟨S, ρ, O, ds, V, r, ρ1, e, h⟩ := h
  cases r with
  | nil => cases e
  | @cons v d vs ds r rr =>
    have e' : (b d ρ).bind (bs ds) = some ρ1 := e
    cases q : b d ρ with
    | none => rw [q] at e'; cases e'
    | some ρ2 =>
      rw [q] at e'
      refine ⟨_, _, rfl, S, ρ, O, d, V, r, ρ2, q, fun σ2 O2 V2 s2 w2 => ?_⟩
      exact ⟨S, ρ2, O2, ds, V2, rr, ρ1, e', fun σ3 O3 V3 s3 w3 => h σ3 O3 V3 (fun a ha => s2 a (s3 a ha)) fun vs hv =>
        (w3 vs fun i hi => hv i (List.mem_append_right _ hi)).trans (w2 vs fun i hi => hv i (List.mem_append_left _ hi))⟩
theorem dg_tup {es : List Expr} {k n : Nat} {bs : Bnds} {ms : List Nat} (hc : X.calm = true) (h : DGs X es bs ms) (hn : (assignEach es X.env).length = n := by rfl) (hst : (assignEach es X.env).findIdx? (·.1) = none := by rfl) : DG X (.Tuple es k pos) (bTup n bs) ms := by
  refine pg_imp (pg_tup hc h hn hst) fun v σ H Q h => ?_
  obtain ⟨S, ρ, O, d, V, r, ρ1, e, h⟩ := h
  unfold bTup at e
  split at e
  · split at e
    · rename_i hl
      cases r with
      | tup ha rr => exact ⟨_, _, rfl, (ha.mono V.sub).sq, rr.length.trans hl, S, ρ, O, _, V, rr, ρ1, e, h⟩
    · cases e
  · cases e
end

/-! ### what is walked -/
/-- the iterator J gives these data, one after another, while S0 is shared -/
def ItOk (c : Ct) (J : It) (items : List D) (S0 : Hp) : Prop := ∀ S H, Same S0 S → Same S H → ∀ i, (items[i]? = none → J.stop i H) ∧
  ∀ d, items[i]? = some d → J.go i H ∧ ∀ x H', J.yld i H x H' → ∃ S', Gr S H S' H' ∧ Rep c S' x d
abbrev Itf := Dl.Env → Res (List D)
def PostW (c : Ct) (E : XS) (S H : Hp) (r : Res (List D)) (R : It → Hp → Prop) : Prop := match r with
  | .ok items => ∀ S' H' J, Gr S H S' H' → ItOk c J items S' → R J H'
  | .exc x => ∀ (S' H' : Hp) (e : Value) (dx : Option Addr), Gr S H S' H' → XRep c S' H' e dx x → FrX H dx → E S' e dx H'
  | .stuck => False
def rI (c : Ct) (E : WS) (f : Itf) : TI := fun σ H R => ∃ S ρ O, View c S H σ ρ O ∧ PostW c (xs c E ρ O) S H (f ρ) R
def DI (X : Cx) (E : WS) (tg it : Expr) (f : Itf) : Prop := PI X tg it (rI (ctOf X) E f)
theorem pi_imp {X : Cx} {tg e : Expr} {t t' : TI} (h : PI X tg e t) (i : ∀ σ H Q, t' σ H Q → t σ H Q) : PI X tg e t' := ⟨fun pins s σ H R I z => h.run pins s σ H R I (i σ H R z)⟩
theorem PostW.fst {c : Ct} {E : XS} {S H : Hp} {r : Res EV} {k : EV → Res (List D)} {R : It → Hp → Prop} {Q1 : VK} (h : PostW c E S H (r.bind k) R)
    (go : ∀ x, r = .ok x → PostW c E S H (k x) R → ∀ S1 H1 A v, Gr S H S1 H1 → EvRep c S1 H1 A v x → A.Nodup → (∀ a ∈ A, H a = none) → Q1 v H1) : Post c E S H r Q1 := by
  cases r with
  | ok x => exact fun S1 H1 A v g re nd fr => go x rfl h S1 H1 A v g re nd fr
  | exc x => exact h
  | stuck => exact h
theorem PostW.fstA {c : Ct} {E : XS} {S H : Hp} {r : Res (List EV)} {k : List EV → Res (List D)} {R : It → Hp → Prop} {Q1 : List V → Hp → Prop} (h : PostW c E S H (r.bind k) R)
    (go : ∀ x, r = .ok x → PostW c E S H (k x) R → ∀ S1 H1 A v, Gr S H S1 H1 → EvsRep c S1 H1 A v x → A.Nodup → (∀ a ∈ A, H a = none) → Q1 v H1) : PostA c E S H r Q1 := by
  cases r with
  | ok x => exact fun S1 H1 A v g re nd fr => go x rfl h S1 H1 A v g re nd fr
  | exc x => exact h
  | stuck => exact h
/-- the shared items of a list or a tuple; a new list is given away, a slot's own one isn't walked -/
def walkL (x : EV) : Res (List D) := match x with
  | .sh (.lst ds) => .ok ds
  | .sh (.scr ns) => .ok (ns.map D.int)
  | .fr ts => .ok (T.toDs ts)
  | _ => .stuck
def walkT (x : EV) : Res (List D) := match x with
  | .sh (.tup ds) => .ok ds
  | _ => .stuck
def iL (f : Dl.Env → Res EV) : Itf := fun ρ => (f ρ).bind walkL
def iT (f : Dl.Env → Res EV) : Itf := fun ρ => (f ρ).bind walkT
theorem itOk_list {c : Ct} {a : Addr} {vs : List V} {ds : List D} {S0 : Hp} (h : ∀ H, Same S0 H → SqL c.K H a vs) (uq : ∀ H xs, Same S0 H → SqL c.K H a xs → True) (r : Reps c S0 vs ds) : ItOk c (Itl c.K a) ds S0 := by
  intro S H s0 s1 i
  have q := h H (s0.trans s1)
  have l := r.length
  refine ⟨fun e => ⟨vs, q, ?_⟩, fun d e => ?_⟩
  · have := List.getElem?_eq_none_iff.mp e
    omega
  · obtain ⟨v, hv, rv⟩ := r.get e
    refine ⟨⟨vs, v, q, hv⟩, fun x H' y => ?_⟩
    obtain ⟨rfl, y⟩ := y
    have := y vs q
    rw [hv] at this
    cases this
    exact ⟨S, Gr.refl s1, rv.mono s0⟩
theorem itOk_tup {c : Ct} {a : Addr} {vs : List V} {ds : List D} {S0 : Hp} (h : TupAt c.K S0 a vs) (r : Reps c S0 vs ds) : ItOk c (Itt c.K a) ds S0 := by
  intro S H s0 s1 i
  have q := (h.mono (s0.trans s1)).sq
  have l := r.length
  refine ⟨fun e => ⟨vs, q, ?_⟩, fun d e => ?_⟩
  · have := List.getElem?_eq_none_iff.mp e
    omega
  · obtain ⟨v, hv, rv⟩ := r.get e
    refine ⟨⟨vs, v, q, hv⟩, fun x H' y => ?_⟩
    obtain ⟨rfl, y⟩ := y
    have := y vs q
    rw [hv] at this
    cases this
    exact ⟨S, Gr.refl s1, rv.mono s0⟩
section
variable {X : Cx} {E : WS} {tg e a b : Expr} {f1 f2 : Dl.Env → Res EV} {p pos : Pos}
theorem di_list (h : DE X E e f1) : DI X E tg e (iL f1) := by
  refine pi_imp (pi_list h) fun σ H R h => ?_
  obtain ⟨S, ρ, O, V, h⟩ := h
  refine ⟨S, ρ, O, V, PostW.fst h fun x e1 h1 S1 H1 A v g r nd fr => ?_⟩
  unfold walkL at h1
  split at h1
  · cases r with
    | sh r => cases r with
      | lst ha rr => exact ⟨_, rfl, ⟨_, SqL.of (g.sub _ _ ha)⟩, h1 S1 H1 _ g (itOk_list (fun H s => SqL.of (s _ _ ha)) (fun _ _ _ _ => trivial) rr)⟩
  · cases r with
    | sh r => cases r with
      | scr ha => exact ⟨_, rfl, ⟨_, g.sub.seq ha⟩, h1 S1 H1 _ g (itOk_list (fun H s => s.seq ha) (fun _ _ _ _ => trivial) (reps_ints _))⟩
  · rename_i ts
    cases r with
    | fr r =>
      have nS : ∀ a ∈ A, S1 a = none := fun a ha => (r.alive a ha).2
      cases r with
      | @node a A0 vs _ ha na rs =>
        have rr : Reps _ (grab S1 H1 (a :: A0)) vs (T.toDs ts) := rs.grabbed (same_grab nS) fun u hu => grab_in (List.mem_cons_of_mem _ hu)
        exact ⟨_, rfl, ⟨_, SqL.of ha⟩, h1 (grab S1 H1 (a :: A0)) H1 _ (g.grab fr nS) (itOk_list (fun H s => SqL.of (s _ _ ((grab_in List.mem_cons_self).trans ha))) (fun _ _ _ _ => trivial) rr)⟩
  · exact h1.elim
theorem di_tup (h : DE X E e f1) : DI X E tg e (iT f1) := by
  refine pi_imp (pi_tup h) fun σ H R h => ?_
  obtain ⟨S, ρ, O, V, h⟩ := h
  refine ⟨S, ρ, O, V, PostW.fst h fun x e1 h1 S1 H1 A v g r nd fr => ?_⟩
  unfold walkT at h1
  split at h1
  · cases r with
    | sh r => cases r with
      | tup ha rr => exact ⟨_, rfl, ⟨_, (ha.mono g.sub).sq⟩, h1 S1 H1 _ g (itOk_tup ha rr)⟩
  · exact h1.elim
/-- range(e), range(a, b) -/
def rangeD (lo : Int) (n : Nat) : List D := (List.range n).map fun (i : Nat) => D.int (lo + i)
def iR1 (f : Dl.Env → Res EV) : Itf := fun ρ => (f ρ).bind fun x => match x with
  | .sh (.int j) => if -4611686018427387904 ≤ j ∧ j < 4611686018427387904 then .ok (rangeD 0 j.toNat) else .stuck
  | _ => .stuck
def rng2 (x y : EV) : Res (List D) := match x, y with
  | .sh (.int i), .sh (.int j) => if (-4611686018427387904 ≤ i ∧ i < 4611686018427387904) ∧ -4611686018427387904 ≤ j ∧ j < 4611686018427387904 then .ok (rangeD i (j - i).toNat) else .stuck
  | _, _ => .stuck
def iR2 (f1 f2 : Dl.Env → Res EV) : Itf := fun ρ => (f1 ρ).bind fun x => (f2 ρ).bind fun y => rng2 x y
theorem PostW.later {c : Ct} {E : XS} {S H S1 H1 : Hp} {r : Res (List D)} {R : It → Hp → Prop} (h : PostW c E S H r R) (g : Gr S H S1 H1) : PostW c E S1 H1 r R := by
  cases r with
  | ok x => exact fun S2 H2 J g2 ok => h S2 H2 J (g.trans g2) ok
  | exc x => exact fun S2 H2 e dx g2 z f => h S2 H2 e dx (g.trans g2) z fun d e => g.hh.free (f d e)
  | stuck => exact h
theorem itOk_range {c : Ct} {lo : Int} {n : Nat} {S0 : Hp} : ItOk c (Itr lo n) (rangeD lo n) S0 := by
  intro S H s0 s1 i
  unfold rangeD
  rw [List.getElem?_map]
  by_cases h : i < n
  · rw [List.getElem?_range h]
    refine ⟨fun e => (by cases e), fun d e => ?_⟩
    cases e
    refine ⟨h, fun x H' y => ?_⟩
    obtain ⟨rfl, rfl⟩ := y
    exact ⟨S, Gr.refl s1, .int _⟩
  · rw [List.getElem?_eq_none (by simpa using h)]
    exact ⟨fun _ => (by show n ≤ i; omega), fun d e => (by cases e)⟩
theorem di_range1 (h : DE X E a f1) (hg : Gl X "range" := by rfl) (hm : X.mg "range" = none := by assumption) (hs : starEach [a] X.env = [(false, eval a X.env)] := by rfl) (hs2 : starEach [a] X.env = (false, eval a X.env) :: starEach [] X.env := by rfl) :
    DI X E tg (.Call (.Name "range" p) [a] [] pos) (iR1 f1) := by
  refine pi_imp (pi_range1 hg hm (pa_cons h pa_nil hs2) hs) fun σ H R h => ?_
  obtain ⟨S, ρ, O, V, h⟩ := h
  refine ⟨S, ρ, O, V, PostW.fst h fun x e1 h1 S1 H1 A v g r nd fr => ?_⟩
  split at h1
  · rename_i j
    split at h1
    · rename_i hj
      refine ⟨j, by rw [int_of r], by omega, by omega, h1 S1 H1 _ g itOk_range⟩
    · exact h1.elim
  · exact h1.elim
theorem di_range2 (ha : DE X E a f1) (hb : DE X E b f2) (hg : Gl X "range" := by rfl) (hm : X.mg "range" = none := by assumption) (hs : starEach [a, b] X.env = [(false, eval a X.env), (false, eval b X.env)] := by rfl) (hs2 : starEach [b] X.env = [(false, eval b X.env)] := by rfl)
    (hs3 : starEach [a, b] X.env = (false, eval a X.env) :: starEach [b] X.env := by rfl) (hs4 : starEach [b] X.env = (false, eval b X.env) :: starEach [] X.env := by rfl) :
    DI X E tg (.Call (.Name "range" p) [a, b] [] pos) (iR2 f1 f2) := by
  refine pi_imp (pi_range2 hg hm (pa_cons ha (pa_cons hb pa_nil hs4) hs3) hs hs2) fun σ H R h => ?_
  obtain ⟨S, ρ, O, V, h⟩ := h
  refine ⟨S, ρ, O, V, PostW.fst h fun x e1 h1 S1 H1 A v g r nd fr => ?_⟩
  refine ⟨S1, ρ, O, V.gr g, ?_⟩
  refine PostW.fst (h1.later g) fun y e2 h2 S2 H2 B w g2 r2 n2 fr2 => ?_
  unfold rng2 at h2
  split at h2
  · rename_i i j
    split at h2
    · rename_i hj
      exact ⟨i, j, by rw [int_of r, int_of r2], ⟨by omega, by omega, by omega, by omega⟩, h2 S2 H2 _ g2 itOk_range⟩
    · exact h2.elim
  · exact h2.elim
end

/-! ### for -/
def forD (b : Bnd) (body : Stm) : List D → Stm
  | [], ρ => .ok (.nx ρ)
  | d :: ds, ρ => match b d ρ with
    | none => .stuck
    | some ρ1 => (body ρ1).bind fun o => match o with
      | .nx ρ2 => forD b body ds ρ2
      | .ct ρ2 => forD b body ds ρ2
      | .bk ρ2 => .ok (.nx ρ2)
      | .ret x => .ok (.ret x)
      | .ex z ρ2 => .ok (.ex z ρ2)
def dFor (it : Itf) (b : Bnd) (body : Stm) : Stm := fun ρ => (it ρ).at ρ fun items => forD b body items ρ
section
variable {c : Ct} {B : Base} {E : WS} {D : Ends} {S H S0 : Hp} {σ : L2.St} {ρ : Dl.Env} {O : List Addr}
/-- a later base: what is shared now -/
theorem GrB.rebase {S1 H1 : Hp} (v : GrB B S H) (b : GrB ⟨B.H, S, B.ex⟩ S1 H1) : GrB B S1 H1 := ⟨b.hh, v.ss.trans b.ss, b.sub, fun a o e n => b.new a o e (v.new a o e n), b.exs⟩
theorem Vw.based (v : Vw c B S H σ ρ O) : Vw c ⟨B.H, S, B.ex⟩ S H σ ρ O := ⟨v.v, ⟨v.g.hh, Same.refl _, v.g.sub, fun _ _ _ n => n, v.g.exs⟩, v.own, v.ni⟩
theorem Vw.rebase {S1 H1 : Hp} {σ1 : L2.St} {ρ1 : Dl.Env} {O1 : List Addr} (g : GrB B S H) (v : Vw c ⟨B.H, S, B.ex⟩ S1 H1 σ1 ρ1 O1) : Vw c B S1 H1 σ1 ρ1 O1 := ⟨v.v, g.rebase v.g, v.own, v.ni⟩
theorem postS.fstW {r : Res (List Dl.D)} {k : List Dl.D → Res Out} {R : It → Hp → Prop} (h : postS c B E D (r.at ρ k)) (v : Vw c B S H σ ρ O)
    (go : ∀ x, r = .ok x → postS c B E D (k x) → ∀ S1 H1 J, Gr S H S1 H1 → ItOk c J x S1 → R J H1) : PostW c (xs c E ρ O) S H r R := by
  cases r with
  | ok x => exact fun S1 H1 J g ok => go x rfl h S1 H1 J g ok
  | exc x => exact fun S1 H1 e dx g z f σ' sl => h S1 H1 σ' O e dx ⟨⟨g.sub, sl, v.v.nd⟩, v.g.gr g, v.own, v.niG g.hh⟩ z (v.freshX f)
  | stuck => exact h
end
section
variable {X : Cx} {E : WS} {tg it : Expr} {body : List Stmt} {f : Itf} {b : Bnd} {ms : List Nat} {g : Stm} {pos : Pos}
theorem ds_for (hp : PassesOwn (model X.prog X.w) X.A X.env X.xe) (hc : X.calm = true) (hi : DI X E tg it f) (hg : DG X tg b ms) (hb : DSs X E body g) (hs : ∀ x, foldedSetIterable it X.env x = pure x := by intro _; rfl) : DS X E (.For tg it body [] pos) (dFor f b g) := by
  refine ps_imp (ps_for hp hc hi hg hb hs) fun D σ H h => ?_
  obtain ⟨B, S, ρ, O, V, h⟩ := h
  refine ⟨S, ρ, O, V.v, postS.fstW h V fun items e1 h1 S1 H1 J g1 ok => ?_⟩
  refine ⟨fun i m σ H => m = items.length - i ∧ i ≤ items.length ∧ ∃ S2 ρ2 O2, Vw (ctOf X) B S2 H σ ρ2 O2 ∧ Same S1 S2 ∧ postS (ctOf X) B E D (forD b g (items.drop i) ρ2), ⟨items.length, by simp, Nat.zero_le _, S1, ρ, O, V.gr g1, Same.refl _, by simpa using h1⟩, ?_⟩
  rintro i m σ2 H2 ⟨rfl, hi, S2, ρ2, O2, V2, s12, h2⟩
  obtain ⟨k1, k2⟩ := ok S2 H2 s12 V2.sub i
  cases q : items[i]? with
  | none =>
    refine .inl ⟨k1 q, ?_⟩
    have hl := List.getElem?_eq_none_iff.mp q
    have e : items.drop i = [] := List.drop_eq_nil_of_le hl
    rw [e] at h2
    exact h2 S2 H2 σ2 O2 V2
  | some d =>
    obtain ⟨k3, k4⟩ := k2 d q
    have hlt := (List.getElem?_eq_some_iff.mp q).1
    have ed : items.drop i = d :: items.drop (i + 1) := by
      rw [List.drop_eq_getElem_cons hlt]
      congr 1
      exact (List.getElem?_eq_some_iff.mp q).2
    rw [ed] at h2
    unfold forD at h2
    cases qb : b d ρ2 with
    | none =>
      rw [qb] at h2
      exact h2.elim
    | some ρ3 =>
      rw [qb] at h2
      simp only at h2
      refine .inr ⟨k3, fun σ' H' => ∃ S4 ρ4 O4, Vw (ctOf X) B S4 H' σ' ρ4 O4 ∧ Same S1 S4 ∧ postS (ctOf X) B E D (forD b g (items.drop (i + 1)) ρ4), fun σ' H' z => ⟨items.length - (i + 1), by omega, rfl, by omega, z⟩, fun x H3 y => ?_⟩
      obtain ⟨S3, g3, rx⟩ := k4 x H3 y
      have V3 := V2.gr g3
      refine ⟨S3, ρ2, O2, d, V3.v, rx, ρ3, qb, fun σ4 O4 V4 s4 _ => ?_⟩
      have V5 : Vw (ctOf X) B S3 H3 σ4 ρ3 O4 := ⟨V4, V3.g, fun a ha => V3.own a (s4 a ha), fun a ha => V3.ni a (s4 a ha)⟩
      refine ⟨⟨B.H, S3, B.ex⟩, S3, ρ3, O4, V5.based, ?_⟩
      have s13 : Same S1 S3 := s12.trans g3.ss
      cases qg : g ρ3 with
      | stuck => rw [qg] at h2; exact h2
      | exc z => rw [qg] at h2; exact h2
      | ok o =>
        rw [qg] at h2
        simp only [Res.ok_bind'] at h2
        cases o with
        | nx ρ4 => exact fun S' H' σ' O' V' => ⟨S', ρ4, O', Vw.rebase V5.g V', s13.trans V'.g.ss, h2⟩
        | ct ρ4 => exact fun S' H' σ' O' V' => ⟨S', ρ4, O', Vw.rebase V5.g V', s13.trans V'.g.ss, h2⟩
        | bk ρ4 => exact fun S' H' σ' O' V' => h2 S' H' σ' O' (Vw.rebase V5.g V')
        | ret z => exact fun S' H' A v ⟨gb, r⟩ => h2 S' H' A v ⟨V5.g.rebase gb, r⟩
        | ex z ρ4 => exact fun S' H' σ' O' e dx V' x => h2 S' H' σ' O' e dx (Vw.rebase V5.g V') x
end

/-! ### while -/
def whileD (t : Dl.Env → Res Bool) (body : Stm) : Nat → Stm
  | 0, _ => .stuck
  | n + 1, ρ => (t ρ).at ρ fun k => if k = true then (body ρ).bind fun o => match o with
      | .nx ρ2 => whileD t body n ρ2
      | .ct ρ2 => whileD t body n ρ2
      | .bk ρ2 => .ok (.nx ρ2)
      | .ret x => .ok (.ret x)
      | .ex z ρ2 => .ok (.ex z ρ2)
    else .ok (.nx ρ)
/-- fuel: how many turns at most -/
def dWhile (fuel : Dl.Env → Nat) (t : Dl.Env → Res Bool) (body : Stm) : Stm := fun ρ => whileD t body (fuel ρ) ρ
section
variable {X : Cx} {E : WS} {e : Expr} {body : List Stmt} {t : Dl.Env → Res Bool} {g : Stm} {pos : Pos}
theorem ds_while (fuel : Dl.Env → Nat) (hp : PassesOwn (model X.prog X.w) X.A X.env X.xe) (ht : DT X E e t) (hb : DSs X E body g) : DS X E (.While e body [] pos) (dWhile fuel t g) := by
  refine ps_imp (ps_while hp ht hb) fun D σ H h => ?_
  obtain ⟨B, S, ρ, O, V, h⟩ := h
  refine ⟨fun m σ H => ∃ S2 ρ2 O2, Vw (ctOf X) B S2 H σ ρ2 O2 ∧ postS (ctOf X) B E D (whileD t g m ρ2), ⟨fuel ρ, S, ρ, O, V, h⟩, ?_⟩
  rintro m σ2 H2 ⟨S2, ρ2, O2, V2, h2⟩
  cases m with
  | zero => exact h2.elim
  | succ n =>
    refine ⟨S2, ρ2, O2, V2.v, postS.fstT (show postS (ctOf X) B E D ((t ρ2).at ρ2 _) from h2) V2 fun k e1 h3 S3 H3 g3 => ?_⟩
    have V3 := V2.gr g3
    cases k with
    | false =>
      refine iteF ?_
      simp only [Bool.false_eq_true, if_false] at h3
      exact h3 S3 H3 σ2 O2 V3
    | true =>
      refine iteT ⟨fun σ' H' => ∃ S4 ρ4 O4, Vw (ctOf X) B S4 H' σ' ρ4 O4 ∧ postS (ctOf X) B E D (whileD t g n ρ4), fun σ' H' z => ⟨n, Nat.lt_succ_self n, z⟩, ⟨B, S3, ρ2, O2, V3, ?_⟩⟩
      simp only [if_true] at h3
      cases qg : g ρ2 with
      | stuck => rw [qg] at h3; exact h3
      | exc z => rw [qg] at h3; exact h3
      | ok o =>
        rw [qg] at h3
        simp only [Res.ok_bind'] at h3
        cases o with
        | nx ρ4 => exact fun S' H' σ' O' V' => ⟨S', ρ4, O', V', h3⟩
        | ct ρ4 => exact fun S' H' σ' O' V' => ⟨S', ρ4, O', V', h3⟩
        | bk ρ4 => exact fun S' H' σ' O' V' => h3 S' H' σ' O' V'
        | ret z => exact h3
        | ex z ρ4 => exact h3
end

/-! ### target = e -/
def dAsg (f : Dl.Env → Res EV) (b : Bnd) : Stm := fun ρ => (f ρ).at ρ fun x => match x with
  | .sh d => (match b d ρ with
    | some ρ1 => .ok (.nx ρ1)
    | none => .stuck)
  | _ => .stuck
theorem ds_asg {X : Cx} {E : WS} {tg e : Expr} {f : Dl.Env → Res EV} {b : Bnd} {ms : List Nat} {pos : Pos} (he : DE X E e f) (hg : DG X tg b ms) (hs : swapsWithSole [tg] e pos.line X.env = pure false := by rfl) (hw : swappedStores [tg] e X.env = pure none := by rfl)
    (h1 : (assignEach [tg] X.env).map (·.2) = [assign tg X.env] := by rfl) : DS X E (.Assign [tg] e pos) (dAsg f b) := by
  refine ps_imp (ps_asg he hg hs hw h1) fun D σ H h => ?_
  obtain ⟨B, S, ρ, O, V, h⟩ := h
  refine ⟨S, ρ, O, V.v, postS.fst h V fun x e1 h1 S1 H1 A u g r nd fr => ?_⟩
  split at h1
  · rename_i d
    cases q : b d ρ with
    | none =>
      rw [q] at h1
      exact h1.elim
    | some ρ1 =>
      rw [q] at h1
      cases r with
      | sh r =>
        have V1 := V.gr g
        exact ⟨S1, ρ, O, d, V1.v, r, ρ1, q, fun σ' O' V' s _ => h1 S1 H1 σ' O' ⟨V', V1.g, fun a ha => V1.own a (s a ha), fun a ha => V1.ni a (s a ha)⟩⟩
  · exact h1.elim
end Dl
set_option Elab.async false
set_option linter.all false
set_option maxRecDepth 100000
/-! DL8: list comprehensions; fields stored; __init__. -/
namespace Dl
open PySem PySem.Spec PyProof.Rows L2

/-! ### list comprehensions -/
def noX {α : Type} (r : Res α) : Res α := match r with
  | .ok a => .ok a
  | _ => .stuck
def wipeR (ρ : Dl.Env) : List Nat → Dl.Env
  | [] => ρ
  | m :: ms => (wipeR ρ ms).set m .no
theorem Slots.wiped {c : Ct} {S H : Hp} {σ : L2.St} {ρ : Dl.Env} {O : List Addr} (h : Slots c S H σ ρ O) (nd : O.Nodup) : ∀ ms : List Nat, ∃ O', Slots c S H (wipe σ ms) (wipeR ρ ms) O' ∧ O'.Nodup ∧ ∀ a ∈ O', a ∈ O
  | [] => ⟨O, h, nd, fun a ha => ha⟩
  | m :: ms => by
    obtain ⟨O1, h1, n1, s1⟩ := Slots.wiped h nd ms
    unfold wipe wipeR
    cases q : (wipeR ρ ms)[m]? with
    | none =>
      have l1 := List.getElem?_eq_none_iff.mp q
      have l2 := h1.length
      rw [List.set_eq_of_length_le (by omega), List.set_eq_of_length_le l1]
      exact ⟨O1, h1, n1, s1⟩
    | some x =>
      obtain ⟨A, o, q1, q2, q3, q4, q5⟩ := h1.at_ n1 q
      obtain ⟨O', p1, p2, p3⟩ := q5 S H [] none .no (Same.refl _) (fun a ha _ => ⟨rfl, (h1.alive a ha).2⟩) .no List.nodup_nil fun a ha => by cases ha
      exact ⟨O', p1, p2, fun a ha => (p3 a ha).elim (fun z => by cases z) fun z => s1 a z.1⟩
def lcD (b : Bnd) (t : Dl.Env → Res Bool) (f : Dl.Env → Res EV) : List D → Dl.Env → Res (List T)
  | [], _ => .ok []
  | d :: ds, ρ => match b d ρ with
    | none => .stuck
    | some ρ1 => (noX (t ρ1)).bind fun k => if k = true then (noX (f ρ1)).bind fun x => match x.t? with
        | some u => (lcD b t f ds ρ).bind fun us => .ok (u :: us)
        | none => .stuck
      else lcD b t f ds ρ
/-- [f for b in it if t]: vs are the slots of the comprehension's names -/
def dLc (it : Itf) (b : Bnd) (t : Dl.Env → Res Bool) (f : Dl.Env → Res EV) (vs : List Nat) : Dl.Env → Res EV := fun ρ => (it ρ).bind fun items => if items.length ≤ 16777216 then (lcD b t f items (wipeR ρ vs)).bind fun ts => .ok (.fr ts) else .stuck
theorem Post.fstW {c : Ct} {E : XS} {S H : Hp} {r : Res (List D)} {k : List D → Res EV} {Q : VK} {R : It → Hp → Prop} (h : Post c E S H (r.bind k) Q)
    (go : ∀ x, r = .ok x → Post c E S H (k x) Q → ∀ S1 H1 J, Gr S H S1 H1 → ItOk c J x S1 → R J H1) : PostW c E S H r R := by
  cases r with
  | ok x => exact fun S1 H1 J g ok => go x rfl h S1 H1 J g ok
  | exc x => exact h
  | stuck => exact h
theorem lc_imp {c : Ct} {E : WS} {it : Itf} {b : Bnd} {ms vs : List Nat} {t : Dl.Env → Res Bool} {f : Dl.Env → Res EV} {σ : L2.St} {H : Hp} {Q : VK} (hm : ∀ i ∈ ms, i ∈ vs) (h : rE c E (dLc it b t f vs) σ H Q) :
    tLc (rI c E it) (rG c b ms) (rT c (fun _ => E0) t) (rE c (fun _ => E0) f) vs σ H Q := by
  obtain ⟨S0, ρ, O, V, h⟩ := h
  have hz : sizeLine = 16777216 := sizeLine_eq
  refine ⟨S0, ρ, O, V, Post.fstW h fun items e1 h1 S1 H1 J g1 ok => ?_⟩
  intro L hL
  split at h1
  · rename_i hlen
    cases er : lcD b t f items (wipeR ρ vs) with
    | exc z =>
      exfalso
      have : ∀ (ds : List D) (ρ : Dl.Env) (z : Xc), lcD b t f ds ρ ≠ .exc z := by
        intro ds
        induction ds with
        | nil => intro ρ z h; cases h
        | cons d ds ih =>
          intro ρ z h
          unfold lcD at h
          cases qb : b d ρ with
          | none => rw [qb] at h; cases h
          | some ρ1 =>
            rw [qb] at h
            simp only at h
            cases qt : t ρ1 with
            | stuck => rw [qt] at h; cases h
            | exc y => rw [qt] at h; cases h
            | ok k =>
              rw [qt] at h
              cases k with
              | false => exact ih ρ z h
              | true =>
                cases qf : f ρ1 with
                | stuck => simp only [noX, qf, Res.ok_bind', if_true] at h; cases h
                | exc y => simp only [noX, qf, Res.ok_bind', if_true] at h; cases h
                | ok x =>
                  simp only [noX, qf, Res.ok_bind', if_true] at h
                  split at h
                  · cases ql : lcD b t f ds ρ with
                    | stuck => rw [ql] at h; cases h
                    | exc y => exact ih ρ y ql
                    | ok us => rw [ql] at h; cases h
                  · cases h
      exact this _ _ _ er
    | stuck =>
      rw [er] at h1
      exact h1.elim
    | ok ts =>
      rw [er] at h1
      simp only [Res.ok_bind'] at h1
      obtain ⟨O0, sl0, nd0, sub0⟩ := V.sl.wiped V.nd vs
      have V0 : View c S1 H1 (wipe σ vs) (wipeR ρ vs) O0 := (⟨V.sub, sl0, nd0⟩ : View c S0 H (wipe σ vs) (wipeR ρ vs) O0).gr g1
      refine ⟨fun i m H2 => m = items.length - i ∧ i ≤ items.length ∧ ∃ S A acc done rest, Gr S1 H1 S H2 ∧ H2 L = some (.lst acc) ∧ S L = none ∧ Owns c S H2 A acc done ∧ A.Nodup ∧ L ∉ A ∧ (∀ a ∈ A, H1 a = none) ∧
        lcD b t f (items.drop i) (wipeR ρ vs) = .ok rest ∧ done ++ rest = ts ∧ acc.length ≤ i,
        ⟨items.length, by simp, Nat.zero_le _, S1, [], [], [], ts, Gr.pushO g1.sub hL, upd_same, g1.sub.free hL, .nil, List.nodup_nil, by simp, (fun a ha => by cases ha), by simpa using er, rfl, Nat.le_refl _⟩, ?_⟩
      rintro i m H2 ⟨rfl, hi, S, A, acc, done, rest, g2, hL2, nL, ow, nd, nLA, frA, el, ets, la⟩
      obtain ⟨k1, k2⟩ := ok S H2 g2.ss g2.sub i
      cases q : items[i]? with
      | none =>
        refine .inl ⟨k1 q, ?_⟩
        have hl := List.getElem?_eq_none_iff.mp q
        have e : items.drop i = [] := List.drop_eq_nil_of_le hl
        rw [e] at el
        cases el
        rw [List.append_nil] at ets
        subst ets
        refine h1 S H2 (L :: A) _ (g1.trans g2) (.fr (.node hL2 nL ow)) (List.nodup_cons.mpr ⟨nLA, nd⟩) fun a ha => ?_
        rcases List.mem_cons.mp ha with e | ha
        · rw [e]
          exact g1.hh.free hL
        · exact g1.hh.free (frA a ha)
      | some d =>
        obtain ⟨k3, k4⟩ := k2 d q
        have hlt := (List.getElem?_eq_some_iff.mp q).1
        have ed : items.drop i = d :: items.drop (i + 1) := by
          rw [List.drop_eq_getElem_cons hlt]
          congr 1
          exact (List.getElem?_eq_some_iff.mp q).2
        rw [ed] at el
        unfold lcD at el
        cases qb : b d (wipeR ρ vs) with
        | none =>
          rw [qb] at el
          cases el
        | some ρ1 =>
          rw [qb] at el
          simp only at el
          refine .inr ⟨k3, fun H' => ∃ S A acc done rest, Gr S1 H1 S H' ∧ H' L = some (.lst acc) ∧ S L = none ∧ Owns c S H' A acc done ∧ A.Nodup ∧ L ∉ A ∧ (∀ a ∈ A, H1 a = none) ∧
            lcD b t f (items.drop (i + 1)) (wipeR ρ vs) = .ok rest ∧ done ++ rest = ts ∧ acc.length ≤ i + 1, fun H' z => ⟨items.length - (i + 1), by omega, rfl, by omega, z⟩, fun x H3 y => ?_⟩
          obtain ⟨S3, g3, rx⟩ := k4 x H3 y
          have V3 := (V0.gr g2).gr g3
          refine ⟨S3, _, O0, d, V3, rx, ρ1, qb, fun σ4 O4 V4 s4 w4 => ⟨(w4 vs hm).trans (by
            have ww : ∀ us : List Nat, wipe (wipe σ us) us = wipe σ us := by
              intro us
              apply List.ext_getElem?
              intro j
              by_cases hj : j ∈ us
              · have z : ∀ (τ : L2.St), τ.length = σ.length → (wipe τ us)[j]? = if j < σ.length then some none else none := by
                  intro τ hτ
                  have hw : ∀ x, (wipe τ us)[j]? ≠ some (some x) := fun x hx => (wipe_some hx).2 hj
                  have hlw := wipe_length τ us
                  by_cases hlt : j < σ.length
                  · rw [if_pos hlt]
                    cases e : (wipe τ us)[j]? with
                    | none =>
                      have := List.getElem?_eq_none_iff.mp e
                      omega
                    | some o =>
                      cases o with
                      | none => rfl
                      | some x => exact absurd e (hw x)
                  · rw [if_neg hlt]
                    exact List.getElem?_eq_none (by omega)
                rw [z _ (wipe_length _ _), z _ rfl]
              · rw [wipe_out hj]
            exact ww vs), ?_⟩⟩
          refine ⟨S3, ρ1, O4, V4, ?_⟩
          cases qt : t ρ1 with
          | stuck => rw [qt] at el; cases el
          | exc z => rw [qt] at el; cases el
          | ok k =>
            rw [qt] at el
            simp only [noX, Res.ok_bind'] at el
            intro S5 H5 g5
            have L5 : H5 L = some (.lst acc) := g5.hh _ _ (g3.hh _ _ hL2)
            have n3 : S3 L = none := g3.new L _ hL2 nL
            have n5 : S5 L = none := g5.new L _ (g3.hh _ _ hL2) n3
            have G5 : Gr S1 H1 S5 H5 := (g2.trans g3).trans g5
            have ow5 : Owns c S5 H5 A acc done := (g3.trans g5).owns ow
            cases k with
            | false =>
              simp only [Bool.false_eq_true, if_false] at el
              exact iteF ⟨S5, A, acc, done, rest, G5, L5, n5, ow5, nd, nLA, frA, el, ets, by omega⟩
            | true =>
              simp only [if_true] at el
              refine iteT ⟨S5, ρ1, O4, V4.gr g5, ?_⟩
              cases qf : f ρ1 with
              | stuck => rw [qf] at el; cases el
              | exc z => rw [qf] at el; cases el
              | ok ev =>
                rw [qf] at el
                simp only [Res.ok_bind'] at el
                cases qx : ev.t? with
                | none => rw [qx] at el; cases el
                | some u =>
                  rw [qx] at el
                  simp only at el
                  cases ql : lcD b t f (items.drop (i + 1)) (wipeR ρ vs) with
                  | stuck => rw [ql] at el; cases el
                  | exc z => rw [ql] at el; cases el
                  | ok us =>
                    rw [ql] at el
                    simp only [Res.ok_bind', Res.ok.injEq] at el
                    subst el
                    intro S6 H6 C y g6 r6 n6 f6
                    have ot := ev_tree r6 qx
                    have L6 : H6 L = some (.lst acc) := g6.hh _ _ L5
                    have s6 : S6 L = none := g6.new L _ L5 n5
                    have G6 : Gr S1 H1 S6 H6 := G5.trans g6
                    have ow6 : Owns c S6 H6 A acc done := g6.owns ow5
                    have LC : L ∉ C := fun z => by
                      have := f6 L z
                      rw [L5] at this
                      cases this
                    refine ⟨acc, L6, by omega, S6, A ++ (C ++ []), acc ++ [y], done ++ [u], us, ⟨fun b' o e => ?_, G6.ss, fun b' o e => ?_, G6.new⟩, upd_same, s6, ?_, ?_, ?_, fun a ha => ?_, ?_, ?_, ?_⟩
                    · rw [upd_ne (ne_of_none e hL)]
                      exact G6.hh b' o e
                    · rw [upd_ne (ne_of_none e s6)]
                      exact G6.sub b' o e
                    · refine (ow6.mono (Same.refl _) fun a ha => ⟨upd_ne (fun z => nLA (by rw [← z]; exact ha)), (ow6.alive a ha).2⟩).append (.cons (ot.mono (Same.refl _) fun a ha => ⟨upd_ne (fun z => LC (by rw [← z]; exact ha)), (ot.alive a ha).2⟩) .nil)
                    · rw [List.append_nil]
                      refine List.nodup_append.mpr ⟨nd, n6, fun a ha a' ha' e => ?_⟩
                      subst e
                      have := f6 a ha'
                      obtain ⟨⟨_, z⟩, _⟩ := ow5.alive a ha
                      rw [this] at z
                      cases z
                    · rw [List.append_nil]
                      exact fun z => (List.mem_append.mp z).elim nLA LC
                    · rw [List.append_nil] at ha
                      rcases List.mem_append.mp ha with ha | ha
                      · exact frA a ha
                      · exact G5.hh.free (f6 a ha)
                    · rfl
                    · rw [List.append_assoc]
                      exact ets
                    · rw [List.length_append]
                      simp only [List.length_cons, List.length_nil]
                      omega
  · exact h1.elim
theorem blk_ct {X : Cx} {s : Shared} {H : Hp} {scope : Scope} {env : PySem.Env} {fp : List Addr} (hc : X.calm = true) : ctOf (X.blk s H scope env fp) = ctOf X := by
  rw [ctOf_calm hc, ctOf_calm (show (X.blk s H scope env fp).calm = true from hc)]
def dYes : Dl.Env → Res Bool := fun _ => .ok true
def DTs (X : Cx) (ifs : List Expr) (t : Dl.Env → Res Bool) : Prop := PTs X ifs (rT (ctOf X) (fun _ => E0) t)
theorem pts_imp {X : Cx} {e : List Expr} {t t' : TT} (h : PTs X e t) (i : ∀ σ H Q, t' σ H Q → t σ H Q) : PTs X e t' := ⟨fun pins s σ H Q I z => h.run pins s σ H Q I (i σ H Q z)⟩
section
variable {X : Cx} {E : WS} {elt tg iter : Expr} {ifs : List Expr} {scope : Scope} {pos : Pos} {it : Itf} {b : Bnd} {ms : List Nat} {t : Dl.Env → Res Bool} {f : Dl.Env → Res EV}
theorem dts_nil : DTs X [] dYes := pts_imp pts_nil fun σ H Q h => by
  obtain ⟨S, ρ, O, V, h⟩ := h
  exact h S H (Gr.refl V.sub)
theorem dts_one {e : Expr} (h : DT X (fun _ => E0) e t) : DTs X [e] t := pts_one h
theorem de_lc (own : List (Str × Nat)) (hc : X.calm = true) (hN : X.N.Nodup) (hi : DI X E tg iter it) (ok : blkC X.N X.env.scope scope own = true)
    (hg : ∀ (s : Shared) (H : Hp) (C : Addr) (cl : List (Str × Addr)) (fp : List Addr), DG (X.blk s H scope (compEnvC scope cl C X.env) fp) tg b ms) (ht : ∀ (s : Shared) (H : Hp) (C : Addr) (cl : List (Str × Addr)) (fp : List Addr), DTs (X.blk s H scope (compEnvC scope cl C X.env) fp) ifs t)
    (he : ∀ (s : Shared) (H : Hp) (C : Addr) (cl : List (Str × Addr)) (fp : List Addr), DE (X.blk s H scope (compEnvC scope cl C X.env) fp) (fun _ => E0) elt f) (hm : ∀ i ∈ ms, i ∈ own.map (·.2) := by decide) (hs : ∀ x, foldedSetIterable iter X.env x = pure x := by intro _; rfl) :
    DE X E (.ListComp elt [⟨tg, iter, ifs, 0⟩] scope pos) (dLc it b t f (own.map (·.2))) :=
  pe_imp (pe_lc (g := rG (ctOf X) b ms) (tt := rT (ctOf X) (fun _ => E0) t) (te := rE (ctOf X) (fun _ => E0) f) hc hN hi (blkOk_by ok) (fun s H C cl fp => blk_ct (X := X) (s := s) (H := H) (scope := scope) (env := compEnvC scope cl C X.env) (fp := fp) hc ▸ hg s H C cl fp)
    (fun s H C cl fp => blk_ct (X := X) (s := s) (H := H) (scope := scope) (env := compEnvC scope cl C X.env) (fp := fp) hc ▸ ht s H C cl fp) (fun s H C cl fp => blk_ct (X := X) (s := s) (H := H) (scope := scope) (env := compEnvC scope cl C X.env) (fp := fp) hc ▸ he s H C cl fp) hs) fun _ _ _ h => lc_imp hm h
/-- y = [..] on one line, y a local -/
theorem ds_setLc {i : Nat} {y : Str} {py spos : Pos} (own : List (Str × Nat)) (hc : X.calm = true) (hN : X.N.Nodup) (hi : DI X E tg iter it) (ok : blkC X.N X.env.scope scope own = true)
    (hg : ∀ (s : Shared) (H : Hp) (C : Addr) (cl : List (Str × Addr)) (fp : List Addr), DG (X.blk s H scope (compEnvC scope cl C X.env) fp) tg b ms) (ht : ∀ (s : Shared) (H : Hp) (C : Addr) (cl : List (Str × Addr)) (fp : List Addr), DTs (X.blk s H scope (compEnvC scope cl C X.env) fp) ifs t)
    (he : ∀ (s : Shared) (H : Hp) (C : Addr) (cl : List (Str × Addr)) (fp : List Addr), DE (X.blk s H scope (compEnvC scope cl C X.env) fp) (fun _ => E0) elt f) (hsw : swapsWith (.ListComp elt [⟨tg, iter, ifs, 0⟩] scope pos) (some (.Name y py)) spos.line X.env = pure true)
    (hy : X.N[i]? = some y := by rfl) (hyl : X.env.scope.names.lookup y = some .local := by rfl) (hm : ∀ i ∈ ms, i ∈ own.map (·.2) := by decide) (hs : ∀ x, foldedSetIterable iter X.env x = pure x := by intro _; rfl) :
    DS X E (.Assign [.Name y py] (.ListComp elt [⟨tg, iter, ifs, 0⟩] scope pos) spos) (dSet i (dLc it b t f (own.map (·.2)))) := by
  refine ps_imp (ps_setLc (i := i) (g := rG (ctOf X) b ms) (tt := rT (ctOf X) (fun _ => E0) t) (te := rE (ctOf X) (fun _ => E0) f) hc hN hy hyl hsw hi (blkOk_by ok) (fun s H C cl fp => blk_ct (X := X) (s := s) (H := H) (scope := scope) (env := compEnvC scope cl C X.env) (fp := fp) hc ▸ hg s H C cl fp)
    (fun s H C cl fp => blk_ct (X := X) (s := s) (H := H) (scope := scope) (env := compEnvC scope cl C X.env) (fp := fp) hc ▸ ht s H C cl fp) (fun s H C cl fp => blk_ct (X := X) (s := s) (H := H) (scope := scope) (env := compEnvC scope cl C X.env) (fp := fp) hc ▸ he s H C cl fp) hs) fun D σ H h => ?_
  obtain ⟨B, S, ρ, O, V, h⟩ := h
  refine lc_imp hm ⟨S, ρ, O, V.v, postS.fst h V fun x e1 h1 S1 H1 A u g r nd fr => ?_⟩
  cases q : SV.of x with
  | none =>
    rw [q] at h1
    exact h1.elim
  | some y =>
    simp only [q] at h1
    cases q2 : putR i y ρ with
    | none =>
      simp only [q2] at h1
      exact h1.elim
    | some ρ1 =>
      simp only [q2] at h1
      obtain ⟨O', V'⟩ := put_ev V g r nd fr q q2
      exact h1 S1 H1 _ O' V'
end
end Dl
set_option Elab.async false
set_option linter.all false
set_option maxRecDepth 100000
/-! DL9: exceptions: made, raised, caught, asked. -/
namespace Dl
open PySem PySem.Spec PyProof.Rows L2

/-! ### C(e): an own class over ValueError whose __init__ keeps one field -/
section
variable {X : Cx} {CX : CXT} {x : Str} {e : Expr} {es : List Expr} {ta : TA} {p pos : Pos} {C fI : Addr} {k : Nat} {fd : FuncData} {ps : List Str} {sp : Sp}
theorem pmkN_oex (T : OexC X.K C) (iC : PySem.W.findIn X.K (.ref C) "__init__" = some (some (.ref fI))) (tI : PySem.W.typeIn X.K (.ref fI) = some (.type "function"))
    (F1 : FnOk X.prog X.w X.K X.mg X.base CX k fI fd ps sp) (hr : Room (k + 1) X.A) (hb : Binds X.K fd ps []) (hx : Passes CX X (fun _ _ _ => False)) (hg : Gl X x) (hm : X.mg x = some (.ref C)) (ha : PA X (e :: es) ta)
    (hdb : (x == ("__debug__" : Str)) = false := by decide) (he : starEach (e :: es) X.env = (false, eval e X.env) :: starEach es X.env := by rfl) (hpl : (backTo pos (starEach es X.env)).any (·.1) = false := by rfl) :
    L2N.PMk X (.Call (.Name x p) (e :: es) [] pos) (tMkO C sp [] ta) := by
  intro pins s σ H Q I h
  obtain ⟨nm, q, N, bs, bm, sn, sub, ab, col, dd, k0, k1, k2, k3, k5, hC, hbm⟩ := T.cls
  refine wpAny_Call_Name_kw (ld_glob I hg hm ?_ hdb)
  refine PySem.W.callWith_K (h₀ := X.base) I.ok.mod.kin T.kC (thn (ha.run pos pins s σ H _ I h) fun us s1 ⟨vs, H1, I1, r1, hz, q1⟩ => ⟨I1.kIn, ?_⟩) he hpl
  show wpAny _ _ (call (.ref C) us) _ _ _
  obtain ⟨hp, g, dr, tk, os⟩ := s1
  have hsz : hp.objs.size ≤ hp.objs.size + 1 := Nat.le_succ _
  have hn : H1 (hp.objs.size + 1) = none := I1.hok.fresh hsz
  have hq := q1 (hp.objs.size + 1) hn
  rw [List.append_nil] at hq
  have kk : ∀ b o, hp.get? b = some o → ((hp.push (PySem.W.kdv_tup us)).push (PySem.HandSPX.excO C hp.objs.size)).get? b = some o := fun b o e => Heap.get?_push_of_some _ (Heap.get?_push_of_some _ e)
  have hget : ((hp.push (PySem.W.kdv_tup us)).push (PySem.HandSPX.excO C hp.objs.size)).get? (hp.objs.size + 1) = some (PySem.HandSPX.excO C hp.objs.size) := by heap_get
  have I2 : Inv X pins σ (upd H1 (hp.objs.size + 1) (exo (hp.objs.size + 1) C none)) ⟨(hp.push (PySem.W.kdv_tup us)).push (PySem.HandSPX.excO C hp.objs.size), g, dr, tk, os⟩ :=
    I1.laid (t' := tk) (a := hp.objs.size + 1) (o := exo (hp.objs.size + 1) C none) (h' := (hp.push (PySem.W.kdv_tup us)).push (PySem.HandSPX.excO C hp.objs.size)) kk hsz (exo_ok hget)
  have r2 : Vals (V.ref (hp.objs.size + 1) :: vs) (Value.ref (hp.objs.size + 1) :: us) := .cons rfl r1
  have hl : (Value.ref (hp.objs.size + 1) :: us ++ []).length = ps.length := by
    have e := r2.length
    rw [F1.len _ _ _ _ hq] at e
    rw [List.append_nil]
    exact e.symm
  have hus : us.length ≤ sizeLine := by
    rw [← Paired.length r1, sizeLine_eq]
    omega
  have b2 := hb _ (Value.ref (hp.objs.size + 1) :: us) I2.kIn hl
  rw [List.append_nil] at b2
  refine wpAny_call (PySem.HandSPX.call_own F.excBase_ValueError (fun Y => PySem.HandSPX.refsVE_contains Y bm hbm) (I1.kIn _ _ hC) (PySem.W.looks_findIn I1.kIn iC) (fun self => PySem.W.bind_fn I1.kIn self tI) hus
    (codeAny_mono (F1.run _ X.stack _ _ ⟨Value.ref (hp.objs.size + 1) :: us, []⟩ (Value.ref (hp.objs.size + 1) :: us) _ _ (fun _ _ _ => False) (hr.make C us []) (I2.env0.make C us []) b2 r2 hq) fun r s' hq' => ?_))
  cases r with
  | error er => exact hx pins σ _ _ er s' I2 hq'
  | ok fl =>
    cases fl with
    | ret u =>
      obtain ⟨v, H2, os2, bare2, un2, hok2, rv, ev, d, fs, ea, ed, hd1, q2⟩ := hq'
      subst ev
      obtain ⟨h2, g2, d2, t2, os'⟩ := s'
      obtain ⟨t0, G, J, kG, ge, hoe, na⟩ := mk_end0 (d2 := d2) (t2 := t2) I1 hsz kk un2 hok2 os2 bare2 ea ed hd1
      refine ⟨rv, ⟨hp.objs.size + 1, _, _, ⟨G, g2, d2, t2, os'⟩, _, .ref C, some d, rfl, J, kG, ge, hoe, ⟨rfl, rfl, fun vs hv => ?_⟩, rfl, rfl, na, rfl, bare2, raises_own T.exC T.tyC, q2⟩⟩
      cases hv
      rfl
    | next => exact False.elim hq'
    | brk => exact False.elim hq'
    | cont => exact False.elim hq'
end
/-- THE PROMISE of such an __init__ -/
def spO (K : PySem.W.Frag) (C : Addr) (f : Str) : Sp := fun vs H Q _ => ∃ a v, vs = [.ref a, v] ∧ H a = some (exo a C none) ∧ ∀ dx, H dx = none → dx ≠ a → Q .non (upd (upd H dx (exd dx [(f, v)])) a (exo a C (some dx)))
section
variable {P : Program} {w : World} {K : PySem.W.Frag} {mg : Str → Option Value} {base : Heap} {x qual : Str} {params : Arguments} {scope : Scope} {dvs : List V} {kws : List (Str × V)} {fI C : Addr} {fd : FuncData}
theorem fn_oex {CX : CXT} {N ps : List Str} {k : Nat} {sf y f : Str} {p1 p2 p3 p4 : Pos} (F : FunD K x qual params [.Assign [.Attribute (.Name sf p1) f p2] (.Name y p3) p4] scope dvs kws fI fd) (Sc : FnScope N ps scope) (hN : N = [sf, y]) (hn : ps.length = 2) (T : OexC K C) (hno : PySem.W.findIn K (.ref C) f = some none)
    (hv1 : Vis scope sf := by first | exact Or.inl rfl | exact Or.inr (Or.inl rfl) | exact Or.inr (Or.inr rfl)) (hv2 : Vis scope y := by first | exact Or.inl rfl | exact Or.inr (Or.inl rfl) | exact Or.inr (Or.inr rfl))
    (hd1 : (sf == ("__debug__" : Str)) = false := by decide) (hd2 : (y == ("__debug__" : Str)) = false := by decide) (hc1 : (sf == ("__classdict__" : Str)) = false := by decide) (hc2 : (y == ("__classdict__" : Str)) = false := by decide)
    (hs : ∀ env : PySem.Env, swapsWith (.Name y p3) (some (.Attribute (.Name sf p1) f p2)) p4.line env = pure false := by intro _; rfl) : FnOk P w K mg base CX (k + 1) fI fd ps (spO K C f) := by
  subst hN
  refine F.ok Sc (fun vs H Q E h => ?_) fun cdv A outer s H vs Q E hr h => ?_
  · obtain ⟨a, v, rfl, _⟩ := h
    exact hn.symm
  · obtain ⟨a, v, rfl, e, q⟩ := h
    refine ⟨_, pss_one (ps_ost (pe_var (i := 0) rfl hv1 hd1 hc1) (pe_var (i := 1) rfl hv2 hd2 hc2) (hs _)), ?_⟩
    exact ⟨v, rfl, .ref a, rfl, a, C, rfl, T, hno, .inl ⟨e, fun dx n ne => q dx n ne⟩⟩
end

/-! ### raise C(e) -/
def dRaise (C f : Str) (fe : Dl.Env → Res EV) : Stm := fun ρ => (fe ρ).at ρ fun x => match x with
  | .sh d => .ok (.ex ⟨C, [(f, d)]⟩ ρ)
  | _ => .stuck
section
variable {X : Cx} {W : WX} {x f : Str} {e : Expr} {p pos pos2 : Pos} {fI : Addr} {j k : Nat} {fd : FuncData} {ps : List Str} {fe : Dl.Env → Res EV}
theorem ds_raise (L : Lv X W k) (T : OexC X.K (clOf X.mg x)) (iC : PySem.W.findIn X.K (.ref (clOf X.mg x)) "__init__" = some (some (.ref fI))) (tI : PySem.W.typeIn X.K (.ref fI) = some (.type "function"))
    (G : FnOk X.prog X.w X.K X.mg X.base (L2N.CX X.prog X.w) j fI fd ps (spO X.K (clOf X.mg x) f)) (hj : j + 1 ≤ k) (hb : Binds X.K fd ps []) (hm : X.mg x = some (.ref (clOf X.mg x))) (ha : DE X (WE W) e fe) (hg : Gl X x := by rfl)
    (hdb : (x == ("__debug__" : Str)) = false := by decide) (he : starEach [e] X.env = (false, eval e X.env) :: starEach [] X.env := by rfl) (hpl : (backTo pos (starEach [] X.env)).any (·.1) = false := by rfl) :
    DS X (WE W) (.Raise (some (.Call (.Name x p) [e] [] pos)) none pos2) (dRaise x f fe) := by
  have hx : Passes (L2N.CX X.prog X.w) X (fun _ _ _ => False) := fun pins σ H s e s' I c => L2N.passes_call L.tk (fun _ _ _ _ h => h.elim) pins σ H s e s' I c
  refine ps_imp (L2N.ps_raise L.calm L.tk (pmkN_oex T iC tI G (L.room.mono hj) hb hx hg hm (pa_cons ha pa_nil he) hdb he hpl)) fun D σ H h => ?_
  obtain ⟨B, S, ρ, O, V, h⟩ := h
  refine ⟨S, ρ, O, V.v, postS.fst h V fun y e1 h1 S1 H1 A v g r nd fr => ?_⟩
  refine ⟨by simp, fun a ha => ?_⟩
  split at h1
  · rename_i d
    cases r with
    | sh r =>
      refine ⟨a, v, rfl, upd_same, fun dx hd hne => ⟨rfl, dx, [(f, v)], upd_same, ?_, ?_, ?_⟩⟩
      · rw [upd_ne hne, upd_same]
      · rw [upd_ne hne] at hd
        exact hd
      · rw [upd_ne hne] at hd
        have ee : upd (del (upd (upd (upd H1 a (exo a (clOf X.mg x) none)) dx (exd dx [(f, v)])) a (exo a (clOf X.mg x) (some dx))) a) dx (.xd [(f, v)]) = upd H1 dx (.xd [(f, v)]) := by
          funext b
          by_cases h2 : b = dx
          · rw [h2, upd_same, upd_same]
          · rw [upd_ne h2, upd_ne h2]
            by_cases h3 : b = a
            · rw [h3, del_same, ha]
            · rw [del_ne h3, upd_ne h3, upd_ne h2, upd_ne h3]
        rw [ee]
        have g2 : Gr S1 H1 S1 (upd H1 dx (.xd [(f, v)])) := Gr.pushO g.sub hd
        refine h1 S1 _ σ O _ _ ((V.gr g).gr g2) ⟨rfl, dx, [(f, v)], rfl, upd_same, .cons r .nil⟩ fun d0 e0 => ?_
        cases e0
        exact V.fresh (A := [dx]) (fun b hb => by rw [List.mem_singleton.mp hb]; exact g.hh.free hd) dx List.mem_cons_self
  · exact h1.elim
end

/-! ### the caught exception is asked -/
end Dl
namespace PySem.W
open PySem PySem.Spec PySem.Calls PyProof.Rows
section
variable {prog : Program} {w : World} {A : Around} {E : Value → Shared → Prop} {s : Shared} {K : Frag} {x D : Addr} {ox : Obj} {od : Option Obj}
theorem dl_findObj {C : Addr} {name : Str} {a g : Value} (hc : (clsIn K C).isSome = true) (ha : findIn K (.ref C) name = some (some a)) (hg : specialIn K a "__get__" = some (some g)) (ht : takesIn K a = some true) : findObj K C od name = some (.bind g a) := by
  obtain ⟨cd, hc⟩ := Option.isSome_iff_exists.mp hc
  unfold findObj
  rw [hc, Option.bind_some, ha, Option.bind_some]
  simp [hg, ht]
theorem dl_kin_class {Q : Option Value → Shared → Prop} (hga : findIn K (.ref D) "__getattribute__" = some (some (.builtin "BaseException.__getattribute__"))) (hgt : findIn K (.ref D) "__getattr__" = some none) (hsub : subIn K (.ref D) (.type "BaseException") = some true)
    (hdct : hasDictIn K D = true) (ha : findIn K (.ref D) "__class__" = some (some (.builtin "object.__class__")))
    (hn : specialIn K (.builtin "object.__class__") "__get__" = some (some (.builtin "getset_descriptor.__get__"))) (htk : takesIn K (.builtin "object.__class__") = some true) (hm : mroIn K D (.type "object") = some true)
    (X : K.In s.heap) (I : InstAt s.heap x ox D od) (h : Q (some (.ref D)) { s with toks := s.toks + 1 }) : wpAny (model prog w) A (getAttr? (.ref x) "__class__") Q E s := by
  have hf : findObj K D od "__class__" = some (.bind (.builtin "getset_descriptor.__get__") (.builtin "object.__class__")) := dl_findObj (by obtain ⟨cd, hc, _⟩ := any_some hdct; rw [hc]; rfl) ha hn htk
  obtain ⟨hp, g, d, t, os⟩ := s
  have L0 := I.type (M := model prog w)
  have L1 := looks_findIn (M := model prog w) X hga
  have L2 := looks_findIn (M := model prog w) X hgt
  have L3 := looks_find (M := model prog w) X I hf
  have sub : Looks (model prog w) hp (isInstance (.ref x) (.type "BaseException")) true := L0.andThen (looks_subIn X hsub)
  have hx0 : (false && onTheHeap (Value.builtin "BaseException.__getattribute__")) = false := rfl
  have hx2 : (Value.builtin "BaseException.__getattribute__" == Value.builtin "object.__getattribute__") = false := by decide +kernel
  have hx1 : (onTheHeap (Value.ref D) && Value.builtin "BaseException.__getattribute__" == Value.builtin "object.__getattribute__") = false := by rw [hx2]; rfl
  unfold getAttr? getAttrBy? getAttrBy
  refine wpAny_bind (wpAny_mkText (wpAny_bind (wpAny_attempt (wpAny_holding (wpAny_bind (L0.at (wpAny_bind (L1.at ?_))))))))
  show wpAny _ _ (if (onTheHeap (Value.ref D) && Value.builtin "BaseException.__getattribute__" == Value.builtin "object.__getattribute__") = true then _ else _) _ _ _
  rw [hx1, if_neg Bool.false_ne_true]
  unfold getAttrByItsOwn hookBefore
  refine wpAny_bind ?_
  rw [if_pos (show onTheHeap (Value.ref D) = true from rfl)]
  refine L2.at ?_
  refine wpAny_bind (wpAny_attempt (wpAny_holding ?_))
  unfold callGetattribute
  rw [hx0, if_neg Bool.false_ne_true]
  unfold boundAndCalled
  rw [PySem.F.excAttr_ValueError.ga.bind (.ref x)]
  refine wpAny_bind (wpAny_pure ?_)
  show wpAny _ _ (call (.builtin "BaseException.__getattribute__") [.ref x, .str "__class__" t]) _ _ _
  refine wpAny_call (codeAny_call_builtin PySem.F.excAttr_ValueError.ga.plain PySem.F.entry_bexc_ga ?_)
  refine @check_slot (model prog w) _ _ ⟨hp, g, d, t + 1, os⟩ "BaseException.__getattribute__" "BaseException" "__getattribute__" (.ref x) [.str "__class__" t] [] _ (by decide +kernel) (by decide +kernel) sub (PySem.F.args_bexc_ga (.ref x) (.str "__class__" t)) ?_
  unfold Builtin.«object.__getattribute__»
  refine wpAny_bind (wpAny_of_eq (a := ((Value.ref x : Value), [Value.str "__class__" t])) (by first | rfl | (simp only [slotArgs]; rfl)) ?_)
  refine wpAny_bind (wpAny_pure (wpAny_bind (L0.at (wpAny_bind (L3.at ?_)))))
  show wpAny _ _ (holding [Value.builtin "object.__class__"] (call (.builtin "getset_descriptor.__get__") [.builtin "object.__class__", .ref x, .ref D]) >>= ret) _ _ _
  refine wpAny_bind (wpAny_holding (wpAny_call (class_get (s := ⟨hp, g, d, t + 1, os⟩) (ox := ox) (od := od) X I hm ?_)))
  refine wpAny_pure ?_
  show wpAny _ _ (handedOut (.ref D)) _ _ _
  rw [handedOut_of (v := .ref D) rfl]
  first
    | exact wpAny_pure (wpAny_pure h)
    | exact wpAny_pure h
    | exact wpAny_pure (wpAny_bind (wpAny_pure (wpAny_pure h)))
theorem dl_kitx (hga : findIn K (.ref D) "__getattribute__" = some (some (.builtin "BaseException.__getattribute__"))) (hgt : findIn K (.ref D) "__getattr__" = some none) (hsub : subIn K (.ref D) (.type "BaseException") = some true) (hdct : hasDictIn K D = true) (ha : findIn K (.ref D) "__class__" = some (some (.builtin "object.__class__")))
    (hn : specialIn K (.builtin "object.__class__") "__get__" = some (some (.builtin "getset_descriptor.__get__"))) (htk : takesIn K (.builtin "object.__class__") = some true) (hm : mroIn K D (.type "object") = some true) :
    KitX K (.ref x) (.ref D) (fun h => InstAt h x ox D od) where
  ty := fun _ _ _ I => I.type
  it := fun _ _ X _ => by
    obtain ⟨cdD, hcD, _⟩ := any_some hdct
    unfold clsIn at hcD
    split at hcD
    · rename_i c' d' cd' sl' ho
      intro A' Q' E' s' k q
      unfold isType loadHead
      exact wpAny_bind (wpAny_loadPart (k _ _ (X _ _ ho)) (wpAny_pure q))
    · cases hcD
  ne := fun h tp dd its n sl X htp => by
    obtain ⟨cdD, hcD, _⟩ := any_some hdct
    refine Bool.eq_false_iff.mpr fun q => ?_
    have e : D = tp := Value.ref.inj (beq_iff_eq.mp q)
    subst e
    unfold clsIn at hcD
    split at hcD
    · rename_i c' d' cd' sl' ho
      have z := (X _ _ ho).symm.trans htp
      cases z
    · cases hcD
  ca := fun X I k => dl_kin_class hga hgt hsub hdct ha hn htk hm X I k
end
end PySem.W
namespace Dl
open PySem PySem.Spec PyProof.Rows L2
/-- isinstance(e, c), e the exception that the suite holds -/
def rIsX (K : PySem.W.Frag) (a : Addr) (oe : Obj) : List V → Hp → VK → Prop := fun xs H Q => ∃ (D : Addr) (c : V) (cv : Value) (b : Bool), xs = [.ref a, c] ∧ oe.cls = .ref D ∧ ExcC K D ∧ (oe.dict = none ∨ ∃ dd fs, oe.dict = some dd ∧ H dd = some (.xd fs)) ∧
  (∀ u, RelV c u → u = cv) ∧ PySem.W.kitOne K (.ref D) cv = some b ∧ Q (.bl b) H
theorem call_isX {X : Cx} {a : Addr} {oe : Obj} {pn : List (Addr × Obj)} (hf : ∃ vs, oe.data = .fields vs) : CallR (X.suite a ((a, oe) :: pn)) (.builtin "isinstance") (rIsX X.K a oe) := by
  intro pins s σ H xs us Q I r h
  obtain ⟨D, c, cv, b, rfl, hD, C, hd, hcv, e, q⟩ := h
  cases r with
  | cons rx rr =>
    cases rr with
    | cons rt rr =>
      cases rr
      cases rx
      have ec := hcv _ rt
      subst ec
      obtain ⟨hget, _⟩ := I.pin (a, oe) (List.mem_append.mpr (.inl List.mem_cons_self))
      obtain ⟨vs, hv⟩ := hf
      obtain ⟨oc, odi, oda, osl⟩ := oe
      dsimp only at hD hv hd
      subst hD hv
      rcases hd with hd | ⟨dd, fs, hd, hH⟩
      · subst hd
        have J : PySem.W.InstAt s.heap a ⟨.ref D, none, .fields vs, osl⟩ D none := ⟨hget, rfl, rfl, trivial⟩
        exact PySem.W.kia_one (PySem.W.dl_kitx C.hg C.hk C.hs C.hd C.ha C.hn C.ht C.hm) I.kIn J e (fun z => nomatch z) fun tk => ⟨.bl b, H, I.kept (t' := tk) fun _ _ z => z, rfl, q⟩
      · subst hd
        have hx : ObjOk X.prog X.w H s.heap dd (.xd fs) := I.hok dd _ hH
        obtain ⟨mA, hns, hr⟩ := hx
        obtain ⟨od, ho, hl⟩ := lookIn_ns hns
        have J : PySem.W.InstAt s.heap a ⟨.ref D, some dd, .fields vs, osl⟩ D (some od) := ⟨hget, rfl, rfl, ho⟩
        exact PySem.W.kia_one (PySem.W.dl_kitx C.hg C.hk C.hs C.hd C.ha C.hn C.ht C.hm) I.kIn J e (fun z => nomatch z) fun tk => ⟨.bl b, H, I.kept (t' := tk) fun _ _ z => z, rfl, q⟩
/-- hit: of the exception's class, the answer -/
def dIsX (i : Nat) (hit : Str → Option Bool) : Dl.Env → Res EV := fun ρ => match ρ[i]? with
  | some (.xc z) => (match hit z.C with
    | some b => .ok (.sh (.bl b))
    | none => .stuck)
  | _ => .stuck
theorem xc_dict {c : Ct} {S H : Hp} {z : Xc} (s : Same S H) (r : XRep c S S c.xc c.xd z) : c.xd = none ∨ ∃ dd fs, c.xd = some dd ∧ H dd = some (.xd fs) := by
  obtain ⟨C, fs⟩ := z
  obtain ⟨_, h2⟩ := r
  cases fs with
  | nil => exact .inl h2
  | cons p fs =>
    obtain ⟨d, vfs, q1, q2, _⟩ := h2
    exact .inr ⟨d, vfs, q1, s _ _ q2⟩
section
variable {X : Cx} {E : WS} {a : Addr} {oe : Obj} {pn : List (Addr × Obj)} {nm : Str} {p p1 p2 pos : Pos}
theorem de_isX (i : Nat) {ce : Expr} {c : V} {cv : Value} {hit : Str → Option Bool} (hf : ∃ vs, oe.data = .fields vs) (hce : PE (X.suite a ((a, oe) :: pn)) ce (tC c)) (hcv : ∀ u, RelV c u → u = cv)
    (hh : ∀ n b, hit n = some b → ExcC X.K (clOf X.mg n) ∧ PySem.W.kitOne X.K (.ref (clOf X.mg n)) cv = some b) (hm : X.mg "isinstance" = none)
    (hN : X.N[i]? = some nm := by rfl) (hg : Gl X "isinstance" := by rfl) (hv : Vis X.env.scope nm := by first | exact Or.inl rfl | exact Or.inr (Or.inl rfl) | exact Or.inr (Or.inr rfl)) (hd : (nm == ("__debug__" : Str)) = false := by decide)
    (hcd : (nm == ("__classdict__" : Str)) = false := by decide) (he : starEach [.Name nm p1, ce] X.env = (false, eval (.Name nm p1) X.env) :: starEach [ce] X.env := by rfl) (he2 : starEach [ce] X.env = (false, eval ce X.env) :: starEach [] X.env := by rfl)
    (hpl : (backTo pos (starEach [ce] X.env)).any (·.1) = false := by rfl) : DE (X.suite a ((a, oe) :: pn)) E (.Call (.Name "isinstance" p) [.Name nm p1, ce] [] pos) (dIsX i hit) := by
  have hbt : bootBuiltins "isinstance" = some (.builtin "isinstance") := PyProof.Rows.Boot.isinstance
  have ha : PA (X.suite a ((a, oe) :: pn)) [.Name nm p1, ce] (tCons (tVar i) (tCons (tC c) tNil)) := pa_cons (pe_var (i := i) hN hv hd hcd) (pa_cons hce pa_nil he2) he
  refine pe_imp (pe_callB (call_isX (X := X) (pn := pn) hf) hg hm hbt ha (by decide) (by decide) he hpl) fun σ H Q h => ?_
  obtain ⟨S, ρ, O, V, h⟩ := h
  unfold dIsX at h
  cases e : ρ[i]? with
  | none =>
    rw [e] at h
    exact h.elim
  | some y =>
    obtain ⟨A, o, q1, q2, _⟩ := V.sl.at_ V.nd e
    rw [e] at h
    cases q2 with
    | no => exact h.elim
    | sh r => exact h.elim
    | own r => exact h.elim
    | lk r => exact h.elim
    | mk _ _ _ => exact h.elim
    | dic _ _ _ => exact h.elim
    | @xc z r =>
      cases e2 : hit z.C with
      | none =>
        simp only [e2] at h
        exact h.elim
      | some b =>
        simp only [e2] at h
        obtain ⟨k1, k2⟩ := hh _ _ e2
        refine ⟨_, q1, clOf X.mg z.C, c, cv, b, rfl, r.1, k1, xc_dict V.sub r, hcv, k2, ?_⟩
        exact Post.sh h (Gr.refl V.sub) (.bl b)
/-- e.f -/
def tXg (K : PySem.W.Frag) (a : Addr) (oe : Obj) (f : Str) (te : TE) : TE := fun σ H Q => te σ H fun x H1 => x = .ref a ∧ ∃ (C dd : Addr) (fs : List (Str × V)) (v : V), oe.cls = .ref C ∧ XfC K C ∧ PySem.W.findIn K (.ref C) f = some none ∧ oe.dict = some dd ∧ H1 dd = some (.xd fs) ∧ fs.lookup f = some v ∧ Q v H1
theorem pe_xg {e : Expr} {te : TE} {n : Str} (hf : ∃ vs, oe.data = .fields vs) (he : PE (X.suite a ((a, oe) :: pn)) e te) (hb : attributeBase e n X.env (eval e X.env) = eval e X.env := by rfl) :
    PE (X.suite a ((a, oe) :: pn)) (.Attribute e n pos) (tXg X.K a oe n te) := by
  refine ⟨fun pins s σ H Q I h => ?_⟩
  refine attr_of hb (thn (he.run pins s σ H _ I h) fun u s1 hh => ?_)
  obtain ⟨x, H1, I1, rx, ex, C, dd, fs, v, ec, T, hno, ed, ea, l, q⟩ := hh
  subst ex
  obtain rfl : u = Value.ref a := rx
  obtain ⟨ha, _⟩ := I1.pin (a, oe) (List.mem_append_left _ List.mem_cons_self)
  obtain ⟨vs, hd⟩ := hf
  have hx : ObjOk X.prog X.w H1 s1.heap dd (.xd fs) := I1.hok dd _ ea
  obtain ⟨mA, hns, hr⟩ := hx
  obtain ⟨od, ho, hl⟩ := lookIn_ns hns
  obtain ⟨u, hu, ru⟩ := RelO.some_of (v := v) (o := mA n) (by rw [← l]; exact hr n)
  have J : PySem.W.InstAt s1.heap a oe C (some od) := ⟨ha, ec, by unfold PySem.W.notCls; rw [hd] <;> rfl, by rw [ed]; exact ho⟩
  exact HandSPX.exc_get I1.kIn J T.ga T.gg T.exC (PySem.W.findObj_own T.hdC hno rfl (by rw [hl, hu])) (handed_of ru) ⟨v, H1, I1.tok _, ru, q⟩
/-- ok: the classes that have the field -/
def dXf (i : Nat) (ok : Str → Bool) (f : Str) : Dl.Env → Res EV := fun ρ => match ρ[i]? with
  | some (.xc z) => if ok z.C then (match z.fs.lookup f with
    | some d => .ok (.sh d)
    | none => .stuck) else .stuck
  | _ => .stuck
theorem de_xf (i : Nat) {f : Str} {ok : Str → Bool} (hf : ∃ vs, oe.data = .fields vs) (hh : ∀ n, ok n = true → XfC X.K (clOf X.mg n) ∧ PySem.W.findIn X.K (.ref (clOf X.mg n)) f = some none)
    (hN : X.N[i]? = some nm := by rfl) (hv : Vis X.env.scope nm := by first | exact Or.inl rfl | exact Or.inr (Or.inl rfl) | exact Or.inr (Or.inr rfl)) (hd : (nm == ("__debug__" : Str)) = false := by decide)
    (hcd : (nm == ("__classdict__" : Str)) = false := by decide) (hb : attributeBase (.Name nm p1) f X.env (eval (.Name nm p1) X.env) = eval (.Name nm p1) X.env := by rfl) : DE (X.suite a ((a, oe) :: pn)) E (.Attribute (.Name nm p1) f pos) (dXf i ok f) := by
  refine pe_imp (pe_xg (X := X) (pn := pn) hf (pe_var (i := i) hN hv hd hcd) hb) fun σ H Q h => ?_
  obtain ⟨S, ρ, O, V, h⟩ := h
  unfold dXf at h
  cases e : ρ[i]? with
  | none =>
    rw [e] at h
    exact h.elim
  | some y =>
    obtain ⟨A, o, q1, q2, _⟩ := V.sl.at_ V.nd e
    rw [e] at h
    cases q2 with
    | no => exact h.elim
    | sh r => exact h.elim
    | own r => exact h.elim
    | lk r => exact h.elim
    | mk _ _ _ => exact h.elim
    | dic _ _ _ => exact h.elim
    | @xc z r =>
      simp only at h
      split at h
      · rename_i hok
        obtain ⟨k1, k2⟩ := hh _ hok
        obtain ⟨C, fs⟩ := z
        cases fs with
        | nil => exact h.elim
        | cons p0 fs =>
          obtain ⟨r1, d, vfs, r2, r3, r4⟩ := r
          cases q : (p0 :: fs).lookup f with
          | none =>
            simp only [q] at h
            exact h.elim
          | some y =>
            simp only [q] at h
            obtain ⟨v, l1, l2⟩ := r4.lookup q
            exact ⟨_, q1, rfl, clOf X.mg C, d, vfs, v, r1, k1, k2, r2, V.sub _ _ r3, l1, Post.sh h (Gr.refl V.sub) l2⟩
      · exact h.elim
end

/-! ### try .. except C as n -/
theorem SRep.notXd {c : Ct} {S H : Hp} {A : List Addr} {o : Option V} {v : SV} (h : SRep c S H A o v) : ∀ a ∈ A, ∀ vfs, H a ≠ some (.xd vfs) := by
  have lst : ∀ {a : Addr} {vs : List V} {vfs}, H a = some (.lst vs) → H a ≠ some (.xd vfs) := fun e z => by
    rw [e] at z
    cases z
  cases h with
  | no => exact fun a ha => by cases ha
  | sh r => exact fun a ha => by cases ha
  | xc r => exact fun a ha => by cases ha
  | own r => exact fun a ha vfs => lst (r.alive a ha).1.choose_spec
  | lk r => exact fun a ha vfs => lst (r.alive a ha).1.choose_spec
  | mk h n r =>
    intro a ha vfs z
    rw [List.mem_singleton.mp ha, h] at z
    cases z
  | dic h n r =>
    intro a ha vfs z
    rw [List.mem_singleton.mp ha, h] at z
    have z' : dcO c _ _ = HO.xd vfs := Option.some.inj z
    have z2 : HO.ext _ = HO.xd vfs := z'
    cases z2
theorem Slots.notXd {c : Ct} {S H : Hp} : ∀ {σ : L2.St} {ρ : Dl.Env} {O : List Addr}, Slots c S H σ ρ O → ∀ a ∈ O, ∀ vfs, H a ≠ some (.xd vfs)
  | _, _, _, .nil, a, ha => by cases ha
  | _, _, _, .cons h r, a, ha => by
    rcases List.mem_append.mp ha with ha | ha
    · exact h.notXd a ha
    · exact Slots.notXd r a ha
section
variable {c : Ct} {B : Base} {S H : Hp} {σ : L2.St} {ρ : Dl.Env} {O : List Addr}
/-- the exception's dict becomes shared -/
theorem Vw.shareX (V : Vw c B S H σ ρ O) {e : Value} {dx : Option Addr} {z : Xc} (x : XRep c S H e dx z) (f : FrX B.H dx) : ∃ S', Vw c B S' H σ ρ O ∧ XRep c S' S' e dx z := by
  obtain ⟨C, fs⟩ := z
  obtain ⟨x1, x2⟩ := x
  cases fs with
  | nil => exact ⟨S, V, x1, x2⟩
  | cons p fs =>
    obtain ⟨d, vfs, q1, q2, q3⟩ := x2
    cases e : S d with
    | some o =>
      have z := V.sub d o e
      rw [q2] at z
      cases z
      exact ⟨S, V, x1, d, vfs, q1, e, q3⟩
    | none =>
      have nA : ∀ a ∈ [d], S a = none := fun a ha => by rw [List.mem_singleton.mp ha]; exact e
      have nO : ∀ a ∈ O, a ∉ [d] := fun a ha hd => by
        rw [List.mem_singleton.mp hd] at ha
        exact V.v.sl.notXd d ha vfs q2
      refine ⟨grab S H [d], ⟨⟨grab_same V.sub, V.v.sl.mono (same_grab nA) fun a ha => ⟨rfl, by rw [grab_out (nO a ha)]; exact (V.v.sl.alive a ha).2⟩, V.v.nd⟩, ⟨V.g.hh, V.g.ss.trans (same_grab nA), grab_same V.sub, fun a o ea na => ?_, V.g.exs⟩, V.own, V.ni⟩,
        x1, d, vfs, q1, (grab_in List.mem_cons_self).trans q2, q3.mono (same_grab nA)⟩
      have h : a ∉ [d] := fun z => by
        rw [List.mem_singleton.mp z, f d q1] at ea
        cases ea
      rw [grab_out h]
      exact V.g.new a o ea na
theorem Vw.re {xa : Addr} {xd : Option Addr} {xc : Value} (V : Vw c B S H σ ρ O) (n : ρ.all SV.noXc = true) : Vw (c.re xa xd xc) B S H σ ρ O := ⟨⟨V.v.sub, V.v.sl.re n, V.v.nd⟩, V.g, V.own, V.ni⟩
theorem Vw.del {i : Nat} {x : SV} (v : Vw c B S H σ ρ O) (e : ρ[i]? = some x) : ∃ O', Vw c B S H (σ.set i none) (ρ.set i .no) O' := by
  obtain ⟨A, o, q1, q2, q3, q4, q5⟩ := v.v.sl.at_ v.v.nd e
  obtain ⟨O', p1, p2, p3⟩ := q5 S H [] none .no (Same.refl _) (fun a ha _ => ⟨rfl, (v.v.sl.alive a ha).2⟩) .no List.nodup_nil (fun a ha ho => by cases ha)
  exact ⟨O', ⟨v.sub, p1, p2⟩, v.g, fun a ha => (p3 a ha).elim (fun z => by cases z) fun z => v.own a z.1, fun a ha => (p3 a ha).elim (fun z => by cases z) fun z => v.ni a z.1⟩
end
def leaveE (i : Nat) (ρ : Dl.Env) : Option Dl.Env := match ρ[i]? with
  | some _ => if (ρ.set i .no).all SV.noXc then some (ρ.set i .no) else none
  | none => none
def leaveX (i : Nat) (r : Res Out) : Res Out := match r with
  | .ok (.nx ρ) => (match leaveE i ρ with
    | some ρ1 => .ok (.nx ρ1)
    | none => .stuck)
  | .ok (.bk ρ) => (match leaveE i ρ with
    | some ρ1 => .ok (.bk ρ1)
    | none => .stuck)
  | .ok (.ct ρ) => (match leaveE i ρ with
    | some ρ1 => .ok (.ct ρ1)
    | none => .stuck)
  | .ok (.ret x) => .ok (.ret x)
  | _ => .stuck
def dTryAs (hit : Str → Option Bool) (i : Nat) (gb gs : Stm) : Stm := fun ρ => match gb ρ with
  | .ok (.ex z ρ1) => (match hit z.C with
    | some true => if ρ1.all SV.noXc then (match putR i (.xc z) ρ1 with
      | some ρ2 => leaveX i (gs ρ2)
      | none => .stuck) else .stuck
    | some false => .ok (.ex z ρ1)
    | none => .stuck)
  | r => r
theorem putR_some {i : Nat} {x : SV} {ρ ρ1 : Dl.Env} (h : putR i x ρ = some ρ1) : ∃ y, ρ[i]? = some y ∧ ρ1 = ρ.set i x := by
  unfold putR at h
  cases q : ρ[i]? with
  | none => rw [q] at h; cases h
  | some y =>
    rw [q] at h
    simp only at h
    split at h
    · cases h
      exact ⟨y, rfl, rfl⟩
    · cases h
theorem leaveE_vw {c : Ct} {xa : Addr} {xd : Option Addr} {xc : Value} {B : Base} {S H : Hp} {σ : L2.St} {ρ ρ1 : Dl.Env} {O : List Addr} {i : Nat} (V : Vw (c.re xa xd xc) B S H σ ρ O) (h : leaveE i ρ = some ρ1) : ∃ O', Vw c B S H (σ.set i none) ρ1 O' := by
  unfold leaveE at h
  cases q : ρ[i]? with
  | none => rw [q] at h; cases h
  | some y =>
    rw [q] at h
    simp only at h
    split at h
    · rename_i hn
      cases h
      obtain ⟨O', V'⟩ := V.del q
      have V2 : Vw c B S H (σ.set i none) (ρ.set i .no) O' := V'.re (xa := c.xa) (xd := c.xd) (xc := c.xc) hn
      exact ⟨O', V2⟩
    · cases h
/-- nothing may leave the suite by an exception -/
abbrev W0 : WX := fun _ _ _ _ => False
theorem ds_tryAs {X : Cx} {W : WX} {k i : Nat} {x n : Str} {c : Value} {body suite : List Stmt} {b₀ : Stmt} {np pos pos' : Pos} {hit : Str → Option Bool} {gb gs : Stm} (L : Lv X W k) (hN : X.N.Nodup) (hc : Names X x c)
    (hh : ∀ m b, hit m = some b → PySem.W.exmOne X.K (.ref (clOf X.mg m)) c = some b)
    (hb : ∀ (W' : WX) (pn : List (Addr × Obj)) (xe : Value → Shared → Prop), Lv (X.tr pn xe) W' k → DSs (X.tr pn xe) (WE W') body gb)
    (hsu : ∀ (a : Addr) (oe : Obj) (pn : List (Addr × Obj)), (∃ vs, oe.data = .fields vs) → LvH (X.suite a ((a, oe) :: pn)) W0 k → DSs (X.suite a ((a, oe) :: pn)) (WE W0) (b₀ :: suite) gs)
    (hi : X.N[i]? = some n := by rfl) (hln : X.env.kindOf n = some .local := by rfl) :
    DS X (WE W) (.Try body [.ExceptHandler (some (.Name x np)) (some n) (b₀ :: suite) pos'] [] [] pos) (dTryAs hit i gb gs) := by
  have e0 := ctOf_calm L.calm
  refine ps_imp (L2N.ps_try_as (tb := fun W' => rS (ctOf X) (WE W') gb) (ts := fun a cls d => rS ((ct0 X).re a d cls) (WE W0) gs) (Wout := W) L.hs L.hf hN hi hln hc L.tk (fun W' pn xe tk po => ?_) (fun a oe cls d pn hz hf => ?_)) fun D σ H h => ?_
  · have q := hb W' pn xe ⟨tk, po, L.calm, L.room, L.hs, L.hf⟩
    have e1 : ctOf (X.tr pn xe) = ct0 X := ctOf_calm (X := X.tr pn xe) L.calm
    unfold DSs at q
    rw [e1] at q
    rw [e0]
    exact q
  · obtain ⟨h1, h2, h3⟩ := hz
    subst h1 h2
    exact hsu a oe pn hf ⟨fun u s' ⟨_, _, _, _, _, _, _, _, _, _, _, _, _, _, _, _, w⟩ => w.elim, PassesOwn.never, ⟨(a, oe), ⟨rfl, let ⟨vs, hv⟩ := hf; ⟨vs, hv, h3 vs hv⟩⟩, List.mem_cons_self⟩, L2H.roomH_mark L.room _⟩
  · obtain ⟨B, S, ρ, O, V, h⟩ := h
    refine ⟨B, S, ρ, O, V, ?_⟩
    unfold dTryAs at h
    cases q : gb ρ with
    | stuck => rw [q] at h; exact h
    | exc z => rw [q] at h; exact h
    | ok o =>
      rw [q] at h
      cases o with
      | nx ρ1 => exact h
      | bk ρ1 => exact h
      | ct ρ1 => exact h
      | ret x => exact h
      | ex z ρ1 =>
        simp only at h
        intro S1 H1 σ1 O1 e dx V1 x f
        have ee : e = .ref (clOf X.mg z.C) := x.1
        cases q2 : hit z.C with
        | none =>
          simp only [q2] at h
          exact h.elim
        | some b =>
          simp only [q2] at h
          refine ⟨b, by rw [ee]; exact hh _ _ q2, fun hb2 a ha => ?_, fun hb2 => ?_⟩
          · subst hb2
            simp only at h
            by_cases hn : ρ1.all SV.noXc = true
            · rw [if_pos hn] at h
              cases q3 : putR i (.xc z) ρ1 with
              | none =>
                rw [q3] at h
                exact h.elim
              | some ρ2 =>
                rw [q3] at h
                simp only at h
                obtain ⟨y, ey, e2⟩ := putR_some q3
                obtain ⟨S2, V2, x2⟩ := V1.shareX x f
                have V3 : Vw ((ct0 X).re a dx e) B S2 H1 σ1 ρ1 O1 := V2.re hn
                have x3 : XRep ((ct0 X).re a dx e) S2 S2 e dx z := x2.re
                obtain ⟨O2, V4⟩ := V3.put (v' := .ref a) (x' := .xc z) (A' := []) ey (.xc x3) List.nodup_nil (fun _ z => by cases z) (fun _ z => by cases z) (fun _ z => by cases z)
                refine ⟨B, S2, ρ2, O2, by rw [e2]; exact V4, ?_⟩
                unfold leaveX at h
                cases q4 : gs ρ2 with
                | stuck => rw [q4] at h; exact h
                | exc z => rw [q4] at h; exact h
                | ok o =>
                  rw [q4] at h
                  cases o with
                  | ex z ρ3 => exact h.elim
                  | ret u =>
                    intro S5 H5 A5 v5 r5
                    obtain ⟨r1, r2, r3⟩ := r5
                    exact h S5 H5 A5 v5 ⟨r1, r2.re (xa := (hxOf X).1) (xd := (hxOf X).2.1) (xc := (hxOf X).2.2), r3⟩
                  | nx ρ3 =>
                    simp only at h
                    cases q5 : leaveE i ρ3 with
                    | none => rw [q5] at h; exact h.elim
                    | some ρ4 =>
                      rw [q5] at h
                      intro S5 H5 σ5 O5 V5
                      obtain ⟨O6, V6⟩ := leaveE_vw (c := ctOf X) (xa := a) (xd := dx) (xc := e) V5 q5
                      exact h S5 H5 _ O6 V6
                  | bk ρ3 =>
                    simp only at h
                    cases q5 : leaveE i ρ3 with
                    | none => rw [q5] at h; exact h.elim
                    | some ρ4 =>
                      rw [q5] at h
                      intro S5 H5 σ5 O5 V5
                      obtain ⟨O6, V6⟩ := leaveE_vw (c := ctOf X) (xa := a) (xd := dx) (xc := e) V5 q5
                      exact h S5 H5 _ O6 V6
                  | ct ρ3 =>
                    simp only at h
                    cases q5 : leaveE i ρ3 with
                    | none => rw [q5] at h; exact h.elim
                    | some ρ4 =>
                      rw [q5] at h
                      intro S5 H5 σ5 O5 V5
                      obtain ⟨O6, V6⟩ := leaveE_vw (c := ctOf X) (xa := a) (xd := dx) (xc := e) V5 q5
                      exact h S5 H5 _ O6 V6
            · rw [if_neg hn] at h
              exact h.elim
          · subst hb2
            exact h S1 H1 σ1 O1 e dx V1 x f
end Dl
set_option Elab.async false
set_option linter.all false
set_option maxRecDepth 100000
/-! DL10: dicts with tuple keys. -/
namespace Dl
open PySem PySem.Spec PyProof.Rows L2

/-! ### keys -/
mutual
def toKey : D → Option NestedKey
  | .non => some .none
  | .int i => some (.num i)
  | .str x => some (.text x)
  | .tup ds => (toKeys ds).map .tup
  | _ => none
def toKeys : List D → Option (List NestedKey)
  | [] => some []
  | d :: ds => match toKey d, toKeys ds with
    | some k, some ks => some (k :: ks)
    | _, _ => none
end
mutual
theorem toKey_keyD : ∀ {d : D} {k : NestedKey}, toKey d = some k → keyD k = d
  | .non, _, h => by rw [toKey] at h; cases h; rfl
  | .int i, _, h => by rw [toKey] at h; cases h; rfl
  | .str x, _, h => by rw [toKey] at h; cases h; rfl
  | .tup ds, _, h => by
    rw [toKey] at h
    cases q : toKeys ds with
    | none => rw [q] at h; cases h
    | some ks =>
      rw [q] at h
      cases h
      rw [keyD, toKeys_keyDs q]
  | .bl _, _, h => by rw [toKey] at h <;> cases h
  | .ty _, _, h => by rw [toKey] at h <;> cases h
  | .lst _, _, h => by rw [toKey] at h <;> cases h
  | .scr _, _, h => by rw [toKey] at h <;> cases h
  | .obj _ _, _, h => by rw [toKey] at h <;> cases h
  | .dic _, _, h => by rw [toKey] at h <;> cases h
theorem toKeys_keyDs : ∀ {ds : List D} {ks : List NestedKey}, toKeys ds = some ks → keyDs ks = ds
  | [], _, h => by rw [toKeys] at h; cases h; rfl
  | d :: ds, _, h => by
    rw [toKeys] at h
    cases q : toKey d with
    | none => rw [q] at h; cases h
    | some k =>
      cases q2 : toKeys ds with
      | none => rw [q, q2] at h; cases h
      | some ks =>
        rw [q, q2] at h
        cases h
        rw [keyDs, toKey_keyD q, toKeys_keyDs q2]
end
/-- a tuple as a dict's key -/
def tupKey (x : EV) : Option NestedKey := match x with
  | .sh (.tup ds) => (match toKeys ds with
    | some ks => if (NestedKey.tup ks).depth ≤ 8 then some (.tup ks) else none
    | none => none)
  | _ => none
theorem tupKey_of {x : EV} {k : NestedKey} (h : tupKey x = some k) : x = .sh (keyD k) ∧ k.depth ≤ 8 ∧ ∃ ks, k = .tup ks := by
  unfold tupKey at h
  split at h
  · rename_i ds
    cases q : toKeys ds with
    | none => rw [q] at h; cases h
    | some ks =>
      rw [q] at h
      simp only at h
      split at h
      · rename_i hd
        cases h
        exact ⟨by rw [keyD, toKeys_keyDs q], hd, ks, rfl⟩
      · cases h
  · cases h
theorem key_ref {c : Ct} {H : Hp} {v : V} {k : NestedKey} (r : Rep c H v (keyD k)) (h : ∃ ks, k = .tup ks) : ∃ b, v = .ref b := by
  obtain ⟨ks, rfl⟩ := h
  rw [keyD] at r
  cases r with
  | tup _ _ => exact ⟨_, rfl⟩
section
variable {X : Cx} {pins : List (Addr × Obj)} {σ : L2.St} {H : Hp} {s : Shared} {c : Ct}
mutual
theorem nested_of (hK : c.K = X.K) (I : Inv X pins σ H s) : ∀ (k : NestedKey) {v : V} {u : Value}, Rep c H v (keyD k) → RelV v u → NestedIs s.heap k u
  | .none, v, u, r, ru => by
    rw [keyD] at r
    cases r
    obtain rfl : u = Value.none := ru
    exact .none
  | .num i, v, u, r, ru => by
    rw [keyD] at r
    cases r
    obtain ⟨t, rfl⟩ := (show ∃ t, u = Value.int i t from ru)
    exact .int i t
  | .text x, v, u, r, ru => by
    rw [keyD] at r
    cases r
    obtain ⟨t, rfl⟩ := (show ∃ t, u = Value.str x t from ru)
    exact .text x t
  | .tup ks, v, u, r, ru => by
    rw [keyD] at r
    cases r with
    | @tup a vs _ ha rs =>
      obtain rfl : u = Value.ref a := ru
      obtain ⟨its, o, n, rv, e1, e2, e3⟩ := sqT_at I.hok (hK ▸ I.kIn) ha.sq
      exact .tup e1 e2 e3 (nested_all hK I ks rs rv)
theorem nested_all (hK : c.K = X.K) (I : Inv X pins σ H s) : ∀ (ks : List NestedKey) {vs : List V} {us : List Value}, Reps c H vs (keyDs ks) → Vals vs us → NestedAll s.heap ks us
  | [], _, _, r, ru => by
    rw [keyDs] at r
    cases r
    cases ru
    exact .nil
  | k :: ks, _, _, r, ru => by
    rw [keyDs] at r
    cases r with
    | cons h t =>
      cases ru with
      | cons h2 t2 => exact .cons (nested_of hK I k h h2) (nested_all hK I ks t t2)
end
end

/-! ### entries -/
def kFind (kvs : List (NestedKey × D)) (k : NestedKey) : Option D := (kvs.find? fun x => decide (x.1 = k)).map (·.2)
def kPut (kvs : List (NestedKey × D)) (k : NestedKey) (d : D) : List (NestedKey × D) := if (kFind kvs k).isSome then kvs.map fun x => if x.1 = k then (x.1, d) else x else kvs ++ [(k, d)]
section
variable {c : Ct} {S : Hp}
theorem KReps.length : ∀ {xs : List (NestedKey × Addr × Value)} {kvs : List (NestedKey × D)}, KReps c S xs kvs → xs.length = kvs.length
  | _, _, .nil => rfl
  | _, _, .cons _ _ _ _ r => congrArg (· + 1) (KReps.length r)
theorem KReps.find {k : NestedKey} : ∀ {xs : List (NestedKey × Addr × Value)} {kvs : List (NestedKey × D)}, KReps c S xs kvs → (kFind kvs k = none ∧ atKey xs k = none) ∨ ∃ d a u v, kFind kvs k = some d ∧ atKey xs k = some (a, u) ∧ RelV v u ∧ Rep c S v d
  | _, _, .nil => .inl ⟨rfl, rfl⟩
  | _, _, .cons (k := k') (a := a) (v := v) (u := u) (d := d) (xs := xs) (kvs := kvs) h l q r t => by
    by_cases e : k' = k
    · refine .inr ⟨d, a, u, v, ?_, ?_, q, r⟩
      · unfold kFind
        rw [List.find?_cons_of_pos (by simpa using e)]
        rfl
      · unfold atKey
        rw [List.find?_cons_of_pos (by simpa using e)]
        rfl
    · have e1 : kFind ((k', d) :: kvs) k = kFind kvs k := by
        unfold kFind
        rw [List.find?_cons_of_neg (by simpa using e)]
      have e2 : atKey ((k', a, u) :: xs) k = atKey xs k := by
        unfold atKey
        rw [List.find?_cons_of_neg (by simpa using e)]
      rw [e1, e2]
      exact KReps.find t
theorem KReps.isSome {k : NestedKey} {xs : List (NestedKey × Addr × Value)} {kvs : List (NestedKey × D)} (h : KReps c S xs kvs) : (atKey xs k).isSome = (kFind kvs k).isSome := by
  rcases h.find (k := k) with ⟨e1, e2⟩ | ⟨d, a, u, v, e1, e2, _⟩ <;> rw [e1, e2] <;> rfl
theorem KReps.snoc {k : NestedKey} {b : Addr} {v : V} {u : Value} {d : D} (rk : Rep c S (.ref b) (keyD k)) (l : k.depth ≤ 8) (q : RelV v u) (r : Rep c S v d) : ∀ {xs : List (NestedKey × Addr × Value)} {kvs : List (NestedKey × D)}, KReps c S xs kvs → KReps c S (xs ++ [(k, b, u)]) (kvs ++ [(k, d)])
  | _, _, .nil => .cons rk l q r .nil
  | _, _, .cons h l' q' r' t => .cons h l' q' r' (KReps.snoc rk l q r t)
theorem KReps.repl {k : NestedKey} {v : V} {u : Value} {d : D} (q : RelV v u) (r : Rep c S v d) : ∀ {xs : List (NestedKey × Addr × Value)} {kvs : List (NestedKey × D)}, KReps c S xs kvs → KReps c S (xs.map (putAt k u)) (kvs.map fun x => if x.1 = k then (x.1, d) else x)
  | _, _, .nil => .nil
  | _, _, .cons (k := k') h l' q' r' t => by
    rw [List.map_cons, List.map_cons]
    by_cases e : k' = k
    · have e1 : ∀ a w, putAt k u (k', a, w) = (k', a, u) := fun a w => by unfold putAt; rw [if_pos e]
      rw [e1, if_pos e]
      exact .cons h l' q r (KReps.repl q r t)
    · have e1 : ∀ a w, putAt k u (k', a, w) = (k', a, w) := fun a w => by unfold putAt; rw [if_neg e]
      rw [e1, if_neg e]
      exact .cons h l' q' r' (KReps.repl q r t)
theorem KReps.put {k : NestedKey} {b : Addr} {v : V} {u : Value} {d : D} {xs : List (NestedKey × Addr × Value)} {kvs : List (NestedKey × D)} (t : KReps c S xs kvs) (rk : Rep c S (.ref b) (keyD k)) (l : k.depth ≤ 8) (q : RelV v u) (r : Rep c S v d) : KReps c S (storedH xs k b u) (kPut kvs k d) := by
  unfold storedH kPut
  rw [t.isSome]
  split
  · exact t.repl q r
  · exact t.snoc rk l q r
theorem KReps.keys {X : Cx} {pins : List (Addr × Obj)} {σ : L2.St} {H : Hp} {s : Shared} (hK : c.K = X.K) (I : Inv X pins σ H s) : ∀ {xs : List (NestedKey × Addr × Value)} {kvs : List (NestedKey × D)}, KReps c H xs kvs → ∀ x ∈ xs, (nestedKind X.prog X.w).is s.heap x.1 x.2.1
  | _, _, .nil, x, h => by cases h
  | _, _, .cons h l _ _ t, x, hx => by
    rcases List.mem_cons.mp hx with e | hx
    · rw [e]
      exact ⟨nested_of hK I _ h rfl, l⟩
    · exact KReps.keys hK I t x hx
end
theorem dc_at {X : Cx} {pins : List (Addr × Obj)} {σ : L2.St} {H : Hp} {s : Shared} {c : Ct} (hP : c.P = X.prog) (hw : c.w = X.w) (hK : c.K = X.K) (I : Inv X pins σ H s) {d : Addr} {xs : List (NestedKey × Addr × Value)} {kvs : List (NestedKey × D)} (e : H d = some (dcO c d xs)) (r : KReps c H xs kvs) :
    s.heap.DictOfH (nestedKind X.prog X.w) d xs ∧ xs.length ≤ sizeLine ∧ (d == sysModules) = false := by
  obtain ⟨P, w, K, mg, xa, xd, xc⟩ := c
  simp only at hP hw hK
  subst hP hw hK
  have x : ObjOk X.prog X.w H s.heap d (.ext fun h => ∃ o es ep, h.get? d = some o ∧ o.ExactDict ∧ o.data = .dict es ep ∧ es.toList = xs.map (entryOfKey (nestedKind X.prog X.w)) ∧ (xs.map (·.1)).Nodup ∧ xs.length ≤ sizeLine ∧ (d == sysModules) = false) := I.hok d _ e
  obtain ⟨⟨o, es, ep, h1, h2, h3, h4, h5, h6, h7⟩, _, _⟩ := x
  exact ⟨⟨o, es, ep, h1, h2, h3, h4, r.keys rfl I, h5⟩, h6, h7⟩

/-! ### an expression that is a dict -/
def PostK (c : Ct) (E : XS) (S H : Hp) (r : Res (List (NestedKey × D))) (Q : VK) : Prop := match r with
  | .ok kvs => ∀ (S' H' : Hp) (d : Addr) (xs : List (NestedKey × Addr × Value)), Gr S H S' H' → H' d = some (dcO c d xs) → KReps c S' xs kvs → Q (.ref d) H'
  | .exc x => ∀ (S' H' : Hp) (e : Value) (dx : Option Addr), Gr S H S' H' → XRep c S' H' e dx x → FrX H dx → E S' e dx H'
  | .stuck => False
def rK (c : Ct) (E : WS) (f : Dl.Env → Res (List (NestedKey × D))) : TE := fun σ H Q => ∃ S ρ O, View c S H σ ρ O ∧ PostK c (xs c E ρ O) S H (f ρ) Q
def DK (X : Cx) (E : WS) (e : Expr) (f : Dl.Env → Res (List (NestedKey × D))) : Prop := PE X e (rK (ctOf X) E f)
theorem PostK.later {c : Ct} {E : XS} {S H S1 H1 : Hp} {r : Res (List (NestedKey × D))} {Q : VK} (h : PostK c E S H r Q) (g : Gr S H S1 H1) : PostK c E S1 H1 r Q := by
  cases r with
  | ok x => exact fun S2 H2 d xs g2 e k => h S2 H2 d xs (g.trans g2) e k
  | exc x => exact fun S2 H2 e dx g2 z f => h S2 H2 e dx (g.trans g2) z fun d e => g.hh.free (f d e)
  | stuck => exact h
theorem Post.fstK {c : Ct} {E : XS} {S H : Hp} {r : Res (List (NestedKey × D))} {k : List (NestedKey × D) → Res EV} {Q Q1 : VK} (h : Post c E S H (r.bind k) Q)
    (go : ∀ x, r = .ok x → Post c E S H (k x) Q → ∀ S1 H1 d xs, Gr S H S1 H1 → H1 d = some (dcO c d xs) → KReps c S1 xs x → Q1 (.ref d) H1) : PostK c E S H r Q1 := by
  cases r with
  | ok x => exact fun S1 H1 d xs g e r => go x rfl h S1 H1 d xs g e r
  | exc x => exact h
  | stuck => exact h
def kVar (i : Nat) : Dl.Env → Res (List (NestedKey × D)) := fun ρ => match ρ[i]? with
  | some (.dic kvs) => .ok kvs
  | some (.sh (.dic kvs)) => .ok kvs
  | _ => .stuck
def kOf (f : Dl.Env → Res EV) : Dl.Env → Res (List (NestedKey × D)) := fun ρ => (f ρ).bind fun x => match x with
  | .sh (.dic kvs) => .ok kvs
  | _ => .stuck
section
variable {X : Cx} {E : WS} {pos : Pos}
theorem dk_var (i : Nat) {x : Str} (hN : X.N[i]? = some x := by rfl) (hv : Vis X.env.scope x := by first | exact Or.inl rfl | exact Or.inr (Or.inl rfl) | exact Or.inr (Or.inr rfl)) (hd : (x == ("__debug__" : Str)) = false := by decide)
    (hcd : (x == ("__classdict__" : Str)) = false := by decide) : DK X E (.Name x pos) (kVar i) := by
  refine pe_imp (pe_var (i := i) hN hv hd hcd) fun σ H Q h => ?_
  obtain ⟨S, ρ, O, V, h⟩ := h
  unfold kVar at h
  cases e : ρ[i]? with
  | none =>
    rw [e] at h
    exact h.elim
  | some y =>
    obtain ⟨A, o, q1, q2, _⟩ := V.sl.at_ V.nd e
    rw [e] at h
    cases q2 with
    | no => exact h.elim
    | own r => exact h.elim
    | lk r => exact h.elim
    | mk _ _ _ => exact h.elim
    | xc _ => exact h.elim
    | dic hd hs r => exact ⟨_, q1, h S H _ _ (Gr.refl V.sub) hd r⟩
    | sh r => cases r with
      | dic hd r => exact ⟨_, q1, h S H _ _ (Gr.refl V.sub) (V.sub _ _ hd) r⟩
      | _ => exact h.elim
theorem dk_of {e : Expr} {f : Dl.Env → Res EV} (he : DE X E e f) : DK X E e (kOf f) := by
  refine pe_imp he fun σ H Q h => ?_
  obtain ⟨S, ρ, O, V, h⟩ := h
  refine ⟨S, ρ, O, V, ?_⟩
  unfold kOf at h
  cases q : f ρ with
  | stuck => rw [q] at h; exact h
  | exc z => rw [q] at h; exact h
  | ok x =>
    rw [q] at h
    intro S1 H1 A v g r nd fr
    simp only [Res.ok_bind'] at h
    split at h
    · cases r with
      | sh r => cases r with
        | dic hd r => exact h S1 H1 _ _ g (g.sub _ _ hd) r
    · exact h.elim
end

/-! ### k in d, k not in d, d[k], d.get(k, x) -/
theorem in1_room {X : Cx} {A : Around} (hu : A.units + 16 < cLine) : (nestedKind X.prog X.w).room A.in1 := by
  show A.in1.units + 8 < cLine
  have : A.in1.units = A.units + 1 := rfl
  omega
/-- y is a key, x a dict with the entries kvs -/
structure KAt (c : Ct) (T H : Hp) (x y : V) (d b : Addr) (k : NestedKey) (xs : List (NestedKey × Addr × Value)) (kvs : List (NestedKey × D)) : Prop where
  ex : x = .ref d
  ey : y = .ref b
  dp : k.depth ≤ 8
  ed : H d = some (dcO c d xs)
  rk : Rep c H (.ref b) (keyD k)
  rs : KReps c T xs kvs
  sub : Same T H
def tInN (c : Ct) (neg : Bool) (ty td : TE) : TE := fun σ H Q => ty σ H fun y H1 => td σ H1 fun x H2 => ∃ T d b k xs kvs, KAt c T H2 x y d b k xs kvs ∧ Q (.bl (if neg then !(kFind kvs k).isSome else (kFind kvs k).isSome)) H2
def tGetN (c : Ct) (td ty : TE) : TE := fun σ H Q => td σ H fun x H1 => ty σ H1 fun y H2 => ∃ T d b k xs kvs w, KAt c T H2 x y d b k xs kvs ∧ kFind kvs k = some w ∧ ∀ v, Rep c T v w → Q v H2
def tGet2N (c : Ct) (td ty tx : TE) : TE := fun σ H Q => td σ H fun x H1 => (∃ d xs kvs, x = .ref d ∧ H1 d = some (dcO c d xs) ∧ KReps c H1 xs kvs) ∧ ty σ H1 fun y H2 => tx σ H2 fun z H3 => ∃ T d b k xs kvs, KAt c T H3 x y d b k xs kvs ∧ (∀ w v, kFind kvs k = some w → Rep c T v w → Q v H3) ∧ (kFind kvs k = none → Q z H3)
section
variable {X : Cx} {o i e f : Expr} {pos apos cpos : Pos} {td ty tx : TE} {c : Ct}
theorem pc_inN (hc : c = ctOf X) (hu : X.A.units + 16 < cLine) (hi : PE X i ty) (ho : PE X o td) : PC X .In i o (tInN c false ty td) := by
  subst hc
  refine ⟨fun pins s σ H Q I h => ?_⟩
  refine thn (hi.run pins s σ H _ I h) fun iv s1 ⟨y, H1, I1, ry, q1⟩ => thn (ho.run pins s1 σ H1 _ I1 q1) fun u s2 ⟨x, H2, I2, rx, T, d, b, k, xs, kvs, K, q2⟩ => ?_
  obtain ⟨rfl, rfl, dp, ed, rk, rs, sub⟩ := K
  obtain rfl : u = Value.ref d := rx
  obtain rfl : iv = Value.ref b := ry
  obtain ⟨dd, hz, hs⟩ := dc_at rfl rfl rfl I2 ed (rs.mono sub)
  refine wpAny_in_heap (in1_room hu) ⟨nested_of rfl I2 k rk rfl, dp⟩ hs dd ?_
  rw [rs.isSome]
  exact ⟨.bl _, H2, I2.tok _, rfl, q2⟩
theorem pc_notInN (hc : c = ctOf X) (hu : X.A.units + 16 < cLine) (hi : PE X i ty) (ho : PE X o td) : PC X .NotIn i o (tInN c true ty td) := by
  subst hc
  refine ⟨fun pins s σ H Q I h => ?_⟩
  refine thn (hi.run pins s σ H _ I h) fun iv s1 ⟨y, H1, I1, ry, q1⟩ => thn (ho.run pins s1 σ H1 _ I1 q1) fun u s2 ⟨x, H2, I2, rx, T, d, b, k, xs, kvs, K, q2⟩ => ?_
  obtain ⟨rfl, rfl, dp, ed, rk, rs, sub⟩ := K
  obtain rfl : u = Value.ref d := rx
  obtain rfl : iv = Value.ref b := ry
  obtain ⟨dd, hz, hs⟩ := dc_at rfl rfl rfl I2 ed (rs.mono sub)
  refine wpAny_notIn_heap (in1_room hu) ⟨nested_of rfl I2 k rk rfl, dp⟩ hs dd ?_
  rw [rs.isSome]
  exact ⟨.bl _, H2, I2.tok _, rfl, q2⟩
theorem pe_getN (hc : c = ctOf X) (hu : X.A.units + 16 < cLine) (ho : PE X o td) (hi : PE X i ty) (hs : NoSl i) : PE X (.Subscript o i pos) (tGetN c td ty) := by
  subst hc
  refine ⟨fun pins s σ H Q I h => ?_⟩
  refine subD_of PySem.F.slot_dict_getitem.lookup hs (thn (ho.run pins s σ H _ I h) fun u s1 ⟨x, H1, I1, rx, q1⟩ => thn (hi.run pins s1 σ H1 _ I1 q1) fun iv s2 ⟨y, H2, I2, ry, T, d, b, k, xs, kvs, w, K, ew, q2⟩ => ?_)
  obtain ⟨rfl, rfl, dp, ed, rk, rs, sub⟩ := K
  obtain rfl : u = Value.ref d := rx
  obtain rfl : iv = Value.ref b := ry
  obtain ⟨dd, hz, hs⟩ := dc_at rfl rfl rfl I2 ed (rs.mono sub)
  rcases rs.find (k := k) with ⟨e1, _⟩ | ⟨w', a, u, v, e1, e2, rv, rw'⟩
  · rw [ew] at e1
    cases e1
  · rw [ew] at e1
    cases e1
    exact ⟨dd.typeIs, wpAny_getItem_heap (in1_room hu) ⟨nested_of rfl I2 k rk rfl, dp⟩ dd e2 ⟨v, H2, I2.tok _, rv, q2 v rw'⟩⟩
theorem pe_get2N (hc : c = ctOf X) (hu : X.A.units + 16 < cLine) (ho : PE X o td) (he : PE X e ty) (hf : PE X f tx) (m : M2 X o "get" apos e f cpos) : PE X (.Call (.Attribute o "get" apos) [e, f] [] cpos) (tGet2N c td ty tx) := by
  subst hc
  refine ⟨fun pins s σ H Q I h => ?_⟩
  refine wpAny_Call_method m.base m.few m.line PySem.F.plainAttrs_dict PySem.F.slot_dict_get PySem.F.type_dict_get (thn (ho.run pins s σ H _ I h) fun u s1 ⟨x, H1, I1, rx, ⟨d, xs, kvs, ex, ed, rs⟩, q1⟩ => ?_)
  subst ex
  obtain rfl : u = Value.ref d := rx
  obtain ⟨dd, hz, hs⟩ := dc_at rfl rfl rfl I1 ed rs
  refine ⟨dd.typeIs, fun b q => ?_, ?_⟩
  · cases q
    obtain ⟨ob, _, _, h1, h2, _⟩ := dd
    exact ⟨ob, h1, h2.2.1⟩
  rw [m.trees]
  refine Calls.callWith_builtin rfl (Calls.evalArgs_plain (Calls.spliced_cons (thn (he.run pins s1 σ H1 _ I1 q1) fun iv s2 ⟨y, H2, I2, ry, q2⟩ =>
    Calls.spliced_cons (thn (hf.run pins s2 σ H2 _ I2 q2) fun fv s3 ⟨z, H3, I3, rz, T, d', b, k, xs', kvs', K, q3, q4⟩ => Calls.spliced_nil ?_))))
  obtain ⟨ex', rfl, dp, ed', rk, rs', sub⟩ := K
  cases ex'
  obtain rfl : iv = Value.ref b := ry
  obtain ⟨dd', hz', hs'⟩ := dc_at rfl rfl rfl I3 ed' (rs'.mono sub)
  refine call_meetsIn PySem.F.slot_dict_get dd'.typeIs PySem.F.entry_dict_get (PySem.F.args_dict_get_3 _ _ _) (meetsH_dict_get_default (nestedKind X.prog X.w) d b hs' fv) ⟨in1_room hu, k, xs', ⟨nested_of rfl I3 k rk rfl, dp⟩, dd', ?_⟩
  rcases rs'.find (k := k) with ⟨e1, e2⟩ | ⟨w', a, u, v, e1, e2, rv, rw'⟩
  · rw [e2]
    exact ⟨z, H3, I3.tok _, rz, q4 e1⟩
  · rw [e2]
    exact ⟨v, H3, I3.tok _, rv, q3 w' v e1 rw'⟩
end

def inN (neg : Bool) (y : EV) (kvs : List (NestedKey × D)) : Res Bool := match tupKey y with
  | some k => .ok (if neg then !(kFind kvs k).isSome else (kFind kvs k).isSome)
  | none => .stuck
def dtInN (neg : Bool) (fk : Dl.Env → Res EV) (fd : Dl.Env → Res (List (NestedKey × D))) : Dl.Env → Res Bool := fun ρ => (fk ρ).bind fun y => (fd ρ).bind fun kvs => inN neg y kvs
def dInN (neg : Bool) (fk : Dl.Env → Res EV) (fd : Dl.Env → Res (List (NestedKey × D))) : Dl.Env → Res EV := fun ρ => (dtInN neg fk fd ρ).bind fun b => .ok (.sh (.bl b))
def dGetN (fd : Dl.Env → Res (List (NestedKey × D))) (fk : Dl.Env → Res EV) : Dl.Env → Res EV := fun ρ => (fd ρ).bind fun kvs => (fk ρ).bind fun y => match tupKey y with
  | some k => (match kFind kvs k with
    | some w => .ok (.sh w)
    | none => .stuck)
  | none => .stuck
def dGet2N (fd : Dl.Env → Res (List (NestedKey × D))) (fk fx : Dl.Env → Res EV) : Dl.Env → Res EV := fun ρ => (fd ρ).bind fun kvs => (fk ρ).bind fun y => (fx ρ).bind fun z => match tupKey y with
  | some k => (match kFind kvs k with
    | some w => .ok (.sh w)
    | none => .ok z)
  | none => .stuck
section
variable {c : Ct} {E : WS} {fk fx : Dl.Env → Res EV} {fd : Dl.Env → Res (List (NestedKey × D))} {σ : L2.St} {H : Hp} {neg : Bool}
theorem PostT.fstE {c : Ct} {E : XS} {S H : Hp} {r : Res EV} {k : EV → Res Bool} {Q : Bool → Hp → Prop} {Q1 : VK} (h : PostT c E S H (r.bind k) Q)
    (go : ∀ x, r = .ok x → PostT c E S H (k x) Q → ∀ S1 H1 A v, Gr S H S1 H1 → EvRep c S1 H1 A v x → Q1 v H1) : Post c E S H r Q1 := by
  cases r with
  | ok x => exact fun S1 H1 A v g re nd fr => go x rfl h S1 H1 A v g re
  | exc x => exact h
  | stuck => exact h
theorem PostT.fstK {c : Ct} {E : XS} {S H : Hp} {r : Res (List (NestedKey × D))} {k : List (NestedKey × D) → Res Bool} {Q : Bool → Hp → Prop} {Q1 : VK} (h : PostT c E S H (r.bind k) Q)
    (go : ∀ x, r = .ok x → PostT c E S H (k x) Q → ∀ S1 H1 d xs, Gr S H S1 H1 → H1 d = some (dcO c d xs) → KReps c S1 xs x → Q1 (.ref d) H1) : PostK c E S H r Q1 := by
  cases r with
  | ok x => exact fun S1 H1 d xs g e r => go x rfl h S1 H1 d xs g e r
  | exc x => exact h
  | stuck => exact h
theorem inN_imp {Q : VK} {Qb : Bool → Hp → Prop} (hQ : ∀ b H, Qb b H → Q (.bl b) H) (h : rT c E (dtInN neg fk fd) σ H Qb) : tInN c neg (rE c E fk) (rK c E fd) σ H Q := by
  obtain ⟨S, ρ, O, V, h⟩ := h
  refine ⟨S, ρ, O, V, PostT.fstE h fun y e1 h1 S1 H1 A v g1 r1 => ?_⟩
  refine ⟨S1, ρ, O, V.gr g1, PostT.fstK (h1.later g1) fun kvs e2 h2 S2 H2 d xs g2 ed rs => ?_⟩
  unfold inN at h2
  cases q : tupKey y with
  | none =>
    rw [q] at h2
    exact h2.elim
  | some k =>
    simp only [q] at h2
    obtain ⟨rfl, dp, hk⟩ := tupKey_of q
    cases r1 with
    | sh r =>
      obtain ⟨b, rfl⟩ := key_ref r hk
      exact ⟨S2, d, b, k, xs, kvs, ⟨rfl, rfl, dp, ed, r.mono (g2.ss.trans g2.sub), rs, g2.sub⟩, hQ _ _ (h2 S2 H2 g2)⟩
theorem getN_imp {Q : VK} (h : rE c E (dGetN fd fk) σ H Q) : tGetN c (rK c E fd) (rE c E fk) σ H Q := by
  obtain ⟨S, ρ, O, V, h⟩ := h
  refine ⟨S, ρ, O, V, Post.fstK h fun kvs e1 h1 S1 H1 d xs g1 ed rs => ?_⟩
  refine ⟨S1, ρ, O, V.gr g1, Post.fst (Post.later h1 g1) fun y e2 h2 S2 H2 A v g2 r2 nd fr => ?_⟩
  cases q : tupKey y with
  | none =>
    simp only [q] at h2
    exact h2.elim
  | some k =>
    simp only [q] at h2
    obtain ⟨rfl, dp, hk⟩ := tupKey_of q
    cases r2 with
    | sh r =>
      obtain ⟨b, rfl⟩ := key_ref r hk
      cases q2 : kFind kvs k with
      | none =>
        simp only [q2] at h2
        exact h2.elim
      | some w =>
        simp only [q2] at h2
        exact ⟨S2, d, b, k, xs, kvs, w, ⟨rfl, rfl, dp, g2.hh _ _ ed, r.mono g2.sub, rs.mono g2.ss, g2.sub⟩, q2, fun v' hv => Post.sh h2 g2 hv⟩
theorem get2N_imp {Q : VK} (h : rE c E (dGet2N fd fk fx) σ H Q) : tGet2N c (rK c E fd) (rE c E fk) (rE c E fx) σ H Q := by
  obtain ⟨S, ρ, O, V, h⟩ := h
  refine ⟨S, ρ, O, V, Post.fstK h fun kvs e1 h1 S1 H1 d xs g1 ed rs => ?_⟩
  refine ⟨⟨d, xs, kvs, rfl, ed, rs.mono g1.sub⟩, S1, ρ, O, V.gr g1, Post.fst (Post.later h1 g1) fun y e2 h2 S2 H2 A v g2 r2 nd fr => ?_⟩
  refine ⟨S2, ρ, O, (V.gr g1).gr g2, Post.fst (Post.later h2 g2) fun z e3 h3 S3 H3 B u g3 r3 nd3 fr3 => ?_⟩
  cases q : tupKey y with
  | none =>
    simp only [q] at h3
    exact h3.elim
  | some k =>
    simp only [q] at h3
    obtain ⟨rfl, dp, hk⟩ := tupKey_of q
    cases r2 with
    | sh r =>
      obtain ⟨b, rfl⟩ := key_ref r hk
      refine ⟨S3, d, b, k, xs, kvs, ⟨rfl, rfl, dp, g3.hh _ _ (g2.hh _ _ ed), r.mono (g3.ss.trans g3.sub), rs.mono (g2.ss.trans g3.ss), g3.sub⟩, fun w v' e hv => ?_, fun e => ?_⟩
      · simp only [e] at h3
        exact Post.sh h3 g3 hv
      · simp only [e] at h3
        exact h3 S3 H3 B u g3 r3 nd3 fr3
end
section
variable {X : Cx} {E : WS} {o i e f : Expr} {pos apos cpos : Pos} {fk fx : Dl.Env → Res EV} {fd : Dl.Env → Res (List (NestedKey × D))}
theorem dInN_post {c : Ct} {E : XS} {S H : Hp} {r : Res Bool} {Q : VK} (h : Post c E S H (r.bind fun b => .ok (.sh (.bl b))) Q) : PostT c E S H r (fun b H1 => Q (.bl b) H1) := by
  cases r with
  | ok b => exact fun S1 H1 g => Post.sh h g (.bl b)
  | exc z => exact h
  | stuck => exact h
theorem de_inN (hu : X.A.units + 16 < cLine) (hi : DE X E i fk) (ho : DK X E o fd) (h1 : behindInMarks .In o = false := by rfl) : DE X E (.Compare i [.In] [o] pos) (dInN false fk fd) := by
  refine pe_imp (pe_cmp (pc_inN rfl hu hi ho) h1) fun σ H Q h => ?_
  obtain ⟨S, ρ, O, V, h⟩ := h
  exact inN_imp (Qb := fun b H1 => Q (.bl b) H1) (fun _ _ z => z) ⟨S, ρ, O, V, dInN_post h⟩
theorem de_notInN (hu : X.A.units + 16 < cLine) (hi : DE X E i fk) (ho : DK X E o fd) (h1 : behindInMarks .NotIn o = false := by rfl) : DE X E (.Compare i [.NotIn] [o] pos) (dInN true fk fd) := by
  refine pe_imp (pe_cmp (pc_notInN rfl hu hi ho) h1) fun σ H Q h => ?_
  obtain ⟨S, ρ, O, V, h⟩ := h
  exact inN_imp (Qb := fun b H1 => Q (.bl b) H1) (fun _ _ z => z) ⟨S, ρ, O, V, dInN_post h⟩
theorem dt_inN (hu : X.A.units + 16 < cLine) (hi : DE X E i fk) (ho : DK X E o fd) (h1 : behindInMarks .In o = false := by rfl) : DT X E (.Compare i [.In] [o] pos) (dtInN false fk fd) :=
  pt_imp (pt_cmp (pc_inN rfl hu hi ho) h1) fun σ H Q h => inN_imp (Q := fun x H1 => ∃ c, x = .bl c ∧ Q c H1) (fun b H1 z => ⟨b, rfl, z⟩) h
theorem dt_notInN (hu : X.A.units + 16 < cLine) (hi : DE X E i fk) (ho : DK X E o fd) (h1 : behindInMarks .NotIn o = false := by rfl) : DT X E (.Compare i [.NotIn] [o] pos) (dtInN true fk fd) :=
  pt_imp (pt_cmp (pc_notInN rfl hu hi ho) h1) fun σ H Q h => inN_imp (Q := fun x H1 => ∃ c, x = .bl c ∧ Q c H1) (fun b H1 z => ⟨b, rfl, z⟩) h
theorem de_getN (hu : X.A.units + 16 < cLine) (ho : DK X E o fd) (hi : DE X E i fk) (hs : NoSl i := by intro _ _; rfl) : DE X E (.Subscript o i pos) (dGetN fd fk) :=
  pe_imp (pe_getN rfl hu ho hi hs) fun _ _ _ h => getN_imp h
theorem de_get2N (hu : X.A.units + 16 < cLine) (ho : DK X E o fd) (he : DE X E e fk) (hf : DE X E f fx) (m : M2 X o "get" apos e f cpos := by exact ⟨rfl, rfl, rfl, rfl⟩) : DE X E (.Call (.Attribute o "get" apos) [e, f] [] cpos) (dGet2N fd fk fx) :=
  pe_imp (pe_get2N rfl hu ho he hf m) fun _ _ _ h => get2N_imp h
end

/-! ### x = {}, x[k] = e, x given away -/
def dNewD (i : Nat) : Stm := fun ρ => match putR i (.dic []) ρ with
  | some ρ1 => .ok (.nx ρ1)
  | none => .stuck
def dPutD (i : Nat) (fk fv : Dl.Env → Res EV) : Stm := fun ρ => (fv ρ).at ρ fun x => match ρ[i]?, x with
  | some (.dic kvs), .sh d => (fk ρ).at ρ fun y => (match tupKey y with
    | some k => if kvs.length < 16777216 then .ok (.nx (ρ.set i (.dic (kPut kvs k d)))) else .stuck
    | none => .stuck)
  | _, _ => .stuck
def tNewN (c : Ct) : TE := fun _ H Q => ∀ p, H p = none → Q (.ref p) (upd H p (dcO c p []))
theorem dcO_ok {c : Ct} {P : Program} {w : World} {H : Hp} {h : Heap} {d : Addr} {xs : List (NestedKey × Addr × Value)} (hP : c.P = P) (hw : c.w = w) (hd : h.DictOfH (nestedKind P w) d xs) (hz : xs.length ≤ sizeLine) (hs : (d == sysModules) = false) : ObjOk P w H h d (dcO c d xs) := by
  obtain ⟨P', w', K, mg, xa, xd, xc⟩ := c
  simp only at hP hw
  subst hP hw
  obtain ⟨o, es, ep, h1, h2, h3, h4, _, h5⟩ := hd
  exact ⟨⟨o, es, ep, h1, h2, h3, h4, h5, hz, hs⟩, ⟨o, h1⟩, fun h1' h2' ⟨o, es, ep, a, b, c, d, e, f, g⟩ k => ⟨o, es, ep, k _ a, b, c, d, e, f, g⟩⟩
theorem pe_newN {X : Cx} {c : Ct} {pos : Pos} (hc : c = ctOf X) : PE X (.Dict [] [] pos) (tNewN c) := by
  subst hc
  exact ⟨fun pins s σ H Q I h => wpAny_Dict_empty ⟨.ref s.heap.objs.size, _, I.laid (a := s.heap.objs.size) (o := dcO (ctOf X) s.heap.objs.size []) (t' := s.toks) (fun _ _ q => Heap.get?_push_of_some _ q) (Nat.le_refl _)
    (dcO_ok rfl rfl (Heap.DictOfH.new s.heap) (Nat.zero_le _) (beq_eq_false_iff_ne.mpr (Ne.symm (Nat.ne_of_lt I.big)))), rfl, h _ (I.hok.fresh (Nat.le_refl _))⟩⟩
section
variable {X : Cx} {E : WS} {o i e value : Expr} {x : Str} {j : Nat} {pos p1 pos' : Pos} {fk fv : Dl.Env → Res EV}
theorem ds_newD (hNd : X.N.Nodup) (hN : X.N[j]? = some x := by rfl) (hx : Loc X.env.scope x := by first | exact Or.inl rfl | exact Or.inr rfl) (hs : swapsWith (.Dict [] [] p1) (some (.Name x pos')) pos.line X.env = pure false := by rfl)
    (hf : X.fn x = true ∨ X.env.scope.names.lookup x = some .local := by first | exact .inl rfl | exact .inr rfl) : DS X E (.Assign [.Name x pos'] (.Dict [] [] p1) pos) (dNewD j) := by
  refine ps_imp (ps_set (i := j) hNd hN hx (pe_newN rfl) hs hf) fun D σ H h => ?_
  obtain ⟨B, S, ρ, O, V, h⟩ := h
  unfold dNewD at h
  cases q : putR j (.dic []) ρ with
  | none =>
    rw [q] at h
    exact h.elim
  | some ρ1 =>
    rw [q] at h
    intro p hp
    obtain ⟨y, ey, e1⟩ := putR_some q
    subst e1
    have g : Gr S H S (upd H p (dcO (ctOf X) p [])) := Gr.pushO V.sub hp
    have V1 := V.gr g
    obtain ⟨O', V2⟩ := V1.put (v' := .ref p) (x' := .dic []) (A' := [p]) ey (.dic upd_same (V.sub.free hp) .nil) (by simp) (fun a ha => by
      rw [List.mem_singleton.mp ha]
      exact V.fresh (A := [p]) (fun b hb => by rw [List.mem_singleton.mp hb]; exact hp) p List.mem_cons_self) (fun a ha ho => by
      rw [List.mem_singleton.mp ha] at ho
      obtain ⟨⟨ob, eo⟩, _⟩ := V.v.sl.alive p ho
      rw [hp] at eo
      cases eo) (fun a ha C dx vfs z => by
      rw [List.mem_singleton.mp ha, upd_same] at z
      have z' : HO.ext _ = HO.ins C dx vfs := Option.some.inj z
      cases z')
    exact h S _ _ O' V2
def tPutN (c : Ct) (td ty tv : TE) : TS := fun D σ H => tv σ H fun v H1 => td σ H1 fun x H2 => ty σ H2 fun y H3 => ∃ T d b k xs kvs, KAt c T H3 x y d b k xs kvs ∧ xs.length < sizeLine ∧ ∀ u, RelV v u → D.nx σ (upd H3 d (dcO c d (storedH xs k b u)))
theorem ps_putN {td ty tv : TE} {c : Ct} (hc : c = ctOf X) (hu : X.A.units + 16 < cLine) (ho : PE X o td) (hi : PE X i ty) (hv : PE X value tv) (hs : swapsWith value (some (.Subscript o i pos')) pos.line X.env = pure false) :
    PS X (.Assign [.Subscript o i pos'] value pos) (tPutN c td ty tv) := by
  subst hc
  refine ⟨fun pins s σ H D I h => ?_⟩
  refine wpAny_Assign_Subscript (thn (hv.run pins s σ H _ I h) fun r s1 ⟨v, H1, I1, rv, q1⟩ => thn (ho.run pins s1 σ H1 _ I1 q1) fun u s2 ⟨x, H2, I2, rx, q2⟩ => thn (hi.run pins s2 σ H2 _ I2 q2) fun iv s3 ⟨y, H3, I3, ry, T, d, b, k, xs, kvs, K, hl, q3⟩ => ?_) hs
  obtain ⟨rfl, rfl, dp, ed, rk, rs, sub⟩ := K
  obtain rfl : u = Value.ref d := rx
  obtain rfl : iv = Value.ref b := ry
  obtain ⟨dd, hz, hs⟩ := dc_at rfl rfl rfl I3 ed (rs.mono sub)
  refine wpAny_setItem_heap (hsz := hz) (in1_room hu) ⟨nested_of rfl I3 k rk rfl, dp⟩ dd fun h' dd' hs' => ?_
  have hl2 : (storedH xs k b r).length ≤ sizeLine := by
    unfold storedH
    split
    · rw [List.length_map]
      exact hz
    · rw [List.length_append]
      simp only [List.length_cons, List.length_nil]
      omega
  have he : ∃ q, h'.get? d = some q := let ⟨q, _, _, hq, _⟩ := dd'; ⟨q, hq⟩
  have J := d_write (ob := dcO (ctOf X) d (storedH xs k b r)) (t' := s3.toks + (nestedKind X.prog X.w).draws k) I3 (by rw [ed]; exact True.intro) hs' he (dcO_ok rfl rfl dd' hl2 hs)
  exact ⟨σ, _, J, q3 r rv⟩
theorem ds_putD (j : Nat) (hu : X.A.units + 16 < cLine) (hi : DE X E i fk) (hv : DE X E value fv) (hN : X.N[j]? = some x := by rfl) (hvx : Vis X.env.scope x := by first | exact Or.inl rfl | exact Or.inr (Or.inl rfl) | exact Or.inr (Or.inr rfl)) (hd : (x == ("__debug__" : Str)) = false := by decide)
    (hcd : (x == ("__classdict__" : Str)) = false := by decide) (hs : swapsWith value (some (.Subscript (.Name x p1) i pos')) pos.line X.env = pure false := by rfl) : DS X E (.Assign [.Subscript (.Name x p1) i pos'] value pos) (dPutD j fk fv) := by
  refine ps_imp (ps_putN rfl hu (pe_var (i := j) hN hvx hd hcd) hi hv hs) fun D σ H h => ?_
  obtain ⟨B, S, ρ, O, V, h⟩ := h
  have hz : sizeLine = 16777216 := sizeLine_eq
  refine ⟨S, ρ, O, V.v, postS.fst h V fun w e1 h1 S1 H1 A v g r nd fr => ?_⟩
  have V1 := V.gr g
  cases q : ρ[j]? with
  | none =>
    rw [q] at h1
    exact h1.elim
  | some y =>
    rw [q] at h1
    cases y with
    | dic kvs =>
      cases r with
      | fr r => exact h1.elim
      | bo r => exact h1.elim
      | @sh _ d0 r =>
        simp only at h1
        obtain ⟨A0, o0, q1, q2, q3, q4, _⟩ := V1.v.sl.at_ V1.v.nd q
        cases q2 with
        | @dic d xs _ ed nS rs =>
          refine ⟨_, q1, S1, ρ, O, V1.v, postS.fst h1 V1 fun y e2 h2 S2 H2 C u g2 r2 nd2 fr2 => ?_⟩
          have V2 := V1.gr g2
          cases q5 : tupKey y with
          | none =>
            rw [q5] at h2
            exact h2.elim
          | some k =>
            simp only [q5] at h2
            split at h2
            · rename_i hl
              obtain ⟨rfl, dp, hk⟩ := tupKey_of q5
              cases r2 with
              | sh r2 =>
                obtain ⟨b, rfl⟩ := key_ref r2 hk
                have ed2 := g2.hh _ _ ed
                have rs2 := rs.mono g2.ss
                refine ⟨S2, d, b, k, xs, kvs, ⟨rfl, rfl, dp, ed2, r2.mono g2.sub, rs2, g2.sub⟩, by rw [hz, rs.length]; exact hl, fun u hu => ?_⟩
                obtain ⟨O', V'⟩ := V2.write (H2 := upd H2 d (dcO (ctOf X) d (storedH xs k b u))) (x' := .dic (kPut kvs k d0)) q q1 fun A2 r6 n6 s6 => by
                  cases r6 with
                  | dic ed6 nS6 rs6 =>
                    refine ⟨[d], .dic upd_same nS6 (rs2.put r2 dp hu (r.mono g2.ss)), by simp, fun a ha => .inl ha, fun b' hb' o' eo' => ?_, fun a hx ha => ?_, fun a ha C' dx' vf' z => ?_⟩
                    · rw [upd_ne fun z => hb' (by rw [z]; exact List.mem_cons_self)]
                      exact eo'
                    · obtain ⟨C', dx', vf', y⟩ := V2.g.exs a hx
                      rw [List.mem_singleton.mp ha, ed6] at y
                      have y' : HO.ext _ = HO.ins C' dx' vf' := Option.some.inj y
                      cases y'
                    · rw [List.mem_singleton.mp ha, upd_same] at z
                      have y' : HO.ext _ = HO.ins C' dx' vf' := Option.some.inj z
                      cases y'
                exact h2 S2 _ σ O' V'
            · exact h2.elim
    | no => exact h1.elim
    | sh d => exact h1.elim
    | own ts => exact h1.elim
    | lk ts => exact h1.elim
    | mk C fs => exact h1.elim
    | xc z => exact h1.elim
end
/-- the dict of a slot becomes shared -/
def dFrzD (i : Nat) (g : Stm) : Stm := fun ρ => match ρ[i]? with
  | some (.dic kvs) => g (ρ.set i (.sh (.dic kvs)))
  | _ => g ρ
theorem dss_frzD {X : Cx} {E : WS} {g1 : Stm} (i : Nat) {sts : List Stmt} (h : DSs X E sts g1) : DSs X E sts (dFrzD i g1) := by
  refine pss_imp h fun D σ H h => ?_
  obtain ⟨B, S, ρ, O, V, h⟩ := h
  unfold dFrzD at h
  cases q : ρ[i]? with
  | none =>
    rw [q] at h
    exact ⟨B, S, ρ, O, V, h⟩
  | some y =>
    rw [q] at h
    cases y with
    | dic kvs =>
      obtain ⟨A, o, q1, q2, q3, q4, q5⟩ := V.v.sl.at_ V.v.nd q
      cases q2 with
      | @dic d xs _ ed nS rs =>
        have nA : ∀ a ∈ [d], S a = none := fun a ha => by rw [List.mem_singleton.mp ha]; exact nS
        have hB : B.H d = none := by
          rcases V.own d (q4 d List.mem_cons_self) with z | z
          · exact z
          · obtain ⟨C', dx', vf', y⟩ := V.g.exs d z
            rw [ed] at y
            have y' : HO.ext _ = HO.ins C' dx' vf' := Option.some.inj y
            cases y'
        obtain ⟨O', p1, p2, p3⟩ := q5 (grab S H [d]) H [] (some (.ref d)) (.sh (.dic kvs)) (same_grab nA) (fun a ha hn => ⟨rfl, by rw [grab_out hn]; exact (V.v.sl.alive a ha).2⟩) (.sh (.dic ((grab_in List.mem_cons_self).trans ed) (rs.mono (same_grab nA)))) List.nodup_nil fun a ha => by cases ha
        rw [List.set_same q1] at p1
        refine ⟨B, grab S H [d], _, O', ⟨⟨grab_same V.sub, p1, p2⟩, ⟨V.g.hh, V.g.ss.trans (same_grab nA), grab_same V.sub, fun a ob e n => ?_, V.g.exs⟩, fun a ha => ?_, fun a ha => ?_⟩, h⟩
        · have hn : a ∉ [d] := fun z => by
            rw [List.mem_singleton.mp z, hB] at e
            cases e
          rw [grab_out hn]
          exact V.g.new a ob e n
        · rcases p3 a ha with z | z
          · cases z
          · exact V.own a z.1
        · intro C dx vfs e
          rcases p3 a ha with z | z
          · cases z
          · exact V.ni a z.1 C dx vfs e
    | no => exact ⟨B, S, ρ, O, V, h⟩
    | sh d => exact ⟨B, S, ρ, O, V, h⟩
    | lk ts => exact ⟨B, S, ρ, O, V, h⟩
    | own ts => exact ⟨B, S, ρ, O, V, h⟩
    | mk C fs => exact ⟨B, S, ρ, O, V, h⟩
    | xc z => exact ⟨B, S, ρ, O, V, h⟩
end Dl
set_option Elab.async false
set_option linter.all false
set_option maxRecDepth 100000
/-! DL11: __init__: fields of the new instance; the promise of an __init__. -/
namespace Dl
open PySem PySem.Spec PyProof.Rows L2

def putFD (f : Str) (d : D) : List (Str × D) → List (Str × D)
  | [] => [(f, d)]
  | (g, e) :: fs => if g = f then (g, d) :: fs else (g, e) :: putFD f d fs
theorem FReps.put {c : Ct} {S : Hp} {f : Str} {v : V} {d : D} (r : Rep c S v d) : ∀ {vs : List (Str × V)} {fs : List (Str × D)}, FReps c S vs fs → FReps c S (putF f v vs) (putFD f d fs)
  | _, _, .nil => .cons r .nil
  | _, _, .cons (f := g) h t => by
    unfold putF putFD
    by_cases e : g = f
    · rw [if_pos e, if_pos e]
      exact .cons r t
    · rw [if_neg e, if_neg e]
      exact .cons h (FReps.put r t)
theorem FReps.length {c : Ct} {S : Hp} : ∀ {vs : List (Str × V)} {fs : List (Str × D)}, FReps c S vs fs → vs.length = fs.length
  | _, _, .nil => rfl
  | _, _, .cons _ t => congrArg (· + 1) (FReps.length t)
/-- the instance in slot i gets the field f -/
def dFldSet (i : Nat) (C f : Str) (fv : Dl.Env → Res EV) : Stm := fun ρ => (fv ρ).at ρ fun x => match ρ[i]?, x with
  | some (.mk C' fs), .sh d => if C' = C ∧ fs.length < 1000 then .ok (.nx (ρ.set i (.mk C (putFD f d fs)))) else .stuck
  | _, _ => .stuck
/-- a field of the instance in slot i -/
def dFldMk (i : Nat) (C f : Str) : Dl.Env → Res EV := fun ρ => match ρ[i]? with
  | some (.mk C' fs) => if C' = C then (match fs.lookup f with
    | some d => .ok (.sh d)
    | none => .stuck) else .stuck
  | _ => .stuck
section
variable {X : Cx} {E : WS} {x f C : Str} {e : Expr} {pos p1 p2 : Pos} {fv : Dl.Env → Res EV}
theorem ds_fldSet (i : Nat) (cl : Cls X.K (clOf X.mg C)) (na : NoAttr X.K (clOf X.mg C) f) (he : DE X E e fv) (hN : X.N[i]? = some x := by rfl) (hv : Vis X.env.scope x := by first | exact Or.inl rfl | exact Or.inr (Or.inl rfl) | exact Or.inr (Or.inr rfl))
    (hd : (x == ("__debug__" : Str)) = false := by decide) (hcd : (x == ("__classdict__" : Str)) = false := by decide) (hs : swapsWith e (some (.Attribute (.Name x p1) f p2)) pos.line X.env = pure false := by rfl) :
    DS X E (.Assign [.Attribute (.Name x p1) f p2] e pos) (dFldSet i C f fv) := by
  refine ps_imp (ps_fld (pe_var (i := i) hN hv hd hcd) he hs) fun D σ H h => ?_
  obtain ⟨B, S, ρ, O, V, h⟩ := h
  refine ⟨S, ρ, O, V.v, postS.fst h V fun y e1 h1 S1 H1 A v g r nd fr => ?_⟩
  have V1 := V.gr g
  cases q : ρ[i]? with
  | none =>
    rw [q] at h1
    exact h1.elim
  | some sv =>
    rw [q] at h1
    cases sv with
    | mk C' fs =>
      cases r with
      | fr r => exact h1.elim
      | bo r => exact h1.elim
      | @sh _ d0 r =>
        simp only at h1
        split at h1
        · rename_i hC
          obtain ⟨rfl, hl⟩ := hC
          obtain ⟨A0, o0, q1, q2, q3, q4, _⟩ := V1.v.sl.at_ V1.v.nd q
          cases q2 with
          | @mk a dx _ vfs _ ha nS rs =>
            refine ⟨_, q1, a, clOf X.mg C', dx, vfs, rfl, ha, cl, na, by rw [rs.length]; exact hl, ?_⟩
            obtain ⟨O', V'⟩ := V1.write (H2 := upd H1 a (.ins (clOf X.mg C') dx (putF f v vfs))) (x' := .mk C' (putFD f d0 fs)) q q1 fun A2 r6 n6 s6 => by
              cases r6 with
              | mk h6 n6' rs6 =>
                have ex : a ∈ B.ex := V1.ni a (q4 a List.mem_cons_self) _ _ _ ha
                rw [ha] at h6
                cases h6
                refine ⟨[a], .mk upd_same nS (rs6.put r), by simp, fun b hb => .inl hb, fun b hb o eo => ?_, fun b hx hb => ⟨clOf X.mg C', dx, putF f v vfs, by rw [List.mem_singleton.mp hb]; exact upd_same⟩, fun b hb C dx vfs e => by rw [List.mem_singleton.mp hb]; exact ex⟩
                rw [upd_ne fun z => hb (by rw [z]; exact List.mem_cons_self)]
                exact eo
            exact h1 S1 _ σ O' V'
        · exact h1.elim
    | no => exact h1.elim
    | sh d => exact h1.elim
    | own ts => exact h1.elim
    | lk ts => exact h1.elim
    | dic kvs => exact h1.elim
    | xc z => exact h1.elim
theorem de_fldMk (i : Nat) (cl : Cls X.K (clOf X.mg C)) (na : NoAttr X.K (clOf X.mg C) f) (hb : attributeBase (.Name x p1) f X.env (eval (.Name x p1) X.env) = eval (.Name x p1) X.env := by rfl) (hN : X.N[i]? = some x := by rfl)
    (hv : Vis X.env.scope x := by first | exact Or.inl rfl | exact Or.inr (Or.inl rfl) | exact Or.inr (Or.inr rfl)) (hd : (x == ("__debug__" : Str)) = false := by decide) (hcd : (x == ("__classdict__" : Str)) = false := by decide) :
    DE X E (.Attribute (.Name x p1) f pos) (dFldMk i C f) := by
  refine pe_imp (pe_fld (pe_var (i := i) hN hv hd hcd) hb) fun σ H Q h => ?_
  obtain ⟨S, ρ, O, V, h⟩ := h
  unfold dFldMk at h
  cases q : ρ[i]? with
  | none =>
    rw [q] at h
    exact h.elim
  | some sv =>
    rw [q] at h
    cases sv with
    | mk C' fs =>
      simp only at h
      split at h
      · rename_i hC
        subst hC
        obtain ⟨A0, o0, q1, q2, q3, q4, _⟩ := V.sl.at_ V.nd q
        cases q2 with
        | @mk a dx _ vfs _ ha nS rs =>
          cases q5 : fs.lookup f with
          | none =>
            simp only [q5] at h
            exact h.elim
          | some d =>
            simp only [q5] at h
            obtain ⟨v, hv, rv⟩ := rs.lookup q5
            exact ⟨_, q1, a, clOf X.mg C', dx, vfs, v, rfl, ha, cl, na, hv, Post.sh h (Gr.refl V.sub) rv⟩
      · exact h.elim
    | no => exact h.elim
    | sh d => exact h.elim
    | own ts => exact h.elim
    | lk ts => exact h.elim
    | dic kvs => exact h.elim
    | xc z => exact h.elim
end
/-- an __init__ as a function: the fields -/
def initD (n : Nat) (C : Str) (g : Stm) (ds : List D) : Res (List (Str × D)) := match g (.mk C [] :: (ds.map SV.sh ++ List.replicate (n - (ds.length + 1)) SV.no)) with
  | .ok (.nx ρ) => (match (ρ[0]? : Option SV) with
    | some (.mk C' fs) => if C' = C then .ok fs else .stuck
    | _ => .stuck)
  | .ok (.ex z _) => .exc z
  | _ => .stuck
theorem init_start {c : Ct} {N : List Str} {n : Nat} {C : Str} {g : Stm} {vs : List V} {H : Hp} {Q : VK} {E : XK} (hn : n + 1 ≤ N.length) (h : spI c C n (initD N.length C g) vs H Q E) : rS c (fun _ => E) g { nx := fun _ H' => Q .non H', rt := Q } (start N vs) H := by
  obtain ⟨hl, S, ds, x, dx, ws, rfl, sub, nS, hx, r, p⟩ := h
  have hd : ws.length = ds.length := r.length
  have sl : Slots c S H (start N (.ref x :: ws)) (.mk C [] :: (ds.map SV.sh ++ List.replicate (N.length - (ds.length + 1)) SV.no)) ([x] ++ []) := by
    have := slots_start (H := H) (N.length - (ws.length + 1)) r
    rw [hd] at this
    refine .cons (.mk hx nS .nil) ?_
    show Slots c S H (ws.map some ++ List.replicate (N.length - (ws.length + 1)) none) _ _
    rw [hd]
    exact this
  refine ⟨⟨H, S, [x]⟩, S, _, [x] ++ [], ⟨⟨sub, sl, by simp⟩, ⟨fun b o _ e => e, Same.refl _, sub, fun a o _ n => n, fun a ha => ⟨c.cl C, dx, [], by rw [List.mem_singleton.mp ha]; exact hx⟩⟩, fun a ha => .inr (by simpa using ha), fun a ha _ _ _ _ => by simpa using ha⟩, ?_⟩
  have toGr : ∀ {S' H' : Hp}, GrB ⟨H, S, [x]⟩ S' H' → GrX x S H S' H' := fun {S' H'} b => ⟨fun y o ny e => b.hh y o (fun z => ny (List.mem_singleton.mp z)) e, b.ss, b.sub, b.new⟩
  unfold initD at p
  cases e : g (.mk C [] :: (ds.map SV.sh ++ List.replicate (N.length - (ds.length + 1)) SV.no)) with
  | stuck => rw [e] at p; exact p.elim
  | exc z =>
    rw [e] at p
    exact p.elim
  | ok o =>
    rw [e] at p
    cases o with
    | nx ρ =>
      simp only at p
      intro S' H' σ' O' V
      cases q : ρ[0]? with
      | none =>
        rw [q] at p
        exact p.elim
      | some sv =>
        rw [q] at p
        cases sv with
        | mk C' fs =>
          simp only at p
          split at p
          · rename_i hC
            subst hC
            obtain ⟨A0, o0, q1, q2, q3, q4, _⟩ := V.v.sl.at_ V.v.nd q
            cases q2 with
            | @mk a dx' _ vfs _ ha nS' rs =>
              have ex : a ∈ [x] := V.ni a (q4 a List.mem_cons_self) _ _ _ ha
              have ex : a = x := List.mem_singleton.mp ex
              subst ex
              exact p S' H' dx' vfs (toGr V.g) ha rs nS'
          · exact p.elim
        | no => exact p.elim
        | sh d => exact p.elim
        | own ts => exact p.elim
        | lk ts => exact p.elim
        | dic kvs => exact p.elim
        | xc z => exact p.elim
    | ret x => exact p.elim
    | bk ρ => exact p.elim
    | ct ρ => exact p.elim
    | ex z ρ => exact fun S' H' σ' O' ev dx V x f => p S' H' ev dx (toGr V.g) x f
section
variable {P : Program} {w : World} {K : PySem.W.Frag} {mg : Str → Option Value} {base : Heap} {x qual : Str} {params : Arguments} {body : List Stmt} {scope : Scope} {dvs : List V} {kws : List (Str × V)} {f : Addr} {fd : FuncData}
/-- THE RULE for an __init__ -/
theorem fn_init {N ps : List Str} {k n : Nat} {C : Str} {g : Stm} (F : FunD K x qual params body scope dvs kws f fd) (Sc : FnScope N ps scope) (hn : ps.length = n + 1)
    (hb : ∀ (cdv : Value) (A : Around) (outer : List PySem.Env) (s : Shared) (H : Hp) (E : XK), Lv (cxOf (L2N.CX P w) P w K mg base N qual scope f cdv A outer s H E) (wOf E) k → DSs (cxOf (L2N.CX P w) P w K mg base N qual scope f cdv A outer s H E) (WE (wOf E)) body g) :
    FnOk P w K mg base (L2N.CX P w) (k + 1) f fd ps (spI ⟨P, w, K, mg, 0, none, .none⟩ C n (initD N.length C g)) := by
  refine F.ok Sc (fun vs H Q E h => h.1.trans hn.symm) fun cdv A outer s H vs Q E hr h => ⟨_, hb cdv A outer s H E ⟨L2N.takes_of rfl rfl rfl rfl, passes_of rfl, rfl, hr, rfl, rfl⟩, init_start ?_ h⟩
  have := congrArg List.length Sc.pre
  rw [List.length_take] at this
  omega
end
end Dl
set_option Elab.async false
set_option linter.all false
set_option maxRecDepth 100000
/-! DL12: enumerate(tuple); sorted(set(ints)); calls of instances; ~x; str * int. -/
namespace PySem
open Sem (wp)
set_option maxHeartbeats 1000000 in
theorem dl_enum_newB {v : Value} {o : Obj} {H : Heap → Prop} (B : Begins v o H) :
    Meets (Builtin.«enumerate.__new__» ⟨[.type "enumerate", v], []⟩) (fun _ R s => H s.heap ∧
      R (.ok (.ret (.ref (s.heap.push o).objs.size))) { s with heap := (s.heap.push o).push { cls := .type "enumerate", data := .fields #[.none, .bool false, .ref s.heap.objs.size, rawInt 0, .none, .none] } }) :=
  .of_wp fun prog w A R s h => by
    obtain ⟨hp, g, d, tk, os⟩ := s; obtain ⟨h1, h⟩ := h
    have hsub := sub_enumerate
    have q1 : ∀ {A' : Around} {E : Value → Shared → Prop} {Q : Value → Shared → Prop}, Q (.ref hp.objs.size) ⟨hp.push o, g, d, tk, os⟩ → wpAny (model prog w) A' (pyIter v) Q E ⟨hp, g, d, tk, os⟩ :=
      fun q => B.iter prog w _ _ ⟨hp, g, d, tk, os⟩ _ h1 q
    wp_walk using q1
    refine wpAny_stack_any fun st => wpAny_pure ?_
    split
    · rename_i c _ _ _ _ _
      cases (c == Value.type "enumerate")
      · wp_walk using q1
        exact ⟨_, rfl, h⟩
      · wp_walk using q1
        exact ⟨_, rfl, h⟩
    · wp_walk using q1
      exact ⟨_, rfl, h⟩
section
variable {prog : Program} {w : World} {A : Around} {E : Value → Shared → Prop} {s : Shared}
theorem dl_enum_begins {v : Value} {o : Obj} {H : Heap → Prop} {Q : Value → Shared → Prop} (B : Begins v o H) (h1 : H s.heap)
    (h : ∀ h', IsEnum h' (s.heap.objs.size + 1) s.heap.objs.size 0 .none → h'.get? s.heap.objs.size = some o → h'.objs.size = s.heap.objs.size + 2 →
      (∀ b o, s.heap.get? b = some o → h'.get? b = some o) → Q (.ref (s.heap.objs.size + 1)) { s with heap := h' }) :
    wpAny (model prog w) A (call (.type "enumerate") [v]) Q E s := by
  refine callType_new F.called_enumerate (by decide) (F.typeCall_enumerate_1 _) (F.newCall_enumerate_1 _) (fun obj => F.args_object_init_2 obj _) F.entry_enumerate_new
    (dl_enum_newB B) ⟨h1, ?_⟩
  have hz : (s.heap.push o).objs.size = s.heap.objs.size + 1 := Heap.size_push ..
  show _ ∧ _
  rw [hz]
  have he : IsEnum ((s.heap.push o).push { cls := .type "enumerate", data := .fields #[.none, .bool false, .ref s.heap.objs.size, rawInt 0, .none, .none] }) (s.heap.objs.size + 1) s.heap.objs.size 0 .none := by
    have := Heap.get?_push_size (s.heap.push o) (o := { cls := .type "enumerate", data := .fields #[.none, .bool false, .ref s.heap.objs.size, rawInt 0, .none, .none] }) rfl
    rw [hz] at this; exact this
  refine ⟨⟨_, he, rfl⟩, h _ he (Heap.get?_push_of_some _ (Heap.get?_push_size _ B.free)) (by rw [Heap.size_push, hz]) fun b o x => Heap.get?_push_of_some _ (Heap.get?_push_of_some _ x)⟩
end
end PySem
namespace Dl
open PySem PySem.Spec PyProof.Rows L2

/-! ### enumerate(t), t a tuple -/
def Itu (K : PySem.W.Frag) (a : Addr) : It :=
  ⟨fun i H => ∃ (xs : List V) (x : V), SqT K H a xs ∧ xs[i]? = some x, fun i H v H' => ∃ T x, v = .ref T ∧ H T = none ∧ (∃ o : Obj, o.dict = none ∧ H' = upd H T (.frz o (.tup [.int (i : Nat), x]))) ∧ ∀ xs, SqT K H a xs → xs[i]? = some x, fun i H => ∃ xs : List V, SqT K H a xs ∧ xs.length ≤ i⟩
theorem turn_enumT {P : Program} {w : World} {K : PySem.W.Frag} {elts : List Expr} {kk : Nat} {tpos : Pos} (a e it : Addr) :
    Turn P w K (.Tuple elts kk tpos) (Itu K a) [e, it] e (fun i h => (∃ old, IsEnum h e it ((i : Nat) : Int) old) ∧ h.IsTupleIter it a i ∧ e ≠ it ∧ a ≠ it ∧ e ≠ a) where
  mem := by simp
  obj := fun i h st b hb => by
    obtain ⟨⟨old, he⟩, ⟨o, ho, hc, hd⟩, _⟩ := st
    have e' : b = e ∨ b = it := by simpa using hb
    rcases e' with z | z
    · rw [z]; exact ⟨_, he, fun v q => nomatch q⟩
    · rw [z]; exact ⟨o, ho, fun v q => by rw [hd] at q; cases q⟩
  keep := fun i h h' st k => let ⟨⟨old, he⟩, hi, hne⟩ := st; ⟨⟨old, k e (by simp) _ he⟩, hi.at fun o q => k it (by simp) o q, hne⟩
  item := by
    intro X hP hw hK hc i pins s σ H E I hf st hg
    subst hP hw hK
    obtain ⟨⟨old, he⟩, hit, hne, hai, hea⟩ := st
    obtain ⟨xs, x, hq, hx⟩ := hg
    obtain ⟨its, rv, p, hz⟩ := I.tuple hq
    obtain ⟨u, hu, ru⟩ := rv.get hx
    have hel : e < s.heap.objs.size := Heap.lt_size he
    have hil : it < s.heap.objs.size := by obtain ⟨_, q, _⟩ := hit; exact Heap.lt_size q
    have hlt : i < its.toArray.size := by
      have := (List.getElem?_eq_some_iff.mp hu).1
      simpa using this
    refine wpAny_pyNext_enum_itemD (Draws.tuple (A := X.A.in1) (I.ok.hd hc) it a hai its.toArray) he ⟨hit, p⟩ hlt hne (by simp [hne, hea]) fun y h' tk hy ho hit' hT hsz hk => ?_
    have ey : y = u := by
      have h1 : its[i]? = some y := by simpa using hy
      rw [hu] at h1
      cases h1
      rfl
    subst ey
    refine ⟨_, rfl, wpAny_letOwnedTupleGo_enum (s := { s with heap := h', toks := tk + 1 }) ho fun h'' he' sb => ?_⟩
    have hT2 : h''.get? s.heap.objs.size = some { cls := .type "tuple", data := .seq #[.int i tk, y] } := (sb.2 _ (Nat.ne_of_gt hel)).trans hT
    have new : ObjOk X.prog X.w (upd H s.heap.objs.size (.frz { cls := .type "tuple", data := .seq #[.int i tk, y] } (.tup [.int (i : Nat), x]))) h'' s.heap.objs.size (.frz { cls := .type "tuple", data := .seq #[.int i tk, y] } (.tup [.int (i : Nat), x])) :=
      ⟨hT2, by show 2 ≤ sizeLine; decide, [.int i tk, y], .cons ⟨_, rfl⟩ (.cons ru .nil), ⟨_, hT2, rfl, _, rfl⟩⟩
    have I1 : Inv X pins σ (upd H s.heap.objs.size (.frz { cls := .type "tuple", data := .seq #[.int i tk, y] } (.tup [.int (i : Nat), x]))) { s with heap := h'', toks := tk + 1 } :=
      I.turnedNew (ch := [e, it]) (fun b ob hb q => (sb.2 b (fun z => hb (by simp [z]))).trans (hk b ob (fun z => hb (by simp [z])) (fun z => hb (by simp [z])) q)) hf (Nat.le_refl _) new
    refine ⟨.ref s.heap.objs.size, _, I1, rfl, ⟨_, x, rfl, I.hok.fresh (Nat.le_refl _), ⟨_, rfl, rfl⟩, fun ys hy => by rw [I.tuple_inj hy hq]; exact hx⟩, ⟨⟨y, ?_⟩, hit'.1.at fun o q => (sb.2 it (Ne.symm hne)).trans q, hne, hai, hea⟩, fun b hb => ?_⟩
    · have e1 : ((i + 1 : Nat) : Int) = (i : Int) + 1 := by omega
      rw [e1]; exact he'
    · have hb' : b < s.heap.objs.size := by
        have e' : b = e ∨ b = it := by simpa using hb
        rcases e' with z | z
        · rw [z]; exact hel
        · rw [z]; exact hil
      rw [upd_ne (Nat.ne_of_lt hb')]
      exact (hf b hb).1
  done := by
    intro X hP hw hK hc i pins s σ H E I hf st hg
    subst hP hw hK
    obtain ⟨⟨old, he⟩, hit, hne, hai, hea⟩ := st
    obtain ⟨xs, hq, hx⟩ := hg
    obtain ⟨its, rv, p, hz⟩ := I.tuple hq
    obtain ⟨f0, f1, f2, f3, f4, f5⟩ := hf it (by simp)
    have hl := rv.length
    have D : Draws X.prog X.w X.A.in1 it [it, a] i (fun j v => its.toArray[j]? = some v) (fun j h => j = i ∧ h.IsTupleIter it a j ∧ h.IsTuple a its.toArray) :=
      ⟨fun _ _ st => let ⟨o, ho, _⟩ := st.2.1; ⟨o, ho⟩, fun _ _ _ st hk => ⟨st.1, st.2.1.at fun o e => hk it (by simp) o e, st.2.2.at fun o e => hk a (by simp) o e⟩,
        fun j s Q E hj st hQ => absurd st.1 (Nat.ne_of_lt hj), fun s Q E st hE => wpAny_nextOf_tuple_end (I.ok.hd hc) st.2.1 st.2.2 (by simp; omega) hE⟩
    exact wpAny_pyNext_enum_endD D he ⟨rfl, hit, p⟩ fun h' eb => ⟨rfl, I.turned (t' := s.toks) (fun b o hb q => eb b o hb q) f0 f1 f3 f4 f5⟩
  self := fun A i s Q E st h => let ⟨⟨_, he⟩, _⟩ := st; wpAny_pyIter_enum he h

def iEnumT (K : PySem.W.Frag) (ta : TA) : TI := fun σ H R => ta σ H fun vs H1 => ∃ a xs, vs = [.ref a] ∧ SqT K H1 a xs ∧ R (Itu K a) H1
theorem pi_enumT {X : Cx} {e : Expr} {ta : TA} {p pos tpos : Pos} {elts : List Expr} {kk : Nat} (hg : Gl X "enumerate") (hm : X.mg "enumerate" = none) (ha : PA X [e] ta) (hs : starEach [e] X.env = [(false, eval e X.env)] := by rfl) :
    PI X (.Tuple elts kk tpos) (.Call (.Name "enumerate" p) [e] [] pos) (iEnumT X.K ta) := by
  refine ⟨fun pins s σ H R I h => ?_⟩
  refine Call_ (ld_blt I hg hm boot_enumerate (PyProof.Rows.callWith_type1 (thn (ha.run pos pins s σ H _ I h) fun us s1 ⟨vs, H1, I1, r1, q1⟩ => ?_) hs rfl))
  obtain ⟨a, xs, ex, hq, q⟩ := q1
  subst ex
  cases r1 with
  | cons r rr =>
    cases rr
    cases r
    obtain ⟨its, rv, p', hz⟩ := I1.tuple hq
    have hal : a < s1.heap.objs.size := by obtain ⟨o, ho, _⟩ := p'; exact Heap.lt_size ho
    refine dl_enum_begins (begins_tuple a its.toArray) p' fun h' he hit hsz hk => wpAny_pyIter_enum he ?_
    have I2 : Inv X pins σ H1 { s1 with heap := h' } := I1.kept (t' := s1.toks) hk
    refine ⟨s1.heap.objs.size + 1, [s1.heap.objs.size + 1, s1.heap.objs.size], _, _, H1, rfl, I2, turn_enumT a (s1.heap.objs.size + 1) s1.heap.objs.size, ⟨⟨.none, he⟩, ⟨_, hit, rfl, rfl⟩, Nat.succ_ne_self _, Nat.ne_of_lt hal, Nat.ne_of_gt (Nat.lt_succ_of_lt hal)⟩, fun b hb => ?_, q⟩
    have e' : b = s1.heap.objs.size + 1 ∨ b = s1.heap.objs.size := by simpa using hb
    have hle : s1.heap.objs.size ≤ b := by
      rcases e' with z | z
      · rw [z]; exact Nat.le_add_right _ _
      · rw [z]; exact Nat.le_refl _
    exact I1.fpOk hle (I1.hok.fresh hle)
def enumD (n : Nat) : List D → List D
  | [] => []
  | d :: ds => .tup [.int n, d] :: enumD (n + 1) ds
theorem enumD_get : ∀ (ds : List D) (n i : Nat), (enumD n ds)[i]? = ds[i]?.map fun d => D.tup [.int (n + i : Nat), d]
  | [], n, i => by simp [enumD]
  | d :: ds, n, 0 => by simp [enumD]
  | d :: ds, n, i + 1 => by
    rw [enumD, List.getElem?_cons_succ, List.getElem?_cons_succ, enumD_get ds (n + 1) i]
    congr 1
    funext d
    have : n + 1 + i = n + (i + 1) := by omega
    rw [this]
theorem itOk_enumT {c : Ct} {a : Addr} {vs : List V} {ds : List D} {S0 : Hp} (h : TupAt c.K S0 a vs) (r : Reps c S0 vs ds) : ItOk c (Itu c.K a) (enumD 0 ds) S0 := by
  intro S H s0 s1 i
  have q := (h.mono (s0.trans s1)).sq
  have l := r.length
  rw [enumD_get]
  refine ⟨fun e => ⟨vs, q, ?_⟩, fun d e => ?_⟩
  · rw [Option.map_eq_none_iff] at e
    have := List.getElem?_eq_none_iff.mp e
    omega
  · obtain ⟨d0, e0, e1⟩ := Option.map_eq_some_iff.mp e
    subst e1
    obtain ⟨v, hv, rv⟩ := r.get e0
    refine ⟨⟨vs, v, q, hv⟩, fun x H' y => ?_⟩
    obtain ⟨T, x0, rfl, hT, ⟨o, ho, rfl⟩, y⟩ := y
    have := y vs q
    rw [hv] at this
    cases this
    have g : Gr S H (upd S T (.frz o (.tup [.int ((i : Nat) : Int), v]))) (upd H T (.frz o (.tup [.int ((i : Nat) : Int), v]))) := Gr.push s1 hT
    refine ⟨_, g, .tup (.inl ⟨o, upd_same, ho⟩) (.cons ?_ (.cons ((rv.mono s0).mono g.ss) .nil))⟩
    rw [Nat.zero_add]
    exact .int _
def iEn (f : Dl.Env → Res EV) : Itf := fun ρ => (f ρ).bind fun x => match x with
  | .sh (.tup ds) => .ok (enumD 0 ds)
  | _ => .stuck
section
variable {X : Cx} {E : WS} {e : Expr} {f1 : Dl.Env → Res EV} {p pos tpos : Pos} {elts : List Expr} {kk : Nat}
theorem di_enumT (h : DE X E e f1) (hm : X.mg "enumerate" = none) (hg : Gl X "enumerate" := by rfl) (hs : starEach [e] X.env = [(false, eval e X.env)] := by rfl) (hs2 : starEach [e] X.env = (false, eval e X.env) :: starEach [] X.env := by rfl) :
    DI X E (.Tuple elts kk tpos) (.Call (.Name "enumerate" p) [e] [] pos) (iEn f1) := by
  refine pi_imp (pi_enumT hg hm (pa_cons h pa_nil hs2) hs) fun σ H R h => ?_
  obtain ⟨S, ρ, O, V, h⟩ := h
  refine ⟨S, ρ, O, V, PostW.fst h fun x e1 h1 S1 H1 A v g r nd fr => ?_⟩
  split at h1
  · cases r with
    | sh r => cases r with
      | tup ha rr => exact ⟨_, _, rfl, (ha.mono g.sub).sq, h1 S1 H1 _ g (itOk_enumT ha rr)⟩
  · exact h1.elim
end

/-! ### sorted(set(t)), t a tuple of ints -/
def insZ (x : Int) : List Int → List Int
  | [] => [x]
  | y :: ys => if x < y then x :: y :: ys else if x = y then y :: ys else y :: insZ x ys
def sortSet (ns : List Int) : List Int := ns.foldr insZ []
theorem mem_insZ {x k : Int} : ∀ {ys : List Int}, k ∈ insZ x ys ↔ k = x ∨ k ∈ ys
  | [] => by simp [insZ]
  | y :: ys => by
    unfold insZ
    split
    · simp
    · split
      · rename_i _ e
        subst e
        simp
      · simp only [List.mem_cons, mem_insZ (ys := ys)]
        constructor <;> rintro (h | h | h) <;> simp [h]
theorem insZ_lt {x : Int} : ∀ {ys : List Int}, ys.Pairwise (· < ·) → (insZ x ys).Pairwise (· < ·)
  | [], _ => by simp [insZ]
  | y :: ys, h => by
    obtain ⟨h1, h2⟩ := List.pairwise_cons.mp h
    unfold insZ
    split
    · rename_i hx
      refine List.pairwise_cons.mpr ⟨fun z hz => ?_, h⟩
      rcases List.mem_cons.mp hz with e | hz
      · rw [e]; exact hx
      · exact Int.lt_trans hx (h1 z hz)
    · split
      · exact h
      · rename_i n1 n2
        refine List.pairwise_cons.mpr ⟨fun z hz => ?_, insZ_lt h2⟩
        rcases mem_insZ.mp hz with e | hz
        · rw [e]; omega
        · exact h1 z hz
theorem mem_sortSet {k : Int} : ∀ {ns : List Int}, k ∈ sortSet ns ↔ k ∈ ns
  | [] => by simp [sortSet]
  | n :: ns => by
    show k ∈ insZ n (sortSet ns) ↔ _
    rw [mem_insZ, mem_sortSet (ns := ns), List.mem_cons]
theorem sortSet_lt : ∀ {ns : List Int}, (sortSet ns).Pairwise (· < ·)
  | [] => by simp [sortSet]
  | n :: ns => insZ_lt (sortSet_lt (ns := ns))
theorem lt_unique : ∀ {xs ys : List Int}, xs.Pairwise (· < ·) → ys.Pairwise (· < ·) → (∀ k, k ∈ xs ↔ k ∈ ys) → xs = ys
  | [], [], _, _, _ => rfl
  | [], y :: ys, _, _, h => by simpa using (h y).mpr List.mem_cons_self
  | x :: xs, [], _, _, h => by simpa using (h x).mp List.mem_cons_self
  | x :: xs, y :: ys, h1, h2, h => by
    obtain ⟨a1, a2⟩ := List.pairwise_cons.mp h1
    obtain ⟨b1, b2⟩ := List.pairwise_cons.mp h2
    have e : x = y := by
      have p := (h x).mp List.mem_cons_self
      have q := (h y).mpr List.mem_cons_self
      rcases List.mem_cons.mp p with p | p
      · exact p
      · rcases List.mem_cons.mp q with q | q
        · exact q.symm
        · have := b1 x p
          have := a1 y q
          omega
    subst e
    congr 1
    refine lt_unique a2 b2 fun k => ⟨fun hk => ?_, fun hk => ?_⟩
    · rcases List.mem_cons.mp ((h k).mp (List.mem_cons_of_mem _ hk)) with e | z
      · have := a1 k hk
        omega
      · exact z
    · rcases List.mem_cons.mp ((h k).mpr (List.mem_cons_of_mem _ hk)) with e | z
      · have := b1 k hk
        omega
      · exact z
/-- set(t) -/
def rSetTupI (K : PySem.W.Frag) (w : World) : List V → Hp → VK → Prop := fun xs H Q => ∃ (a : Addr) (ns : List Int), xs = [.ref a] ∧ SqT K H a (ns.map V.int) ∧ ns.length + 1 < scanBound ∧ ∀ p c, H p = none → c ≤ ns.length → Q (.ref p) (upd H p (SetO w p (fun j => decide (j ∈ ns)) c))
theorem cr_setTupI {X : Cx} (hc : X.calm = true) : CallR X (.type "set") (rSetTupI X.K X.w) := by
  intro pins s σ H xs us Q I r h
  obtain ⟨a, ns, rfl, hq, hl, q⟩ := h
  obtain ⟨its, rv, p, hz⟩ := I.tuple hq
  rw [Vals.ref1 r]
  refine call_set_tupI ns (I.ok.hd hc) p (by simpa using rv.ints) hl fun h' tk c hS hc' hk => ?_
  exact ⟨.ref _, upd H s.heap.objs.size (SetO X.w s.heap.objs.size (fun j => decide (j ∈ ns)) c), I.laid (t' := tk) hk (Nat.le_refl _) (setO_new hS), rfl, q _ _ (I.hok.fresh (Nat.le_refl _)) hc'⟩
def intsD : List D → Option (List Int)
  | [] => some []
  | .int i :: ds => (intsD ds).map (i :: ·)
  | _ :: _ => none
theorem intsD_of : ∀ {ds : List D} {ns : List Int}, intsD ds = some ns → ds = ns.map D.int
  | [], _, h => by cases h; rfl
  | .int i :: ds, _, h => by
    rw [intsD] at h
    cases q : intsD ds with
    | none => rw [q] at h; cases h
    | some ns =>
      rw [q] at h
      cases h
      rw [intsD_of q]
      rfl
  | .non :: _, _, h => by cases h
  | .bl _ :: _, _, h => by cases h
  | .str _ :: _, _, h => by cases h
  | .ty _ :: _, _, h => by cases h
  | .tup _ :: _, _, h => by cases h
  | .lst _ :: _, _, h => by cases h
  | .scr _ :: _, _, h => by cases h
  | .obj _ _ :: _, _, h => by cases h
  | .dic _ :: _, _, h => by cases h
theorem reps_intv {c : Ct} {S : Hp} : ∀ {ns : List Int} {vs : List V}, Reps c S vs (ns.map D.int) → vs = ns.map V.int
  | [], _, .nil => rfl
  | n :: ns, _, .cons h t => by
    cases h
    rw [List.map_cons, reps_intv t]
def dSortSet (f : Dl.Env → Res EV) : Dl.Env → Res EV := fun ρ => (f ρ).bind fun x => match x with
  | .sh (.tup ds) => (match intsD ds with
    | some ns => if ns.length < 64 then .ok (.fr ((sortSet ns).map fun n => .leaf (.int n))) else .stuck
    | none => .stuck)
  | _ => .stuck
theorem de_sortSet {X : Cx} {E : WS} {e : Expr} {f1 : Dl.Env → Res EV} {p p2 q pos : Pos} (hc : X.calm = true) (h : DE X E e f1) (hm : X.mg "sorted" = none) (hm2 : X.mg "set" = none) (hg : Gl X "sorted" := by rfl) (hg2 : Gl X "set" := by rfl)
    (hs : starEach [e] X.env = (false, eval e X.env) :: starEach [] X.env := by rfl) (hpl : (backTo q (starEach [] X.env)).any (·.1) = false := by rfl)
    (hs2 : starEach [Expr.Call (.Name "set" p2) [e] [] q] X.env = (false, eval (.Call (.Name "set" p2) [e] [] q) X.env) :: starEach [] X.env := by rfl) (hpl2 : (backTo pos (starEach [] X.env)).any (·.1) = false := by rfl) :
    DE X E (.Call (.Name "sorted" p) [.Call (.Name "set" p2) [e] [] q] [] pos) (dSortSet f1) := by
  have b1 : bootBuiltins "set" = some (.type "set") := PyProof.Rows.Boot.set
  have b2 : bootBuiltins "sorted" = some (.builtin "sorted") := PyProof.Rows.Boot.sorted
  refine pe_imp (pe_callB (cr_sortedSet hc) hg hm b2 (pa_cons (pe_callTy (cr_setTupI hc) hg2 hm2 b1 (pa_cons h pa_nil hs) (by decide) (by decide) hs hpl) pa_nil hs2) (by decide) (by decide) hs2 hpl2) fun σ H Q h => ?_
  obtain ⟨S, ρ, O, V, h⟩ := h
  refine ⟨S, ρ, O, V, Post.fst h fun x e1 h1 S1 H1 A v g r nd fr => ?_⟩
  split at h1
  · rename_i ds
    cases q5 : intsD ds with
    | none =>
      rw [q5] at h1
      exact h1.elim
    | some ns =>
      simp only [q5] at h1
      split at h1
      · rename_i hl
        have ed := intsD_of q5
        subst ed
        cases r with
        | sh r => cases r with
          | tup ha rr =>
            have ev := reps_intv rr
            subst ev
            refine ⟨_, ns, rfl, (ha.mono g.sub).sq, by unfold scanBound; omega, fun p c hp hcl => ?_⟩
            refine ⟨p, _, c, rfl, upd_same, by omega, fun ns' p' hs' hm' _ hp' => ?_⟩
            have en : ns' = sortSet ns := lt_unique hs' sortSet_lt fun k => by
              rw [hm', mem_sortSet, decide_eq_true_iff]
            subst en
            have g2 : Gr S1 H1 S1 (upd H1 p (SetO X.w p (fun j => decide (j ∈ ns)) c)) := Gr.pushO g.sub hp
            have ow : Owns (ctOf X) S1 (upd H1 p (SetO X.w p (fun j => decide (j ∈ ns)) c)) [] ((sortSet ns).map L2.V.int) (((sortSet ns).map D.int).map T.leaf) := by
              have : ∀ ms : List Int, Reps (ctOf X) S1 (ms.map L2.V.int) (ms.map D.int) := fun ms => by
                induction ms with
                | nil => exact .nil
                | cons m ms ih => exact .cons (.int m) ih
              exact Owns.leaves (this _)
            have h2 : Post (ctOf X) (xs (ctOf X) E ρ O) S H (.ok (.fr (((sortSet ns).map D.int).map T.leaf))) Q := by
              rw [List.map_map]
              exact h1
            exact Post.lst h2 (g.trans g2) ow List.nodup_nil (fun a ha => by cases ha) hp'
      · exact h1.elim
  · exact h1.elim

/-! ### calls of instances, ~x, staticmethods -/
def dCallI (C : Str) (n : Nat) (F : List D → Res EV) (dds : List D) (f0 : Dl.Env → Res EV) (fs : Dl.Env → Res (List EV)) : Dl.Env → Res EV := fun ρ => (f0 ρ).bind fun x => match asObj C x with
  | some _ => (fs ρ).bind fun xs => callN n F dds (x :: xs)
  | none => .stuck
def dSpec (C : Str) (n : Nat) (F : List D → Res EV) (dds : List D) (f0 : Dl.Env → Res EV) : Dl.Env → Res EV := fun ρ => (f0 ρ).bind fun x => match asObj C x with
  | some _ => callN n F dds [x]
  | none => .stuck
def tCI (c : Ct) (C : Addr) (n : Nat) (F : List D → Res EV) (dds : List D) (E : WS) (ta : TE) (t : TA) : TE := fun σ H Q => ta σ H fun x H1 => ∃ a, x = .ref a ∧ t σ H1 fun vs H2 => (∃ dx fs, H2 a = some (.ins C dx fs)) ∧ spF c n F dds (x :: vs) H2 Q (E σ)
def tSpec (c : Ct) (C : Addr) (n : Nat) (F : List D → Res EV) (dds : List D) (E : WS) (ta : TE) : TE := fun σ H Q => ta σ H fun x H1 => ∃ a, x = .ref a ∧ (∃ dx fs, H1 a = some (.ins C dx fs)) ∧ spF c n F dds [x] H1 Q (E σ)
theorem ins_inst {X : Cx} {pins : List (Addr × Obj)} {σ : L2.St} {H : Hp} {s : Shared} {a C : Addr} (I : Inv X pins σ H s) (h : ∃ dx fs, H a = some (.ins C dx fs)) : ∃ ox od, PySem.W.InstAt s.heap a ox C od ∧ ox.data = .plain := by
  obtain ⟨dx, fs, h⟩ := h
  obtain ⟨mA, O, _⟩ := ins_get I.hok h
  obtain ⟨od, J, _⟩ := O.look
  exact ⟨_, _, J, rfl⟩
section
variable {X : Cx} {E : WS} {C m : Str} {g : Addr} {n : Nat} {F : List D → Res EV} {dds : List D} {fe e o : Expr} {es : List Expr} {p pos apos : Pos} {f0 : Dl.Env → Res EV} {fs : Dl.Env → Res (List EV)}
theorem de_callI (hf : DE X E fe f0) (c : StX.CallO X.K (clOf X.mg C) g) (G : CallD X E g n F dds) (ha : DA X E (e :: es) fs)
    (ht : eval (.Call fe (e :: es) [] pos) X.env = (do callWith pos (← eval fe X.env) [] (backTo pos (starEach (e :: es) X.env)) (backToKw pos (keywordEach [] X.env))) := by rfl)
    (he : starEach (e :: es) X.env = (false, eval e X.env) :: starEach es X.env := by rfl) (hpl : (backTo pos (starEach es X.env)).any (·.1) = false := by rfl) : DE X E (.Call fe (e :: es) [] pos) (dCallI C n F dds f0 fs) := by
  refine pe_imp (t := tCI (ct0 X) (clOf X.mg C) n F dds E (rE (ctOf X) E f0) (rA (ctOf X) E fs)) ⟨fun pins s σ H Q I h => ?_⟩ fun σ H Q h => ?_
  · refine Call_ (thn (PE.run hf pins s σ H _ I h) fun u s1 ⟨y, H1, I1, ry, a, ey, q⟩ => ?_) ht
    subst ey
    obtain rfl : u = Value.ref a := ry
    refine StX.callO_with (thn (PA.run ha pos pins s1 σ H1 _ I1 q) fun us s2 ⟨vs, H2, I2, r, hi, q2⟩ => ?_) he hpl
    obtain ⟨ox, od, J, hd⟩ := ins_inst I2 hi
    exact ⟨⟨_, ox, od, J, hd⟩, wpAny_call (PySem.W.kco_code I2.kIn J hd c.at_ c.fn c.fi (G.run pins σ H2 s2 Q (.ref a :: us) (.ref a :: vs) I2 (.cons rfl r) q2))⟩
  · obtain ⟨S, ρ, O, V, h⟩ := h
    refine ⟨S, ρ, O, V, Post.fst h fun x e1 h1 S1 H1 A v g1 r1 n1 fr1 => ?_⟩
    cases q : asObj C x with
    | none =>
      rw [q] at h1
      exact h1.elim
    | some fl =>
      rw [q] at h1
      obtain ⟨a, dx, vfl, rfl, ha, rf, ex⟩ := asObj_rep r1 q
      refine ⟨a, rfl, S1, ρ, O, V.gr g1, PostA.fst (Post.later h1 g1) fun xs e2 _ S2 H2 B vs g2 r2 n2 fr2 => ?_⟩
      simp only [e2] at h1
      subst ex
      have rx : EvRep (ctOf X) S1 H1 [] (.ref a) (.sh (.obj C fl)) := .sh (.obj ha rf)
      have rr : EvsRep (ctOf X) S2 H2 ([] ++ B) (.ref a :: vs) (.sh (.obj C fl) :: xs) := .cons (rx.gr g2) r2
      exact ⟨⟨dx, vfl, g2.hh _ _ (g1.sub _ _ ha)⟩, call_at (g1.trans g2) rr (fun u hu => g1.hh.free (fr2 u (by simpa using hu))) h1 (xs_at V)⟩
theorem de_inv (hf : DE X E e f0) (hs : PySem.W.findIn X.K (.ref (clOf X.mg C)) "__invert__" = some (some (.ref g))) (hfn : PySem.W.isFn X.K (.ref g) = true) (G : CallD X E g n F dds) : DE X E (.UnaryOp .Invert e pos) (dSpec C n F dds f0) := by
  refine pe_imp (t := tSpec (ct0 X) (clOf X.mg C) n F dds E (rE (ctOf X) E f0)) ⟨fun pins s σ H Q I h => ?_⟩ fun σ H Q h => ?_
  · show wpAny _ _ (do let v ← eval e X.env; standAt pos; holding [v] (unaryOp .Invert v)) _ _ _
    refine wpAny_bind (thn (PE.run hf pins s σ H _ I h) fun u s1 ⟨y, H1, I1, ry, a, ey, hi, q⟩ => wpAny_bind (wpAny_standAt (wpAny_holding ?_)))
    subst ey
    obtain rfl : u = Value.ref a := ry
    obtain ⟨ox, od, J, hd⟩ := ins_inst I1 hi
    obtain ⟨mm, fr⟩ := I1.fr
    exact PySem.W.ksp_inv fr I1.ok.mod.kin J hs hfn (G.wp (us := [.ref a]) (vs := [.ref a]) I1 (.cons rfl .nil) q)
  · obtain ⟨S, ρ, O, V, h⟩ := h
    refine ⟨S, ρ, O, V, Post.fst h fun x e1 h1 S1 H1 A v g1 r1 n1 fr1 => ?_⟩
    cases q : asObj C x with
    | none =>
      rw [q] at h1
      exact h1.elim
    | some fl =>
      rw [q] at h1
      obtain ⟨a, dx, vfl, rfl, ha, rf, ex⟩ := asObj_rep r1 q
      subst ex
      have rx : EvRep (ctOf X) S1 H1 [] (.ref a) (.sh (.obj C fl)) := .sh (.obj ha rf)
      have rr : EvsRep (ctOf X) S1 H1 ([] ++ []) [.ref a] [.sh (.obj C fl)] := .cons rx .nil
      exact ⟨a, rfl, ⟨dx, vfl, g1.sub _ _ ha⟩, call_at g1 rr (fun u hu => by cases hu) h1 (xs_at V)⟩
/-- what the text says of a staticmethod m of the class at C -/
structure StM (K : PySem.W.Frag) (C : Addr) (m : Str) (p g : Addr) : Prop where
  rd : PySem.W.readsIn K C (.type "type") = true
  ga : PySem.W.specialIn K (.ref C) "__getattribute__" = some (some (.builtin "type.__getattribute__"))
  at_ : PySem.W.findCls K (.ref C) (.type "type") m = some (.get (.builtin "staticmethod.__get__") (.ref p) .none (.ref C))
  rc : ∃ rest, PySem.W.recIn K p "staticmethod" = some (.ref g :: rest)
  ty : PySem.W.typeIn K (.ref C) = some (.type "type")
theorem de_smeth {pl : Sem Bool} {x : Str} {pr : Addr} (k : StM X.K (clOf X.mg x) m pr g) (hm : X.mg x = some (.ref (clOf X.mg x))) (G : CallD X E g n F dds) (ha : DA X E (e :: es) fs) (hg : Gl X x := by rfl) (hdb : (x == ("__debug__" : Str)) = false := by decide)
    (hst : starEach (e :: es) X.env = (false, eval e X.env) :: starEach es X.env := by rfl) (hpl : (backTo pos (starEach es X.env)).any (·.1) = false := by rfl)
    (ht : eval (.Call (.Attribute (.Name x p) m apos) (e :: es) [] pos) X.env = (do
      let ov ← eval (.Name x p) X.env
      standAt apos.atName
      let (f, first) ← holding [ov] (getMethod ov m pl)
      callWith pos f first (backTo pos (starEach (e :: es) X.env)) (backToKw pos (keywordEach [] X.env))) := by rfl) :
    DE X E (.Call (.Attribute (.Name x p) m apos) (e :: es) [] pos) (dCall n F dds fs) := by
  refine pe_imp (t := tCb (ct0 X) n F dds E (rA (ctOf X) E fs)) ⟨fun pins s σ H Q I h => ?_⟩ fun _ _ _ h => callD_imp h
  refine PySem.W.methodCall_KW (pl := pl) (thn ((pe_glob (pos := p) hg hm (v := .ref (clOf X.mg x)) rfl hdb).run pins s σ H (fun v H1 => v = .ref (clOf X.mg x) ∧ H1 = H) I ⟨rfl, rfl⟩) fun u s1 ⟨y, H1, I1, ry, ey, eH⟩ => ?_) ht
  subst ey eH
  obtain rfl : u = Value.ref (clOf X.mg x) := ry
  obtain ⟨mm, fr⟩ := I1.fr
  obtain ⟨rest, hrec⟩ := k.rc
  refine PySem.W.method_of_cls fr I1.ok.mod.kin k.ga (PySem.W.cls_sm fr I1.ok.mod.kin (mc := .type "type") ?_ k.rd k.at_ hrec rfl ?_)
  · exact k.ty
  · refine PySem.W.callWith_K (h₀ := X.base) I1.ok.mod.kin G.kp (thn (PA.run ha pos pins _ σ H1 _ (I1.tok _) h) fun us s2 ⟨vs, H2, I2, r, q⟩ => ⟨I2.kIn, ?_⟩) hst hpl
    exact G.wp I2 r q
end

end Dl
set_option Elab.async false
set_option linter.all false
set_option maxRecDepth 100000
/-! DL13: for r in x: r[k] = e, x a list of lists that a slot owns. -/
namespace Dl
open PySem PySem.Spec PyProof.Rows L2

def putLeaf (k : Int) (g : Int → Option Int) : T → Option T
  | .node us => match ixN us.length k with
    | some j => (match us[j]? with
      | some (.leaf (.int n)) => (g n).map fun m => .node (us.set j (.leaf (.int m)))
      | _ => none)
    | none => none
  | _ => none
def putLeaves (k : Int) (g : Int → Option Int) : List T → Option (List T)
  | [] => some []
  | t :: ts => match putLeaf k g t, putLeaves k g ts with
    | some u, some us => some (u :: us)
    | _, _ => none
theorem putLeaves_len {k : Int} {g : Int → Option Int} : ∀ {ts us : List T}, putLeaves k g ts = some us → ts.length = us.length
  | [], _, h => by cases h; rfl
  | t :: ts, _, h => by
    rw [putLeaves] at h
    cases q : putLeaf k g t with
    | none => rw [q] at h; cases h
    | some u =>
      cases q2 : putLeaves k g ts with
      | none => rw [q, q2] at h; cases h
      | some us =>
        rw [q, q2] at h
        cases h
        simp [putLeaves_len q2]
theorem putLeaves_get {k : Int} {g : Int → Option Int} : ∀ {ts us : List T} {i : Nat} {t : T}, putLeaves k g ts = some us → ts[i]? = some t → ∃ u, us[i]? = some u ∧ putLeaf k g t = some u
  | [], _, _, _, _, e => by simp at e
  | t :: ts, _, i, _, h, e => by
    rw [putLeaves] at h
    cases q : putLeaf k g t with
    | none => rw [q] at h; cases h
    | some u =>
      cases q2 : putLeaves k g ts with
      | none => rw [q, q2] at h; cases h
      | some us =>
        rw [q, q2] at h
        cases h
        cases i with
        | zero =>
          simp at e
          subst e
          exact ⟨u, rfl, q⟩
        | succ i =>
          obtain ⟨v, h1, h2⟩ := putLeaves_get (i := i) q2 (by simpa using e)
          exact ⟨v, by simpa using h1, h2⟩
section
variable {c : Ct} {S H : Hp}
theorem Own.setLeaf {A : List Addr} {v : V} {t u : T} {k : Int} {g : Int → Option Int} (h : Own c S H A v t) (nd : A.Nodup) (e : putLeaf k g t = some u) :
    ∃ p ws j n m, v = .ref p ∧ p ∈ A ∧ H p = some (.lst ws) ∧ ixN ws.length k = some j ∧ ws[j]? = some (.int n) ∧ g n = some m ∧ Own c S (upd H p (.lst (ws.set j (.int m)))) A v u := by
  cases h with
  | leaf r => cases e
  | @node a A0 vs us ha na rs =>
    have hl := rs.length
    unfold putLeaf at e
    simp only at e
    cases q : ixN us.length k with
    | none => rw [q] at e; cases e
    | some j =>
      rw [q] at e
      simp only at e
      split at e
      · rename_i n hn
        obtain ⟨m, hm, rfl⟩ := Option.map_eq_some_iff.mp e
        obtain ⟨w, Bw, hw, ow, sb⟩ := rs.get hn
        have ew : w = .int n := by
          cases ow with
          | leaf r => cases r; rfl
        subst ew
        refine ⟨a, vs, j, n, m, rfl, List.mem_cons_self, ha, by rw [hl]; exact q, hw, hm, .node upd_same na ?_⟩
        have n2 := List.nodup_cons.mp nd
        have k1 : Keeps A0 S H (upd H a (.lst (vs.set j (.int m)))) := fun b hb => ⟨upd_ne fun z => n2.1 (z ▸ hb), (rs.alive b hb).2⟩
        have r2 := rs.mono (Same.refl _) k1
        have set_ : ∀ {A : List Addr} {vs : List V} {us : List T} {j : Nat} {n : Int}, Owns c S (upd H a (.lst (vs.set j (.int m)))) A vs us → True := fun _ => trivial
        have go : ∀ {H' : Hp} {us : List T} {A : List Addr} {vs : List V} {j : Nat}, us[j]? = some (.leaf (.int n)) → Owns c S H' A vs us → Owns c S H' A (vs.set j (.int m)) (us.set j (.leaf (.int m))) := by
          intro H' us
          induction us with
          | nil => intro A vs j hj; simp at hj
          | cons t ts ih =>
            intro A vs j hj o
            cases o with
            | cons h r =>
              cases j with
              | zero =>
                simp at hj
                subst hj
                cases h
                exact Owns.cons (A := []) (.leaf (.int m)) r
              | succ j => exact .cons h (ih (by simpa using hj) r)
        exact go hn r2
      · cases e
theorem Owns.setLeaf {k : Int} {g : Int → Option Int} : ∀ {A : List Addr} {vs : List V} {ts : List T} {i : Nat} {t u : T}, Owns c S H A vs ts → A.Nodup → ts[i]? = some t → putLeaf k g t = some u →
    ∃ p ws j n m, vs[i]? = some (.ref p) ∧ p ∈ A ∧ H p = some (.lst ws) ∧ ixN ws.length k = some j ∧ ws[j]? = some (.int n) ∧ g n = some m ∧ Owns c S (upd H p (.lst (ws.set j (.int m)))) A vs (ts.set i u)
  | _, _, _, _, _, _, .nil, _, e, _ => by simp at e
  | _, _, _, 0, _, _, .cons (A := A) (B := B) h r, nd, e, q => by
    simp at e
    subst e
    obtain ⟨n1, n2, n3⟩ := List.nodup_append.mp nd
    obtain ⟨p, ws, j, n, m, rfl, hp, h1, h2, h3, h4, h5⟩ := h.setLeaf n1 q
    refine ⟨p, ws, j, n, m, rfl, List.mem_append_left _ hp, h1, h2, h3, h4, .cons h5 (r.mono (Same.refl _) fun b hb => ⟨upd_ne fun z => n3 p hp b hb z.symm, (r.alive b hb).2⟩)⟩
  | _, _, _, i + 1, _, _, .cons (A := A) (B := B) h r, nd, e, q => by
    obtain ⟨n1, n2, n3⟩ := List.nodup_append.mp nd
    obtain ⟨p, ws, j, n, m, h0, hp, h1, h2, h3, h4, h5⟩ := Owns.setLeaf (i := i) r n2 (by simpa using e) q
    refine ⟨p, ws, j, n, m, by simpa using h0, List.mem_append_right _ hp, h1, h2, h3, h4, .cons (h.mono (Same.refl _) fun b hb => ⟨upd_ne fun z => n3 b hb p hp z, (h.alive b hb).2⟩) h5⟩
end
def dForIdx (i j : Nat) (k : Int) (g : Int → Option Int) : Stm := fun ρ => match ρ[i]? with
  | some (.own ts) => if i = j then .stuck else (match putR j .no ρ, putLeaves k g ts with
    | some ρ1, some us => .ok (.nx (ρ1.set i (.own us)))
    | _, _ => .stuck)
  | _ => .stuck
theorem Vw.forget {c : Ct} {B : Base} {S H : Hp} {σ : L2.St} {ρ : Dl.Env} {O : List Addr} {i : Nat} {x : SV} (v : Vw c B S H σ ρ O) (e : ρ[i]? = some x) : ∃ O', Vw c B S H σ (ρ.set i .no) O' := by
  obtain ⟨A, o, q1, q2, q3, q4, q5⟩ := v.v.sl.at_ v.v.nd e
  obtain ⟨O', p1, p2, p3⟩ := q5 S H [] o .no (Same.refl _) (fun a ha _ => ⟨rfl, (v.v.sl.alive a ha).2⟩) .no List.nodup_nil (fun a ha ho => by cases ha)
  rw [List.set_same q1] at p1
  exact ⟨O', ⟨v.sub, p1, p2⟩, v.g, fun a ha => (p3 a ha).elim (fun z => by cases z) fun z => v.own a z.1, fun a ha => (p3 a ha).elim (fun z => by cases z) fun z => v.ni a z.1⟩
theorem ds_forIdx {X : Cx} {E : WS} {x r : Str} {k : Int} {jx : Nat} {e : Expr} {te : TE} {g : Int → Option Int} {pr px px2 pk ps pa pos : Pos} (i j : Nat) (hp : PassesOwn (model X.prog X.w) X.A X.env X.xe) (hc : X.calm = true) (hNd : X.N.Nodup) (he : PE X e te)
    (hte : ∀ σ H Q a ws j' n m, σ[j]? = some (some (.ref a)) → H a = some (.lst ws) → ixN ws.length k = some j' → ws[j']? = some (.int n) → g n = some m → Q (.int m) H → te σ H Q)
    (hN : X.N[i]? = some x := by rfl) (hv : Vis X.env.scope x := by first | exact Or.inl rfl | exact Or.inr (Or.inl rfl) | exact Or.inr (Or.inr rfl)) (hd : (x == ("__debug__" : Str)) = false := by decide) (hcd : (x == ("__classdict__" : Str)) = false := by decide)
    (hNr : X.N[j]? = some r := by rfl) (hvr : Vis X.env.scope r := by first | exact Or.inl rfl | exact Or.inr (Or.inl rfl) | exact Or.inr (Or.inr rfl)) (hlr : Loc X.env.scope r := by first | exact Or.inl rfl | exact Or.inr rfl)
    (hfr : X.fn r = true ∨ X.env.scope.names.lookup r = some .local := by first | exact .inl rfl | exact .inr rfl) (hdr : (r == ("__debug__" : Str)) = false := by decide) (hcdr : (r == ("__classdict__" : Str)) = false := by decide)
    (ha : ∀ v, assign (.Subscript (.Name r px2) (.Constant (.int k) jx pk) ps) X.env v = (do
      let ov ← holding [v] (eval (.Name r px2) X.env)
      let iv ← holding [v, ov] (eval (.Constant (.int k) jx pk) X.env)
      standAt ps
      holding [v, ov, iv] (setItem ov iv v)
      release [v, ov, iv] []) := by intro _; rfl)
    (hs : swapsWithSole [.Subscript (.Name r px2) (.Constant (.int k) jx pk) ps] e pa.line X.env = pure false := by rfl) (hw : swappedStores [.Subscript (.Name r px2) (.Constant (.int k) jx pk) ps] e X.env = pure none := by rfl)
    (h1 : (assignEach [.Subscript (.Name r px2) (.Constant (.int k) jx pk) ps] X.env).map (·.2) = [assign (.Subscript (.Name r px2) (.Constant (.int k) jx pk) ps) X.env] := by rfl)
    (hfs : ∀ y, foldedSetIterable (.Name x px) X.env y = pure y := by intro _; rfl) :
    DS X E (.For (.Name r pr) (.Name x px) [.Assign [.Subscript (.Name r px2) (.Constant (.int k) jx pk) ps] e pa] [] pos) (dForIdx i j k g) := by
  have hb := pss_one (ps_asg he (pg_sub (pe_var (i := j) hNr hvr hdr hcdr) pe_int set_list ha) hs hw h1)
  refine ps_imp (ps_for hp hc (pi_list (pe_var (i := i) hN hv hd hcd)) (pg_name (i := j) hNd hNr hlr hfr) hb hfs) fun D σ H h => ?_
  obtain ⟨B, S, ρ, O, V, h⟩ := h
  unfold dForIdx at h
  cases q : ρ[i]? with
  | none => rw [q] at h; exact h.elim
  | some y =>
    rw [q] at h
    cases y with
    | own ts =>
      simp only at h
      split at h
      · exact h.elim
      · rename_i hij
        cases q1 : putR j .no ρ with
        | none => rw [q1] at h; exact h.elim
        | some ρ1 =>
          cases q2 : putLeaves k g ts with
          | none => rw [q1, q2] at h; exact h.elim
          | some us =>
            rw [q1, q2] at h
            simp only at h
            obtain ⟨yj, ej, rfl⟩ := putR_some q1
            obtain ⟨A, o, e1, r1, n1, s1, _⟩ := V.v.sl.at_ V.v.nd q
            cases r1 with
            | @own _ v _ r1 =>
              cases r1 with
              | @node a A0 vs _ hla na rs =>
                have hl := rs.length
                have hul := putLeaves_len q2
                refine ⟨_, e1, a, rfl, ⟨vs, SqL.of hla⟩, ?_⟩
                obtain ⟨O1, V1⟩ := V.forget ej
                have qi : (ρ.set j .no)[i]? = some (.own ts) := by
                  rw [List.getElem?_set_ne (fun z => hij z.symm)]
                  exact q
                have hjl : j < ρ.length := (List.getElem?_eq_some_iff.mp ej).1
                have hil : i < ρ.length := (List.getElem?_eq_some_iff.mp q).1
                refine ⟨fun n m σ' H' => m = ts.length - n ∧ n ≤ ts.length ∧ H' a = some (.lst vs) ∧ σ'[i]? = some (some (.ref a)) ∧ ∃ O', Vw (ctOf X) B S H' σ' ((ρ.set j .no).set i (.own (us.take n ++ ts.drop n))) O', ⟨ts.length, by simp, Nat.zero_le _, hla, e1, O1, ?_⟩, ?_⟩
                · rw [List.take_zero, List.drop_zero, List.nil_append, List.set_same qi]
                  exact V1
                · rintro n m σ2 H2 ⟨rfl, hn, hla2, e12, O2, V2⟩
                  by_cases hlt : n < ts.length
                  · refine .inr ⟨⟨vs, vs[n]'(by omega), SqL.of hla2, List.getElem?_eq_getElem (by omega)⟩, fun σ' H' => (n + 1 ≤ ts.length ∧ H' a = some (.lst vs) ∧ σ'[i]? = some (some (.ref a)) ∧ ∃ O', Vw (ctOf X) B S H' σ' ((ρ.set j .no).set i (.own (us.take (n + 1) ++ ts.drop (n + 1)))) O'), fun σ' H' z => ⟨ts.length - (n + 1), by omega, rfl, z⟩, fun w H3 yl => ?_⟩
                    obtain ⟨rfl, yl⟩ := yl
                    have hw := yl vs (SqL.of hla2)
                    -- the slot of the loop's name
                    have ej2 : ((ρ.set j .no).set i (.own (us.take n ++ ts.drop n)))[j]? = some .no := by
                      rw [List.getElem?_set_ne hij, List.getElem?_set_self hjl]
                    obtain ⟨O3, V3⟩ := V2.put (v' := w) (x' := .no) (A' := []) ej2 .no List.nodup_nil (fun _ z => by cases z) (fun _ z => by cases z) (fun _ z => by cases z)
                    rw [List.set_same ej2] at V3
                    have ei2 : ((ρ.set j .no).set i (.own (us.take n ++ ts.drop n)))[i]? = some (.own (us.take n ++ ts.drop n)) := by
                      rw [List.getElem?_set_self (by rw [List.length_set]; exact hil)]
                    have s3i : (σ2.set j (some w))[i]? = some (some (.ref a)) := by
                      rw [List.getElem?_set_ne (fun z => hij z.symm)]
                      exact e12
                    have hjσ : j < σ2.length := by
                      rw [V2.v.sl.length, List.length_set, List.length_set]
                      exact hjl
                    obtain ⟨A3, o3, e3, r3, n3, m3, _⟩ := V3.v.sl.at_ V3.v.nd ei2
                    rw [s3i] at e3
                    cases e3
                    cases r3 with
                    | @own _ _ _ r3 =>
                      cases r3 with
                      | @node _ A4 vs4 _ hla4 na4 rs4 =>
                        rw [hla2] at hla4
                        cases hla4
                        have n4 := List.nodup_cons.mp n3
                        have hln : (us.take n ++ ts.drop n)[n]? = ts[n]? := by
                          rw [List.getElem?_append_right (by simp; omega), List.getElem?_drop]
                          congr 1
                          simp
                          omega
                        obtain ⟨u, hu, hpl⟩ := putLeaves_get q2 (List.getElem?_eq_getElem hlt)
                        obtain ⟨p, ws, j', n', m', g1, g2, g3, g4, g5, g6, g7⟩ := rs4.setLeaf (i := n) (t := ts[n]) n4.2 (by rw [hln]; exact List.getElem?_eq_getElem hlt) hpl
                        have ew : w = .ref p := by
                          rw [hw] at g1
                          cases g1
                          rfl
                        subst ew
                        refine hte _ _ _ p ws j' n' m' (by rw [List.getElem?_set_self hjσ]) g3 g4 g5 g6 ?_
                        refine ⟨_, by rw [List.getElem?_set_self hjσ], p, ws, k, j', rfl, rfl, g3, g4, ?_⟩
                        have pa : p ≠ a := fun z => n4.1 (z ▸ g2)
                        have et : us.take (n + 1) ++ ts.drop (n + 1) = (us.take n ++ ts.drop n).set n u := by
                          rw [List.take_add_one, hu, List.set_append_right _ _ (by rw [List.length_take]; omega), List.append_assoc]
                          congr 1
                          have e0 : n - (us.take n).length = 0 := by simp; omega
                          rw [e0, List.drop_eq_getElem_cons hlt]
                          rfl
                        obtain ⟨O5, V5⟩ := V3.write (H2 := upd H3 p (.lst (ws.set j' (.int m')))) (x' := .own (us.take (n + 1) ++ ts.drop (n + 1))) ei2 s3i fun A6 r6 n6 s6 => by
                          cases r6 with
                          | own r6 =>
                            cases r6 with
                            | @node _ A7 vs7 _ h7 na7 rs7 =>
                              rw [hla2] at h7
                              cases h7
                              have n7 := List.nodup_cons.mp n6
                              obtain ⟨p', ws', j'', n'', m'', k1, k2, k3, k4, k5, k6, k7⟩ := rs7.setLeaf (i := n) (t := ts[n]) n7.2 (by rw [hln]; exact List.getElem?_eq_getElem hlt) hpl
                              rw [g1] at k1
                              cases k1
                              rw [g3] at k3
                              cases k3
                              rw [g4] at k4
                              cases k4
                              rw [g5] at k5
                              cases k5
                              rw [g6] at k6
                              cases k6
                              refine ⟨a :: A7, .own (.node (by rw [upd_ne (Ne.symm pa)]; exact hla2) na7 (by rw [et]; exact k7)), n6, fun b hb => .inl hb, fun b hb ob eb => ?_, fun b hx hb => ?_, fun b hb C' dx' vf' eb => ?_⟩
                              · rw [upd_ne fun z => hb (by rw [z]; exact List.mem_cons_of_mem _ k2)]
                                exact eb
                              · obtain ⟨C', dx', vf', y⟩ := V3.g.exs b hx
                                have al := (V3.v.sl.alive b (s6 b hb)).1
                                rcases List.mem_cons.mp hb with z | hb
                                · rw [z, hla2] at y
                                  cases y
                                · obtain ⟨⟨_, eo⟩, _⟩ := rs7.alive b hb
                                  rw [eo] at y
                                  cases y
                              · rcases List.mem_cons.mp hb with z | hb
                                · rw [z, upd_ne (Ne.symm pa), hla2] at eb
                                  cases eb
                                · obtain ⟨⟨_, eo⟩, _⟩ := k7.alive b hb
                                  rw [eo] at eb
                                  cases eb
                        rw [List.set_set] at V5
                        exact ⟨by omega, by rw [upd_ne (Ne.symm pa)]; exact hla2, s3i, O5, V5⟩
                  · have hnn : n = ts.length := by omega
                    subst hnn
                    refine .inl ⟨⟨vs, SqL.of hla2, by omega⟩, ?_⟩
                    rw [List.take_of_length_le (by omega), List.drop_length, List.append_nil] at V2
                    exact h S H2 σ2 O2 V2
    | no => exact h.elim
    | sh d => exact h.elim
    | lk ts => exact h.elim
    | mk C fs => exact h.elim
    | dic kvs => exact h.elim
    | xc z => exact h.elim

/-! ### what is walked: a list or a tuple -/
def iAny (K : PySem.W.Frag) (tl : TE) : TI := fun σ H R => tl σ H fun x H1 => ∃ a, x = .ref a ∧ (((∃ xs, SqL K H1 a xs) ∧ R (Itl K a) H1) ∨ ((∃ xs, SqT K H1 a xs) ∧ R (Itt K a) H1))
theorem pi_any {X : Cx} {tg l : Expr} {tl : TE} (hl : PE X l tl) : PI X tg l (iAny X.K tl) := by
  refine ⟨fun pins s σ H R I h => ?_⟩
  refine thn (hl.run pins s σ H _ I h) fun v s1 ⟨x, H1, I1, r1, q1⟩ => ?_
  obtain ⟨a, e, q⟩ := q1
  subst e
  cases r1
  rcases q with ⟨⟨xs, hq⟩, q⟩ | ⟨⟨xs, hq⟩, q⟩
  · obtain ⟨its, rv, p, hz⟩ := I1.list hq
    refine wpAny_pyIter_list p.isList ?_
    refine ⟨s1.heap.objs.size, [s1.heap.objs.size], _, _, H1, rfl, I1.kept (t' := s1.toks) fun b o e => Heap.get?_push_of_some _ e, turn_list a _, ⟨_, Heap.get?_push_size _ rfl, rfl, rfl⟩, fun b hb => ?_, q⟩
    have e : b = s1.heap.objs.size := by simpa using hb
    subst e
    exact I1.fpOk (Nat.le_refl _) (I1.hok.fresh (Nat.le_refl _))
  · obtain ⟨its, rv, p, hz⟩ := I1.tuple hq
    refine wpAny_pyIter_tuple (show s1.heap.IsTuple a its.toArray from p) ?_
    refine ⟨s1.heap.objs.size, [s1.heap.objs.size], _, _, H1, rfl, I1.kept (t' := s1.toks) fun b o e => Heap.get?_push_of_some _ e, turn_tuple a _, ⟨_, Heap.get?_push_size _ rfl, rfl, rfl⟩, fun b hb => ?_, q⟩
    have e : b = s1.heap.objs.size := by simpa using hb
    subst e
    exact I1.fpOk (Nat.le_refl _) (I1.hok.fresh (Nat.le_refl _))
def walkA (x : EV) : Res (List D) := match x with
  | .sh (.lst ds) => .ok ds
  | .sh (.scr ns) => .ok (ns.map D.int)
  | .sh (.tup ds) => .ok ds
  | .fr ts => .ok (T.toDs ts)
  | _ => .stuck
def iA (f : Dl.Env → Res EV) : Itf := fun ρ => (f ρ).bind walkA
theorem di_any {X : Cx} {E : WS} {tg e : Expr} {f1 : Dl.Env → Res EV} (h : DE X E e f1) : DI X E tg e (iA f1) := by
  refine pi_imp (pi_any h) fun σ H R h => ?_
  obtain ⟨S, ρ, O, V, h⟩ := h
  refine ⟨S, ρ, O, V, PostW.fst h fun x e1 h1 S1 H1 A v g r nd fr => ?_⟩
  unfold walkA at h1
  split at h1
  · cases r with
    | sh r => cases r with
      | lst ha rr => exact ⟨_, rfl, .inl ⟨⟨_, SqL.of (g.sub _ _ ha)⟩, h1 S1 H1 _ g (itOk_list (fun H s => SqL.of (s _ _ ha)) (fun _ _ _ _ => trivial) rr)⟩⟩
  · cases r with
    | sh r => cases r with
      | scr ha => exact ⟨_, rfl, .inl ⟨⟨_, g.sub.seq ha⟩, h1 S1 H1 _ g (itOk_list (fun H s => s.seq ha) (fun _ _ _ _ => trivial) (reps_ints _))⟩⟩
  · cases r with
    | sh r => cases r with
      | tup ha rr => exact ⟨_, rfl, .inr ⟨⟨_, (ha.mono g.sub).sq⟩, h1 S1 H1 _ g (itOk_tup ha rr)⟩⟩
  · rename_i ts
    cases r with
    | fr r =>
      have nS : ∀ a ∈ A, S1 a = none := fun a ha => (r.alive a ha).2
      cases r with
      | @node a A0 vs _ ha na rs =>
        have rr : Reps _ (grab S1 H1 (a :: A0)) vs (T.toDs ts) := rs.grabbed (same_grab nS) fun u hu => grab_in (List.mem_cons_of_mem _ hu)
        exact ⟨_, rfl, .inl ⟨⟨_, SqL.of ha⟩, h1 (grab S1 H1 (a :: A0)) H1 _ (g.grab fr nS) (itOk_list (fun H s => SqL.of (s _ _ ((grab_in List.mem_cons_self).trans ha))) (fun _ _ _ _ => trivial) rr)⟩⟩
  · exact h1.elim

/-! ### room, calls within comprehensions -/
section
variable {X : Cx} {W : WX} {j k n : Nat} {f : Addr} {fd : FuncData} {ps : List Str} {F : List D → Res EV} {dvs : List V} {dds : List D} {ds : List Value}
theorem Lv.u65 (L : Lv X W k) : X.A.units + 65 < cLine := by have := L.room.un; omega
theorem Lv.u16 (L : Lv X W k) : X.A.units + 16 < cLine := by have := L.room.un; omega
theorem LvH.u65 (L : LvH X W k) : X.A.units + 65 < cLine := by have := L.room.un; omega
theorem Lv.callB (L : Lv X W k) {s : Shared} {H : Hp} {scope : Scope} {env : PySem.Env} {fp : List Addr} (G : FnOk X.prog X.w X.K X.mg X.base (L2N.CX X.prog X.w) j f fd ps (spD (ct0 X) n F)) (hj : j ≤ k)
    (hk : PySem.W.keepIn X.K (.ref f) = true) (hb : Binds X.K fd ps ds) (hd : Vals dvs ds) (hdd : ∀ c H, Reps c H dvs dds) : CallD (X.blk s H scope env fp) (fun _ => E0) f n F dds :=
  callD_ok (X := X.blk s H scope env fp) G (L.room.mono hj) hk hb hd hdd fun σ pins H s e s' I c => by
    obtain ⟨a, B, H', cls, d, rfl, fl, hok, ub, na, os, ag, hE⟩ := c
    exact hE.elim
end

/-! ### built-ins by name -/
/-- tuple(x); a new tuple is known to have no dict -/
theorem call_tupleF {X : Cx} : CallR X (.type "tuple") (fun xs H Q => ∃ p ys, xs = [.ref p] ∧ ((SqL X.K H p ys ∧ ∀ (l : Addr) (o : Obj), o.dict = none → H l = none → Q (.ref l) (upd H l (.frz o (.tup ys)))) ∨ (SqT X.K H p ys ∧ Q (.ref p) H))) := by
  intro pins s σ H xs us Q I r h
  obtain ⟨p, ys, rfl, h⟩ := h
  rcases h with ⟨hq, q⟩ | ⟨hq, q⟩
  · obtain ⟨u, rfl, rx⟩ := vals1 r
    obtain rfl : u = Value.ref p := rx
    obtain ⟨vs, rv, pl, hz⟩ := I.list hq
    have same := rv.length
    refine call_tuple_list pl.isList (fun h' kp => ?_) (by simp only [List.size_toArray]; omega)
    have I1 : Inv X pins σ H { s with heap := h' } := I.kept (t' := s.toks) kp
    have fresh := I1.hok.fresh (Nat.le_refl h'.objs.size)
    exact ⟨.ref h'.objs.size, _, I1.laid (t' := s.toks) (o := .frz _ (.tup ys)) (fun _ _ e => Heap.get?_push_of_some _ e) (Nat.le_refl _) ⟨Heap.get?_push_size _ rfl, hz, vs, rv, IsTup.new _ _⟩, rfl, q _ _ rfl fresh⟩
  · exact call_tuple_of pins s σ H _ us Q I r ⟨p, ys, rfl, .inr ⟨hq, q⟩⟩
section
variable {X : Cx} {E : WS} {p pos : Pos} {e : Expr} {es : List Expr} {fs : Dl.Env → Res (List EV)}
theorem de_len (hm : X.mg "len" = none) (ha : DA X E (e :: es) fs) (hg : Gl X "len" := by rfl) (he : starEach (e :: es) X.env = (false, eval e X.env) :: starEach es X.env := by rfl) (hpl : (backTo pos (starEach es X.env)).any (·.1) = false := by rfl) :
    DE X E (.Call (.Name "len" p) (e :: es) [] pos) (dC1 gLen fs) := de_callB call_len s_len hg hm PyProof.Rows.Boot.len ha (by decide) (by decide) he hpl
theorem de_isi (hm : X.mg "isinstance" = none) (ha : DA X E (e :: es) fs) (hg : Gl X "isinstance" := by rfl) (he : starEach (e :: es) X.env = (false, eval e X.env) :: starEach es X.env := by rfl) (hpl : (backTo pos (starEach es X.env)).any (·.1) = false := by rfl) :
    DE X E (.Call (.Name "isinstance" p) (e :: es) [] pos) (dC1 gIsi fs) := de_callB call_isiAll s_isi hg hm PyProof.Rows.Boot.isinstance ha (by decide) (by decide) he hpl
theorem de_intC (hm : X.mg "int" = none) (ha : DA X E (e :: es) fs) (hg : Gl X "int" := by rfl) (he : starEach (e :: es) X.env = (false, eval e X.env) :: starEach es X.env := by rfl) (hpl : (backTo pos (starEach es X.env)).any (·.1) = false := by rfl) :
    DE X E (.Call (.Name "int" p) (e :: es) [] pos) (dC1 gInt fs) := de_callTy call_int1 s_int hg hm PyProof.Rows.Boot.int ha (by decide) (by decide) he hpl
theorem de_listC (hm : X.mg "list" = none) (ha : DA X E (e :: es) fs) (hg : Gl X "list" := by rfl) (he : starEach (e :: es) X.env = (false, eval e X.env) :: starEach es X.env := by rfl) (hpl : (backTo pos (starEach es X.env)).any (·.1) = false := by rfl) :
    DE X E (.Call (.Name "list" p) (e :: es) [] pos) (dC1 gList fs) := de_callTy call_list_of s_list hg hm PyProof.Rows.Boot.list ha (by decide) (by decide) he hpl
theorem de_tupleC (hm : X.mg "tuple" = none) (ha : DA X E (e :: es) fs) (hg : Gl X "tuple" := by rfl) (he : starEach (e :: es) X.env = (false, eval e X.env) :: starEach es X.env := by rfl) (hpl : (backTo pos (starEach es X.env)).any (·.1) = false := by rfl) :
    DE X E (.Call (.Name "tuple" p) (e :: es) [] pos) (dC1 gTuple fs) := de_callTy call_tupleF s_tuple hg hm PyProof.Rows.Boot.tuple ha (by decide) (by decide) he hpl
theorem bt_int : bootBuiltins "int" = some (.type "int") := PyProof.Rows.Boot.int
theorem bt_str : bootBuiltins "str" = some (.type "str") := PyProof.Rows.Boot.str
theorem bt_bool : bootBuiltins "bool" = some (.type "bool") := PyProof.Rows.Boot.bool
theorem bt_list : bootBuiltins "list" = some (.type "list") := PyProof.Rows.Boot.list
theorem bt_tuple : bootBuiltins "tuple" = some (.type "tuple") := PyProof.Rows.Boot.tuple
theorem bt_ve : bootBuiltins "ValueError" = some (.type "ValueError") := PyProof.Rows.Boot.«ValueError»
end

def dNeg (f : Dl.Env → Res EV) : Dl.Env → Res EV := fun ρ => (f ρ).bind fun x => match x with
  | .sh (.int i) => .ok (.sh (.int (-i)))
  | _ => .stuck
theorem de_neg {X : Cx} {E : WS} {e : Expr} {f : Dl.Env → Res EV} {pos : Pos} (h : DE X E e f) : DE X E (.UnaryOp .USub e pos) (dNeg f) := by
  refine pe_imp (pe_un un_neg h) fun σ H Q h => ?_
  obtain ⟨S, ρ, O, V, h⟩ := h
  refine ⟨S, ρ, O, V, Post.fst h fun x e1 h1 S1 H1 A v g r nd fr => ?_⟩
  split at h1
  · cases r with
    | sh r => cases r with
      | int _ => exact ⟨_, rfl, Post.sh h1 g (.int _)⟩
  · exact h1.elim
/-- c - r[k], r an element of the list that is walked -/
def tSubE (c : Int) (j : Nat) (k : Int) : TE := fun σ H Q => ∃ a ws j' n, σ[j]? = some (some (V.ref a)) ∧ H a = some (.lst ws) ∧ ixN ws.length k = some j' ∧ ws[j']? = some (.int n) ∧ Q (.int (c - n)) H
theorem pe_subE {X : Cx} {r : Str} {pr p1 p2 p3 pos : Pos} {j1 j2 : Nat} (j : Nat) (c k : Int) (hN : X.N[j]? = some r := by rfl) (hv : Vis X.env.scope r := by first | exact Or.inl rfl | exact Or.inr (Or.inl rfl) | exact Or.inr (Or.inr rfl)) (hd : (r == ("__debug__" : Str)) = false := by decide)
    (hcd : (r == ("__classdict__" : Str)) = false := by decide) (hp : PlainIx (.Constant (.int k) j2 p2) := by intro _ _; rfl) : PE X (.BinOp (.Constant (.int c) j1 p1) .Sub (.Subscript (.Name r pr) (.Constant (.int k) j2 p2) p3) pos) (tSubE c j k) := by
  refine pe_imp (pe_op op_sub pe_int (pe_ix ix_list (pe_var (i := j) hN hv hd hcd) pe_int hp)) fun σ H Q h => ?_
  obtain ⟨a, ws, j', n, e1, e2, e3, e4, q⟩ := h
  refine ⟨.ref a, e1, a, ws, k, .int n, rfl, rfl, SqL.of e2, ?_, c, n, rfl, rfl, q⟩
  unfold atI
  rw [e3]
  exact e4
theorem hte_subE (j : Nat) (c k : Int) : ∀ (σ : L2.St) (H : Hp) (Q : VK) (a : Addr) (ws : List L2.V) (j' : Nat) (n m : Int), σ[j]? = some (some (V.ref a)) → H a = some (.lst ws) → ixN ws.length k = some j' → ws[j']? = some (.int n) → (fun n => some (c - n)) n = some m → Q (.int m) H → tSubE c j k σ H Q :=
  fun σ H Q a ws j' n m h1 h2 h3 h4 h5 h6 => ⟨a, ws, j', n, h1, h2, h3, h4, by cases h5; exact h6⟩

/-! ### x[i] = e, x a list that a slot owns -/
theorem Owns.set {c : Ct} {S H : Hp} {v : V} {t : T} {C : List Addr} (h : Own c S H C v t) : ∀ {A : List Addr} {vs : List V} {ts : List T} {j : Nat}, Owns c S H A vs ts → A.Nodup → C.Nodup → (∀ a ∈ A, a ∉ C) → j < ts.length →
    ∃ A', Owns c S H A' (vs.set j v) (ts.set j t) ∧ A'.Nodup ∧ ∀ a ∈ A', a ∈ A ∨ a ∈ C
  | _, _, _, _, .nil, _, _, _, hj => by simp at hj
  | _, _, _, 0, .cons (A := A) (B := B) h0 r, nd, ndC, dj, _ => by
    obtain ⟨n1, n2, n3⟩ := List.nodup_append.mp nd
    refine ⟨C ++ B, .cons h r, List.nodup_append.mpr ⟨ndC, n2, fun a ha b hb e => ?_⟩, fun a ha => (List.mem_append.mp ha).elim .inr fun z => .inl (List.mem_append_right _ z)⟩
    subst e
    exact dj a (List.mem_append_right _ hb) ha
  | _, _, _, j + 1, .cons (A := A) (B := B) h0 r, nd, ndC, dj, hj => by
    obtain ⟨n1, n2, n3⟩ := List.nodup_append.mp nd
    obtain ⟨A', q1, q2, q3⟩ := Owns.set h (j := j) r n2 ndC (fun a ha => dj a (List.mem_append_right _ ha)) (by simpa using hj)
    refine ⟨A ++ A', .cons h0 q1, List.nodup_append.mpr ⟨n1, q2, fun a ha b hb e => ?_⟩, fun a ha => ?_⟩
    · subst e
      rcases q3 a hb with z | z
      · exact n3 a ha a z rfl
      · exact dj a (List.mem_append_left _ ha) z
    · rcases List.mem_append.mp ha with z | z
      · exact .inl (List.mem_append_left _ z)
      · exact (q3 a z).imp (List.mem_append_right _) id
def dLPut (i : Nat) (fk fv : Dl.Env → Res EV) : Stm := fun ρ => (fv ρ).at ρ fun x => match ρ[i]?, x.t? with
  | some (.own ts), some t => (fk ρ).at ρ fun y => (match y with
    | .sh (.int k) => (match ixN ts.length k with
      | some j => .ok (.nx (ρ.set i (.own (ts.set j t))))
      | none => .stuck)
    | _ => .stuck)
  | _, _ => .stuck
theorem ds_lput {X : Cx} {E : WS} {x : Str} {ei ev : Expr} {p1 ps pa : Pos} {fk fv : Dl.Env → Res EV} (i : Nat) (hi : DE X E ei fk) (hv : DE X E ev fv)
    (hN : X.N[i]? = some x := by rfl) (hvx : Vis X.env.scope x := by first | exact Or.inl rfl | exact Or.inr (Or.inl rfl) | exact Or.inr (Or.inr rfl)) (hd : (x == ("__debug__" : Str)) = false := by decide) (hcd : (x == ("__classdict__" : Str)) = false := by decide)
    (ha : ∀ v, assign (.Subscript (.Name x p1) ei ps) X.env v = (do
      let ov ← holding [v] (eval (.Name x p1) X.env)
      let iv ← holding [v, ov] (eval ei X.env)
      standAt ps
      holding [v, ov, iv] (setItem ov iv v)
      release [v, ov, iv] []) := by intro _; rfl)
    (hs : swapsWithSole [.Subscript (.Name x p1) ei ps] ev pa.line X.env = pure false := by rfl) (hw : swappedStores [.Subscript (.Name x p1) ei ps] ev X.env = pure none := by rfl)
    (h1 : (assignEach [.Subscript (.Name x p1) ei ps] X.env).map (·.2) = [assign (.Subscript (.Name x p1) ei ps) X.env] := by rfl) :
    DS X E (.Assign [.Subscript (.Name x p1) ei ps] ev pa) (dLPut i fk fv) := by
  refine ps_imp (ps_asg hv (pg_sub (pe_var (i := i) hN hvx hd hcd) hi set_list ha) hs hw h1) fun D σ H h => ?_
  obtain ⟨B, S, ρ, O, V, h⟩ := h
  refine ⟨S, ρ, O, V.v, postS.fst h V fun w e1 h1 S1 H1 A v g r nd fr => ?_⟩
  have V1 := V.gr g
  cases q : ρ[i]? with
  | none => rw [q] at h1; exact h1.elim
  | some y =>
    rw [q] at h1
    cases y with
    | own ts =>
      cases q5 : w.t? with
      | none => rw [q5] at h1; exact h1.elim
      | some t =>
        simp only [q5] at h1
        obtain ⟨A0, o0, q1, q2, q3, q4, _⟩ := V1.v.sl.at_ V1.v.nd q
        cases q2 with
        | own r2 =>
          cases r2 with
          | @node a A1 vs _ hla na rs =>
            refine ⟨_, q1, S1, ρ, O, V1.v, postS.fst h1 V1 fun y e2 h2 S2 H2 C u g2 r3 nd2 fr2 => ?_⟩
            have V2 := V1.gr g2
            split at h2
            · rename_i k
              have ek : u = .int k := by
                cases r3 with
                | sh r3 => cases r3; rfl
              subst ek
              cases q6 : ixN ts.length k with
              | none => rw [q6] at h2; exact h2.elim
              | some j =>
                rw [q6] at h2
                simp only at h2
                have hl := rs.length
                have hla2 := g2.hh _ _ hla
                have hj : j < ts.length := (ixN_seq q6).2.1
                refine ⟨a, vs, k, j, rfl, rfl, hla2, by rw [hl]; exact q6, ?_⟩
                have ot : Own (ctOf X) S2 H2 A v t := g2.own (ev_tree r q5)
                have frA : ∀ b ∈ A, B.H b = none := V.fresh fr
                obtain ⟨O', V'⟩ := V2.write (H2 := upd H2 a (.lst (vs.set j v))) (x' := .own (ts.set j t)) q q1 fun A2 r6 n6 s6 => by
                  cases r6 with
                  | own r6 =>
                    cases r6 with
                    | @node _ A3 vs3 _ h7 na7 rs7 =>
                      rw [hla2] at h7
                      cases h7
                      have n7 := List.nodup_cons.mp n6
                      have aA : a ∉ A := fun z => by
                        have y := fr a z
                        have := (V.v.sl.alive a (s6 a List.mem_cons_self)).1
                        obtain ⟨ob, eo⟩ := this
                        rw [y] at eo
                        cases eo
                      have dj : ∀ b ∈ A3, b ∉ A := fun b hb hc => by
                        have y := fr b hc
                        obtain ⟨⟨_, eo⟩, _⟩ := V.v.sl.alive b (s6 b (List.mem_cons_of_mem _ hb))
                        rw [y] at eo
                        cases eo
                      have k1 : Keeps A3 S2 H2 (upd H2 a (.lst (vs.set j v))) := fun b hb => ⟨upd_ne fun z => n7.1 (z ▸ hb), (rs7.alive b hb).2⟩
                      have k2 : Keeps A S2 H2 (upd H2 a (.lst (vs.set j v))) := fun b hb => ⟨upd_ne fun z => aA (z ▸ hb), (ot.alive b hb).2⟩
                      obtain ⟨A', z1, z2, z3⟩ := Owns.set (ot.mono (Same.refl _) k2) (rs7.mono (Same.refl _) k1) n7.2 nd dj hj
                      refine ⟨a :: A', .own (.node upd_same na7 z1), List.nodup_cons.mpr ⟨fun z => (z3 a z).elim n7.1 aA, z2⟩, fun b hb => ?_, fun b hb ob eb => ?_, fun b hx hb => ?_, fun b hb C' dx' vf' eb => ?_⟩
                      · rcases List.mem_cons.mp hb with z | z
                        · exact .inl (z ▸ List.mem_cons_self)
                        · rcases z3 b z with z | z
                          · exact .inl (List.mem_cons_of_mem _ z)
                          · refine .inr ⟨fun ho => ?_, frA b z⟩
                            obtain ⟨⟨_, eo⟩, _⟩ := V.v.sl.alive b ho
                            rw [fr b z] at eo
                            cases eo
                      · rw [upd_ne fun z => hb (by rw [z]; exact List.mem_cons_self)]
                        exact eb
                      · obtain ⟨C', dx', vf', y⟩ := V2.g.exs b hx
                        rcases List.mem_cons.mp hb with z | hb
                        · rw [z, hla2] at y
                          cases y
                        · obtain ⟨⟨_, eo⟩, _⟩ := rs7.alive b hb
                          rw [eo] at y
                          cases y
                      · rcases List.mem_cons.mp hb with z | hb
                        · rw [z, upd_same] at eb
                          cases eb
                        · obtain ⟨⟨_, eo⟩, _⟩ := z1.alive b hb
                          rw [eo] at eb
                          cases eb
                exact h2 S2 _ σ O' V'
            · exact h2.elim
    | no => exact h1.elim
    | sh d => exact h1.elim
    | lk ts => exact h1.elim
    | mk C fs => exact h1.elim
    | dic kvs => exact h1.elim
    | xc z => exact h1.elim
end Dl
set_option Elab.async false
set_option linter.all false
set_option maxRecDepth 100000
/-! DL14: the head's facts: defs anywhere, checks. -/
namespace Dl
open PySem PySem.Spec PyProof.Rows L2

theorem clOf_mg {mg : Str → Option Value} {x : Str} {a : Addr} (h : mg x = some (.ref a)) : mg x = some (.ref (clOf mg x)) := by
  unfold clOf
  rw [h]
theorem clOf_eq {mg : Str → Option Value} {x : Str} {a : Addr} (h : mg x = some (.ref a)) : clOf mg x = a := by
  unfold clOf
  rw [h]
/-- a def at an address of the fragment -/
structure DefA where
  ad : PySem.W.Frag → Addr
  name : Str
  qual : Str
  params : Arguments
  body : List Stmt
  scope : Scope
  dfl : List He.Dv
def fnA (K : PySem.W.Frag) (a : Addr) : He.FnW := match K.lookup a with
  | some ⟨_, _, .func fd, _⟩ => some (fd.name, fd.qualname, fd.params, fd.body, fd.scope, fd.globals, fd.closure, fd.builtins)
  | _ => none
def DefA.val (d : DefA) : He.FnW := some (d.name, d.qual, d.params, .stmts d.body, d.scope, mainGlobals, [], builtinsNs)
def DefA.dvs (K : PySem.W.Frag) (d : DefA) : List V := d.dfl.map (He.Dv.v K)
def DefA.ok (K : PySem.W.Frag) (d : DefA) : Bool := PySem.W.keepIn K (.ref (d.ad K)) && (match K.lookup (d.ad K) with
  | some ⟨_, _, .func fd, _⟩ => PySem.W.codeIn K fd.code d.qual && (He.dflB K fd.defaults (d.dvs K) && He.kwdB K fd.kwdefaults [])
  | _ => false)
theorem DefA.funD {K : PySem.W.Frag} {d : DefA} (e : fnA K (d.ad K) = d.val) (c : d.ok K = true) : ∃ fd, FunD K d.name d.qual d.params d.body d.scope (d.dvs K) [] (d.ad K) fd := by
  obtain ⟨kp, c2⟩ := He.ba c
  unfold fnA at e
  cases q : K.lookup (d.ad K) with
  | none =>
    rw [q] at c2
    cases c2
  | some o =>
    obtain ⟨oc, od, dt, osl⟩ := o
    rw [q] at c2 e
    cases dt with
    | func fd =>
      obtain ⟨n1, n2, n3, n4, n5, n6, n7, n8, n9, n10, n11, n12, n13, n14, n15⟩ := fd
      have e2 : (some (n1, n2, n3, n4, n5, n6, n7, n15) : He.FnW) = some (d.name, d.qual, d.params, .stmts d.body, d.scope, mainGlobals, [], builtinsNs) := e
      simp only [Option.some.injEq, Prod.mk.injEq] at e2
      obtain ⟨h1, h2, h3, h4, h5, h6, h7, h8⟩ := e2
      subst h1 h2 h3 h4 h5 h6 h7 h8
      have c3 : (PySem.W.codeIn K n13 d.qual && (He.dflB K n8 (d.dvs K) && He.kwdB K n9 [])) = true := c2
      obtain ⟨k1, k2⟩ := He.ba c3
      obtain ⟨k3, k4⟩ := He.ba k2
      exact ⟨_, ⟨oc, od, n8, n9, n10, n11, n12, n13, n14, osl, rfl, q, k1, He.dflB_ok k3, He.kwdB_ok k4⟩, kp⟩
    | _ => cases c2
/-! ### the Hook -/
def obsM (fa : List (PySem.W.Frag → Bool)) (fn : List DefA) (K : PySem.W.Frag) : He.AlD := ((fa.all fun f => f K) && fn.all fun d => d.ok K, fn.map fun d => fnA K (d.ad K))
def valM (fn : List DefA) : He.AlD := (true, fn.map DefA.val)
def SaysM (fa : List (PySem.W.Frag → Bool)) (fn : List DefA) (K : PySem.W.Frag) : Prop := obsM fa fn K = valM fn
def asM (g : Addr → Option Obj) : Nat → List Addr
  | 0 => [mainGlobals, cStatics]
  | n + 1 => He.growD g (asM g n)
def obsMG (n : Nat) (fa : List (PySem.W.Frag → Bool)) (fn : List DefA) (g : Addr → Option Obj) : He.AlD := obsM fa fn (He.frG g (asM g n))
def hookM (n : Nat) (fa : List (PySem.W.Frag → Bool)) (fn : List DefA) : PySem.W.Hook where
  α := He.AlD
  obs := fun s => obsMG n fa fn s.heap.get?
  val := fun _ => valM fn
  says := fun _ h => ∃ K : PySem.W.Frag, K.In h ∧ SaysM fa fn K
  of := fun _ _ e => ⟨_, He.frG_in, e⟩
  keeps := fun _ _ _ ⟨K, hK, c⟩ k => ⟨K, PySem.W.Frag.In.keeps hK k, c⟩
theorem obsMG_eq {n : Nat} {fa : List (PySem.W.Frag → Bool)} {fn : List DefA} {g : Addr → Option Obj} {s : Shared} (h : ∀ a, g a = s.heap.get? a) : obsMG n fa fn g = (hookM n fa fn).obs s := by
  have e : g = s.heap.get? := funext h
  rw [e] <;> rfl
section
variable {fa : List (PySem.W.Frag → Bool)} {fn : List DefA} {K : PySem.W.Frag}
theorem SaysM.fact (c : SaysM fa fn K) (i : Nat) {f : PySem.W.Frag → Bool} (h : fa[i]? = some f := by rfl) : f K = true := by
  have c1 := (He.ba (show ((fa.all fun f => f K) && fn.all fun d => d.ok K) = true from congrArg (fun z : He.AlD => z.1) c)).1
  exact List.all_eq_true.mp c1 f (List.mem_of_getElem? h)
theorem SaysM.def_ (c : SaysM fa fn K) (i : Nat) {d : DefA} (h : fn[i]? = some d := by rfl) : ∃ fd, FunD K d.name d.qual d.params d.body d.scope (d.dvs K) [] (d.ad K) fd := by
  have c2 := (He.ba (show ((fa.all fun f => f K) && fn.all fun d => d.ok K) = true from congrArg (fun z : He.AlD => z.1) c)).2
  have e : fn.map (fun d => fnA K (d.ad K)) = fn.map DefA.val := congrArg (fun z : He.AlD => z.2) c
  have e2 : (fn.map fun d => fnA K (d.ad K))[i]? = (fn.map DefA.val)[i]? := by rw [e]
  rw [List.getElem?_map, List.getElem?_map, h] at e2
  exact DefA.funD (Option.some.inj e2) (List.all_eq_true.mp c2 d (List.mem_of_getElem? h))
end
/-! ### checks -/
section
variable {K : PySem.W.Frag} {C D : Addr} {m f : Str} {g p : Addr}
def coB (K : PySem.W.Frag) (C g : Addr) : Bool := He.eqO (PySem.W.findIn K (.ref C) "__call__") (some (some (.ref g))) && (PySem.W.isFn K (.ref g) && PySem.W.fnIn K g)
theorem coB_ok (h : coB K C g = true) : StX.CallO K C g := by
  obtain ⟨h1, h⟩ := He.ba h
  obtain ⟨h2, h3⟩ := He.ba h
  exact ⟨He.eqO_ok h1, h2, h3⟩
def stB (K : PySem.W.Frag) (C : Addr) (m : Str) : Bool := PySem.W.readsIn K C (.type "type") && (He.eqO (PySem.W.specialIn K (.ref C) "__getattribute__") (some (some (.builtin "type.__getattribute__"))) && (decide (PySem.W.typeIn K (.ref C) = some (.type "type")) && He5.wrapB K C "staticmethod" "staticmethod.__get__" m))
theorem stB_ok (h : stB K C m = true) : StM K C m (He.ma K C m) (He5.wf K C "staticmethod" m) := by
  obtain ⟨h1, h⟩ := He.ba h
  obtain ⟨h2, h⟩ := He.ba h
  obtain ⟨h3, h4⟩ := He.ba h
  obtain ⟨k1, k2⟩ := He5.wrapB_ok h4
  exact ⟨h1, He.eqO_ok h2, k1, k2, of_decide_eq_true h3⟩
def oxB (K : PySem.W.Frag) (C : Addr) : Bool := (match K.lookup C with
  | some ⟨.type "type", _, .cls cd, sl⟩ => (match cd.mro, sl.toList with
    | .ref C' :: bm, [_, _, _, _, some (.builtin n), _] => C' == C && n == "ValueError.__new__" && !cd.hasDel && cd.hasDict && PySem.HandSPX.refsVE bm
    | _, _ => false)
  | _ => false) && (He.eqO (PySem.W.findIn K (.ref C) "__setattr__") (some (some (.builtin "object.__setattr__"))) && (decide (PySem.W.subIn K (.ref C) (.type "BaseException") = some true) && (decide (PySem.W.typeIn K (.ref C) = some (.type "type")) && PySem.W.keepIn K (.ref C))))
theorem oxB_ok (h : oxB K C = true) : OexC K C := by
  obtain ⟨q, h⟩ := He.ba h
  obtain ⟨h2, h⟩ := He.ba h
  obtain ⟨h3, h⟩ := He.ba h
  obtain ⟨h4, h5⟩ := He.ba h
  refine ⟨?_, He.eqO_ok h2, of_decide_eq_true h3, of_decide_eq_true h4, h5⟩
  split at q
  · rename_i dd cd sl ho
    split at q
    · rename_i C' bm k0 k1 k2 k3 n k5 hm hs
      simp only [Bool.and_eq_true, beq_iff_eq, Bool.not_eq_true'] at q
      obtain ⟨⟨⟨⟨rfl, rfl⟩, hdel⟩, hdi⟩, hr⟩ := q
      obtain ⟨nm, bs, mro, ns, qn, hd, sn, sub, ab, col, del⟩ := cd
      dsimp only at hm hdel hdi
      subst hm hdel hdi
      have hsl : sl = #[k0, k1, k2, k3, some (.builtin "ValueError.__new__"), k5] := by
        obtain ⟨l⟩ := sl
        simp only at hs
        rw [hs]
      subst hsl
      exact ⟨nm, qn, ns, bs, bm, sn, sub, ab, col, dd, k0, k1, k2, k3, k5, ho, hr⟩
    · cases q
  · cases q
def ecB (K : PySem.W.Frag) (D : Addr) : Bool := He.eqO (PySem.W.findIn K (.ref D) "__getattribute__") (some (some (.builtin "BaseException.__getattribute__"))) && (He.eqO (PySem.W.findIn K (.ref D) "__getattr__") (some none) && (decide (PySem.W.subIn K (.ref D) (.type "BaseException") = some true) && (PySem.W.hasDictIn K D &&
  (He.eqO (PySem.W.findIn K (.ref D) "__class__") (some (some (.builtin "object.__class__"))) && (He.eqO (PySem.W.specialIn K (.builtin "object.__class__") "__get__") (some (some (.builtin "getset_descriptor.__get__"))) && (decide (PySem.W.takesIn K (.builtin "object.__class__") = some true) && decide (PySem.W.mroIn K D (.type "object") = some true)))))))
theorem ecB_ok (h : ecB K D = true) : ExcC K D := by
  obtain ⟨h1, h⟩ := He.ba h
  obtain ⟨h2, h⟩ := He.ba h
  obtain ⟨h3, h⟩ := He.ba h
  obtain ⟨h4, h⟩ := He.ba h
  obtain ⟨h5, h⟩ := He.ba h
  obtain ⟨h6, h⟩ := He.ba h
  obtain ⟨h7, h8⟩ := He.ba h
  exact ⟨He.eqO_ok h1, He.eqO_ok h2, of_decide_eq_true h3, h4, He.eqO_ok h5, He.eqO_ok h6, of_decide_eq_true h7, of_decide_eq_true h8⟩
end
end Dl
set_option Elab.async false
set_option linter.all false
set_option maxRecDepth 100000
/-! DL15: reckoning with the functions on data: equality of plain data, loops. -/
namespace Dl
open PySem PySem.Spec PyProof.Rows L2

mutual
/-- data without truths, instances, dicts, scripts -/
def D.fine : D → Bool
  | .non => true
  | .int _ => true
  | .str x => PyData.strOk x
  | .tup ds => D.fines ds
  | .lst ds => D.fines ds
  | _ => false
def D.fines : List D → Bool
  | [] => true
  | d :: ds => d.fine && D.fines ds
end
mutual
def D.dep : D → Nat
  | .tup ds => D.deps ds + 1
  | .lst ds => D.deps ds + 1
  | _ => 0
def D.deps : List D → Nat
  | [] => 0
  | d :: ds => max d.dep (D.deps ds)
end
mutual
theorem fine_py : ∀ (d : D), d.fine = true → ∃ p, d.py = some p ∧ p.canLay0 = true ∧ p.depth = d.dep
  | .non, _ => ⟨.none, rfl, by simp [PyData.canLay0], by simp [PyData.depth, D.dep]⟩
  | .int i, _ => ⟨.int i, rfl, by simp [PyData.canLay0], by simp [PyData.depth, D.dep]⟩
  | .str x, h => ⟨.str x, rfl, by rw [D.fine] at h; simpa [PyData.canLay0] using h, by simp [PyData.depth, D.dep]⟩
  | .tup ds, h => by
    rw [D.fine] at h
    obtain ⟨ps, h1, h2, h3⟩ := fines_py ds h
    exact ⟨.tuple ps, by rw [D.py, h1]; rfl, by simpa [PyData.canLay0] using h2, by simp [PyData.depth, D.dep, h3]⟩
  | .lst ds, h => by
    rw [D.fine] at h
    obtain ⟨ps, h1, h2, h3⟩ := fines_py ds h
    exact ⟨.list ps, by rw [D.py, h1]; rfl, by simpa [PyData.canLay0] using h2, by simp [PyData.depth, D.dep, h3]⟩
  | .bl _, h => by simp [D.fine] at h
  | .ty _, h => by simp [D.fine] at h
  | .scr _, h => by simp [D.fine] at h
  | .obj _ _, h => by simp [D.fine] at h
  | .dic _, h => by simp [D.fine] at h
theorem fines_py : ∀ (ds : List D), D.fines ds = true → ∃ ps, D.pys ds = some ps ∧ PyData.canLayAll0 ps = true ∧ PyData.depthAll ps = D.deps ds
  | [], _ => ⟨[], rfl, by simp [PyData.canLayAll0], by simp [PyData.depthAll, D.deps]⟩
  | d :: ds, h => by
    rw [D.fines, Bool.and_eq_true] at h
    obtain ⟨p, h1, h2, h3⟩ := fine_py d h.1
    obtain ⟨ps, k1, k2, k3⟩ := fines_py ds h.2
    exact ⟨p :: ps, by rw [D.pys, h1, k1], by simp [PyData.canLayAll0, h2, k2], by simp [PyData.depthAll, D.deps, h3, k3]⟩
end
mutual
theorem fine_eqv : ∀ (a b : D) {p q : PyData}, a.fine = true → b.fine = true → a.py = some p → b.py = some q → (PyData.eqv p q = true ↔ a = b)
  | .non, b, _, _, ha, hb, e1, e2 => by
    cases e1
    cases b <;> simp [D.fine] at hb <;> first | (cases e2; simp [PyData.eqv]) | skip
    all_goals (rw [D.py] at e2; obtain ⟨ps, _, rfl⟩ := Option.map_eq_some_iff.mp e2; simp [PyData.eqv])
  | .int i, b, _, _, ha, hb, e1, e2 => by
    cases e1
    cases b <;> simp [D.fine] at hb <;> first | (cases e2; simp [PyData.eqv]) | skip
    all_goals (rw [D.py] at e2; obtain ⟨ps, _, rfl⟩ := Option.map_eq_some_iff.mp e2; simp [PyData.eqv])
  | .str x, b, _, _, ha, hb, e1, e2 => by
    cases e1
    cases b <;> simp [D.fine] at hb <;> first | (cases e2; simp [PyData.eqv]) | skip
    all_goals (rw [D.py] at e2; obtain ⟨ps, _, rfl⟩ := Option.map_eq_some_iff.mp e2; simp [PyData.eqv])
  | .tup as, b, _, _, ha, hb, e1, e2 => by
    rw [D.py] at e1
    obtain ⟨ps, e1', rfl⟩ := Option.map_eq_some_iff.mp e1
    rw [D.fine] at ha
    cases b <;> simp only [D.fine, Bool.false_eq_true] at hb
    case tup bs =>
      rw [D.py] at e2
      obtain ⟨qs, e2', rfl⟩ := Option.map_eq_some_iff.mp e2
      rw [PyData.eqv, fines_eqv as bs ha hb e1' e2', D.tup.injEq]
    case lst bs =>
      rw [D.py] at e2
      obtain ⟨qs, e2', rfl⟩ := Option.map_eq_some_iff.mp e2
      simp [PyData.eqv]
    all_goals (cases e2; simp [PyData.eqv])
  | .lst as, b, _, _, ha, hb, e1, e2 => by
    rw [D.py] at e1
    obtain ⟨ps, e1', rfl⟩ := Option.map_eq_some_iff.mp e1
    rw [D.fine] at ha
    cases b <;> simp only [D.fine, Bool.false_eq_true] at hb
    case lst bs =>
      rw [D.py] at e2
      obtain ⟨qs, e2', rfl⟩ := Option.map_eq_some_iff.mp e2
      rw [PyData.eqv, fines_eqv as bs ha hb e1' e2', D.lst.injEq]
    case tup bs =>
      rw [D.py] at e2
      obtain ⟨qs, e2', rfl⟩ := Option.map_eq_some_iff.mp e2
      simp [PyData.eqv]
    all_goals (cases e2; simp [PyData.eqv])
  | .bl _, _, _, _, h, _, _, _ => by simp [D.fine] at h
  | .ty _, _, _, _, h, _, _, _ => by simp [D.fine] at h
  | .scr _, _, _, _, h, _, _, _ => by simp [D.fine] at h
  | .obj _ _, _, _, _, h, _, _, _ => by simp [D.fine] at h
  | .dic _, _, _, _, h, _, _, _ => by simp [D.fine] at h
theorem fines_eqv : ∀ (as bs : List D) {ps qs : List PyData}, D.fines as = true → D.fines bs = true → D.pys as = some ps → D.pys bs = some qs → (PyData.eqvAll ps qs = true ↔ as = bs)
  | [], [], _, _, _, _, e1, e2 => by cases e1; cases e2; simp [PyData.eqvAll]
  | [], b :: bs, _, _, _, hb, e1, e2 => by
    cases e1
    rw [D.fines, Bool.and_eq_true] at hb
    obtain ⟨p, h1, _⟩ := fine_py b hb.1
    obtain ⟨ps, k1, _⟩ := fines_py bs hb.2
    rw [D.pys, h1, k1] at e2
    cases e2
    simp [PyData.eqvAll]
  | a :: as, [], _, _, ha, _, e1, e2 => by
    cases e2
    rw [D.fines, Bool.and_eq_true] at ha
    obtain ⟨p, h1, _⟩ := fine_py a ha.1
    obtain ⟨ps, k1, _⟩ := fines_py as ha.2
    rw [D.pys, h1, k1] at e1
    cases e1
    simp [PyData.eqvAll]
  | a :: as, b :: bs, _, _, ha, hb, e1, e2 => by
    rw [D.fines, Bool.and_eq_true] at ha hb
    obtain ⟨p, h1, _⟩ := fine_py a ha.1
    obtain ⟨ps, k1, _⟩ := fines_py as ha.2
    obtain ⟨q, h2, _⟩ := fine_py b hb.1
    obtain ⟨qs, k2, _⟩ := fines_py bs hb.2
    rw [D.pys, h1, k1] at e1
    rw [D.pys, h2, k2] at e2
    cases e1
    cases e2
    rw [PyData.eqvAll, Bool.and_eq_true, fine_eqv a b ha.1 hb.1 h1 h2, fines_eqv as bs ha.2 hb.2 k1 k2, List.cons.injEq]
end
/-- a == b of fine data -/
theorem eqD_fine {a b : D} (ha : a.fine = true) (hb : b.fine = true) (da : a.dep ≤ 64) (db : b.dep ≤ 64) : (a = b ∧ eqD a b = some true) ∨ (a ≠ b ∧ eqD a b = some false) := by
  obtain ⟨p, h1, h2, h3⟩ := fine_py a ha
  obtain ⟨q, k1, k2, k3⟩ := fine_py b hb
  have e := fine_eqv a b ha hb h1 k1
  have sp : SeqAt.shaped p = true := by
    unfold SeqAt.shaped
    rw [h2, h3]
    simpa using da
  have sq : SeqAt.shaped q = true := by
    unfold SeqAt.shaped
    rw [k2, k3]
    simpa using db
  unfold eqD
  simp only [h1, k1, sp, sq, Bool.and_self, if_true, Option.some.injEq]
  by_cases h : a = b
  · exact .inl ⟨h, e.mpr h⟩
  · refine .inr ⟨h, ?_⟩
    cases z : PyData.eqv p q with
    | true => exact absurd (e.mp z) h
    | false => rfl
end Dl
set_option Elab.async false
set_option linter.all false
set_option maxRecDepth 100000
/-! DL16: the combinators, run on given slots. -/
namespace Dl
open PySem PySem.Spec PyProof.Rows L2

section
variable {α : Type} {ρ ρ1 : Dl.Env} {g1 g2 g : Stm} {i : Nat} {z : Xc} {b : Bnd} {f f1 f2 f3 : Dl.Env → Res EV} {fs : Dl.Env → Res (List EV)} {t t1 t2 : Dl.Env → Res Bool} {x y : EV}
/-! ### statements -/
def seqK (g2 : Stm) : Res Out → Res Out
  | .ok (.nx ρ1) => g2 ρ1
  | .ok o => .ok o
  | .exc z => .exc z
  | .stuck => .stuck
@[simp] theorem x_seq : dSeq g1 g2 ρ = seqK g2 (g1 ρ) := by
  unfold dSeq seqK
  cases g1 ρ with
  | ok o => cases o <;> rfl
  | exc z => rfl
  | stuck => rfl
@[simp] theorem x_seq_nx : seqK g2 (.ok (.nx ρ1)) = g2 ρ1 := rfl
@[simp] theorem x_seq_ret : seqK g2 (.ok (.ret x)) = .ok (.ret x) := rfl
@[simp] theorem x_seq_ex : seqK g2 (.ok (.ex z ρ1)) = .ok (.ex z ρ1) := rfl
@[simp] theorem x_seq_bk : seqK g2 (.ok (.bk ρ1)) = .ok (.bk ρ1) := rfl
@[simp] theorem x_seq_ct : seqK g2 (.ok (.ct ρ1)) = .ok (.ct ρ1) := rfl
@[simp] theorem x_seq_stuck : seqK g2 .stuck = .stuck := rfl
def ifK (g1 g2 : Stm) (ρ : Dl.Env) : Res Bool → Res Out
  | .ok true => g1 ρ
  | .ok false => g2 ρ
  | .exc z => .ok (.ex z ρ)
  | .stuck => .stuck
@[simp] theorem x_if : dIf t g1 g2 ρ = ifK g1 g2 ρ (t ρ) := by
  unfold dIf ifK
  cases t ρ with
  | ok k => cases k <;> rfl
  | exc z => rfl
  | stuck => rfl
@[simp] theorem x_if_t : ifK g1 g2 ρ (.ok true) = g1 ρ := rfl
@[simp] theorem x_if_f : ifK g1 g2 ρ (.ok false) = g2 ρ := rfl
@[simp] theorem x_next : dNext ρ = .ok (.nx ρ) := rfl
@[simp] theorem x_break : dBreak ρ = .ok (.bk ρ) := rfl
@[simp] theorem x_cont : dCont ρ = .ok (.ct ρ) := rfl
def putK (i : Nat) (x : SV) (ρ : Dl.Env) : Res Out := match putR i x ρ with
  | some ρ1 => .ok (.nx ρ1)
  | none => .stuck
def setK (i : Nat) (ρ : Dl.Env) : Res EV → Res Out
  | .ok (.sh d) => putK i (.sh d) ρ
  | .ok (.fr ts) => putK i (.own ts) ρ
  | .ok (.bo _) => .stuck
  | .exc z => .ok (.ex z ρ)
  | .stuck => .stuck
@[simp] theorem x_set : dSet i f ρ = setK i ρ (f ρ) := by
  unfold dSet setK
  cases f ρ with
  | ok k => cases k <;> rfl
  | exc z => rfl
  | stuck => rfl
@[simp] theorem x_set_sh {d : D} : setK i ρ (.ok (.sh d)) = putK i (.sh d) ρ := rfl
@[simp] theorem x_set_fr {ts : List T} : setK i ρ (.ok (.fr ts)) = putK i (.own ts) ρ := rfl
@[simp] theorem x_put0 {x y : SV} (h : y.free = true := by rfl) : putK 0 x (y :: ρ) = .ok (.nx (x :: ρ)) := by
  simp [putK, putR, h]
/-- a slot behind the first -/
def consK (y : SV) : Res Out → Res Out
  | .ok (.nx ρ) => .ok (.nx (y :: ρ))
  | r => r
theorem x_putS {x y : SV} (i : Nat) : putK (i + 1) x (y :: ρ) = consK y (putK i x ρ) := by
  unfold putK putR consK
  rw [List.getElem?_cons_succ]
  cases ρ[i]? with
  | none => rfl
  | some z => by_cases h : z.free = true <;> simp [h]
@[simp] theorem x_put1 {x y : SV} : putK 1 x (y :: ρ) = consK y (putK 0 x ρ) := x_putS 0
@[simp] theorem x_put2 {x y : SV} : putK 2 x (y :: ρ) = consK y (putK 1 x ρ) := x_putS 1
@[simp] theorem x_put3 {x y : SV} : putK 3 x (y :: ρ) = consK y (putK 2 x ρ) := x_putS 2
@[simp] theorem x_put4 {x y : SV} : putK 4 x (y :: ρ) = consK y (putK 3 x ρ) := x_putS 3
@[simp] theorem x_put5 {x y : SV} : putK 5 x (y :: ρ) = consK y (putK 4 x ρ) := x_putS 4
@[simp] theorem x_put6 {x y : SV} : putK 6 x (y :: ρ) = consK y (putK 5 x ρ) := x_putS 5
@[simp] theorem x_put7 {x y : SV} : putK 7 x (y :: ρ) = consK y (putK 6 x ρ) := x_putS 6
@[simp] theorem x_put8 {x y : SV} : putK 8 x (y :: ρ) = consK y (putK 7 x ρ) := x_putS 7
@[simp] theorem x_put9 {x y : SV} : putK 9 x (y :: ρ) = consK y (putK 8 x ρ) := x_putS 8
@[simp] theorem x_put10 {x y : SV} : putK 10 x (y :: ρ) = consK y (putK 9 x ρ) := x_putS 9
@[simp] theorem x_put11 {x y : SV} : putK 11 x (y :: ρ) = consK y (putK 10 x ρ) := x_putS 10
@[simp] theorem x_put12 {x y : SV} : putK 12 x (y :: ρ) = consK y (putK 11 x ρ) := x_putS 11
@[simp] theorem x_put13 {x y : SV} : putK 13 x (y :: ρ) = consK y (putK 12 x ρ) := x_putS 12
@[simp] theorem x_put14 {x y : SV} : putK 14 x (y :: ρ) = consK y (putK 13 x ρ) := x_putS 13
@[simp] theorem x_put15 {x y : SV} : putK 15 x (y :: ρ) = consK y (putK 14 x ρ) := x_putS 14
@[simp] theorem x_consK {y : SV} : consK y (.ok (.nx ρ)) = .ok (.nx (y :: ρ)) := rfl
def retK (ρ : Dl.Env) : Res EV → Res Out
  | .ok (.bo _) => .stuck
  | .ok x => .ok (.ret x)
  | .exc z => .ok (.ex z ρ)
  | .stuck => .stuck
@[simp] theorem x_ret : dRet f ρ = retK ρ (f ρ) := by
  unfold dRet retK
  cases f ρ with
  | ok k => cases k <;> rfl
  | exc z => rfl
  | stuck => rfl
@[simp] theorem x_ret_sh {d : D} : retK ρ (.ok (.sh d)) = .ok (.ret (.sh d)) := rfl
@[simp] theorem x_ret_fr {ts : List T} : retK ρ (.ok (.fr ts)) = .ok (.ret (.fr ts)) := rfl
@[simp] theorem x_ret_ex : retK ρ (.exc z) = .ok (.ex z ρ) := rfl
def retVK : Option SV → Res Out
  | some (.sh d) => .ok (.ret (.sh d))
  | some (.own ts) => .ok (.ret (.fr ts))
  | some (.lk ts) => .ok (.ret (.fr ts))
  | _ => .stuck
@[simp] theorem x_retV : dRetV i ρ = retVK ρ[i]? := rfl
@[simp] theorem x_retV_sh {d : D} : retVK (some (.sh d)) = .ok (.ret (.sh d)) := rfl
@[simp] theorem x_retV_own {ts : List T} : retVK (some (.own ts)) = .ok (.ret (.fr ts)) := rfl
@[simp] theorem x_retN : dRetN ρ = .ok (.ret (.sh .non)) := rfl
def runK : Res Out → Res EV
  | .ok (.nx _) => .ok (.sh .non)
  | .ok (.ret x) => .ok x
  | .ok (.ex z _) => .exc z
  | _ => .stuck
@[simp] theorem x_run {n : Nat} {ds : List D} : runD n g ds = runK (g (ds.map SV.sh ++ List.replicate (n - ds.length) SV.no)) := rfl
@[simp] theorem x_run_ret : runK (.ok (.ret x)) = .ok x := rfl
@[simp] theorem x_run_nx : runK (.ok (.nx ρ)) = .ok (.sh .non) := rfl
@[simp] theorem x_run_ex : runK (.ok (.ex z ρ)) = .exc z := rfl
def frzK (i : Nat) (g : Stm) (ρ : Dl.Env) : Option SV → Res Out
  | some (.own ts) => g (ρ.set i (.sh (.lst (T.toDs ts))))
  | _ => g ρ
@[simp] theorem x_frz : dFrz i g ρ = frzK i g ρ ρ[i]? := rfl
@[simp] theorem x_frz_own {ts : List T} : frzK i g ρ (some (.own ts)) = g (ρ.set i (.sh (.lst (T.toDs ts)))) := rfl
@[simp] theorem x_frz_sh {d : D} : frzK i g ρ (some (.sh d)) = g ρ := rfl
@[simp] theorem x_frz_no : frzK i g ρ (some .no) = g ρ := rfl
/-! ### expressions -/
def varK : Option SV → Res EV
  | some (.sh d) => .ok (.sh d)
  | some (.own ts) => .ok (.bo ts)
  | some (.lk ts) => .ok (.bo ts)
  | _ => .stuck
@[simp] theorem x_var : dVar i ρ = varK ρ[i]? := rfl
@[simp] theorem x_var_sh {d : D} : varK (some (.sh d)) = .ok (.sh d) := rfl
@[simp] theorem x_var_own {ts : List T} : varK (some (.own ts)) = .ok (.bo ts) := rfl
@[simp] theorem x_c {d : D} : dC d ρ = .ok (.sh d) := rfl
def d2K (g : EV → EV → Res EV) : Res EV → Res EV → Res EV
  | .ok a, .ok b => g a b
  | .exc z, _ => .exc z
  | .stuck, _ => .stuck
  | .ok _, .exc z => .exc z
  | .ok _, .stuck => .stuck
@[simp] theorem x_d2 {g : EV → EV → Res EV} : d2 g f1 f2 ρ = d2K g (f1 ρ) (f2 ρ) := by
  unfold d2 d2K
  cases f1 ρ <;> cases f2 ρ <;> rfl
@[simp] theorem x_d2_ok {g : EV → EV → Res EV} {a b : EV} : d2K g (.ok a) (.ok b) = g a b := rfl
@[simp] theorem x_nil : aNil ρ = .ok [] := rfl
def consA : Res EV → Res (List EV) → Res (List EV)
  | .ok a, .ok b => .ok (a :: b)
  | .exc z, _ => .exc z
  | .stuck, _ => .stuck
  | .ok _, .exc z => .exc z
  | .ok _, .stuck => .stuck
@[simp] theorem x_cons : aCons f fs ρ = consA (f ρ) (fs ρ) := by
  unfold aCons consA
  cases f ρ <;> cases fs ρ <;> rfl
@[simp] theorem x_cons_ok {a : EV} {bs : List EV} : consA (.ok a) (.ok bs) = .ok (a :: bs) := rfl
def c1K (g : List EV → Res EV) : Res (List EV) → Res EV
  | .ok a => g a
  | .exc z => .exc z
  | .stuck => .stuck
@[simp] theorem x_c1 {g : List EV → Res EV} : dC1 g fs ρ = c1K g (fs ρ) := by
  unfold dC1 c1K
  cases fs ρ <;> rfl
@[simp] theorem x_c1_ok {g : List EV → Res EV} {xs : List EV} : c1K g (.ok xs) = g xs := rfl
def tK (h : EV → Res Bool) : Res EV → Res Bool
  | .ok a => h a
  | .exc z => .exc z
  | .stuck => .stuck
@[simp] theorem x_t {h : EV → Res Bool} : dT h f ρ = tK h (f ρ) := by
  unfold dT tK
  cases f ρ <;> rfl
@[simp] theorem x_t_ok {h : EV → Res Bool} {a : EV} : tK h (.ok a) = h a := rfl
@[simp] theorem x_tBool {k : Bool} : tBool (.sh (.bl k)) = .ok k := rfl
@[simp] theorem x_tTru {k : Bool} : tTru (.sh (.bl k)) = .ok k := rfl
def notK : Res Bool → Res Bool
  | .ok a => .ok (!a)
  | r => r
@[simp] theorem x_notT : dNotT t ρ = notK (t ρ) := by
  unfold dNotT notK
  cases t ρ <;> rfl
@[simp] theorem x_notT_ok {k : Bool} : notK (.ok k) = .ok (!k) := rfl
def andK (t2 : Dl.Env → Res Bool) (ρ : Dl.Env) : Res Bool → Res Bool
  | .ok true => t2 ρ
  | .ok false => .ok false
  | .exc z => .exc z
  | .stuck => .stuck
@[simp] theorem x_andT : dAndT t1 t2 ρ = andK t2 ρ (t1 ρ) := by
  unfold dAndT andK
  cases t1 ρ with
  | ok k => cases k <;> rfl
  | exc z => rfl
  | stuck => rfl
@[simp] theorem x_andT_t : andK t2 ρ (.ok true) = t2 ρ := rfl
@[simp] theorem x_andT_f : andK t2 ρ (.ok false) = .ok false := rfl
def orK (t2 : Dl.Env → Res Bool) (ρ : Dl.Env) : Res Bool → Res Bool
  | .ok false => t2 ρ
  | .ok true => .ok true
  | .exc z => .exc z
  | .stuck => .stuck
@[simp] theorem x_orT : dOrT t1 t2 ρ = orK t2 ρ (t1 ρ) := by
  unfold dOrT orK
  cases t1 ρ with
  | ok k => cases k <;> rfl
  | exc z => rfl
  | stuck => rfl
@[simp] theorem x_orT_t : orK t2 ρ (.ok true) = .ok true := rfl
@[simp] theorem x_orT_f : orK t2 ρ (.ok false) = t2 ρ := rfl
def nnK : Res EV → Res EV
  | .ok (.sh (.bl k)) => .ok (.sh (.bl (!k)))
  | .ok _ => .stuck
  | r => r
@[simp] theorem x_not : dNot f ρ = nnK (f ρ) := by
  unfold dNot nnK
  cases f ρ with
  | ok x => cases x with
    | sh d => cases d <;> rfl
    | fr ts => rfl
    | bo ts => rfl
  | exc z => rfl
  | stuck => rfl
@[simp] theorem x_not_ok {k : Bool} : nnK (.ok (.sh (.bl k))) = .ok (.sh (.bl (!k))) := rfl
def anK (f2 : Dl.Env → Res EV) (ρ : Dl.Env) : Res EV → Res EV
  | .ok (.sh (.bl true)) => f2 ρ
  | .ok (.sh (.bl false)) => .ok (.sh (.bl false))
  | .ok _ => .stuck
  | r => r
@[simp] theorem x_and : dAnd f1 f2 ρ = anK f2 ρ (f1 ρ) := by
  unfold dAnd anK
  cases f1 ρ with
  | ok x => cases x with
    | sh d => cases d with
      | bl k => cases k <;> rfl
      | _ => rfl
    | fr ts => rfl
    | bo ts => rfl
  | exc z => rfl
  | stuck => rfl
@[simp] theorem x_and_t : anK f2 ρ (.ok (.sh (.bl true))) = f2 ρ := rfl
@[simp] theorem x_and_f : anK f2 ρ (.ok (.sh (.bl false))) = .ok (.sh (.bl false)) := rfl
def oRK (f2 : Dl.Env → Res EV) (ρ : Dl.Env) : Res EV → Res EV
  | .ok (.sh (.bl false)) => f2 ρ
  | .ok (.sh (.bl true)) => .ok (.sh (.bl true))
  | .ok _ => .stuck
  | r => r
@[simp] theorem x_or : dOr f1 f2 ρ = oRK f2 ρ (f1 ρ) := by
  unfold dOr oRK
  cases f1 ρ with
  | ok x => cases x with
    | sh d => cases d with
      | bl k => cases k <;> rfl
      | _ => rfl
    | fr ts => rfl
    | bo ts => rfl
  | exc z => rfl
  | stuck => rfl
@[simp] theorem x_or_t : oRK f2 ρ (.ok (.sh (.bl true))) = .ok (.sh (.bl true)) := rfl
@[simp] theorem x_or_f : oRK f2 ρ (.ok (.sh (.bl false))) = f2 ρ := rfl
def nonK (neg : Bool) : Res EV → Res EV
  | .ok x => .ok (.sh (.bl (if neg then !x.d.isNon else x.d.isNon)))
  | r => r
@[simp] theorem x_isN : dIsN f ρ = nonK false (f ρ) := by
  unfold dIsN nonK
  cases f ρ <;> rfl
@[simp] theorem x_notN : dNotN f ρ = nonK true (f ρ) := by
  unfold dNotN nonK
  cases f ρ <;> rfl
@[simp] theorem x_isN_non : nonK false (.ok (.sh .non)) = .ok (.sh (.bl true)) := rfl
@[simp] theorem x_isN_int {k : Int} : nonK false (.ok (.sh (.int k))) = .ok (.sh (.bl false)) := rfl
@[simp] theorem x_notN_non : nonK true (.ok (.sh .non)) = .ok (.sh (.bl false)) := rfl
@[simp] theorem x_notN_int {k : Int} : nonK true (.ok (.sh (.int k))) = .ok (.sh (.bl true)) := rfl
def tsK (h : List T → Res EV) : Res (List EV) → Res EV
  | .ok xs => (match evTs xs with
    | some ts => h ts
    | none => .stuck)
  | .exc z => .exc z
  | .stuck => .stuck
@[simp] theorem x_int1 {k : Int} : gInt [.sh (.int k)] = .ok (.sh (.int k)) := rfl
@[simp] theorem x_add {m n : Int} : gAdd (.sh (.int m)) (.sh (.int n)) = .ok (.sh (.int (m + n))) := rfl
@[simp] theorem x_sub {m n : Int} : Dl.gSub (.sh (.int m)) (.sh (.int n)) = .ok (.sh (.int (m - n))) := rfl
@[simp] theorem x_lt {m n : Int} : gLt (.sh (.int m)) (.sh (.int n)) = .ok (.sh (.bl (decide (m < n)))) := rfl
@[simp] theorem x_le {m n : Int} : gLe (.sh (.int m)) (.sh (.int n)) = .ok (.sh (.bl (decide (m ≤ n)))) := rfl
@[simp] theorem x_gt {m n : Int} : gGt (.sh (.int m)) (.sh (.int n)) = .ok (.sh (.bl (decide (n < m)))) := rfl
@[simp] theorem x_ge {m n : Int} : gGe (.sh (.int m)) (.sh (.int n)) = .ok (.sh (.bl (decide (n ≤ m)))) := rfl
theorem x_mod {m n : Int} (h : 0 < n) : gMod (.sh (.int m)) (.sh (.int n)) = .ok (.sh (.int (m % n))) := by simp [gMod, gF, EV.d, iI, h]
theorem x_fdv {m n : Int} (h : 0 < n) (h2 : n < 1073741824) : gFdv (.sh (.int m)) (.sh (.int n)) = .ok (.sh (.int (m / n))) := by simp [gFdv, gF, EV.d, iI, h, h2]
theorem x_mulR {m n : Int} (h : -18446744073709551616 < n ∧ n < 18446744073709551616) : gMul (.sh (.int m)) (.sh (.int n)) = .ok (.sh (.int (m * n))) := by simp [gMul, h]
theorem x_mulL {m n : Int} (h : -18446744073709551616 < m ∧ m < 18446744073709551616) : gMul (.sh (.int m)) (.sh (.int n)) = .ok (.sh (.int (m * n))) := by simp [gMul, h]
/-! ### calls, loops -/
def callK (n : Nat) (F : List D → Res EV) (dds : List D) : Res (List EV) → Res EV
  | .ok xs => callN n F dds xs
  | .exc z => .exc z
  | .stuck => .stuck
@[simp] theorem x_call {n : Nat} {F : List D → Res EV} {dds : List D} : dCall n F dds fs ρ = callK n F dds (fs ρ) := by
  unfold dCall callK
  cases fs ρ <;> rfl
@[simp] theorem x_call_ok {n : Nat} {F : List D → Res EV} {dds : List D} {xs : List EV} : callK n F dds (.ok xs) = callN n F dds xs := rfl
theorem x_callN {n : Nat} {F : List D → Res EV} {xs : List EV} {x : EV} (hn : xs.length = n) (h : F (xs.map EV.d) = .ok x) (hb : (xs.all EV.noBo || x.ll) = true) : callN n F [] xs = .ok x := by
  unfold callN callR
  simp only [List.length_nil, Nat.add_zero, hn, if_true, List.append_nil, h, hb]
theorem x_callN_exc {n : Nat} {F : List D → Res EV} {xs : List EV} {z : Xc} (hn : xs.length = n) (h : F (xs.map EV.d) = .exc z) (hb : (xs.all EV.noBo || D.llf z.fs) = true) : callN n F [] xs = .exc z := by
  unfold callN callR
  simp only [List.length_nil, Nat.add_zero, hn, if_true, List.append_nil, h, hb]
def forK (b : Bnd) (body : Stm) (ρ : Dl.Env) : Res (List D) → Res Out
  | .ok items => forD b body items ρ
  | .exc z => .ok (.ex z ρ)
  | .stuck => .stuck
@[simp] theorem x_for {it : Itf} : dFor it b g ρ = forK b g ρ (it ρ) := by
  unfold dFor forK
  cases it ρ <;> rfl
@[simp] theorem x_for_ok {ds : List D} : forK b g ρ (.ok ds) = forD b g ds ρ := rfl
@[simp] theorem x_forD_nil : forD b g [] ρ = .ok (.nx ρ) := rfl
def turnK (b : Bnd) (g : Stm) (ds : List D) : Res Out → Res Out
  | .ok (.nx ρ2) => forD b g ds ρ2
  | .ok (.ct ρ2) => forD b g ds ρ2
  | .ok (.bk ρ2) => .ok (.nx ρ2)
  | .ok (.ret x) => .ok (.ret x)
  | .ok (.ex z ρ2) => .ok (.ex z ρ2)
  | .exc z => .exc z
  | .stuck => .stuck
theorem x_forD_cons {d : D} {ds : List D} (h : b d ρ = some ρ1) : forD b g (d :: ds) ρ = turnK b g ds (g ρ1) := by
  rw [forD, h]
  simp only
  unfold turnK
  cases g ρ1 with
  | ok o => cases o <;> rfl
  | exc z => rfl
  | stuck => rfl
@[simp] theorem x_turn_nx {ds : List D} : turnK b g ds (.ok (.nx ρ)) = forD b g ds ρ := rfl
@[simp] theorem x_turn_ret {ds : List D} : turnK b g ds (.ok (.ret x)) = .ok (.ret x) := rfl
def wK (w : EV → Res (List D)) : Res EV → Res (List D)
  | .ok x => w x
  | .exc z => .exc z
  | .stuck => .stuck
@[simp] theorem x_iA : iA f ρ = wK walkA (f ρ) := by
  unfold iA wK
  cases f ρ <;> rfl
@[simp] theorem x_wK {w : EV → Res (List D)} : wK w (.ok x) = w x := rfl
@[simp] theorem x_walk_lst {ds : List D} : walkA (.sh (.lst ds)) = .ok ds := rfl
@[simp] theorem x_walk_tup {ds : List D} : walkA (.sh (.tup ds)) = .ok ds := rfl
@[simp] theorem x_walk_scr {ns : List Int} : walkA (.sh (.scr ns)) = .ok (ns.map D.int) := rfl
@[simp] theorem x_walk_fr {ts : List T} : walkA (.fr ts) = .ok (T.toDs ts) := rfl
end
end Dl
set_option Elab.async false
set_option linter.all false
set_option maxRecDepth 100000
/-! DL17: the other combinators, run on given slots. -/
namespace Dl
open PySem PySem.Spec PyProof.Rows L2
section
variable {α : Type} {ρ ρ1 : Dl.Env} {g1 g2 g : Stm} {i : Nat} {z : Xc} {b : Bnd} {f f1 f2 f3 : Dl.Env → Res EV} {fs : Dl.Env → Res (List EV)} {t t1 t2 : Dl.Env → Res Bool} {x y : EV}
@[simp] theorem x_leaves {ds : List D} : T.toDs (ds.map T.leaf) = ds := toDs_leaves ds
@[simp] theorem x_toDs_nil : T.toDs [] = [] := rfl
@[simp] theorem x_toDs_cons {u : T} {us : List T} : T.toDs (u :: us) = u.toD :: T.toDs us := rfl
@[simp] theorem x_toDs_app {us vs : List T} : T.toDs (us ++ vs) = T.toDs us ++ T.toDs vs := by simp [T.toDs_eq]
@[simp] theorem x_toD_leaf {d : D} : (T.leaf d).toD = d := rfl
@[simp] theorem x_toD_node {us : List T} : (T.node us).toD = .lst (T.toDs us) := rfl
@[simp] theorem x_d_sh {d : D} : (EV.sh d).d = d := rfl
@[simp] theorem x_d_fr {us : List T} : (EV.fr us).d = .lst (T.toDs us) := rfl
@[simp] theorem x_d_bo {us : List T} : (EV.bo us).d = .lst (T.toDs us) := rfl
/-! ### lists -/
def appK (i : Nat) (ρ : Dl.Env) : Option SV → Res EV → Res Out
  | some (.own ts), .ok x => (match x.t? with
    | some t => if ts.length < 16777216 then .ok (.nx (ρ.set i (.own (ts ++ [t])))) else .stuck
    | none => .stuck)
  | some (.own _), .exc z => .ok (.ex z ρ)
  | _, _ => .stuck
@[simp] theorem x_app : dApp i f ρ = appK i ρ ρ[i]? (f ρ) := by
  unfold dApp appK
  cases ρ[i]? with
  | none => cases f ρ <;> rfl
  | some s => cases s <;> cases f ρ <;> rfl
theorem x_app_sh {ts : List T} {d : D} (h : ts.length < 16777216) : appK i ρ (some (.own ts)) (.ok (.sh d)) = .ok (.nx (ρ.set i (.own (ts ++ [.leaf d])))) := by
  simp [appK, EV.t?, h]
theorem x_app_fr {ts us : List T} (h : ts.length < 16777216) : appK i ρ (some (.own ts)) (.ok (.fr us)) = .ok (.nx (ρ.set i (.own (ts ++ [.node us])))) := by
  simp [appK, EV.t?, h]
def lstK : Res (List EV) → Res EV
  | .ok xs => (match evTs xs with
    | some ts => if ts.length ≤ 16777216 then .ok (.fr ts) else .stuck
    | none => .stuck)
  | .exc z => .exc z
  | .stuck => .stuck
@[simp] theorem x_lst : dLst fs ρ = lstK (fs ρ) := by
  unfold dLst lstK
  cases fs ρ <;> rfl
theorem evTs_sh : ∀ ds : List D, evTs (ds.map EV.sh) = some (ds.map T.leaf)
  | [] => rfl
  | d :: ds => by rw [List.map_cons, evTs, evTs_sh ds]; rfl
theorem x_lst_sh {ds : List D} (h : ds.length ≤ 16777216) : lstK (.ok (ds.map EV.sh)) = .ok (.fr (ds.map T.leaf)) := by
  simp [lstK, evTs_sh, h]
@[simp] theorem x_lst0 : lstK (.ok []) = .ok (.fr []) := rfl
@[simp] theorem x_lst1 {d : D} : lstK (.ok [.sh d]) = .ok (.fr [.leaf d]) := rfl
@[simp] theorem x_lst2 {d e : D} : lstK (.ok [.sh d, .sh e]) = .ok (.fr [.leaf d, .leaf e]) := rfl
@[simp] theorem x_lst3 {d e : D} {us : List T} : lstK (.ok [.sh d, .fr us, .sh e]) = .ok (.fr [.leaf d, .node us, .leaf e]) := rfl
def tupK : Res (List EV) → Res EV
  | .ok xs => (match evTs xs with
    | some ts => if ts.length ≤ 16777216 then .ok (.sh (.tup (T.toDs ts))) else .stuck
    | none => .stuck)
  | .exc z => .exc z
  | .stuck => .stuck
@[simp] theorem x_tup : dTup fs ρ = tupK (fs ρ) := by
  unfold dTup tupK
  cases fs ρ <;> rfl
@[simp] theorem x_tup1 {a : D} : tupK (.ok [.sh a]) = .ok (.sh (.tup [a])) := rfl
@[simp] theorem x_tup2 {a b : D} : tupK (.ok [.sh a, .sh b]) = .ok (.sh (.tup [a, b])) := rfl
@[simp] theorem x_tup3 {a b c : D} : tupK (.ok [.sh a, .sh b, .sh c]) = .ok (.sh (.tup [a, b, c])) := rfl
@[simp] theorem x_bName {i : Nat} {d : D} : bName i d ρ = putR i (.sh d) ρ := rfl
@[simp] theorem x_list_tup {ds : List D} : gList [.sh (.tup ds)] = .ok (.fr (ds.map T.leaf)) := rfl
@[simp] theorem x_list_lst {ds : List D} : gList [.sh (.lst ds)] = .ok (.fr (ds.map T.leaf)) := rfl
@[simp] theorem x_tuple_tup {ds : List D} : gTuple [.sh (.tup ds)] = .ok (.sh (.tup ds)) := rfl
@[simp] theorem x_tuple_lst {ds : List D} : gTuple [.sh (.lst ds)] = .ok (.sh (.tup ds)) := rfl
@[simp] theorem x_tuple_fr {us : List T} : gTuple [.fr us] = .ok (.sh (.tup (T.toDs us))) := rfl
@[simp] theorem x_len_fr {us : List T} : gLen [.fr us] = .ok (.sh (.int (T.toDs us).length)) := rfl
@[simp] theorem x_len_scr {ns : List Int} : gLen [.sh (.scr ns)] = .ok (.sh (.int ns.length)) := rfl
@[simp] theorem x_len_lst {ds : List D} : gLen [.sh (.lst ds)] = .ok (.sh (.int ds.length)) := rfl
@[simp] theorem x_len_tup {ds : List D} : gLen [.sh (.tup ds)] = .ok (.sh (.int ds.length)) := rfl
/-! ### comprehensions -/
def lcK (b : Bnd) (t : Dl.Env → Res Bool) (f : Dl.Env → Res EV) (ρ : Dl.Env) : Res (List D) → Res EV
  | .ok items => if items.length ≤ 16777216 then (lcD b t f items ρ).bind fun ts => .ok (.fr ts) else .stuck
  | .exc z => .exc z
  | .stuck => .stuck
@[simp] theorem x_lc {it : Itf} {vs : List Nat} : dLc it b t f vs ρ = lcK b t f (wipeR ρ vs) (it ρ) := by
  unfold dLc lcK
  cases it ρ <;> rfl
@[simp] theorem x_wipe1 {m : Nat} : wipeR ρ [m] = ρ.set m .no := rfl
/-- [h d for d in ds if p d] of data that is not new -/
theorem lcD_flat {p : D → Bool} {h : D → D} : ∀ {ds : List D}, (∀ d ∈ ds, ∃ ρ1, b d ρ = some ρ1 ∧ t ρ1 = .ok (p d) ∧ (p d = true → f ρ1 = .ok (.sh (h d)))) → lcD b t f ds ρ = .ok (((ds.filter p).map h).map T.leaf)
  | [], _ => rfl
  | d :: ds, q => by
    obtain ⟨ρ1, q1, q2, q3⟩ := q d List.mem_cons_self
    have ih := lcD_flat (ds := ds) fun x hx => q x (List.mem_cons_of_mem _ hx)
    rw [lcD, q1]
    simp only [q2]
    cases e : p d with
    | false => simp [noX, e, ih]
    | true => simp [noX, e, ih, q3 e, EV.t?]
theorem x_lc_flat {p : D → Bool} {h : D → D} {ds : List D} (hl : ds.length ≤ 16777216) (q : ∀ d ∈ ds, ∃ ρ1, b d ρ = some ρ1 ∧ t ρ1 = .ok (p d) ∧ (p d = true → f ρ1 = .ok (.sh (h d)))) : lcK b t f ρ (.ok ds) = .ok (.fr (((ds.filter p).map h).map T.leaf)) := by
  rw [lcK, if_pos hl, lcD_flat q]
  rfl
/-- new trees -/
theorem lcD_tree {h : D → T} : ∀ {ds : List D}, (∀ d ∈ ds, ∃ ρ1 x, b d ρ = some ρ1 ∧ t ρ1 = .ok true ∧ f ρ1 = .ok x ∧ x.t? = some (h d)) → lcD b t f ds ρ = .ok (ds.map h)
  | [], _ => rfl
  | d :: ds, q => by
    obtain ⟨ρ1, x, q1, q2, q3, q4⟩ := q d List.mem_cons_self
    have ih := lcD_tree (ds := ds) fun x hx => q x (List.mem_cons_of_mem _ hx)
    rw [lcD, q1]
    simp [q2, noX, q3, q4, ih]
theorem x_lc_tree {h : D → T} {ds : List D} (hl : ds.length ≤ 16777216) (q : ∀ d ∈ ds, ∃ ρ1 x, b d ρ = some ρ1 ∧ t ρ1 = .ok true ∧ f ρ1 = .ok x ∧ x.t? = some (h d)) : lcK b t f ρ (.ok ds) = .ok (.fr (ds.map h)) := by
  rw [lcK, if_pos hl, lcD_tree q]
  rfl
/-! ### ranges, slices -/
@[simp] theorem x_iR1 : iR1 f ρ = wK (fun x => match x with
  | .sh (.int j) => if -4611686018427387904 ≤ j ∧ j < 4611686018427387904 then .ok (rangeD 0 j.toNat) else .stuck
  | _ => .stuck) (f ρ) := by
  unfold iR1 wK
  cases f ρ <;> rfl
def slK (lo hi : Option (Dl.Env → Res EV)) (ρ : Dl.Env) : Res EV → Res EV
  | .ok a => dSl (fun _ => .ok a) lo hi ρ
  | .exc z => .exc z
  | .stuck => .stuck
theorem x_sl {lo hi : Option (Dl.Env → Res EV)} : dSl f lo hi ρ = slK lo hi ρ (f ρ) := by
  unfold slK
  cases q : f ρ with
  | ok a => simp [dSl, q]
  | exc z => simp [dSl, q]
  | stuck => simp [dSl, q]
theorem x_sl_hi {a : EV} {k : Int} (h : f2 ρ = .ok (.sh (.int k))) : slK none (some f2) ρ (.ok a) = gSl a none (some k) := by simp [slK, dSl, h]
theorem x_sl_lo {a : EV} {k : Int} (h : f2 ρ = .ok (.sh (.int k))) : slK (some f2) none ρ (.ok a) = gSl a (some k) none := by simp [slK, dSl, h]
theorem cut_take {β : Type} {xs : List β} {k : Nat} : cutL xs none (some (k : Int)) = xs.take k := by
  unfold cutL
  rw [HT.sIx_nat, HT.sIx_none]
  simp [List.take_eq_take_iff]
theorem cut_drop {β : Type} {xs : List β} {k : Nat} : cutL xs (some (k : Int)) none = xs.drop k := by
  unfold cutL
  rw [HT.sIx_nat, HT.sIx_none]
  rcases Nat.le_total k xs.length with h | h
  · rw [Nat.min_eq_left h]
    exact List.take_of_length_le (by simp)
  · rw [Nat.min_eq_right h, List.drop_eq_nil_of_le h]
    simp
@[simp] theorem x_sl_lst {ds : List D} {lo hi : Option Int} : gSl (.sh (.lst ds)) lo hi = .ok (.fr ((cutL ds lo hi).map T.leaf)) := rfl
@[simp] theorem x_sl_bo {ds : List D} {lo hi : Option Int} : gSl (.sh (.tup ds)) lo hi = .ok (.sh (.tup (cutL ds lo hi))) := rfl
/-! ### instances -/
def fldK (C f : Str) : Res EV → Res EV
  | .ok x => (match asObj C x with
    | some fl => (match fl.lookup f with
      | some d => .ok (.sh d)
      | none => .stuck)
    | none => .stuck)
  | .exc z => .exc z
  | .stuck => .stuck
@[simp] theorem x_fld {C n : Str} : dFld C n f ρ = fldK C n (f ρ) := by
  unfold dFld fldK
  cases f ρ <;> rfl
theorem x_fld_ok {C n : Str} {fl : List (Str × D)} {d : D} (h : fl.lookup n = some d) : fldK C n (.ok (.sh (.obj C fl))) = .ok (.sh d) := by
  simp [fldK, asObj, h]
def methK (C m : Str) (n : Nat) (F : List D → Res EV) (dds : List D) (ra : Res (List EV)) : Res EV → Res EV
  | .ok x => (match asObj C x with
    | some fl => (match fl.lookup m with
      | none => ra.bind fun xs => callN n F dds (x :: xs)
      | some _ => .stuck)
    | none => .stuck)
  | .exc z => .exc z
  | .stuck => .stuck
@[simp] theorem x_meth {C m : Str} {n : Nat} {F : List D → Res EV} {dds : List D} : dMeth C m n F dds f fs ρ = methK C m n F dds (fs ρ) (f ρ) := by
  unfold dMeth methK
  cases f ρ <;> rfl
theorem x_meth_ok {C m : Str} {n : Nat} {F : List D → Res EV} {dds : List D} {fl : List (Str × D)} {xs : List EV} (h : fl.lookup m = none) : methK C m n F dds (.ok xs) (.ok (.sh (.obj C fl))) = callN n F dds (.sh (.obj C fl) :: xs) := by
  simp [methK, asObj, h]
def ciK (C : Str) (n : Nat) (F : List D → Res EV) (dds : List D) (ra : Res (List EV)) : Res EV → Res EV
  | .ok x => (match asObj C x with
    | some _ => ra.bind fun xs => callN n F dds (x :: xs)
    | none => .stuck)
  | .exc z => .exc z
  | .stuck => .stuck
@[simp] theorem x_callI {C : Str} {n : Nat} {F : List D → Res EV} {dds : List D} : dCallI C n F dds f fs ρ = ciK C n F dds (fs ρ) (f ρ) := by
  unfold dCallI ciK
  cases f ρ <;> rfl
@[simp] theorem x_callI_ok {C : Str} {n : Nat} {F : List D → Res EV} {dds : List D} {fl : List (Str × D)} {xs : List EV} : ciK C n F dds (.ok xs) (.ok (.sh (.obj C fl))) = callN n F dds (.sh (.obj C fl) :: xs) := by
  simp [ciK, asObj]
def spK (C : Str) (n : Nat) (F : List D → Res EV) (dds : List D) : Res EV → Res EV
  | .ok x => (match asObj C x with
    | some _ => callN n F dds [x]
    | none => .stuck)
  | .exc z => .exc z
  | .stuck => .stuck
@[simp] theorem x_spec {C : Str} {n : Nat} {F : List D → Res EV} {dds : List D} : dSpec C n F dds f ρ = spK C n F dds (f ρ) := by
  unfold dSpec spK
  cases f ρ <;> rfl
@[simp] theorem x_spec_ok {C : Str} {n : Nat} {F : List D → Res EV} {dds : List D} {fl : List (Str × D)} : spK C n F dds (.ok (.sh (.obj C fl))) = callN n F dds [.sh (.obj C fl)] := by
  simp [spK, asObj]
end
end Dl
set_option Elab.async false
set_option linter.all false
set_option maxRecDepth 100000
/-! DL18: calls on given data, keyed dicts, isinstance. -/
namespace Dl
open PySem PySem.Spec PyProof.Rows L2
section
variable {α : Type} {ρ ρ1 : Dl.Env} {g1 g2 g : Stm} {i : Nat} {z : Xc} {b : Bnd} {f f1 f2 f3 : Dl.Env → Res EV} {fs : Dl.Env → Res (List EV)} {t t1 t2 : Dl.Env → Res Bool} {x y : EV} {F : List D → Res EV}
@[simp] theorem x_put0n {x : SV} : putK 0 x (.no :: ρ) = .ok (.nx (x :: ρ)) := x_put0
@[simp] theorem x_put0s {x : SV} {d : D} : putK 0 x (.sh d :: ρ) = .ok (.nx (x :: ρ)) := x_put0
@[simp] theorem x_put0o {x : SV} {us : List T} : putK 0 x (.own us :: ρ) = .ok (.nx (x :: ρ)) := x_put0
@[simp] theorem x_put16 {x y : SV} : putK 16 x (y :: ρ) = consK y (putK 15 x ρ) := x_putS 15
@[simp] theorem x_put17 {x y : SV} : putK 17 x (y :: ρ) = consK y (putK 16 x ρ) := x_putS 16
@[simp] theorem x_put18 {x y : SV} : putK 18 x (y :: ρ) = consK y (putK 17 x ρ) := x_putS 17
@[simp] theorem x_put19 {x y : SV} : putK 19 x (y :: ρ) = consK y (putK 18 x ρ) := x_putS 18
@[simp] theorem x_put20 {x y : SV} : putK 20 x (y :: ρ) = consK y (putK 19 x ρ) := x_putS 19
@[simp] theorem x_put21 {x y : SV} : putK 21 x (y :: ρ) = consK y (putK 20 x ρ) := x_putS 20
@[simp] theorem x_put22 {x y : SV} : putK 22 x (y :: ρ) = consK y (putK 21 x ρ) := x_putS 21
@[simp] theorem x_put23 {x y : SV} : putK 23 x (y :: ρ) = consK y (putK 22 x ρ) := x_putS 22
theorem callN_nb {n : Nat} {xs : List EV} (hn : xs.length = n) (hb : xs.all EV.noBo = true) : callN n F [] xs = F (xs.map EV.d) := by
  unfold callN callR
  simp only [List.length_nil, Nat.add_zero, hn, if_true, List.append_nil, hb, Bool.true_or]
  cases F (xs.map EV.d) <;> rfl
@[simp] theorem callN_s {d : D} : callN 1 F [] [.sh d] = F [d] := callN_nb rfl rfl
@[simp] theorem callN_f {us : List T} : callN 1 F [] [.fr us] = F [.lst (T.toDs us)] := callN_nb rfl rfl
@[simp] theorem callN_ss {d e : D} : callN 2 F [] [.sh d, .sh e] = F [d, e] := callN_nb rfl rfl
@[simp] theorem callN_sf {d : D} {us : List T} : callN 2 F [] [.sh d, .fr us] = F [d, .lst (T.toDs us)] := callN_nb rfl rfl
@[simp] theorem callN_fs {d : D} {us : List T} : callN 2 F [] [.fr us, .sh d] = F [.lst (T.toDs us), d] := callN_nb rfl rfl
@[simp] theorem callN_ff {vs us : List T} : callN 2 F [] [.fr us, .fr vs] = F [.lst (T.toDs us), .lst (T.toDs vs)] := callN_nb rfl rfl
@[simp] theorem callN_sss {d e a : D} : callN 3 F [] [.sh d, .sh e, .sh a] = F [d, e, a] := callN_nb rfl rfl
@[simp] theorem callN_ssf {d e : D} {us : List T} : callN 3 F [] [.sh d, .sh e, .fr us] = F [d, e, .lst (T.toDs us)] := callN_nb rfl rfl
@[simp] theorem callN_sfs {d e : D} {us : List T} : callN 3 F [] [.sh d, .fr us, .sh e] = F [d, .lst (T.toDs us), e] := callN_nb rfl rfl
@[simp] theorem callN_ssss {d e a k : D} : callN 4 F [] [.sh d, .sh e, .sh a, .sh k] = F [d, e, a, k] := callN_nb rfl rfl
@[simp] theorem callN_sssss {d e a k l : D} : callN 5 F [] [.sh d, .sh e, .sh a, .sh k, .sh l] = F [d, e, a, k, l] := callN_nb rfl rfl
theorem callN_bo {n : Nat} {xs : List EV} {x : EV} (hn : xs.length = n) (h : F (xs.map EV.d) = .ok x) (hl : x.ll = true) : callN n F [] xs = .ok x := x_callN hn h (by rw [hl, Bool.or_true])
/-! ### isinstance -/
theorem x_isi1 {d : D} {n : String} {t : String} (h : d.tyn = some t) (hn : clss.contains n = true) : gIsi [.sh d, .sh (.ty n)] = .ok (.sh (.bl (isaB t n))) := by
  simp only [gIsi, EV.d, isaD, h, hn, if_true]
@[simp] theorem x_isi_ii {n : Int} : gIsi [.sh (.int n), .sh (.ty "int")] = .ok (.sh (.bl true)) := (x_isi1 (d := .int n) (n := "int") (t := "int") rfl (by decide +kernel)).trans rfl
@[simp] theorem x_isi_ib {n : Int} : gIsi [.sh (.int n), .sh (.ty "bool")] = .ok (.sh (.bl false)) := (x_isi1 (d := .int n) (n := "bool") (t := "int") rfl (by decide +kernel)).trans rfl
@[simp] theorem x_isi_is {n : Int} : gIsi [.sh (.int n), .sh (.ty "str")] = .ok (.sh (.bl false)) := (x_isi1 (d := .int n) (n := "str") (t := "int") rfl (by decide +kernel)).trans rfl
@[simp] theorem x_isi_it {n : Int} : gIsi [.sh (.int n), .sh (.ty "tuple")] = .ok (.sh (.bl false)) := (x_isi1 (d := .int n) (n := "tuple") (t := "int") rfl (by decide +kernel)).trans rfl
@[simp] theorem x_isi_ss {n : Str} : gIsi [.sh (.str n), .sh (.ty "str")] = .ok (.sh (.bl true)) := (x_isi1 (d := .str n) (n := "str") (t := "str") rfl (by decide +kernel)).trans rfl
@[simp] theorem x_isi_st {n : Str} : gIsi [.sh (.str n), .sh (.ty "tuple")] = .ok (.sh (.bl false)) := (x_isi1 (d := .str n) (n := "tuple") (t := "str") rfl (by decide +kernel)).trans rfl
@[simp] theorem x_isi_bb {n : Bool} : gIsi [.sh (.bl n), .sh (.ty "bool")] = .ok (.sh (.bl true)) := (x_isi1 (d := .bl n) (n := "bool") (t := "bool") rfl (by decide +kernel)).trans rfl
@[simp] theorem x_isi_bs {n : Bool} : gIsi [.sh (.bl n), .sh (.ty "str")] = .ok (.sh (.bl false)) := (x_isi1 (d := .bl n) (n := "str") (t := "bool") rfl (by decide +kernel)).trans rfl
@[simp] theorem x_isi_bt {n : Bool} : gIsi [.sh (.bl n), .sh (.ty "tuple")] = .ok (.sh (.bl false)) := (x_isi1 (d := .bl n) (n := "tuple") (t := "bool") rfl (by decide +kernel)).trans rfl
@[simp] theorem x_isi_tt {n : List D} : gIsi [.sh (.tup n), .sh (.ty "tuple")] = .ok (.sh (.bl true)) := (x_isi1 (d := .tup n) (n := "tuple") (t := "tuple") rfl (by decide +kernel)).trans rfl
@[simp] theorem x_isi_nt : gIsi [.sh .non, .sh (.ty "tuple")] = .ok (.sh (.bl false)) := (x_isi1 (d := .non) (n := "tuple") (t := "NoneType") rfl (by decide +kernel)).trans rfl
theorem x_isi2 {d : D} {t : String} (h : d.tyn = some t) : gIsi [.sh d, .sh (.tup [.ty "list", .ty "tuple"])] = .ok (.sh (.bl (isaB t "list" || isaB t "tuple"))) := by
  have e : tyNames [.ty "list", .ty "tuple"] = some ["list", "tuple"] := by decide +kernel
  simp [gIsi, isaD, h, e]
@[simp] theorem x_isl_i {n : Int} : gIsi [.sh (.int n), .sh (.tup [.ty "list", .ty "tuple"])] = .ok (.sh (.bl false)) := (x_isi2 (d := .int n) (t := "int") rfl).trans rfl
@[simp] theorem x_isl_s {n : Str} : gIsi [.sh (.str n), .sh (.tup [.ty "list", .ty "tuple"])] = .ok (.sh (.bl false)) := (x_isi2 (d := .str n) (t := "str") rfl).trans rfl
@[simp] theorem x_isl_n : gIsi [.sh .non, .sh (.tup [.ty "list", .ty "tuple"])] = .ok (.sh (.bl false)) := (x_isi2 (d := .non) (t := "NoneType") rfl).trans rfl
@[simp] theorem x_isl_t {ds : List D} : gIsi [.sh (.tup ds), .sh (.tup [.ty "list", .ty "tuple"])] = .ok (.sh (.bl true)) := (x_isi2 (d := .tup ds) (t := "tuple") rfl).trans rfl
@[simp] theorem x_isl_l {ds : List D} : gIsi [.sh (.lst ds), .sh (.tup [.ty "list", .ty "tuple"])] = .ok (.sh (.bl true)) := (x_isi2 (d := .lst ds) (t := "list") rfl).trans rfl
/-! ### items -/
@[simp] theorem x_ix0 {d : D} {ds : List D} : gIx (.sh (.tup (d :: ds))) (.sh (.int 0)) = .ok (.sh d) := by simp [gIx, atI, ixN]
@[simp] theorem x_ix1 {d e : D} {ds : List D} : gIx (.sh (.tup (d :: e :: ds))) (.sh (.int 1)) = .ok (.sh e) := by
  have : (1 : Int) < (ds.length : Int) + 1 + 1 := by omega
  simp [gIx, atI, ixN, this]
@[simp] theorem x_ix2 {d e f : D} {ds : List D} : gIx (.sh (.tup (d :: e :: f :: ds))) (.sh (.int 2)) = .ok (.sh f) := by
  have : (2 : Int) < (ds.length : Int) + 1 + 1 + 1 := by omega
  simp [gIx, atI, ixN, this]
theorem x_ixL {ds : List D} {i : Nat} {d : D} (h : ds[i]? = some d) : gIx (.sh (.lst ds)) (.sh (.int (i : Int))) = .ok (.sh d) := by
  have hl := (List.getElem?_eq_some_iff.mp h).1
  have : (i : Int) < (ds.length : Int) := by omega
  simp [gIx, atI, ixN, this, h]
theorem x_ixT {ds : List D} {i : Nat} {d : D} (h : ds[i]? = some d) : gIx (.sh (.tup ds)) (.sh (.int (i : Int))) = .ok (.sh d) := by
  have hl := (List.getElem?_eq_some_iff.mp h).1
  have : (i : Int) < (ds.length : Int) := by omega
  simp [gIx, atI, ixN, this, h]
theorem x_ixLast {ds : List D} {d : D} (h : ds.getLast? = some d) : gIx (.sh (.lst ds)) (.sh (.int (-1))) = .ok (.sh d) := by
  rw [List.getLast?_eq_getElem?] at h
  have hl := (List.getElem?_eq_some_iff.mp h).1
  have e : ixN ds.length (-1) = some (ds.length - 1) := by
    unfold ixN
    rw [if_neg (by omega), if_pos (by omega)]
    congr 1
    omega
  simp [gIx, atI, e, h]
/-! ### equality -/
theorem x_eq_t {a b : D} (h : a = b) (ha : a.fine = true) (da : a.dep ≤ 64) : gEq (.sh a) (.sh b) = .ok (.sh (.bl true)) := by
  subst h
  rcases eqD_fine ha ha da da with ⟨_, e⟩ | ⟨n, _⟩
  · simp [gEq, gF, EV.d, e]
  · exact absurd rfl n
theorem x_eq_f {a b : D} (h : a ≠ b) (ha : a.fine = true) (hb : b.fine = true) (da : a.dep ≤ 64) (db : b.dep ≤ 64) : gEq (.sh a) (.sh b) = .ok (.sh (.bl false)) := by
  rcases eqD_fine ha hb da db with ⟨e, _⟩ | ⟨_, e⟩
  · exact absurd e h
  · simp [gEq, gF, EV.d, e]
theorem x_ne_t {a b : D} (h : a = b) (ha : a.fine = true) (da : a.dep ≤ 64) : gNe (.sh a) (.sh b) = .ok (.sh (.bl false)) := by
  subst h
  rcases eqD_fine ha ha da da with ⟨_, e⟩ | ⟨n, _⟩
  · simp [gNe, gF, EV.d, e]
  · exact absurd rfl n
theorem x_ne_f {a b : D} (h : a ≠ b) (ha : a.fine = true) (hb : b.fine = true) (da : a.dep ≤ 64) (db : b.dep ≤ 64) : gNe (.sh a) (.sh b) = .ok (.sh (.bl true)) := by
  rcases eqD_fine ha hb da db with ⟨e, _⟩ | ⟨_, e⟩
  · exact absurd e h
  · simp [gNe, gF, EV.d, e]
@[simp] theorem x_eqI {m n : Int} : gEq (.sh (.int m)) (.sh (.int n)) = .ok (.sh (.bl (decide (m = n)))) := by
  by_cases h : m = n
  · rw [x_eq_t (congrArg D.int h) rfl (by simp [D.dep])]
    simp [h]
  · rw [x_eq_f (fun z => h (D.int.inj z)) rfl rfl (by simp [D.dep]) (by simp [D.dep])]
    simp [h]
@[simp] theorem x_neI {m n : Int} : gNe (.sh (.int m)) (.sh (.int n)) = .ok (.sh (.bl (!decide (m = n)))) := by
  by_cases h : m = n
  · rw [x_ne_t (congrArg D.int h) rfl (by simp [D.dep])]
    simp [h]
  · rw [x_ne_f (fun z => h (D.int.inj z)) rfl rfl (by simp [D.dep]) (by simp [D.dep])]
    simp [h]
theorem x_eqS {m n : Str} (hm : PyData.strOk m = true) (hn : PyData.strOk n = true) : gEq (.sh (.str m)) (.sh (.str n)) = .ok (.sh (.bl (decide (m = n)))) := by
  by_cases h : m = n
  · rw [x_eq_t (congrArg D.str h) hm (by simp [D.dep])]
    simp [h]
  · rw [x_eq_f (fun z => h (D.str.inj z)) hm hn (by simp [D.dep]) (by simp [D.dep])]
    simp [h]
/-- x in ds -/
theorem any_fine : ∀ {ds : List D} {qs : List PyData} {a : D} {p : PyData}, a.fine = true → a.py = some p → D.fines ds = true → D.pys ds = some qs → ((qs.any fun z => PyData.eqv z p) = true ↔ a ∈ ds)
  | [], _, _, _, _, _, _, e => by cases e; simp
  | d :: ds, qs, a, p, ha, hp, hd, e => by
    rw [D.fines, Bool.and_eq_true] at hd
    obtain ⟨q, h1, _⟩ := fine_py d hd.1
    obtain ⟨rs, k1, _⟩ := fines_py ds hd.2
    rw [D.pys, h1, k1] at e
    cases e
    rw [List.any_cons, Bool.or_eq_true, fine_eqv d a hd.1 ha h1 hp, any_fine ha hp hd.2 k1, List.mem_cons]
    constructor <;> rintro (h | h) <;> simp [h]
theorem inD_lst {a : D} {ds : List D} (ha : a.fine = true) (hd : D.fines ds = true) (da : a.dep ≤ 64) (dd : D.deps ds < 64) : ∃ b, inD a (.lst ds) = some b ∧ (b = true ↔ a ∈ ds) := by
  obtain ⟨p, h1, h2, h3⟩ := fine_py a ha
  obtain ⟨qs, k1, k2, k3⟩ := fines_py ds hd
  have sp : SeqAt.shaped p = true := by
    unfold SeqAt.shaped
    rw [h2, h3]
    simpa using da
  have sq : SeqAt.shaped (.list qs) = true := by
    unfold SeqAt.shaped
    simp only [PyData.canLay0, PyData.depth, k2, k3]
    simp only [Bool.and_eq_true, decide_eq_true_eq, true_and]
    omega
  refine ⟨qs.any fun z => PyData.eqv z p, ?_, any_fine ha h1 hd k1⟩
  unfold inD
  rw [D.py, k1, h1]
  simp [sp, sq]
theorem inD_tup {a : D} {ds : List D} (ha : a.fine = true) (hd : D.fines ds = true) (da : a.dep ≤ 64) (dd : D.deps ds < 64) : ∃ b, inD a (.tup ds) = some b ∧ (b = true ↔ a ∈ ds) := by
  obtain ⟨p, h1, h2, h3⟩ := fine_py a ha
  obtain ⟨qs, k1, k2, k3⟩ := fines_py ds hd
  have sp : SeqAt.shaped p = true := by
    unfold SeqAt.shaped
    rw [h2, h3]
    simpa using da
  have sq : SeqAt.shaped (.tuple qs) = true := by
    unfold SeqAt.shaped
    simp only [PyData.canLay0, PyData.depth, k2, k3]
    simp only [Bool.and_eq_true, decide_eq_true_eq, true_and]
    omega
  refine ⟨qs.any fun z => PyData.eqv z p, ?_, any_fine ha h1 hd k1⟩
  unfold inD
  rw [D.py, k1, h1]
  simp [sp, sq]
end
end Dl
set_option Elab.async false
set_option linter.all false
set_option maxRecDepth 100000
/-! DL19: min, any, all, list(range), reversed, chains, x.index(y). -/
namespace Dl
open PySem PySem.Spec PyProof.Rows L2 RT
/-! ### min(i, j), any(list), all(list) -/
def gMin : List EV → Res EV
  | [x, y] => (match x.d, y.d with
    | .int i, .int j => .ok (.sh (.int (if j < i then j else i)))
    | _, _ => .stuck)
  | _ => .stuck
def boolsD : List D → Option (List Bool)
  | [] => some []
  | .bl b :: ds => (boolsD ds).map (b :: ·)
  | _ :: _ => none
def gAny : List EV → Res EV := g1F fun a => match a with
  | .lst ds => (boolsD ds).map fun bs => .bl (bs.any id)
  | _ => none
def gAll : List EV → Res EV := g1F fun a => match a with
  | .lst ds => (boolsD ds).map fun bs => .bl (bs.all id)
  | _ => none
section
variable {c : Ct}
theorem s_min : CallS c (fun xs H Q => ∃ i j, xs = [.int i, .int j] ∧ Q (.int (if j < i then j else i)) H) gMin := by
  intro E S H S1 H1 A vs xs Q g ra nd fr p
  unfold gMin at p
  split at p
  · obtain ⟨v, w, B, C, rfl, r1, r2⟩ := ev2 ra
    split at p
    · rename_i i j e1 e2
      have q1 := r1.rep g.sub
      rw [e1] at q1
      cases q1
      have q2 := r2.rep g.sub
      rw [e2] at q2
      cases q2
      exact ⟨i, j, rfl, p.sh g (.int _)⟩
    · exact p.elim
  · exact p.elim
theorem bools_of {H : Hp} : ∀ {vs : List V} {ds : List D} {bs : List Bool}, Reps c H vs ds → boolsD ds = some bs → vs = bs.map V.bl
  | _, _, _, .nil, e => by cases e; rfl
  | _, _, _, .cons (ds := ds) h r, e => by
    cases h with
    | bl b =>
      rw [boolsD] at e
      cases q : boolsD ds with
      | none => rw [q] at e; cases e
      | some bs =>
        rw [q] at e
        cases e
        rw [bools_of r q]
        rfl
    | _ => cases e
theorem s_any : CallS c (rAny c.K) gAny := callS_flat fun H v a z Q r e q => by
  cases r with
  | lst ha rr =>
    simp only at e
    obtain ⟨bs, q1, rfl⟩ := Option.map_eq_some_iff.mp e
    rw [bools_of rr q1] at ha
    exact ⟨_, bs, rfl, SqL.of ha, q _ rfl⟩
  | _ => cases e
theorem s_all : CallS c (rAll c.K) gAll := callS_flat fun H v a z Q r e q => by
  cases r with
  | lst ha rr =>
    simp only at e
    obtain ⟨bs, q1, rfl⟩ := Option.map_eq_some_iff.mp e
    rw [bools_of rr q1] at ha
    exact ⟨_, bs, rfl, SqL.of ha, q _ rfl⟩
  | _ => cases e
end
section
variable {X : Cx} {E : WS} {p pos : Pos} {e : Expr} {es : List Expr} {fs : Dl.Env → Res (List EV)}
theorem de_minC (hc : X.calm = true) (hm : X.mg "min" = none) (ha : DA X E (e :: es) fs) (hg : Gl X "min" := by rfl) (he : starEach (e :: es) X.env = (false, eval e X.env) :: starEach es X.env := by rfl) (hpl : (backTo pos (starEach es X.env)).any (·.1) = false := by rfl) :
    DE X E (.Call (.Name "min" p) (e :: es) [] pos) (dC1 gMin fs) := de_callB (call_min2 hc) s_min hg hm PyProof.Rows.Boot.min ha (by decide) (by decide) he hpl
theorem de_anyC (hc : X.calm = true) (hm : X.mg "any" = none) (ha : DA X E (e :: es) fs) (hg : Gl X "any" := by rfl) (he : starEach (e :: es) X.env = (false, eval e X.env) :: starEach es X.env := by rfl) (hpl : (backTo pos (starEach es X.env)).any (·.1) = false := by rfl) :
    DE X E (.Call (.Name "any" p) (e :: es) [] pos) (dC1 gAny fs) := de_callB (cr_any hc) s_any hg hm PyProof.Rows.Boot.any ha (by decide) (by decide) he hpl
theorem de_allC (hc : X.calm = true) (hm : X.mg "all" = none) (ha : DA X E (e :: es) fs) (hg : Gl X "all" := by rfl) (he : starEach (e :: es) X.env = (false, eval e X.env) :: starEach es X.env := by rfl) (hpl : (backTo pos (starEach es X.env)).any (·.1) = false := by rfl) :
    DE X E (.Call (.Name "all" p) (e :: es) [] pos) (dC1 gAll fs) := de_callB (cr_all hc) s_all hg hm PyProof.Rows.Boot.all ha (by decide) (by decide) he hpl
end
/-! ### list(range(e)) -/
def dLstR (f : Dl.Env → Res EV) : Dl.Env → Res EV := fun ρ => (f ρ).bind fun x => match x with
  | .sh (.int j) => if j ≤ 16777216 ∧ -4611686018427387904 ≤ j then .ok (.fr ((rangeD 0 j.toNat).map T.leaf)) else .stuck
  | _ => .stuck
theorem owns_range {c : Ct} {S H : Hp} {n : Nat} : Owns c S H [] ((List.range n).map fun (i : Nat) => V.int (0 + (i : Int))) ((rangeD 0 n).map T.leaf) := by
  refine Owns.leaves ?_
  unfold rangeD
  have : ∀ l : List Nat, Reps c S (l.map fun (i : Nat) => V.int (0 + (i : Int))) (l.map fun (i : Nat) => D.int (0 + (i : Int))) := fun l => by
    induction l with
    | nil => exact .nil
    | cons a l ih => exact .cons (.int _) ih
  exact this _
theorem de_listR {X : Cx} {E : WS} {a : Expr} {f1 : Dl.Env → Res EV} {p p2 pos pos2 : Pos} (hc : X.calm = true) (h : DE X E a f1) (hm : X.mg "list" = none) (hm2 : X.mg "range" = none) (hg : Gl X "list" := by rfl) (hg2 : Gl X "range" := by rfl)
    (na : starEach [a] X.env = (false, eval a X.env) :: starEach [] X.env := by rfl)
    (nb : starEach [Expr.Call (.Name "range" p2) [a] [] pos2] X.env = (false, eval (.Call (.Name "range" p2) [a] [] pos2) X.env) :: starEach [] X.env := by rfl) :
    DE X E (.Call (.Name "list" p) [.Call (.Name "range" p2) [a] [] pos2] [] pos) (dLstR f1) := by
  refine pe_imp (pe_listRg hc hg hm (prg_1 hg2 hm2 h na) nb) fun σ H Q h => ?_
  obtain ⟨S, ρ, O, V, h⟩ := h
  refine ⟨S, ρ, O, V, Post.fst h fun x e1 h1 S1 H1 A v g r nd fr => ?_⟩
  split at h1
  · rename_i j
    split at h1
    · rename_i hj
      refine ⟨j, int_of r, ⟨by omega, by omega, by omega, by omega, by omega⟩, fun q hq => ?_⟩
      have h2 := h1.lst (A := []) g (owns_range (S := S1) (H := H1) (n := j.toNat)) List.nodup_nil (fun u z => by cases z) hq
      have e : rgV 0 j = (List.range j.toNat).map fun (i : Nat) => L2.V.int (0 + (i : Int)) := by
        unfold rgV
        rw [Int.sub_zero]
      rw [e]
      exact h2
    · exact h1.elim
  · exact h1.elim
/-! ### reversed(x) walked -/
def iRev1 (f : Dl.Env → Res EV) : Itf := fun ρ => (f ρ).bind fun x => match x with
  | .sh (.lst ds) => .ok ds.reverse
  | .sh (.tup ds) => .ok ds.reverse
  | _ => .stuck
theorem rev_get {α : Type} {xs : List α} {i : Nat} (h : i < xs.length) : xs.reverse[i]? = xs[xs.length - 1 - i]? := List.getElem?_reverse h
theorem itOk_rev {c : Ct} {a : Addr} {vs : List V} {ds : List D} {S0 : Hp} (h : ∀ H, Same S0 H → SqL c.K H a vs) (r : Reps c S0 vs ds) : ItOk c (Itv c.K a vs.length) ds.reverse S0 := by
  intro S H s0 s1 i
  have q := h H (s0.trans s1)
  have l := r.length
  refine ⟨fun e => ?_, fun d e => ?_⟩
  · have := List.getElem?_eq_none_iff.mp e
    show vs.length ≤ i
    rw [List.length_reverse] at this
    omega
  · have hi := (List.getElem?_eq_some_iff.mp e).1
    rw [List.length_reverse] at hi
    rw [rev_get hi] at e
    obtain ⟨v, hv, rv⟩ := r.get e
    rw [← l] at hv
    refine ⟨⟨by omega, vs, v, q, hv⟩, fun x H' y => ?_⟩
    obtain ⟨rfl, y⟩ := y
    have := y vs q
    rw [hv] at this
    cases this
    exact ⟨S, Gr.refl s1, rv.mono s0⟩
theorem itOk_revT {c : Ct} {a : Addr} {vs : List V} {ds : List D} {S0 : Hp} (h : TupAt c.K S0 a vs) (r : Reps c S0 vs ds) : ItOk c (ItvT c.K a vs.length) ds.reverse S0 := by
  intro S H s0 s1 i
  have q := (h.mono (s0.trans s1)).sq
  have l := r.length
  refine ⟨fun e => ?_, fun d e => ?_⟩
  · have := List.getElem?_eq_none_iff.mp e
    show vs.length ≤ i
    rw [List.length_reverse] at this
    omega
  · have hi := (List.getElem?_eq_some_iff.mp e).1
    rw [List.length_reverse] at hi
    rw [rev_get hi] at e
    obtain ⟨v, hv, rv⟩ := r.get e
    rw [← l] at hv
    refine ⟨⟨by omega, vs, v, q, hv⟩, fun x H' y => ?_⟩
    obtain ⟨rfl, y⟩ := y
    have := y vs q
    rw [hv] at this
    cases this
    exact ⟨S, Gr.refl s1, rv.mono s0⟩
theorem di_rev {X : Cx} {E : WS} {tg e : Expr} {f1 : Dl.Env → Res EV} {p pos : Pos} (h : DE X E e f1) (hm : X.mg "reversed" = none) (hg : Gl X "reversed" := by rfl) (hs : starEach [e] X.env = (false, eval e X.env) :: starEach [] X.env := by rfl) :
    DI X E tg (.Call (.Name "reversed" p) [e] [] pos) (iRev1 f1) := by
  refine pi_imp (pi_revA hg hm h hs) fun σ H R h => ?_
  obtain ⟨S, ρ, O, V, h⟩ := h
  refine ⟨S, ρ, O, V, PostW.fst h fun x e1 h1 S1 H1 A v g r nd fr => ?_⟩
  split at h1
  · cases r with
    | sh r => cases r with
      | lst ha rr => exact ⟨_, _, rfl, .inl ⟨SqL.of (g.sub _ _ ha), h1 S1 H1 _ g (itOk_rev (fun H s => SqL.of (s _ _ ha)) rr)⟩⟩
  · cases r with
    | sh r => cases r with
      | tup ha rr => exact ⟨_, _, rfl, .inr ⟨(ha.mono g.sub).sq, h1 S1 H1 _ g (itOk_revT ha rr)⟩⟩
  · exact h1.elim
/-! ### x.index(y) of a list or a tuple -/
def strsD : List D → Option (List Str)
  | [] => some []
  | .str z :: ds => (strsD ds).map (z :: ·)
  | _ :: _ => none
def idxL (ds : List D) (b : D) : Res EV := match D.pys ds, b.py with
  | some qs, some q => if SeqAt.shaped (.list qs) && SeqAt.shaped q then (match qs.findIdx? (fun z => PyData.eqv z q) with
    | some j => .ok (.sh (.int (j : Nat)))
    | none => .stuck) else .stuck
  | _, _ => .stuck
def idxT (ds : List D) (b : D) : Res EV := match strsD ds, b with
  | some ys, .str z => (match ys.findIdx? (· == z) with
    | some j => .ok (.sh (.int (j : Nat)))
    | none => .stuck)
  | _, _ => .stuck
def dIdx (f1 f2 : Dl.Env → Res EV) : Dl.Env → Res EV := fun ρ => (f1 ρ).bind fun a => match a.d with
  | .lst ds => (f2 ρ).bind fun b => idxL ds b.d
  | .tup ds => (f2 ρ).bind fun b => idxT ds b.d
  | _ => .stuck
def rIdxT (K : PySem.W.Frag) : V → List V → Hp → VK → Prop := fun x xs H Q => ∃ p, ∃ ys : List Str, ∃ z j, x = .ref p ∧ xs = [.str z] ∧ SqT K H p (ys.map V.str) ∧ ys[j]? = some z ∧ (∀ m, m < j → ys[m]? ≠ some z) ∧ Q (.int (j : Nat)) H
def tIdx (K : PySem.W.Frag) (to : TE) (t : TA) : TE := fun σ H Q => to σ H fun x H1 =>
  ((∃ (a : Addr) (xs : List V), x = .ref a ∧ SqL K H1 a xs) ∧ t σ H1 fun ys H2 => rIndexD K x ys H2 Q) ∨
  ((∃ (a : Addr) (xs : List V), x = .ref a ∧ TupAt K H1 a xs) ∧ t σ H1 fun ys H2 => rIdxT K x ys H2 Q)
section
variable {X : Cx} {E : WS} {o e : Expr} {to : TE} {t : TA} {apos cpos : Pos} {f1 f2 : Dl.Env → Res EV}
theorem pe_idx (hu : X.A.units + 65 < cLine) (ho : PE X o to) (ha : PA X [e] t)
    (hbase : attributeBase o "index" X.env (eval o X.env) = eval o X.env := by rfl)
    (hfew : ((backTo cpos (starEach [e] X.env)).all (fun x => !x.1) && (backToKw cpos (keywordEach [] X.env)).all (fun x => x.1.isSome)
      && decide ([e].length + ([] : List Keyword).length + (if ([] : List Keyword).isEmpty then 0 else 1) < 30)) = true := by rfl)
    (hline : (apos.endLine == cpos.line) = true := by rfl) (hs : starEach [e] X.env = (false, eval e X.env) :: starEach [] X.env := by rfl) (hplain : (backTo cpos (starEach [] X.env)).any (·.1) = false := by rfl) :
    PE X (.Call (.Attribute o "index" apos) [e] [] cpos) (tIdx X.K to t) := by
  refine ⟨fun pins s σ H Q I h => ?_⟩
  refine wpAny_Call_method_late hbase hfew hline rfl (thn (ho.run pins s σ H _ I h) fun v s1 ⟨x, H1, I1, r1, q1⟩ => ?_)
  rcases q1 with ⟨⟨a, xs, rfl, hq⟩, q⟩ | ⟨⟨a, xs, rfl, hq⟩, q⟩
  · obtain rfl : v = .ref a := r1
    obtain ⟨its, rv, ⟨ob, n, hob, hc, hdn, hdt⟩, hlen⟩ := I1.list hq
    refine ⟨"list", _, PySem.F.plainAttrs_list, PySem.F.slot_list_index, PySem.F.type_list_index, ⟨ob, hob, hc⟩, fun b z => by cases z; exact ⟨ob, hob, hdn⟩, ?_⟩
    have hA := ha.run cpos pins s1 σ H1 _ I1 q
    rw [hs] at hA ⊢
    refine Calls.callWith_builtin (by show (false || (backTo cpos (starEach [] X.env)).any (·.1)) = false; rw [hplain] <;> rfl) (Calls.evalArgs_plain ?_)
    exact thn hA fun us s2 ⟨vs, H2, I2, r2, q2⟩ => mt_indexD hu pins s2 σ H2 (.ref a) vs _ us Q I2 rfl r2 q2
  · obtain rfl : v = .ref a := r1
    obtain ⟨ob, hob, hc, hdn⟩ := hq.typed I1
    refine ⟨"tuple", _, PySem.F.plainAttrs_tuple, PySem.F.slot_tuple_index, PySem.F.type_tuple_index, ⟨ob, hob, hc⟩, fun b z => by cases z; exact ⟨ob, hob, hdn⟩, ?_⟩
    have hA := ha.run cpos pins s1 σ H1 _ I1 q
    rw [hs] at hA ⊢
    refine Calls.callWith_builtin (by show (false || (backTo cpos (starEach [] X.env)).any (·.1)) = false; rw [hplain] <;> rfl) (Calls.evalArgs_plain ?_)
    exact thn hA fun us s2 ⟨vs, H2, I2, r2, q2⟩ => mt_tup_index pins s2 σ H2 (.ref a) vs _ us Q I2 rfl r2 q2
theorem strs_of {c : Ct} {H : Hp} : ∀ {vs : List V} {ds : List D} {ys : List Str}, Reps c H vs ds → strsD ds = some ys → vs = ys.map V.str
  | _, _, _, .nil, e => by cases e; rfl
  | _, _, _, .cons (ds := ds) h r, e => by
    cases h with
    | str z =>
      rw [strsD] at e
      cases q : strsD ds with
      | none => rw [q] at e; cases e
      | some ys =>
        rw [q] at e
        cases e
        rw [strs_of r q]
        rfl
    | _ => cases e
theorem first_idx {α : Type} {p : α → Bool} {xs : List α} {j : Nat} (h : xs.findIdx? p = some j) : (∃ z, xs[j]? = some z ∧ p z = true) ∧ ∀ (m : Nat) (z : α), m < j → xs[m]? = some z → p z = false := by
  rw [List.findIdx?_eq_some_iff_getElem] at h
  obtain ⟨hj, h1, h2⟩ := h
  refine ⟨⟨_, List.getElem?_eq_getElem hj, h1⟩, fun m z hm e => ?_⟩
  obtain ⟨hl, e⟩ := List.getElem?_eq_some_iff.mp e
  have := h2 m hm
  rw [e] at this
  simpa using this
theorem de_index (hu : X.A.units + 65 < cLine) (ha : DE X E o f1) (hb : DE X E e f2)
    (hbase : attributeBase o "index" X.env (eval o X.env) = eval o X.env := by rfl)
    (hfew : ((backTo cpos (starEach [e] X.env)).all (fun x => !x.1) && (backToKw cpos (keywordEach [] X.env)).all (fun x => x.1.isSome)
      && decide ([e].length + ([] : List Keyword).length + (if ([] : List Keyword).isEmpty then 0 else 1) < 30)) = true := by rfl)
    (hline : (apos.endLine == cpos.line) = true := by rfl) (hs : starEach [e] X.env = (false, eval e X.env) :: starEach [] X.env := by rfl) (hplain : (backTo cpos (starEach [] X.env)).any (·.1) = false := by rfl) :
    DE X E (.Call (.Attribute o "index" apos) [e] [] cpos) (dIdx f1 f2) := by
  refine pe_imp (pe_idx hu ha (da_one hb hs) hbase hfew hline hs hplain) fun σ H Q h => ?_
  obtain ⟨S, ρ, O, V, h⟩ := h
  refine ⟨S, ρ, O, V, Post.fst h fun x e1 h1 S1 H1 A v g1 r1 n1 fr1 => ?_⟩
  split at h1
  · rename_i ds hx
    have q := r1.rep g1.sub
    rw [hx] at q
    cases q with
    | lst hl rr =>
      refine .inl ⟨⟨_, _, rfl, SqL.of hl⟩, S1, ρ, O, V.gr g1, Post.fst (h1.later g1) fun y e2 _ S2 H2 B w g2 r2 n2 fr2 => ?_⟩
      have h3 : Post (ctOf X) (xs (ctOf X) E ρ O) S H (idxL ds y.d) Q := by
        have z := h1
        rw [e2] at z
        exact z
      have g := g1.trans g2
      have rx := (r1.gr g2).rep g.sub
      rw [hx] at rx
      have ry := r2.rep g.sub
      unfold idxL at h3
      split at h3
      · rename_i qs qy e3 e4
        split at h3
        · rename_i hsh
          rw [Bool.and_eq_true] at hsh
          split at h3
          · rename_i j hj
            obtain ⟨⟨z, z1, z2⟩, z3⟩ := first_idx hj
            have dx := rx.dp (p := .list qs) (by rw [D.py, e3]; rfl)
            exact ⟨_, w, qy, qs, j, z, rfl, rfl, dx, ry.dp e4, hsh.1, hsh.2, z1, z2, fun m z' hm e5 => z3 m z' hm e5, h3.sh g (.int _)⟩
          · exact h3.elim
        · exact h3.elim
      · exact h3.elim
  · rename_i ds hx
    have q := r1.rep g1.sub
    rw [hx] at q
    cases q with
    | tup hl rr =>
      refine .inr ⟨⟨_, _, rfl, hl⟩, S1, ρ, O, V.gr g1, Post.fst (h1.later g1) fun y e2 _ S2 H2 B w g2 r2 n2 fr2 => ?_⟩
      have h3 : Post (ctOf X) (xs (ctOf X) E ρ O) S H (idxT ds y.d) Q := by
        have z := h1
        rw [e2] at z
        exact z
      have g := g1.trans g2
      have rx := (r1.gr g2).rep g.sub
      rw [hx] at rx
      have ry := r2.rep g.sub
      unfold idxT at h3
      split at h3
      · rename_i ys zz e3 e4
        split at h3
        · rename_i j hj
          obtain ⟨⟨z, z1, z2⟩, z3⟩ := first_idx hj
          rw [e4] at ry
          cases ry
          cases rx with
          | tup hl2 rr2 =>
            have es := strs_of rr2 e3
            subst es
            have ez : z = zz := eq_of_beq z2
            subst ez
            exact ⟨_, ys, z, j, rfl, rfl, hl2.sq, z1, fun m hm e5 => by
              have := z3 m z hm e5
              simp at this, h3.sh g (.int _)⟩
        · exact h3.elim
      · exact h3.elim
  · exact h1.elim
end
/-! ### a op b op c as a test of ints -/
def dChL (f1 f2 f3 : Dl.Env → Res EV) : Dl.Env → Res EV := fun ρ => (f1 ρ).bind fun a => (f2 ρ).bind fun b => match a, b with
  | .sh (.int i), .sh (.int j) => if i ≤ j then (f3 ρ).bind fun c => (match c with
    | .sh (.int k) => .ok (.sh (.bl (decide (j ≤ k))))
    | _ => .stuck) else .ok (.sh (.bl false))
  | _, _ => .stuck
section
variable {X : Cx} {E : WS} {a b c : Expr} {pos : Pos} {f1 f2 f3 : Dl.Env → Res EV}
theorem chain_imp {σ : L2.St} {H : Hp} {Q : VK} (h : rE (ctOf X) E (dChL f1 f2 f3) σ H Q) : tChain (rI0 fun i j => .bl (decide (i ≤ j))) (rI0 fun i j => .bl (decide (i ≤ j))) (rE (ctOf X) E f1) (rE (ctOf X) E f2) (rE (ctOf X) E f3) σ H Q := by
  obtain ⟨S, ρ, O, V, h⟩ := h
  refine ⟨S, ρ, O, V, Post.fst h fun x e1 h1 S1 H1 A v g1 r1 n1 fr1 => ?_⟩
  refine ⟨S1, ρ, O, V.gr g1, Post.fst (h1.later g1) fun y e2 h2 S2 H2 B w g2 r2 n2 fr2 => ?_⟩
  split at h2
  · rename_i i j
    have ev := int_of r1
    have ew := int_of r2
    subst ev
    subst ew
    refine ⟨i, j, rfl, rfl, decide (i ≤ j), rfl, ?_⟩
    by_cases hij : i ≤ j
    · rw [if_pos hij] at h2
      rw [if_pos (decide_eq_true hij)]
      refine ⟨S2, ρ, O, (V.gr g1).gr g2, Post.fst (h2.later g2) fun u e3 h3 S3 H3 C w3 g3 r3 n3 fr3 => ?_⟩
      split at h3
      · rename_i k
        have eu := int_of r3
        subst eu
        exact ⟨j, k, rfl, rfl, h3.sh g3 (.bl _)⟩
      · exact h3.elim
    · rw [if_neg hij] at h2
      rw [decide_eq_false hij, if_neg (by decide)]
      exact h2.sh g2 (.bl _)
  · exact h2.elim
theorem de_chainLE (ha : DE X E a f1) (hb : DE X E b f2) (hc : DE X E c f3) (hm : lastMarks [.LtE, .LtE] [b, c] = false := by with_unfolding_all rfl) : DE X E (.Compare a [.LtE, .LtE] [b, c] pos) (dChL f1 f2 f3) :=
  pe_imp (pe_chain op_le op_le ha hb hc hm) fun _ _ _ h => chain_imp h
theorem dt_chainLE (ha : DE X E a f1) (hb : DE X E b f2) (hc : DE X E c f3) (hm : lastMarks [.LtE, .LtE] [b, c] = false := by with_unfolding_all rfl) : DT X E (.Compare a [.LtE, .LtE] [b, c] pos) (dT tBool (dChL f1 f2 f3)) := by
  refine pt_imp (pt_chain op_le op_le ha hb hc hm) fun σ H Q h => ?_
  obtain ⟨S, ρ, O, V, h⟩ := h
  refine chain_imp (Q := fun v H1 => ∃ k, v = .bl k ∧ Q k H1) ⟨S, ρ, O, V, Post.fstT h fun x e1 h1 S1 H1 A v g1 r1 n1 fr1 => ?_⟩
  unfold tBool at h1
  split at h1
  · cases r1 with
    | sh r => cases r with
      | bl k => exact ⟨_, rfl, h1 S1 H1 g1⟩
  · exact h1.elim
end
end Dl
set_option Elab.async false
set_option linter.all false
set_option maxRecDepth 100000
/-! DL20: x.remove(e), x.insert(k, e), y.append(x.pop(k)) for lists that slots own. -/
namespace Dl
open PySem PySem.Spec PyProof.Rows L2
section
variable {c : Ct} {B : Base} {S H : Hp} {σ : L2.St} {ρ : Dl.Env} {O : List Addr} {E : WS} {D : Ends}
theorem postS.fstA {r : Res (List EV)} {k : List EV → Res Out} {Q : List V → Hp → Prop} (h : postS c B E D (r.at ρ k)) (v : Vw c B S H σ ρ O)
    (go : ∀ x, r = .ok x → postS c B E D (k x) → ∀ S1 H1 A u, Gr S H S1 H1 → EvsRep c S1 H1 A u x → A.Nodup → (∀ a ∈ A, H a = none) → Q u H1) : PostA c (xs c E ρ O) S H r Q := by
  cases r with
  | ok x => exact fun S1 H1 A u g re nd fr => go x rfl h S1 H1 A u g re nd fr
  | exc x => exact fun S1 H1 e dx g z f σ' sl => h S1 H1 σ' O e dx ⟨⟨g.sub, sl, v.v.nd⟩, v.g.gr g, v.own, v.niG g.hh⟩ z (v.freshX f)
  | stuck => exact h
/-- a slot's own list gets other shared items -/
theorem Vw.relist {i : Nat} {a : Addr} {ws : List V} {ts : List T} {ds : List Dl.D} (V : Vw c B S H σ ρ O) (q : ρ[i]? = some (.own ts)) (q1 : σ[i]? = some (some (.ref a))) (r : Reps c S ws ds) : ∃ O', Vw c B S (upd H a (.lst ws)) σ (ρ.set i (.own (ds.map T.leaf))) O' := by
  refine V.write (x' := .own (ds.map T.leaf)) q q1 fun A2 r2 n2 s2 => ?_
  cases r2 with
  | own r2 =>
    cases r2 with
    | @node _ A3 vs3 _ ha3 na3 rs3 =>
      have here : a ∈ a :: A3 := List.mem_cons_self
      refine ⟨[a], .own (.node upd_same na3 (Owns.leaves r)), List.nodup_cons.mpr ⟨by simp, List.nodup_nil⟩, fun b hb => .inl ?_, fun b hb ob eb => ?_, fun b hx hb => ?_, fun b hb C' dx' vf' eb => ?_⟩
      · rw [List.mem_singleton.mp hb]
        exact here
      · rw [upd_ne fun z => hb (by rw [z]; exact here)]
        exact eb
      · obtain ⟨C', dx', vf', y⟩ := V.g.exs b hx
        rcases List.mem_cons.mp hb with z | hb
        · subst z
          rw [ha3] at y
          cases y
        · obtain ⟨⟨_, eo⟩, _⟩ := rs3.alive b hb
          rw [eo] at y
          cases y
      · rw [List.mem_singleton.mp hb, upd_same] at eb
        cases eb
/-- what a slot's own list of shared items is -/
theorem Vw.leaves {i : Nat} {ts : List T} {ds : List Dl.D} (V : Vw c B S H σ ρ O) (q : ρ[i]? = some (.own ts)) (q0 : leaves? ts = some ds) : ∃ a vs, σ[i]? = some (some (.ref a)) ∧ H a = some (.lst vs) ∧ Reps c S vs ds := by
  obtain ⟨A, o, q1, q2, q3, q4, _⟩ := V.v.sl.at_ V.v.nd q
  cases q2 with
  | own r =>
    cases r with
    | @node a A0 vs _ ha na rs => exact ⟨a, vs, q1, ha, leaves_reps rs q0⟩
theorem Reps.erase : ∀ {vs : List V} {ds : List Dl.D}, Reps c S vs ds → ∀ j : Nat, Reps c S (vs.eraseIdx j) (ds.eraseIdx j)
  | _, _, .nil, _ => .nil
  | _, _, .cons _ r, 0 => r
  | _, _, .cons h r, j + 1 => .cons h (Reps.erase r j)
theorem Reps.takes : ∀ {vs : List V} {ds : List Dl.D}, Reps c S vs ds → ∀ j : Nat, Reps c S (vs.take j) (ds.take j)
  | _, _, .nil, j => by cases j <;> exact .nil
  | _, _, .cons _ _, 0 => .nil
  | _, _, .cons h r, j + 1 => .cons h (Reps.takes r j)
theorem Reps.drops : ∀ {vs : List V} {ds : List Dl.D}, Reps c S vs ds → ∀ j : Nat, Reps c S (vs.drop j) (ds.drop j)
  | _, _, .nil, j => by cases j <;> exact .nil
  | _, _, .cons h r, 0 => .cons h r
  | _, _, .cons _ r, j + 1 => Reps.drops r j
end
/-! ### remove -/
def rRemD (K : PySem.W.Frag) : V → List V → Hp → VK → Prop := fun x xs H Q => ∃ (a : Addr) (y : V) (d : PyData) (vs : List V) (ds : List PyData) (j : Nat) (z : PyData), x = V.ref a ∧ xs = [y] ∧ H a = some (.lst vs) ∧ DpAll K H vs ds ∧ Dp K H y d ∧
  SeqAt.shaped (.list ds) = true ∧ SeqAt.shaped d = true ∧ ds[j]? = some z ∧ PyData.eqv z d = true ∧ (∀ (m : Nat) (z' : PyData), m < j → ds[m]? = some z' → PyData.eqv z' d = false) ∧ Q .non (upd H a (.lst (vs.eraseIdx j)))
theorem mt_remD {X : Cx} (hu : X.A.units + 65 < cLine) : MtR X "list.remove" (rRemD X.K) := by
  intro pins s σ H x xs v us Q I rx rxs h
  obtain ⟨a, y, d, vs, ds, j, z, rfl, rfl, hH, hl, hy, sl, sd, hz, hzj, hno, q⟩ := h
  obtain rfl : v = Value.ref a := rx
  obtain ⟨uy, rfl, ry⟩ := vals1 rxs
  obtain ⟨bs, r1⟩ := Dp.reads I d y uy hy ry
  have lay := SeqAt.canLay_of_shaped sl
  have room : X.A.units + 1 + min (PyData.depthAll ds) d.depth < cLine := room_in_shaped sd hu
  obtain ⟨hz2, its, n, r, hlen, e⟩ := I.lstM hH
  obtain ⟨as, h4⟩ := Dp.readsAll I ds _ its hl r
  have hn : its.length = ds.length := SeqAt.ReadsAll.length ds its as h4
  have hmap : its.map (SeqAt.readOf s.heap) = ds := SeqAt.readsAll_map ds its as lay h4
  have hsl := sizeLine_eq
  obtain ⟨hjd, _⟩ := List.getElem?_eq_some_iff.mp hz
  have hj : j < its.toArray.size := by rw [List.size_toArray]; omega
  have read : ∀ (m : Nat) (hm : m < its.toArray.size) (w : PyData), ds[m]? = some w → SeqAt.readOf s.heap its.toArray[m] = w := by
    intro m hm w hw
    have hml : m < its.length := by simpa using hm
    rw [← hmap, List.getElem?_map, List.getElem?_eq_getElem hml] at hw
    have e1 : SeqAt.readOf s.heap its[m] = w := Option.some.inj (show some (SeqAt.readOf s.heap its[m]) = some w from hw)
    simpa using e1
  refine call_meets PySem.F.slot_list_remove ⟨_, e, rfl⟩ PySem.F.entry_list_remove (PySem.F.args_list_remove_2 _ _)
    (SeqAt.list_removeAt a its.toArray n _ _ uy (fun u => PyData.eqv (SeqAt.readOf s.heap u) d) j hj ?_ ?_ (by rw [List.size_toArray]; omega)) ⟨e, SeqAt.items_eqAt (vs := its.toArray) (show ReadsAll s.heap its.toArray.toList ds as from h4) r1 lay (SeqAt.canLay_of_shaped sd) room, ?_⟩
  · show PyData.eqv (SeqAt.readOf s.heap its.toArray[j]) d = true
    rw [read j hj z hz]
    exact hzj
  · intro m hm hmj
    have hmd : m < ds.length := by omega
    have hw : ds[m]? = some ds[m] := List.getElem?_eq_getElem hmd
    show PyData.eqv (SeqAt.readOf s.heap its.toArray[m]) d = false
    rw [read m hm _ hw]
    exact hno m _ hmj hw
  · refine ⟨.non, _, I.lset (its' := its.eraseIdx j) (t' := s.toks) hH e ?_ (r.eraseIdx j) ?_, rfl, q⟩
    · show its.toArray.eraseIdxIfInBounds j = (its.eraseIdx j).toArray
      rw [List.eraseIdxIfInBounds_toArray]
    · have := len_erase vs j
      omega
/-- the place of the first b -/
def placeD (ds : List D) (b : D) : Option Nat := match D.pys ds, b.py with
  | some qs, some q => if SeqAt.shaped (.list qs) && SeqAt.shaped q then qs.findIdx? (fun z => PyData.eqv z q) else none
  | _, _ => none
def dRem (i : Nat) (f : Dl.Env → Res EV) : Stm := fun ρ => match ρ[i]? with
  | some (.own ts) => (match leaves? ts with
    | some ds => (f ρ).at ρ fun x => (match placeD ds x.d with
      | some j => .ok (.nx (ρ.set i (.own ((ds.eraseIdx j).map T.leaf))))
      | none => .stuck)
    | none => .stuck)
  | _ => .stuck
def dIns (i : Nat) (fs : Dl.Env → Res (List EV)) : Stm := fun ρ => match ρ[i]? with
  | some (.own ts) => (match leaves? ts with
    | some ds => (fs ρ).at ρ fun xs => (match xs with
      | [.sh (.int k), .sh d] => if 0 ≤ k ∧ k < 9223372036854775808 ∧ ds.length < 16777216 then .ok (.nx (ρ.set i (.own ((ds.take k.toNat ++ [d] ++ ds.drop k.toNat).map T.leaf)))) else .stuck
      | _ => .stuck)
    | none => .stuck)
  | _ => .stuck
/-- y.append(x.pop(k)) -/
def dAppPop (i j : Nat) (f : Dl.Env → Res EV) : Stm := fun ρ => if i = j then .stuck else match ρ[i]?, ρ[j]? with
  | some (.own ts), some (.own us) => (match leaves? ts, leaves? us with
    | some ds, some es => (f ρ).at ρ fun x => (match x with
      | .sh (.int k) => (match ixN es.length k with
        | some m => (match es[m]? with
          | some d => if ds.length < 16777216 ∧ es.length ≤ 16777216 then .ok (.nx ((ρ.set j (.own ((es.eraseIdx m).map T.leaf))).set i (.own ((ds ++ [d]).map T.leaf)))) else .stuck
          | none => .stuck)
        | none => .stuck)
      | _ => .stuck)
    | _, _ => .stuck)
  | _, _ => .stuck
section
variable {X : Cx} {E : WS} {e e2 : Expr} {f1 : Dl.Env → Res EV} {fs : Dl.Env → Res (List EV)} {x y : Str} {p1 p2 p3 q1 q2 q3 pos : Pos}
theorem ds_rem (i : Nat) (hu : X.A.units + 65 < cLine) (he : DE X E e f1) (hN : X.N[i]? = some x := by rfl) (hv : Vis X.env.scope x := by first | exact Or.inl rfl | exact Or.inr (Or.inl rfl) | exact Or.inr (Or.inr rfl)) (hd : (x == ("__debug__" : Str)) = false := by decide)
    (hcd : (x == ("__classdict__" : Str)) = false := by decide) (hbase : attributeBase (.Name x p1) "remove" X.env (eval (.Name x p1) X.env) = eval (.Name x p1) X.env := by rfl)
    (hfew : ((backTo p3 (starEach [e] X.env)).all (fun x => !x.1) && (backToKw p3 (keywordEach [] X.env)).all (fun x => x.1.isSome)
      && decide ([e].length + ([] : List Keyword).length + (if ([] : List Keyword).isEmpty then 0 else 1) < 30)) = true := by rfl)
    (hline : (p2.endLine == p3.line) = true := by rfl) (hs : starEach [e] X.env = (false, eval e X.env) :: starEach [] X.env := by rfl) (hplain : (backTo p3 (starEach [] X.env)).any (·.1) = false := by rfl)
    (hsw : swapsWith (.Call (.Attribute (.Name x p1) "remove" p2) [e] [] p3) none pos.line X.env = pure false := by rfl) :
    DS X E (.Expr (.Call (.Attribute (.Name x p1) "remove" p2) [e] [] p3) pos) (dRem i f1) := by
  refine ps_imp (ps_expr (pe_bm PySem.F.plainAttrs_list PySem.F.slot_list_remove PySem.F.type_list_remove (mt_remD hu) (pe_var (i := i) hN hv hd hcd) (da_one he hs) hbase hfew hline hs hplain) hsw) fun D σ H h => ?_
  obtain ⟨B, S, ρ, O, V, h⟩ := h
  unfold dRem at h
  split at h
  · rename_i ts q
    split at h
    · rename_i ds q0
      obtain ⟨a, vs, q1, ha, r0⟩ := V.leaves q q0
      refine ⟨_, q1, .inl ⟨rfl, _, SqL.of ha⟩, S, ρ, O, V.v, postS.fst h V fun x e1 h1 S1 H1 C u g r nd fr => ?_⟩
      split at h1
      · rename_i j hj
        unfold placeD at hj
        split at hj
        · rename_i qs qx e3 e4
          split at hj
          · rename_i hsh
            rw [Bool.and_eq_true] at hsh
            obtain ⟨⟨z, z1, z2⟩, z3⟩ := first_idx hj
            have r1 := r0.mono g.ss
            have V1 := V.gr g
            obtain ⟨O', V'⟩ := V1.relist q q1 (r1.erase j)
            exact ⟨a, u, qx, vs, qs, j, z, rfl, rfl, g.hh _ _ ha, (r1.mono g.sub).dp e3, (r.rep g.sub).dp e4, hsh.1, hsh.2, z1, z2, fun m z' hm e5 => z3 m z' hm e5, h1 S1 _ σ O' V'⟩
          · cases hj
        · cases hj
      · exact h1.elim
    · exact h.elim
  · exact h.elim
theorem ds_ins (i : Nat) (he : DA X E [e, e2] fs) (hN : X.N[i]? = some x := by rfl) (hv : Vis X.env.scope x := by first | exact Or.inl rfl | exact Or.inr (Or.inl rfl) | exact Or.inr (Or.inr rfl)) (hd : (x == ("__debug__" : Str)) = false := by decide)
    (hcd : (x == ("__classdict__" : Str)) = false := by decide) (hbase : attributeBase (.Name x p1) "insert" X.env (eval (.Name x p1) X.env) = eval (.Name x p1) X.env := by rfl)
    (hfew : ((backTo p3 (starEach [e, e2] X.env)).all (fun x => !x.1) && (backToKw p3 (keywordEach [] X.env)).all (fun x => x.1.isSome)
      && decide ([e, e2].length + ([] : List Keyword).length + (if ([] : List Keyword).isEmpty then 0 else 1) < 30)) = true := by rfl)
    (hline : (p2.endLine == p3.line) = true := by rfl) (hs : starEach [e, e2] X.env = (false, eval e X.env) :: starEach [e2] X.env := by rfl) (hplain : (backTo p3 (starEach [e2] X.env)).any (·.1) = false := by rfl)
    (hsw : swapsWith (.Call (.Attribute (.Name x p1) "insert" p2) [e, e2] [] p3) none pos.line X.env = pure false := by rfl) :
    DS X E (.Expr (.Call (.Attribute (.Name x p1) "insert" p2) [e, e2] [] p3) pos) (dIns i fs) := by
  refine ps_imp (ps_expr (pe_bm PySem.F.plainAttrs_list PySem.F.slot_list_insert PySem.F.type_list_insert mt_insert (pe_var (i := i) hN hv hd hcd) he hbase hfew hline hs hplain) hsw) fun D σ H h => ?_
  obtain ⟨B, S, ρ, O, V, h⟩ := h
  have hz : sizeLine = 16777216 := sizeLine_eq
  unfold dIns at h
  split at h
  · rename_i ts q
    split at h
    · rename_i ds q0
      obtain ⟨a, vs, q1, ha, r0⟩ := V.leaves q q0
      refine ⟨_, q1, .inl ⟨rfl, _, SqL.of ha⟩, S, ρ, O, V.v, postS.fstA h V fun xs e1 h1 S1 H1 C us g r nd fr => ?_⟩
      split at h1
      · rename_i k d
        split at h1
        · rename_i hk
          obtain ⟨v, w, C1, C2, rfl, rv, rw_⟩ := ev2 r
          have ev := int_of rv
          subst ev
          have r1 := r0.mono g.ss
          have l1 := r1.length
          have V1 := V.gr g
          cases rw_ with
          | sh rw_ =>
            obtain ⟨O', V'⟩ := V1.relist q q1 (((r1.takes k.toNat).append (.cons rw_ .nil)).append (r1.drops k.toNat))
            exact ⟨a, vs, k, w, rfl, rfl, g.hh _ _ ha, by omega, hk.1, hk.2.1, h1 S1 _ σ O' V'⟩
        · exact h1.elim
      · exact h1.elim
    · exact h.elim
  · exact h.elim
theorem ds_appPop (i j : Nat) (he : DE X E e f1) (hN : X.N[i]? = some x := by rfl) (hM : X.N[j]? = some y := by rfl)
    (hv : Vis X.env.scope x := by first | exact Or.inl rfl | exact Or.inr (Or.inl rfl) | exact Or.inr (Or.inr rfl)) (hd : (x == ("__debug__" : Str)) = false := by decide) (hcd : (x == ("__classdict__" : Str)) = false := by decide)
    (hv2 : Vis X.env.scope y := by first | exact Or.inl rfl | exact Or.inr (Or.inl rfl) | exact Or.inr (Or.inr rfl)) (hd2 : (y == ("__debug__" : Str)) = false := by decide) (hcd2 : (y == ("__classdict__" : Str)) = false := by decide)
    (hbase : attributeBase (.Name x p1) "append" X.env (eval (.Name x p1) X.env) = eval (.Name x p1) X.env := by rfl) (hbase2 : attributeBase (.Name y q1) "pop" X.env (eval (.Name y q1) X.env) = eval (.Name y q1) X.env := by rfl)
    (hfew : ((backTo p3 (starEach [Expr.Call (.Attribute (.Name y q1) "pop" q2) [e] [] q3] X.env)).all (fun x => !x.1) && (backToKw p3 (keywordEach [] X.env)).all (fun x => x.1.isSome)
      && decide ([Expr.Call (.Attribute (.Name y q1) "pop" q2) [e] [] q3].length + ([] : List Keyword).length + (if ([] : List Keyword).isEmpty then 0 else 1) < 30)) = true := by rfl)
    (hfew2 : ((backTo q3 (starEach [e] X.env)).all (fun x => !x.1) && (backToKw q3 (keywordEach [] X.env)).all (fun x => x.1.isSome)
      && decide ([e].length + ([] : List Keyword).length + (if ([] : List Keyword).isEmpty then 0 else 1) < 30)) = true := by rfl)
    (hline : (p2.endLine == p3.line) = true := by rfl) (hline2 : (q2.endLine == q3.line) = true := by rfl)
    (hs : starEach [Expr.Call (.Attribute (.Name y q1) "pop" q2) [e] [] q3] X.env = (false, eval (.Call (.Attribute (.Name y q1) "pop" q2) [e] [] q3) X.env) :: starEach [] X.env := by rfl)
    (hs2 : starEach [e] X.env = (false, eval e X.env) :: starEach [] X.env := by rfl) (hplain : (backTo p3 (starEach [] X.env)).any (·.1) = false := by rfl) (hplain2 : (backTo q3 (starEach [] X.env)).any (·.1) = false := by rfl)
    (hsw : swapsWith (.Call (.Attribute (.Name x p1) "append" p2) [.Call (.Attribute (.Name y q1) "pop" q2) [e] [] q3] [] p3) none pos.line X.env = pure false := by rfl) :
    DS X E (.Expr (.Call (.Attribute (.Name x p1) "append" p2) [.Call (.Attribute (.Name y q1) "pop" q2) [e] [] q3] [] p3) pos) (dAppPop i j f1) := by
  have hp : PE X (.Call (.Attribute (.Name y q1) "pop" q2) [e] [] q3) _ := pe_bm PySem.F.plainAttrs_list PySem.F.slot_list_pop PySem.F.type_list_pop mt_popAt (pe_var (i := j) hM hv2 hd2 hcd2) (da_one he hs2) hbase2 hfew2 hline2 hs2 hplain2
  refine ps_imp (ps_expr (pe_bm PySem.F.plainAttrs_list PySem.F.slot_list_append PySem.F.type_list_append mt_append (pe_var (i := i) hN hv hd hcd) (pa_cons hp pa_nil hs) hbase hfew hline hs hplain) hsw) fun D σ H h => ?_
  obtain ⟨B, S, ρ, O, V, h⟩ := h
  have hz : sizeLine = 16777216 := sizeLine_eq
  unfold dAppPop at h
  split at h
  · exact h.elim
  · rename_i hij
    split at h
    · rename_i ts us q qj
      split at h
      · rename_i ds es q0 qj0
        obtain ⟨a, vs, w1, ha, r0⟩ := V.leaves q q0
        obtain ⟨b, ws, w2, hb, s0⟩ := V.leaves qj qj0
        refine ⟨_, w1, .inl ⟨rfl, _, SqL.of ha⟩, _, w2, .inl ⟨rfl, _, SqL.of hb⟩, S, ρ, O, V.v, postS.fst h V fun x e1 h1 S1 H1 C u g r nd fr => ?_⟩
        split at h1
        · rename_i k
          have eu := int_of r
          subst eu
          split at h1
          · rename_i m hm
            split at h1
            · rename_i d hd
              split at h1
              · rename_i hl
                have r1 := r0.mono g.ss
                have s1 := s0.mono g.ss
                have l1 := r1.length
                have l2 := s1.length
                obtain ⟨v, hv, rv⟩ := s1.get hd
                have V1 := V.gr g
                obtain ⟨O1, V2⟩ := V1.relist qj w2 (s1.erase m)
                have ql : (ρ.set j (.own ((es.eraseIdx m).map T.leaf)))[i]? = some (.own ts) := by rw [List.getElem?_set_ne (Ne.symm hij)]; exact q
                obtain ⟨a', vs', w1', ha', r1'⟩ := V2.leaves ql q0
                have ea : a' = a := by
                  rw [w1] at w1'
                  cases w1'
                  rfl
                subst ea
                have l3 := r1'.length
                obtain ⟨O2, V3⟩ := V2.relist ql w1 (r1'.append (.cons rv .nil))
                obtain ⟨k1, k2, k3, k4⟩ := ixN_seq hm
                exact ⟨b, ws, k, m, v, rfl, rfl, g.hh _ _ hb, by omega, by omega, by rw [l2]; exact k1, hv, a', vs', v, rfl, rfl, ha', by omega, h1 S1 _ σ O2 V3⟩
              · exact h1.elim
            · exact h1.elim
          · exact h1.elim
        · exact h1.elim
      · exact h.elim
    · exact h.elim
end
end Dl
set_option Elab.async false
set_option linter.all false
set_option maxRecDepth 100000
/-! DL21: constants of the module, the signs of a text walked. -/
namespace Dl
open PySem PySem.Spec PyProof.Rows L2
section
variable {X : Cx} {E : WS} {x z : Str} {i : Int} {pos : Pos}
theorem de_gstr (h : ∃ t, X.mg x = some (.str z t)) (hg : Gl X x := by rfl) (hd : (x == ("__debug__" : Str)) = false := by decide) : DE X E (.Name x pos) (dC (.str z)) := by
  obtain ⟨t, h⟩ := h
  exact de_c (pe_glob (v := .str z) hg h ⟨t, rfl⟩ hd) fun _ _ => .str z
theorem de_gint (h : ∃ t, X.mg x = some (.int i t)) (hg : Gl X x := by rfl) (hd : (x == ("__debug__" : Str)) = false := by decide) : DE X E (.Name x pos) (dC (.int i)) := by
  obtain ⟨t, h⟩ := h
  exact de_c (pe_glob (v := .int i) hg h ⟨t, rfl⟩ hd) fun _ _ => .int i
end
def signsD (z : Str) : List D := z.cps.toList.map fun c => D.str ⟨#[c]⟩
def iS (f : Dl.Env → Res EV) : Itf := fun ρ => (f ρ).bind fun x => match x with
  | .sh (.str z) => .ok (signsD z)
  | _ => .stuck
theorem itOk_str {c : Ct} {z : Str} {S0 : Hp} : ItOk c (Its z) (signsD z) S0 := by
  intro S H s0 s1 i
  unfold signsD
  rw [List.getElem?_map]
  refine ⟨fun e => ?_, fun d e => ?_⟩
  · rw [Option.map_eq_none_iff] at e
    have := List.getElem?_eq_none_iff.mp e
    show z.cps.size ≤ i
    simpa using this
  · obtain ⟨q, e1, rfl⟩ := Option.map_eq_some_iff.mp e
    have hi := (List.getElem?_eq_some_iff.mp e1).1
    refine ⟨by show i < z.cps.size; simpa using hi, fun x H' y => ?_⟩
    obtain ⟨rfl, r, e2, rfl⟩ := y
    rw [Array.getElem?_toList] at e1
    rw [e1] at e2
    cases e2
    exact ⟨S, Gr.refl s1, .str _⟩
theorem di_str {X : Cx} {E : WS} {tg e : Expr} {f1 : Dl.Env → Res EV} (h : DE X E e f1) : DI X E tg e (iS f1) := by
  refine pi_imp (pi_str h) fun σ H R h => ?_
  obtain ⟨S, ρ, O, V, h⟩ := h
  refine ⟨S, ρ, O, V, PostW.fst h fun x e1 h1 S1 H1 A v g r nd fr => ?_⟩
  split at h1
  · rename_i z _
    cases r with
    | sh r => cases r with
      | str _ => exact ⟨_, rfl, h1 S1 H1 _ g itOk_str⟩
  · exact h1.elim
/-- the address of the i-th default of the def at a -/
def dfAt (a : PySem.W.Frag → Addr) (i : Nat) (K : PySem.W.Frag) : Addr := match K.lookup (a K) with
  | some ⟨_, _, .func fd, _⟩ => (match fd.defaults with
    | .ref T => (match K.lookup T with
      | some ⟨_, _, .seq its _, _⟩ => (match its[i]? with
        | some (.ref b) => b
        | _ => 0)
      | _ => 0)
    | _ => 0)
  | _ => 0
end Dl
set_option Elab.async false
set_option linter.all false
set_option maxRecDepth 100000
/-! DL24: a slot's own list is lent to an expression that gives back no lists. -/
namespace Dl
open PySem PySem.Spec PyProof.Rows L2
def dLend (i : Nat) (f : Dl.Env → Res EV) : Dl.Env → Res EV := fun ρ => match ρ[i]? with
  | some (.own ts) => (match f (ρ.set i (.sh (.lst (T.toDs ts)))) with
    | .ok x => if x.ll = true then .ok x else .stuck
    | _ => .stuck)
  | _ => f ρ
theorem lend_imp {c : Ct} {E : WS} {f : Dl.Env → Res EV} {i : Nat} {σ : L2.St} {H : Hp} {Q : VK} (h : rE c E (dLend i f) σ H Q) : rE c E f σ H Q := by
  obtain ⟨S, ρ, O, V, p⟩ := h
  unfold dLend at p
  cases q : ρ[i]? with
  | none => rw [q] at p; exact ⟨S, ρ, O, V, p⟩
  | some y =>
    rw [q] at p
    cases y with
    | own ts =>
      obtain ⟨A, o, q1, q2, q3, q4, q5⟩ := V.sl.at_ V.nd q
      cases q2 with
      | own r =>
        rename_i v
        have al := r.alive
        have nS : ∀ a ∈ A, S a = none := fun a ha => (al a ha).2
        have rr : Rep c (grab S H A) v (.lst (T.toDs ts)) := by
          have := r.grabbed (same_grab nS) fun u hu => grab_in hu
          rw [T.toD] at this
          exact this
        obtain ⟨O', p1, p2, p3⟩ := q5 (grab S H A) H [] (some v) (.sh (.lst (T.toDs ts))) (same_grab nS) (fun a ha hn => ⟨rfl, by rw [grab_out hn]; exact (V.sl.alive a ha).2⟩) (.sh rr) List.nodup_nil fun a ha => by cases ha
        rw [List.set_same q1] at p1
        refine ⟨grab S H A, _, O', ⟨grab_same V.sub, p1, p2⟩, ?_⟩
        have lB : ∀ {S3 H3 : Hp}, Gr (grab S H A) H S3 H3 → ∀ b ∈ A, ∃ vs, S3 b = some (.lst vs) := fun {S3 H3} g3 b hb => by
          obtain ⟨⟨ws, e⟩, _⟩ := al b hb
          exact ⟨ws, g3.ss b _ (by rw [grab_in hb]; exact e)⟩
        simp only at p
        cases e : f (ρ.set i (.sh (.lst (T.toDs ts)))) with
        | stuck => rw [e] at p; exact p.elim
        | exc z => rw [e] at p; exact p.elim
        | ok x =>
          rw [e] at p
          simp only at p
          by_cases hl : x.ll = true
          · rw [if_pos hl] at p
            intro S3 H3 C w g3 r3 n3 f3
            refine p (Dl.drop S3 A) H3 C w (Gr.back (A := []) (Gr.refl V.sub) (fun a ha => by cases ha) (fun a ha => by cases ha) nS g3) ?_ n3 f3
            cases r3 with
            | sh q => exact .sh (q.dropped (lB g3) hl)
            | fr q => exact .fr (q.dropped (lB g3) (by rw [T.ll]; exact hl))
            | bo q => cases hl
          · rw [if_neg hl] at p
            exact p.elim
    | no => exact ⟨S, ρ, O, V, p⟩
    | sh d => exact ⟨S, ρ, O, V, p⟩
    | lk ts => exact ⟨S, ρ, O, V, p⟩
    | mk C fs => exact ⟨S, ρ, O, V, p⟩
    | dic kvs => exact ⟨S, ρ, O, V, p⟩
    | xc z => exact ⟨S, ρ, O, V, p⟩
section
variable {X : Cx} {E : WS} {elt tg iter e : Expr} {ifs : List Expr} {scope : Scope} {pos : Pos} {it : Itf} {b : Bnd} {ms : List Nat} {t : Dl.Env → Res Bool} {f : Dl.Env → Res EV}
theorem de_lend (i : Nat) (h : DE X E e f) : DE X E e (dLend i f) := pe_imp h fun _ _ _ z => lend_imp z
theorem ds_setLcL (j : Nat) {i : Nat} {y : Str} {py spos : Pos} (own : List (Str × Nat)) (hc : X.calm = true) (hN : X.N.Nodup) (hi : DI X E tg iter it) (ok : blkC X.N X.env.scope scope own = true)
    (hg : ∀ (s : Shared) (H : Hp) (C : Addr) (cl : List (Str × Addr)) (fp : List Addr), DG (X.blk s H scope (compEnvC scope cl C X.env) fp) tg b ms) (ht : ∀ (s : Shared) (H : Hp) (C : Addr) (cl : List (Str × Addr)) (fp : List Addr), DTs (X.blk s H scope (compEnvC scope cl C X.env) fp) ifs t)
    (he : ∀ (s : Shared) (H : Hp) (C : Addr) (cl : List (Str × Addr)) (fp : List Addr), DE (X.blk s H scope (compEnvC scope cl C X.env) fp) (fun _ => E0) elt f) (hsw : swapsWith (.ListComp elt [⟨tg, iter, ifs, 0⟩] scope pos) (some (.Name y py)) spos.line X.env = pure true)
    (hy : X.N[i]? = some y := by rfl) (hyl : X.env.scope.names.lookup y = some .local := by rfl) (hm : ∀ i ∈ ms, i ∈ own.map (·.2) := by decide) (hs : ∀ x, foldedSetIterable iter X.env x = pure x := by intro _; rfl) :
    DS X E (.Assign [.Name y py] (.ListComp elt [⟨tg, iter, ifs, 0⟩] scope pos) spos) (dSet i (dLend j (dLc it b t f (own.map (·.2))))) := by
  refine ps_imp (ps_setLc (i := i) (g := rG (ctOf X) b ms) (tt := rT (ctOf X) (fun _ => E0) t) (te := rE (ctOf X) (fun _ => E0) f) hc hN hy hyl hsw hi (blkOk_by ok) (fun s H C cl fp => blk_ct (X := X) (s := s) (H := H) (scope := scope) (env := compEnvC scope cl C X.env) (fp := fp) hc ▸ hg s H C cl fp)
    (fun s H C cl fp => blk_ct (X := X) (s := s) (H := H) (scope := scope) (env := compEnvC scope cl C X.env) (fp := fp) hc ▸ ht s H C cl fp) (fun s H C cl fp => blk_ct (X := X) (s := s) (H := H) (scope := scope) (env := compEnvC scope cl C X.env) (fp := fp) hc ▸ he s H C cl fp) hs) fun D σ H h => ?_
  obtain ⟨B, S, ρ, O, V, h⟩ := h
  refine lc_imp hm (lend_imp (i := j) ⟨S, ρ, O, V.v, postS.fst h V fun x e1 h1 S1 H1 A u g r nd fr => ?_⟩)
  cases q : SV.of x with
  | none =>
    rw [q] at h1
    exact h1.elim
  | some y =>
    simp only [q] at h1
    cases q2 : putR i y ρ with
    | none =>
      simp only [q2] at h1
      exact h1.elim
    | some ρ1 =>
      simp only [q2] at h1
      obtain ⟨O', V'⟩ := put_ev V g r nd fr q q2
      exact h1 S1 H1 _ O' V'
end
section
variable {ρ : Dl.Env} {i : Nat} {f : Dl.Env → Res EV} {ts : List T} {x : EV}
theorem x_lend (h : ρ[i]? = some (.own ts)) (e : f (ρ.set i (.sh (.lst (T.toDs ts)))) = .ok x) (hl : x.ll = true) : dLend i f ρ = .ok x := by
  unfold dLend
  simp only [h, e, hl, if_true]
end
end Dl
set_option Elab.async false
set_option linter.all false
set_option maxRecDepth 100000
/-! DL22: loops, comprehensions, lists of ints and texts, for any law. -/
namespace Dl
open PySem PySem.Spec PyProof.Rows L2
theorem forD_keep {b : Bnd} {g : Stm} {P : Dl.Env → Prop} : ∀ {ds : List D}, (∀ d ∈ ds, ∀ ρ, P ρ → ∃ ρ1 ρ2, b d ρ = some ρ1 ∧ g ρ1 = .ok (.nx ρ2) ∧ P ρ2) → ∀ ρ, P ρ → ∃ ρ', P ρ' ∧ forD b g ds ρ = .ok (.nx ρ')
  | [], _, ρ, h => ⟨ρ, h, rfl⟩
  | d :: ds, q, ρ, h => by
    obtain ⟨ρ1, ρ2, e1, e2, h2⟩ := q d List.mem_cons_self ρ h
    obtain ⟨ρ3, h3, e3⟩ := forD_keep (ds := ds) (fun x hx => q x (List.mem_cons_of_mem _ hx)) ρ2 h2
    exact ⟨ρ3, h3, by rw [x_forD_cons e1, e2, x_turn_nx, e3]⟩
theorem mem_range {n : Nat} {d : D} : d ∈ rangeD 0 n ↔ ∃ i : Nat, i < n ∧ d = .int (i : Int) := by
  simp only [rangeD, List.mem_map, List.mem_range]
  constructor
  · rintro ⟨i, h, rfl⟩
    exact ⟨i, h, by simp⟩
  · rintro ⟨i, h, rfl⟩
    exact ⟨i, h, by simp⟩
theorem x_rng {n : Int} (h : 0 ≤ n ∧ n < 1000000) {ρ : Dl.Env} {f : Dl.Env → Res EV} (hf : f ρ = .ok (.sh (.int n))) : iR1 f ρ = .ok (rangeD 0 n.toNat) := by
  have : -4611686018427387904 ≤ n ∧ n < 4611686018427387904 := by omega
  simp [iR1, hf, this]
@[simp] theorem x_eqB {k : Bool} : gEq (.sh (.bl k)) (.sh (.bl k)) = .ok (.sh (.bl true)) := by cases k <;> rfl
theorem forD_rangeA {b : Bnd} {g : Stm} {P : Nat → Dl.Env → Prop} : ∀ (m k : Nat), (∀ i, k ≤ i → i < k + m → ∀ ρ, P i ρ → ∃ ρ1 ρ2, b (.int i) ρ = some ρ1 ∧ g ρ1 = .ok (.nx ρ2) ∧ P (i + 1) ρ2) → ∀ ρ, P k ρ → ∃ ρ', P (k + m) ρ' ∧ forD b g ((List.range' k m).map fun (i : Nat) => D.int i) ρ = .ok (.nx ρ')
  | 0, k, _, ρ, h => ⟨ρ, h, rfl⟩
  | m + 1, k, q, ρ, h => by
    obtain ⟨ρ1, ρ2, e1, e2, h2⟩ := q k (by omega) (by omega) ρ h
    obtain ⟨ρ3, h3, e3⟩ := forD_rangeA m (k + 1) (fun i hi hj => q i (by omega) (by omega)) ρ2 h2
    refine ⟨ρ3, by rw [show k + (m + 1) = k + 1 + m by omega]; exact h3, ?_⟩
    rw [List.range'_succ, List.map_cons, x_forD_cons e1, e2, x_turn_nx, e3]
theorem forD_range {b : Bnd} {g : Stm} {P : Nat → Dl.Env → Prop} {n : Nat} (q : ∀ i, i < n → ∀ ρ, P i ρ → ∃ ρ1 ρ2, b (.int i) ρ = some ρ1 ∧ g ρ1 = .ok (.nx ρ2) ∧ P (i + 1) ρ2) (ρ : Dl.Env) (h : P 0 ρ) : ∃ ρ', P n ρ' ∧ forD b g (rangeD 0 n) ρ = .ok (.nx ρ') := by
  obtain ⟨ρ', h1, h2⟩ := forD_rangeA (P := P) n 0 (fun i _ hi => q i (by omega)) ρ h
  refine ⟨ρ', by rwa [Nat.zero_add] at h1, ?_⟩
  have e : rangeD 0 n = (List.range' 0 n).map fun (i : Nat) => D.int i := by
    simp [rangeD, List.range_eq_range']
  rw [e, h2]
@[simp] theorem x_neB {k : Bool} : gNe (.sh (.bl k)) (.sh (.bl k)) = .ok (.sh (.bl false)) := by cases k <;> rfl
theorem x_frz_any {i : Nat} {g : Stm} {ρ : Dl.Env} {b : SV} (h : ρ[i]? = some b) (hf : b.free = true) : ∃ b' : SV, b'.free = true ∧ dFrz i g ρ = g (ρ.set i b') := by
  have hs : ρ.set i b = ρ := by
    obtain ⟨hi, e⟩ := List.getElem?_eq_some_iff.mp h
    rw [← e]
    exact List.set_getElem_self hi
  cases b with
  | own ts => exact ⟨.sh (.lst (T.toDs ts)), rfl, by rw [x_frz, h]; rfl⟩
  | no => exact ⟨.no, rfl, by rw [x_frz, h, hs]; rfl⟩
  | sh d => exact ⟨.sh d, rfl, by rw [x_frz, h, hs]; rfl⟩
  | dic k => exact ⟨.dic k, rfl, by rw [x_frz, h, hs]; rfl⟩
  | xc z => exact ⟨.xc z, rfl, by rw [x_frz, h, hs]; rfl⟩
  | lk ts => cases hf
  | mk C fs => cases hf
theorem gEq_d {x y : EV} : gEq x y = gEq (.sh x.d) (.sh y.d) := rfl
theorem gNotIn_d {x y : EV} : gNotIn x y = gNotIn (.sh x.d) (.sh y.d) := rfl
theorem forD_firstA {b : Bnd} {g : Stm} {P : Dl.Env → Prop} {r : Nat → Option EV} : ∀ (m k : Nat), (∀ i, k ≤ i → i < k + m → ∀ ρ, P ρ → ∃ ρ1, b (.int i) ρ = some ρ1 ∧ ((∃ x, r i = some x ∧ g ρ1 = .ok (.ret x)) ∨ (r i = none ∧ ∃ ρ2, g ρ1 = .ok (.nx ρ2) ∧ P ρ2))) → ∀ ρ, P ρ →
    (∃ x, (List.range' k m).findSome? r = some x ∧ forD b g ((List.range' k m).map fun (i : Nat) => D.int i) ρ = .ok (.ret x)) ∨ ((List.range' k m).findSome? r = none ∧ ∃ ρ', P ρ' ∧ forD b g ((List.range' k m).map fun (i : Nat) => D.int i) ρ = .ok (.nx ρ'))
  | 0, k, _, ρ, h => .inr ⟨rfl, ρ, h, rfl⟩
  | m + 1, k, q, ρ, h => by
    obtain ⟨ρ1, e1, c⟩ := q k (by omega) (by omega) ρ h
    rw [List.range'_succ, List.map_cons, x_forD_cons e1, List.findSome?_cons]
    rcases c with ⟨x, h1, h2⟩ | ⟨h1, ρ2, h2, h3⟩
    · exact .inl ⟨x, by rw [h1], by rw [h2, x_turn_ret]⟩
    · rw [h1, h2, x_turn_nx]
      exact forD_firstA m (k + 1) (fun i hi hj => q i (by omega) (by omega)) ρ2 h3
theorem forD_first {b : Bnd} {g : Stm} {P : Dl.Env → Prop} {r : Nat → Option EV} {n : Nat} (q : ∀ i, i < n → ∀ ρ, P ρ → ∃ ρ1, b (.int i) ρ = some ρ1 ∧ ((∃ x, r i = some x ∧ g ρ1 = .ok (.ret x)) ∨ (r i = none ∧ ∃ ρ2, g ρ1 = .ok (.nx ρ2) ∧ P ρ2))) (ρ : Dl.Env) (h : P ρ) :
    (∃ x, (List.range n).findSome? r = some x ∧ forD b g (rangeD 0 n) ρ = .ok (.ret x)) ∨ ((List.range n).findSome? r = none ∧ ∃ ρ', P ρ' ∧ forD b g (rangeD 0 n) ρ = .ok (.nx ρ')) := by
  have e : rangeD 0 n = (List.range' 0 n).map fun (i : Nat) => D.int i := by
    simp [rangeD, List.range_eq_range']
  rw [e, List.range_eq_range']
  exact forD_firstA n 0 (fun i _ hi => q i (by omega)) ρ h
theorem find_const {p : Nat → Bool} {c : EV} : ∀ {l : List Nat}, l.findSome? (fun j => if p j then some c else none) = if l.any p then some c else none
  | [] => rfl
  | j :: l => by
    rw [List.findSome?_cons, List.any_cons]
    have ih := find_const (p := p) (c := c) (l := l)
    cases h : p j with
    | true => rfl
    | false => exact ih
theorem lcD_of {α : Type} {b : Bnd} {t : Dl.Env → Res Bool} {f : Dl.Env → Res EV} {ρ : Dl.Env} {c k : α → D} {p : α → Bool} : ∀ {xs : List α}, (∀ x ∈ xs, ∃ ρ1, b (c x) ρ = some ρ1 ∧ t ρ1 = .ok (p x) ∧ (p x = true → f ρ1 = .ok (.sh (k x)))) → lcD b t f (xs.map c) ρ = .ok (((xs.filter p).map k).map T.leaf)
  | [], _ => rfl
  | x :: xs, q => by
    obtain ⟨ρ1, q1, q2, q3⟩ := q x List.mem_cons_self
    have ih := lcD_of (xs := xs) fun y hy => q y (List.mem_cons_of_mem _ hy)
    rw [List.map_cons, lcD, q1]
    simp only [q2]
    cases e : p x with
    | false => simp [noX, e, ih]
    | true => simp [noX, e, ih, q3 e, EV.t?]
theorem x_lc_of {α : Type} {b : Bnd} {t : Dl.Env → Res Bool} {f : Dl.Env → Res EV} {ρ : Dl.Env} {c k : α → D} {p : α → Bool} {xs : List α} (hl : xs.length ≤ 16777216) (q : ∀ x ∈ xs, ∃ ρ1, b (c x) ρ = some ρ1 ∧ t ρ1 = .ok (p x) ∧ (p x = true → f ρ1 = .ok (.sh (k x)))) : lcK b t f ρ (.ok (xs.map c)) = .ok (.fr (((xs.filter p).map k).map T.leaf)) := by
  rw [lcK, if_pos (by simpa using hl), lcD_of q]
  rfl
theorem lcT_of {α : Type} {b : Bnd} {t : Dl.Env → Res Bool} {f : Dl.Env → Res EV} {ρ : Dl.Env} {c : α → D} {k : α → T} : ∀ {xs : List α}, (∀ x ∈ xs, ∃ ρ1 y, b (c x) ρ = some ρ1 ∧ t ρ1 = .ok true ∧ f ρ1 = .ok y ∧ y.t? = some (k x)) → lcD b t f (xs.map c) ρ = .ok (xs.map k)
  | [], _ => rfl
  | x :: xs, q => by
    obtain ⟨ρ1, y, q1, q2, q3, q4⟩ := q x List.mem_cons_self
    have ih := lcT_of (xs := xs) fun y hy => q y (List.mem_cons_of_mem _ hy)
    rw [List.map_cons, lcD, q1]
    simp [q2, noX, q3, q4, ih]
theorem x_lcT_of {α : Type} {b : Bnd} {t : Dl.Env → Res Bool} {f : Dl.Env → Res EV} {ρ : Dl.Env} {c : α → D} {k : α → T} {xs : List α} (hl : xs.length ≤ 16777216) (q : ∀ x ∈ xs, ∃ ρ1 y, b (c x) ρ = some ρ1 ∧ t ρ1 = .ok true ∧ f ρ1 = .ok y ∧ y.t? = some (k x)) : lcK b t f ρ (.ok (xs.map c)) = .ok (.fr (xs.map k)) := by
  rw [lcK, if_pos (by simpa using hl), lcT_of q]
  rfl
@[simp] theorem x_neg {f : Dl.Env → Res EV} {ρ : Dl.Env} : dNeg f ρ = (f ρ).bind fun x => match x with
  | .sh (.int i) => .ok (.sh (.int (-i)))
  | _ => .stuck := rfl
theorem range_map {n : Nat} : rangeD 0 n = (List.range n).map fun (i : Nat) => D.int i := by simp [rangeD]
theorem x_ixLz {ds : List D} {i : Int} {d : D} (h0 : 0 ≤ i) (h : ds[i.toNat]? = some d) : gIx (.sh (.lst ds)) (.sh (.int i)) = .ok (.sh d) := by
  have := x_ixL h
  rwa [Int.toNat_of_nonneg h0] at this
theorem x_ixSz {z : Str} {i : Int} {c : Nat} (hz : z.length ≤ 16777216) (h0 : 0 ≤ i) (h : z.cps.toList[i.toNat]? = some c) : gIx (.sh (.str z)) (.sh (.int i)) = .ok (.sh (.str ⟨#[c]⟩)) := by
  have hl := (List.getElem?_eq_some_iff.mp h).1
  have e : ixN z.cps.toList.length i = some i.toNat := by
    unfold ixN
    rw [if_pos h0, if_pos (by omega)]
  simp only [gIx, if_pos hz, atI, e, Option.bind_some, h]
theorem x_len_str {z : Str} (h : z.length ≤ 16777216) : gLen [.sh (.str z)] = .ok (.sh (.int z.length)) := by
  simp [gLen, g1F, D.len?, h]
theorem x_addS {s t : Str} (h : s.length + t.length ≤ 16777216) : gAdd (.sh (.str s)) (.sh (.str t)) = .ok (.sh (.str (s ++ t))) := by
  simp [gAdd, h]
theorem x_mulS {z : Str} {k : Int} (h : 1 ≤ k ∧ k < 1000) (hz : z.length ≤ 1000) : gMul (.sh (.str z)) (.sh (.int k)) = .ok (.sh (.str (strMul z k.toNat))) := by
  simp [gMul, h, hz]
theorem x_slS {z : Str} {lo hi : Option Int} (h : z.length ≤ 16777216) : gSl (.sh (.str z)) lo hi = .ok (.sh (.str (cutS z lo hi))) := by
  simp [gSl, h]
@[simp] theorem x_len_bo {us : List T} : gLen [.bo us] = .ok (.sh (.int (T.toDs us).length)) := rfl
theorem x_ixBo {ds : List D} {i : Int} {d : D} (h0 : 0 ≤ i) (h : ds[i.toNat]? = some d) : gIx (.bo (ds.map T.leaf)) (.sh (.int i)) = .ok (.sh d) := by
  have hl := (List.getElem?_eq_some_iff.mp h).1
  have e : ixN (ds.map T.leaf).length i = some i.toNat := by
    unfold ixN
    rw [if_pos h0, if_pos (by simp; omega)]
  simp only [gIx, tAt, atI, e, Option.bind_some, List.getElem?_map, h, Option.map_some]
theorem x_lput {i j : Nat} {k : Int} {ts : List T} {t : T} {x : EV} {fk fv : Dl.Env → Res EV} {ρ : Dl.Env} (hv : fv ρ = .ok x) (ht : x.t? = some t) (hi : ρ[i]? = some (.own ts)) (hk : fk ρ = .ok (.sh (.int k))) (hx : ixN ts.length k = some j) : dLPut i fk fv ρ = .ok (.nx (ρ.set i (.own (ts.set j t)))) := by
  unfold dLPut
  rw [hv]
  simp [hi, ht, hk, hx]
section
variable {i j : Nat} {ρ : Dl.Env} {x y : SV} {d : D} {ts : List T} {f : Dl.Env → Res EV} {g : Stm}
theorem v_sh (h : ρ[i]? = some (.sh d)) : dVar i ρ = .ok (.sh d) := by rw [x_var, h]; rfl
theorem v_own (h : ρ[i]? = some (.own ts)) : dVar i ρ = .ok (.bo ts) := by rw [x_var, h]; rfl
theorem put_at (h : ρ[i]? = some y) (hf : y.free = true) : putR i x ρ = some (ρ.set i x) := by simp [putR, h, hf]
theorem get_set (h : ρ[i]? = some y) : (ρ.set i x)[i]? = some x := by
  rw [List.getElem?_set_self (List.getElem?_eq_some_iff.mp h).1]
theorem get_ne (h : i ≠ j) : (ρ.set i x)[j]? = ρ[j]? := List.getElem?_set_ne h
theorem bn (h : ρ[i]? = some y) : bName i d (ρ.set i .no) = some (ρ.set i (.sh d)) := by
  rw [x_bName, put_at (get_set h) rfl, List.set_set]
theorem st_fr (h : f ρ = .ok (.fr ts)) (hi : ρ[i]? = some y) (hf : y.free = true) : dSeq (dSet i f) (dFrz i g) ρ = g (ρ.set i (.sh (.lst (T.toDs ts)))) := by
  rw [x_seq, x_set, h, x_set_fr, Dl.putK, put_at hi hf]
  show dFrz i g (ρ.set i (.own ts)) = _
  rw [x_frz, get_set hi, x_frz_own, List.set_set]
theorem st_fr0 (h : f ρ = .ok (.fr ts)) (hi : ρ[i]? = some y) (hf : y.free = true) : dSeq (dSet i f) g ρ = g (ρ.set i (.own ts)) := by
  rw [x_seq, x_set, h, x_set_fr, Dl.putK, put_at hi hf]
  rfl
theorem st_sh0 (h : f ρ = .ok (.sh d)) (hi : ρ[i]? = some y) (hf : y.free = true) : dSeq (dSet i f) g ρ = g (ρ.set i (.sh d)) := by
  rw [x_seq, x_set, h, x_set_sh, Dl.putK, put_at hi hf]
  rfl
theorem st_sh (h : f ρ = .ok (.sh d)) (hi : ρ[i]? = some y) (hf : y.free = true) : dSeq (dSet i f) (dFrz i g) ρ = g (ρ.set i (.sh d)) := by
  rw [st_sh0 h hi hf, x_frz, get_set hi, x_frz_sh]
end
theorem x_ixFr {ds : List D} {i : Int} {d : D} (h0 : 0 ≤ i) (h : ds[i.toNat]? = some d) : gIx (.fr (ds.map T.leaf)) (.sh (.int i)) = .ok (.sh d) := by
  have hl := (List.getElem?_eq_some_iff.mp h).1
  have e : ixN (ds.map T.leaf).length i = some i.toNat := by
    unfold ixN
    rw [if_pos h0, if_pos (by simp; omega)]
  simp only [gIx, tAt, atI, e, Option.bind_some, List.getElem?_map, h, Option.map_some]
theorem cutL_map {α β : Type} {f : α → β} {xs : List α} {lo hi : Option Int} : cutL (xs.map f) lo hi = (cutL xs lo hi).map f := by
  simp [cutL, List.map_take, List.map_drop]
theorem cutL_len {α : Type} {xs : List α} {lo hi : Option Int} : (cutL xs lo hi).length ≤ xs.length := by
  simp only [cutL, List.length_take, List.length_drop]
  omega
theorem toDs_map {α : Type} {h : α → D} {xs : List α} : T.toDs (xs.map (T.leaf ∘ h)) = xs.map h := by
  simp [T.toDs_eq, T.toD]
theorem filter_yes {α : Type} {xs : List α} : xs.filter (fun _ => true) = xs := by simp
theorem leavesQ_map : ∀ ds : List D, leaves? (ds.map T.leaf) = some ds
  | [] => rfl
  | d :: ds => by rw [List.map_cons, leaves?, leavesQ_map ds]; rfl
theorem add_lst {ds es : List D} (h : ds.length + es.length ≤ 16777216) : gAdd (.sh (.lst ds)) (.fr (es.map T.leaf)) = .ok (.fr ((ds ++ es).map T.leaf)) := by
  simp only [gAdd, EV.lvs, toDs_leaves, h, if_true]
theorem add_own {ds es : List D} (h : ds.length + es.length ≤ 16777216) : gAdd (.bo (ds.map T.leaf)) (.fr (es.map T.leaf)) = .ok (.fr ((ds ++ es).map T.leaf)) := by
  simp only [gAdd, EV.lvs, toDs_leaves, leavesQ_map, h, if_true]
theorem add_fr {ds es : List D} (h : ds.length + es.length ≤ 16777216) : gAdd (.fr (ds.map T.leaf)) (.fr (es.map T.leaf)) = .ok (.fr ((ds ++ es).map T.leaf)) := by
  simp only [gAdd, EV.lvs, toDs_leaves, h, if_true]
theorem lc_ints {b : Bnd} {t : Dl.Env → Res Bool} {f : Dl.Env → Res EV} {ρ : Dl.Env} {P : Int → Bool} {n : Nat} (hn : n ≤ 1000) (q : ∀ i : Nat, i < n → ∃ ρ1, b (.int i) ρ = some ρ1 ∧ t ρ1 = .ok (P i) ∧ f ρ1 = .ok (.sh (.int i))) :
    lcK b t f ρ (.ok (rangeD 0 n)) = .ok (.fr (((((List.range n).map fun (i : Nat) => (i : Int)).filter P).map D.int).map T.leaf)) := by
  rw [x_lc_flat (p := fun d => match d with
    | .int i => P i
    | _ => false) (h := id) (by simp [rangeD]; omega) (fun d hd => by
      obtain ⟨i, hi, rfl⟩ := mem_range.mp hd
      obtain ⟨ρ1, h1, h2, h3⟩ := q i hi
      exact ⟨ρ1, h1, h2, fun _ => h3⟩)]
  have e : rangeD 0 n = ((List.range n).map fun (i : Nat) => (i : Int)).map D.int := by
    simp [rangeD, Function.comp_def]
  rw [List.map_id, e, List.filter_map]
  rfl
theorem so_iff {s : Str} : PyData.strOk s = true ↔ ∀ c ∈ s.cps.toList, c < 0x110000 := by
  unfold PyData.strOk
  rw [← Array.all_toList, List.all_eq_true]
  simp
theorem so_app {a b : Str} (ha : PyData.strOk a = true) (hb : PyData.strOk b = true) : PyData.strOk (a ++ b) = true := by
  rw [so_iff] at *
  intro c hc
  have e : (a ++ b).cps.toList = a.cps.toList ++ b.cps.toList := Array.toList_append
  rw [e] at hc
  rcases List.mem_append.mp hc with h | h
  · exact ha c h
  · exact hb c h
theorem len_app {a b : Str} : (a ++ b).length = a.length + b.length := Array.size_append
theorem so_one {c : Nat} (h : c < 0x110000) : PyData.strOk ⟨#[c]⟩ = true := by
  rw [so_iff]
  intro d hd
  have : d = c := by simpa using hd
  rw [this]
  exact h
theorem so_mul {s : Str} {n : Nat} (h : PyData.strOk s = true) : PyData.strOk (strMul s n) = true := by
  rw [so_iff] at *
  intro c hc
  have hc : c ∈ (List.replicate n s.cps.toList).flatten := hc
  obtain ⟨l, h1, h2⟩ := List.mem_flatten.mp hc
  rw [(List.mem_replicate.mp h1).2] at h2
  exact h c h2
theorem so_cut {s : Str} {lo hi : Option Int} (h : PyData.strOk s = true) : PyData.strOk (cutS s lo hi) = true := by
  rw [so_iff] at *
  intro c hc
  have hc : c ∈ (s.cps.toList.drop (HT.sIx s.length 0 lo)).take (HT.sIx s.length s.length hi - HT.sIx s.length 0 lo) := hc
  exact h c (List.mem_of_mem_drop (List.mem_of_mem_take hc))
theorem strs_fines : ∀ {ss : List Str}, (∀ s ∈ ss, PyData.strOk s = true) → D.fines (ss.map D.str) = true
  | [], _ => rfl
  | s :: ss, h => by
    rw [List.map_cons, D.fines, D.fine, h s List.mem_cons_self, strs_fines fun x hx => h x (List.mem_cons_of_mem _ hx)]
    rfl
theorem set_same {i : Nat} {z : SV} {σ : Dl.Env} (h : σ[i]? = some z) : σ.set i z = σ := by
  obtain ⟨hi, e⟩ := List.getElem?_eq_some_iff.mp h
  rw [← e]
  exact List.set_getElem_self hi
theorem ints_fine : ∀ {g : List Int}, D.fines (g.map D.int) = true
  | [] => rfl
  | n :: g => by
    rw [List.map_cons, D.fines, ints_fine]
    rfl
theorem ints_ll : ∀ {g : List Int}, D.lls (g.map D.int) = true
  | [] => rfl
  | n :: g => by
    rw [List.map_cons, D.lls, ints_ll]
    rfl
def okRow (row sizes : List Int) : Prop := row.length = sizes.length ∧ ∀ (i : Nat) (d s : Int), row[i]? = some d → sizes[i]? = some s → 0 ≤ d ∧ d < s
theorem okRow.nil : okRow [] [] := ⟨rfl, fun i d s h _ => by simp at h⟩
theorem okRow.snoc {row sizes : List Int} {d s : Int} (h : okRow row sizes) (hd : 0 ≤ d ∧ d < s) : okRow (row ++ [d]) (sizes ++ [s]) := by
  refine ⟨by simp [h.1], fun i x y hx hy => ?_⟩
  rcases Nat.lt_trichotomy i row.length with hi | hi | hi
  · rw [List.getElem?_append_left hi] at hx
    rw [List.getElem?_append_left (by rw [← h.1]; exact hi)] at hy
    exact h.2 i x y hx hy
  · subst hi
    rw [List.getElem?_append_right (Nat.le_refl _)] at hx
    rw [h.1, List.getElem?_append_right (Nat.le_refl _)] at hy
    simp at hx hy
    subst hx hy
    exact hd
  · rw [List.getElem?_append_right (by omega)] at hx
    have := (List.getElem?_eq_some_iff.mp hx).1
    simp at this
    omega
theorem okRow.at {row sizes : List Int} {i : Nat} {s : Int} (h : okRow row sizes) (hs : sizes[i]? = some s) : ∃ d, row[i]? = some d ∧ 0 ≤ d ∧ d < s := by
  have hl := (List.getElem?_eq_some_iff.mp hs).1
  have hi : i < row.length := by rw [h.1]; exact hl
  exact ⟨row[i]'hi, List.getElem?_eq_getElem hi, h.2 i _ s (List.getElem?_eq_getElem hi) hs⟩
theorem okRow.all {row sizes : List Int} {m : Int} (h : okRow row sizes) (hs : ∀ s ∈ sizes, s ≤ m) : ∀ d ∈ row, 0 ≤ d ∧ d < m := by
  intro d hd
  obtain ⟨i, hi⟩ := List.mem_iff_getElem?.mp hd
  have hl := (List.getElem?_eq_some_iff.mp hi).1
  rw [h.1] at hl
  have h2 := h.2 i d _ hi (List.getElem?_eq_getElem hl)
  have h3 := hs _ (List.getElem_mem hl)
  omega
theorem inS {s : Str} {names : List Str} (hs : PyData.strOk s = true) (hn : ∀ n ∈ names, PyData.strOk n = true) : inD (.str s) (.lst (names.map D.str)) = some (decide (s ∈ names)) ∧ inD (.str s) (.tup (names.map D.str)) = some (decide (s ∈ names)) := by
  have hd : D.deps (names.map D.str) = 0 := by
    have : ∀ l : List Str, D.deps (l.map D.str) = 0 := fun l => by
      induction l with
      | nil => rfl
      | cons a l ih => simp [D.deps, D.dep, ih]
    exact this _
  have mem : (D.str s ∈ names.map D.str) ↔ s ∈ names := by simp
  obtain ⟨b, h1, h2⟩ := inD_lst (a := .str s) (ds := names.map D.str) hs (strs_fines hn) (by simp [D.dep]) (by omega)
  obtain ⟨b', h1', h2'⟩ := inD_tup (a := .str s) (ds := names.map D.str) hs (strs_fines hn) (by simp [D.dep]) (by omega)
  have e : b = decide (s ∈ names) := by rw [Bool.eq_iff_iff, h2, decide_eq_true_eq, mem]
  have e' : b' = decide (s ∈ names) := by rw [Bool.eq_iff_iff, h2', decide_eq_true_eq, mem]
  exact ⟨by rw [h1, e], by rw [h1', e']⟩
/-- a list or a tuple of texts -/
def seqS (tup : Bool) (ss : List Str) : D := if tup then .tup (ss.map D.str) else .lst (ss.map D.str)
theorem in_seq {s : Str} {names : List Str} {k : Bool} (hs : PyData.strOk s = true) (hn : ∀ n ∈ names, PyData.strOk n = true) : gIn (.sh (.str s)) (.sh (seqS k names)) = .ok (.sh (.bl (decide (s ∈ names)))) := by
  obtain ⟨h1, h2⟩ := inS hs hn
  cases k <;> simp [seqS, gIn, gF, h1, h2]
theorem nin_seq {s : Str} {names : List Str} {k : Bool} (hs : PyData.strOk s = true) (hn : ∀ n ∈ names, PyData.strOk n = true) : gNotIn (.sh (.str s)) (.sh (seqS k names)) = .ok (.sh (.bl (!decide (s ∈ names)))) := by
  obtain ⟨h1, h2⟩ := inS hs hn
  cases k <;> simp [seqS, gNotIn, gF, h1, h2]
theorem in_own {s : Str} {names : List Str} (hs : PyData.strOk s = true) (hn : ∀ n ∈ names, PyData.strOk n = true) : gIn (.sh (.str s)) (.bo ((names.map D.str).map T.leaf)) = .ok (.sh (.bl (decide (s ∈ names)))) := by
  obtain ⟨h1, h2⟩ := inS hs hn
  simp only [gIn, gF, x_d_sh, x_d_bo, x_leaves, h1, Option.map_some]
theorem walk_seq {k : Bool} {ss : List Str} : walkA (.sh (seqS k ss)) = .ok (ss.map D.str) := by cases k <;> rfl
theorem len_seq {k : Bool} {ss : List Str} : gLen [.sh (seqS k ss)] = .ok (.sh (.int ss.length)) := by
  cases k
  · have : gLen [.sh (seqS false ss)] = .ok (.sh (.int (ss.map D.str).length)) := rfl
    rw [this, List.length_map]
  · have : gLen [.sh (seqS true ss)] = .ok (.sh (.int (ss.map D.str).length)) := rfl
    rw [this, List.length_map]
/-- the place of the first x -/
theorem strs_py : ∀ ss : List Str, D.pys (ss.map D.str) = some (ss.map PyData.str)
  | [] => rfl
  | s :: ss => by rw [List.map_cons, D.pys, strs_py ss]; rfl
theorem strs_shaped {ss : List Str} (h : ∀ s ∈ ss, PyData.strOk s = true) : SeqAt.shaped (.list (ss.map PyData.str)) = true := by
  obtain ⟨ps, h1, h2, h3⟩ := fines_py (ss.map D.str) (strs_fines h)
  rw [strs_py] at h1
  cases h1
  have hd : D.deps (ss.map D.str) = 0 := by
    have : ∀ l : List Str, D.deps (l.map D.str) = 0 := fun l => by
      induction l with
      | nil => rfl
      | cons a l ih => simp [D.deps, D.dep, ih]
    exact this _
  unfold SeqAt.shaped
  simp only [PyData.canLay0, PyData.depth, h2, h3, hd]
  simp
theorem str_shaped {s : Str} (h : PyData.strOk s = true) : SeqAt.shaped (.str s) = true := by
  unfold SeqAt.shaped
  simp only [PyData.canLay0, PyData.depth, h]
  simp
theorem find_str {ss : List Str} {s : Str} : (ss.map PyData.str).findIdx? (fun z => PyData.eqv z (.str s)) = ss.findIdx? (· == s) := by
  rw [List.findIdx?_map]
  congr 1
theorem idx_mem {ss : List Str} {s : Str} (h : s ∈ ss) : ss.findIdx? (· == s) = some (ss.idxOf s) := by
  rw [List.findIdx?_eq_some_iff_getElem]
  have hl := List.idxOf_lt_length_of_mem h
  refine ⟨hl, by simp, fun j hj => ?_⟩
  have := List.not_of_lt_findIdx (p := (· == s)) (xs := ss) (i := j) hj
  simpa using this
theorem idxL_str {ss : List Str} {s : Str} (h : s ∈ ss) (hs : ∀ s ∈ ss, PyData.strOk s = true) : idxL (ss.map D.str) (.str s) = .ok (.sh (.int (ss.idxOf s : Nat))) := by
  unfold idxL
  rw [strs_py]
  show (if (SeqAt.shaped (.list (ss.map PyData.str)) && SeqAt.shaped (.str s)) = true then _ else _) = _
  rw [strs_shaped hs, str_shaped (hs s h)]
  simp only [Bool.and_self, if_true]
  rw [find_str, idx_mem h]
theorem strs_D : ∀ ss : List Str, strsD (ss.map D.str) = some ss
  | [] => rfl
  | s :: ss => by rw [List.map_cons, strsD, strs_D ss]; rfl
theorem idxT_str {ss : List Str} {s : Str} (h : s ∈ ss) : idxT (ss.map D.str) (.str s) = .ok (.sh (.int (ss.idxOf s : Nat))) := by
  unfold idxT
  rw [strs_D]
  simp only [idx_mem h]
def idxK (f2 : Dl.Env → Res EV) (ρ : Dl.Env) : Res EV → Res EV
  | .ok a => dIdx (fun _ => .ok a) f2 ρ
  | .exc z => .exc z
  | .stuck => .stuck
theorem x_idx {f1 f2 : Dl.Env → Res EV} {ρ : Dl.Env} : dIdx f1 f2 ρ = idxK f2 ρ (f1 ρ) := by
  unfold idxK
  cases q : f1 ρ with
  | ok a => simp [dIdx, q]
  | exc z => simp [dIdx, q]
  | stuck => simp [dIdx, q]
theorem idx_seq {f2 : Dl.Env → Res EV} {ρ : Dl.Env} {k : Bool} {ss : List Str} {s : Str} (h2 : f2 ρ = .ok (.sh (.str s))) (h : s ∈ ss) (hs : ∀ s ∈ ss, PyData.strOk s = true) : idxK f2 ρ (.ok (.sh (seqS k ss))) = .ok (.sh (.int (ss.idxOf s : Nat))) := by
  cases k
  · show dIdx (fun _ => .ok (.sh (.lst (ss.map D.str)))) f2 ρ = _
    simp [dIdx, h2, idxL_str h hs]
  · show dIdx (fun _ => .ok (.sh (.tup (ss.map D.str)))) f2 ρ = _
    simp [dIdx, h2, idxT_str h]
end Dl
set_option Elab.async false
set_option linter.all false
set_option maxRecDepth 100000
/-! DL23: loops with a state, while, remove, insert, reversed, any, all. -/
namespace Dl
open PySem PySem.Spec PyProof.Rows L2
theorem forD_fold {α β : Type} {b : Bnd} {g : Stm} {c : α → D} {st : β → α → β} {P : β → Dl.Env → Prop} : ∀ {xs : List α}, (∀ a ∈ xs, ∀ h ρ, P h ρ → ∃ ρ1 ρ2, b (c a) ρ = some ρ1 ∧ g ρ1 = .ok (.nx ρ2) ∧ P (st h a) ρ2) → ∀ h ρ, P h ρ → ∃ ρ', P (xs.foldl st h) ρ' ∧ forD b g (xs.map c) ρ = .ok (.nx ρ')
  | [], _, h, ρ, p => ⟨ρ, p, rfl⟩
  | a :: xs, q, h, ρ, p => by
    obtain ⟨ρ1, ρ2, e1, e2, h2⟩ := q a List.mem_cons_self h ρ p
    obtain ⟨ρ3, h3, e3⟩ := forD_fold (xs := xs) (fun x hx => q x (List.mem_cons_of_mem _ hx)) _ ρ2 h2
    exact ⟨ρ3, h3, by rw [List.map_cons, x_forD_cons e1, e2, x_turn_nx, e3]⟩
theorem foldl_or {α : Type} {p : α → Bool} : ∀ {xs : List α} {h : Bool}, xs.foldl (fun h a => h || p a) h = (h || xs.any p)
  | [], h => by simp
  | a :: xs, h => by rw [List.foldl_cons, foldl_or, List.any_cons, Bool.or_assoc]
/-- a loop over indexes that may end the function -/
theorem forD_ret {b : Bnd} {g : Stm} {P : Nat → Dl.Env → Prop} {Q : EV → Prop} {n : Nat} (q : ∀ i, i < n → ∀ ρ, P i ρ → ∃ ρ1, b (.int (i : Int)) ρ = some ρ1 ∧ ((∃ x, g ρ1 = .ok (.ret x) ∧ Q x) ∨ ∃ ρ2, g ρ1 = .ok (.nx ρ2) ∧ P (i + 1) ρ2)) (ρ : Dl.Env) (h : P 0 ρ) :
    (∃ x, forD b g (rangeD 0 n) ρ = .ok (.ret x) ∧ Q x) ∨ ∃ ρ', forD b g (rangeD 0 n) ρ = .ok (.nx ρ') ∧ P n ρ' := by
  have key : ∀ (m k : Nat), k + m = n → ∀ ρ, P k ρ → (∃ x, forD b g ((List.range' k m).map fun (i : Nat) => D.int i) ρ = .ok (.ret x) ∧ Q x) ∨ ∃ ρ', forD b g ((List.range' k m).map fun (i : Nat) => D.int i) ρ = .ok (.nx ρ') ∧ P (k + m) ρ' := by
    intro m
    induction m with
    | zero => exact fun k _ ρ h => .inr ⟨ρ, rfl, h⟩
    | succ m ih =>
      intro k hk ρ h
      obtain ⟨ρ1, e1, c⟩ := q k (by omega) ρ h
      rw [List.range'_succ, List.map_cons, x_forD_cons e1]
      rcases c with ⟨x, e2, hx⟩ | ⟨ρ2, e2, h2⟩
      · exact .inl ⟨x, by rw [e2, x_turn_ret], hx⟩
      · rw [e2, x_turn_nx, show k + (m + 1) = k + 1 + m by omega]
        exact ih (k + 1) (by omega) ρ2 h2
  have e : rangeD 0 n = (List.range' 0 n).map fun (i : Nat) => D.int i := by
    simp [rangeD, List.range_eq_range']
  rw [e]
  have := key n 0 (by omega) ρ h
  rwa [Nat.zero_add] at this
section
variable {ρ ρ2 : Dl.Env} {t : Dl.Env → Res Bool} {b : Stm} {n : Nat}
theorem x_while {fuel : Dl.Env → Nat} : dWhile fuel t b ρ = whileD t b (fuel ρ) ρ := rfl
theorem wh_stop (h : t ρ = .ok false) : whileD t b (n + 1) ρ = .ok (.nx ρ) := by
  unfold whileD
  rw [h]
  rfl
theorem wh_step (h : t ρ = .ok true) (hb : b ρ = .ok (.nx ρ2)) : whileD t b (n + 1) ρ = whileD t b n ρ2 := by
  rw [whileD, h]
  show (b ρ).bind _ = _
  rw [hb]
  rfl
end
theorem erase_map {α β : Type} {f : α → β} : ∀ {xs : List α} {j : Nat}, (xs.map f).eraseIdx j = (xs.eraseIdx j).map f
  | [], _ => rfl
  | _ :: _, 0 => rfl
  | x :: xs, j + 1 => by
    show f x :: (xs.map f).eraseIdx j = f x :: (xs.eraseIdx j).map f
    rw [erase_map]
section
variable {ρ : Dl.Env} {i : Nat} {f f1 f2 : Dl.Env → Res EV} {ss : List Str} {s : Str}
theorem x_rem (hi : ρ[i]? = some (.own ((ss.map D.str).map T.leaf))) (hf : f ρ = .ok (.sh (.str s))) (hm : s ∈ ss) (hs : ∀ s ∈ ss, PyData.strOk s = true) : dRem i f ρ = .ok (.nx (ρ.set i (.own (((ss.erase s).map D.str).map T.leaf)))) := by
  have e : placeD (ss.map D.str) (.str s) = some (ss.idxOf s) := by
    unfold placeD
    have e2 : (D.str s).py = some (.str s) := rfl
    rw [strs_py, e2]
    simp only [strs_shaped hs, str_shaped (hs s hm), Bool.and_self, if_true]
    rw [find_str, idx_mem hm]
  unfold dRem
  rw [hi]
  show (match leaves? ((ss.map D.str).map T.leaf) with | some ds => _ | none => _) = _
  rw [leavesQ_map]
  show (f ρ).at ρ _ = _
  rw [hf]
  show (match placeD (ss.map D.str) (.str s) with | some j => _ | none => _) = _
  rw [e]
  show _ = _
  have e4 : (ss.map D.str).eraseIdx (ss.idxOf s) = (ss.erase s).map D.str := by
    rw [List.erase_eq_eraseIdx_of_idxOf (i := ss.idxOf s) rfl, erase_map]
  rw [← e4]
theorem x_ins0 {d : D} {ds : List D} (hi : ρ[i]? = some (.own (ds.map T.leaf))) (h1 : f1 ρ = .ok (.sh (.int 0))) (h2 : f2 ρ = .ok (.sh d)) (hl : ds.length < 16777216) : dIns i (aCons f1 (aCons f2 aNil)) ρ = .ok (.nx (ρ.set i (.own ((d :: ds).map T.leaf)))) := by
  unfold dIns
  rw [hi]
  show (match leaves? (ds.map T.leaf) with | some ds => _ | none => _) = _
  rw [leavesQ_map]
  show (aCons f1 (aCons f2 aNil) ρ).at ρ _ = _
  rw [x_cons, x_cons, h1, h2, x_nil]
  show (if (0 : Int) ≤ 0 ∧ (0 : Int) < 9223372036854775808 ∧ ds.length < 16777216 then _ else _) = _
  rw [if_pos ⟨by omega, by omega, hl⟩]
  rfl
theorem x_rev_seq {k : Bool} (h : f ρ = .ok (.sh (seqS k ss))) : iRev1 f ρ = .ok (ss.reverse.map D.str) := by
  unfold iRev1
  rw [h, List.map_reverse]
  cases k <;> rfl
theorem bools_ok : ∀ bs : List Bool, boolsD (bs.map D.bl) = some bs
  | [] => rfl
  | b :: bs => by
    show (boolsD (bs.map D.bl)).map (b :: ·) = _
    rw [bools_ok bs]
    rfl
theorem any_ok {bs : List Bool} : gAny [.fr ((bs.map D.bl).map T.leaf)] = .ok (.sh (.bl (bs.any id))) := by
  show (match ((boolsD (T.toDs ((bs.map D.bl).map T.leaf))).map fun bs => D.bl (bs.any id)) with | some d => Res.ok (EV.sh d) | none => .stuck) = _
  rw [x_leaves, bools_ok]
  rfl
theorem all_ok {bs : List Bool} : gAll [.fr ((bs.map D.bl).map T.leaf)] = .ok (.sh (.bl (bs.all id))) := by
  show (match ((boolsD (T.toDs ((bs.map D.bl).map T.leaf))).map fun bs => D.bl (bs.all id)) with | some d => Res.ok (EV.sh d) | none => .stuck) = _
  rw [x_leaves, bools_ok]
  rfl
theorem seq_fine {k : Bool} (hs : ∀ s ∈ ss, PyData.strOk s = true) : (seqS k ss).fine = true := by
  have := strs_fines hs
  cases k <;> exact this
theorem seq_dep : ∀ {ss : List Str}, D.deps (ss.map D.str) ≤ 2
  | [] => by decide
  | s :: ss => by
    have := seq_dep (ss := ss)
    show max (D.str s).dep (D.deps (ss.map D.str)) ≤ 2
    have e : (D.str s).dep ≤ 2 := by
      show _ ≤ 2
      first | decide | simp [D.dep]
    omega
theorem seq_inj {k : Bool} {xs ys : List Str} (h : seqS k xs = seqS k ys) : xs = ys := by
  have e : xs.map D.str = ys.map D.str := by
    cases k
    · exact D.lst.inj h
    · exact D.tup.inj h
  exact List.map_inj_right (fun a b z => D.str.inj z) |>.mp e
end
end Dl
set_option Elab.async false
set_option linter.all false
set_option maxRecDepth 100000
set_option maxHeartbeats 0
namespace K49
open PySem PySem.Spec PyProof.Rows L2 Dl
def top (i : Nat) : Stmt := PySem.Challenge.pw_leavetaking_k49_peeling_whole.main.body.getD i (.Pass ⟨0, 0, 0, 0⟩)
def sub (i j : Nat) : Stmt := match top i with
  | .ClassDef _ _ _ body _ _ _ _ _ _ _ => body.getD j (.Pass ⟨0, 0, 0, 0⟩)
  | s => s
/-! ### the text, the functions -/
abbrev s_l_digits : Stmt := (top 29)
abbrev N_l_digits : List Str := ["_law_cell_here", "_law_sizes", "_law_row", "_law_rest", "_law_size", "_law_seed", "_law_k", "_law_twice"]
theorem sc_l_digits : FnScope N_l_digits ["_law_cell_here", "_law_sizes"] (defScope s_l_digits) := ⟨rfl, rfl, rfl, by decide +kernel, rfl, by decide +kernel, by decide +kernel⟩
def g_l_digits : Stm := (dSeq (dSet 2 (dLst aNil))
  (dSeq (dSet 3 (dC1 gInt (aCons (dVar 0) aNil)))
  (dSeq (dIf (dT tBool (d2 gGe (dVar 3) (d2 gPow (dC (.int 10)) (dC (.int 18)))))
  (dSeq (dSet 3 (d2 gSub (dVar 3) (d2 gPow (dC (.int 10)) (dC (.int 18)))))
  (dSeq (dFor (iA (dVar 1)) (bName 4)
  (dSeq (dApp 2 (d2 gMod (dC1 gInt (aCons (dVar 3) aNil)) (dVar 4)))
  (dSet 3 (d2 gFdv (dC1 gInt (aCons (dVar 3) aNil)) (dVar 4)))))
  (dRetV 2)))
  dNext)
  (dSeq (dSet 5 (d2 gMod (dC1 gInt (aCons (dVar 3) aNil)) (dC (.int 2147483629))))
  (dSeq (dFor (iR1 (dC1 gLen (aCons (dVar 1) aNil))) (bName 6)
  (dSeq (dSet 5 (d2 gMod (dC1 gInt (aCons (d2 gAdd (d2 gAdd (d2 gMul (dVar 5) (dC (.int 48271))) (d2 gMul (dC (.int 974711)) (dVar 6))) (dC (.int 12345))) aNil)) (dC (.int 2147483647))))
  (dSeq (dSet 7 (d2 gMod (dC1 gInt (aCons (d2 gMul (dVar 5) (d2 gAdd (d2 gFdv (dVar 5) (dC (.int 65537))) (dC (.int 3)))) aNil)) (dC (.int 2147483629))))
  (dApp 2 (d2 gMod (d2 gFdv (dVar 7) (dC (.int 19))) (d2 gIx (dVar 1) (dVar 6)))))))
  (dRetV 2))))))
def F_l_digits : List D → Res EV := runD 8 g_l_digits
abbrev s_l_cell : Stmt := (top 28)
abbrev N_l_cell : List Str := ["_law_script", "_law_k", "_law_seed", "_law_cell_here"]
theorem sc_l_cell : FnScope N_l_cell ["_law_script", "_law_k"] (defScope s_l_cell) := ⟨rfl, rfl, rfl, by decide +kernel, rfl, by decide +kernel, by decide +kernel⟩
def g_l_cell : Stm := (dSeq (dIf (dT tBool (d2 gLt (dVar 1) (dC1 gLen (aCons (dVar 0) aNil))))
  (dRet (d2 gIx (dVar 0) (dVar 1)))
  dNext)
  (dSeq (dSet 2 (dC (.int 17)))
  (dSeq (dFor (iA (dVar 0)) (bName 3)
  (dSet 2 (d2 gMod (dC1 gInt (aCons (d2 gAdd (d2 gMul (dVar 2) (dC (.int 31))) (d2 gMod (dC1 gInt (aCons (dVar 3) aNil)) (dC (.int 1000003)))) aNil)) (dC (.int 1000003)))))
  (dRet (d2 gMod (dC1 gInt (aCons (d2 gMul (d2 gMul (d2 gAdd (dVar 2) (dC (.int 7))) (d2 gAdd (dVar 1) (dC (.int 3)))) (dC (.int 69621))) aNil)) (dC (.int 2147483647)))))))
def F_l_cell : List D → Res EV := runD 4 g_l_cell
abbrev s_l_names : Stmt := (top 31)
abbrev N_l_names : List Str := ["_law_digit", "_law_many", "_law_menu", "_law_place", "_law_signs", "_law_k", "_law_sign"]
theorem sc_l_names : FnScope N_l_names ["_law_digit", "_law_many"] (defScope s_l_names) := ⟨rfl, rfl, rfl, by decide +kernel, rfl, by decide +kernel, by decide +kernel⟩
def g_l_names : Stm := (dSeq (dSet 2 (dLst (aCons (dC (.str "ada")) (aCons (dC (.str "b2")) (aCons (dC (.str "cleo")) (aCons (dC (.str "z")) (aCons (dC (.str "eve9")) (aCons (dC (.str "in")) (aCons (dC (.str "gus4gus8")) (aCons (dC (.str "ann")) (aCons (dC (.str "out")) (aCons (dC (.str "mo")) (aCons (dC (.str "hal3")) (aCons (dC (.str "k")) aNil))))))))))))))
  (dFrz 2 (dSeq (dIf (dT tBool (d2 gEq (d2 gMod (dC1 gInt (aCons (dVar 0) aNil)) (dC (.int 2))) (dC (.int 0))))
  (dRet (dLc (iR1 (dVar 1)) (bName 5) dYes (d2 gIx (dVar 2) (d2 gMod (dC1 gInt (aCons (d2 gAdd (d2 gMul (d2 gFdv (dVar 0) (dC (.int 2))) (dC (.int 7))) (d2 gMul (dVar 5) (dC (.int 5)))) aNil)) (dC (.int 12)))) [5]))
  dNext)
  (dSeq (dSet 3 (d2 gMod (d2 gFdv (dC1 gInt (aCons (dVar 0) aNil)) (dC (.int 2))) (dC (.int 5))))
  (dSeq (dSet 4 (dLc (iR1 (dVar 1)) (bName 5) dYes (d2 gIx (dC (.str "tbxkwmzcehnf")) (d2 gMod (dC1 gInt (aCons (d2 gAdd (d2 gFdv (dVar 0) (dC (.int 10))) (d2 gMul (dVar 5) (dC (.int 7)))) aNil)) (dC (.int 12)))) [5]))
  (dFrz 4 (dRet (dLc (iA (dVar 4)) (bName 6) dYes (d2 gAdd (d2 gAdd (dSl (dC (.str "anna")) none (some (dVar 3))) (dVar 6)) (dSl (dC (.str "anna")) (some (dVar 3)) none)) [6]))))))))
def F_l_names : List D → Res EV := runD 7 g_l_names
abbrev s_l_order : Stmt := (top 30)
abbrev N_l_order : List Str := ["_law_row", "_law_many", "_law_left_here", "_law_turned", "_law_k"]
theorem sc_l_order : FnScope N_l_order ["_law_row", "_law_many"] (defScope s_l_order) := ⟨rfl, rfl, rfl, by decide +kernel, rfl, by decide +kernel, by decide +kernel⟩
def g_l_order : Stm := (dSeq (dSet 2 (dLstR (dVar 1)))
  (dSeq (dSet 3 (dLst aNil))
  (dSeq (dFor (iR1 (dVar 1)) (bName 4)
  (dAppPop 3 2 (d2 gMod (dC1 gInt (aCons (d2 gIx (dVar 0) (dVar 4)) aNil)) (dC1 gLen (aCons (dVar 2) aNil)))))
  (dRetV 3))))
def F_l_order : List D → Res EV := runD 5 g_l_order
abbrev s_l_taking : Stmt := (top 32)
abbrev N_l_taking : List Str := ["_law_names_here", "_law_depths", "_law_ranked", "_law_wild", "_law_row", "_law_guest", "_law_hanging", "_law_liked", "_law_k", "_law_name"]
theorem sc_l_taking : FnScope N_l_taking ["_law_names_here", "_law_depths", "_law_ranked", "_law_wild", "_law_row"] (defScope s_l_taking) := ⟨rfl, rfl, rfl, by decide +kernel, rfl, by decide +kernel, by decide +kernel⟩
def g_l_taking : Stm := (dSeq (dSet 5 (d2 gMod (dC1 gInt (aCons (d2 gIx (dVar 4) (dC (.int 0))) aNil)) (dC1 gLen (aCons (dVar 0) aNil))))
  (dSeq (dSet 6 (dLc (iR1 (dC1 gLen (aCons (dVar 0) aNil))) (bName 8) (dT tBool (d2 gGt (d2 gIx (dVar 4) (d2 gAdd (dC (.int 3)) (dVar 8))) (dC (.int 0)))) (d2 gIx (dVar 0) (dVar 8)) [8]))
  (dFrz 6 (dSeq (dIf (dT tBool (d2 gEq (dC1 gLen (aCons (dVar 6) aNil)) (dC (.int 0))))
  (dSet 6 (dLst (aCons (d2 gIx (dVar 0) (d2 gMod (dC1 gInt (aCons (d2 gIx (dVar 4) (dC (.int 2))) aNil)) (dC1 gLen (aCons (dVar 0) aNil)))) aNil)))
  dNext)
  (dFrz 6 (dSeq (dSet 7 (dLc (iA (dVar 2)) (bName 9) (dT tBool (d2 gIn (dVar 9) (dVar 6))) (dVar 9) [9]))
  (dFrz 7 (dSeq (dIf (dT tBool (d2 gGe (d2 gIx (dVar 4) (dC (.int 1))) (dVar 3)))
  (dRet (dTup (aCons (d2 gIx (dVar 0) (dVar 5)) (aCons (d2 gIx (dVar 6) (d2 gMod (dC1 gInt (aCons (d2 gIx (dVar 4) (dC (.int 2))) aNil)) (dC1 gLen (aCons (dVar 6) aNil)))) (aCons (dC1 gTuple (aCons (dVar 6) aNil)) aNil)))))
  dNext)
  (dRet (dTup (aCons (d2 gIx (dVar 0) (dVar 5)) (aCons (d2 gIx (dVar 7) (d2 gMod (dC1 gInt (aCons (d2 gIx (dVar 4) (dC (.int 2))) aNil)) (dC1 gMin (aCons (dC1 gLen (aCons (dVar 7) aNil)) (aCons (d2 gIx (dVar 1) (dVar 5)) aNil))))) (aCons (dC1 gTuple (aCons (dVar 6) aNil)) aNil)))))))))))))
def F_l_taking : List D → Res EV := runD 10 g_l_taking
abbrev s_l_ties : Stmt := (top 33)
abbrev N_l_ties : List Str := ["_law_names_here", "_law_ranked", "_law_wild", "_law_row", "_law_ties_here", "_law_k", "_law_one", "_law_others", "_law_two", "_law_name"]
theorem sc_l_ties : FnScope N_l_ties ["_law_names_here", "_law_ranked", "_law_wild", "_law_row"] (defScope s_l_ties) := ⟨rfl, rfl, rfl, by decide +kernel, rfl, by decide +kernel, by decide +kernel⟩
def g_l_ties : Stm := (dSeq (dSet 4 (dLst aNil))
  (dSeq (dFor (iR1 (d2 gIx (dLst (aCons (dC (.int 0)) (aCons (dC (.int 1)) (aCons (dC (.int 0)) (aCons (dC (.int 2)) (aCons (dC (.int 1)) (aCons (dC (.int 3)) (aCons (dC (.int 0)) (aCons (dC (.int 19)) aNil))))))))) (d2 gIx (dVar 3) (dC (.int 0))))) (bName 5)
  (dIf (dAndT (dT tBool (d2 gGt (dC1 gLen (aCons (dVar 0) aNil)) (dC (.int 1)))) (dOrT (dT tBool (d2 gLt (d2 gIx (dVar 3) (dC (.int 0))) (dC (.int 7)))) (dT tBool (d2 gLt (d2 gIx (dVar 3) (d2 gAdd (d2 gMul (dC (.int 3)) (dVar 5)) (dC (.int 3)))) (dC (.int 4))))))
  (dSeq (dSet 6 (d2 gIx (dVar 0) (d2 gMod (dC1 gInt (aCons (d2 gIx (dVar 3) (d2 gAdd (d2 gMul (dC (.int 3)) (dVar 5)) (dC (.int 1)))) aNil)) (dC1 gLen (aCons (dVar 0) aNil)))))
  (dFrz 6 (dSeq (dSet 7 (dLc (iA (dVar 0)) (bName 9) (dT tBool (d2 gNe (dVar 9) (dVar 6))) (dVar 9) [9]))
  (dFrz 7 (dSeq (dSet 8 (d2 gIx (dVar 7) (d2 gMod (dC1 gInt (aCons (d2 gIx (dVar 3) (d2 gAdd (d2 gMul (dC (.int 3)) (dVar 5)) (dC (.int 2)))) aNil)) (dC1 gLen (aCons (dVar 7) aNil)))))
  (dFrz 8 (dIf (dAndT (dT tBool (d2 gGt (dIdx (dVar 1) (dVar 6)) (dIdx (dVar 1) (dVar 8)))) (dT tBool (d2 gLt (d2 gIx (dVar 3) (d2 gAdd (d2 gMul (dC (.int 3)) (dVar 5)) (dC (.int 3)))) (dVar 2))))
  (dApp 4 (dTup (aCons (dVar 8) (aCons (dVar 6) aNil))))
  (dApp 4 (dTup (aCons (dVar 6) (aCons (dVar 8) aNil)))))))))))
  dNext))
  (dFrz 6 (dFrz 7 (dFrz 8 (dRetV 4))))))
def F_l_ties : List D → Res EV := runD 10 g_l_ties
abbrev s_l_seen : Stmt := (top 34)
abbrev N_l_seen : List Str := ["_law_script", "_law_at", "_law_upto", "_law_room", "_law_head", "_law_row", "_law_many", "_law_names_here", "_law_ranked", "_law_depths", "_law_ranges", "_law_wild", "_law_takings", "_law_count", "_law_k", "_law_digits_here", "_law_ties_here", "_law_name", "_law_digit"]
theorem sc_l_seen : FnScope N_l_seen ["_law_script", "_law_at", "_law_upto", "_law_room"] (defScope s_l_seen) := ⟨rfl, rfl, rfl, by decide +kernel, rfl, by decide +kernel, by decide +kernel⟩
def g_l_seen : Stm := (dSeq (dSet 4 (dCall 2 F_l_digits [] (aCons (dCall 2 F_l_cell [] (aCons (dVar 0) (aCons (dVar 1) aNil))) (aCons (dLst (aCons (dC (.int 120)) (aCons (dC (.int 12)) (aCons (dC (.int 16)) (aCons (dC (.int 6)) (aCons (dC (.int 8)) aNil)))))) aNil))))
  (dFrz 4 (dSeq (dSet 5 (dCall 2 F_l_digits [] (aCons (dCall 2 F_l_cell [] (aCons (dVar 0) (aCons (d2 gAdd (dVar 1) (dC (.int 1))) aNil))) (aCons (d2 gAdd (d2 gAdd (d2 gMul (dLst (aCons (dC (.int 12)) aNil)) (dC (.int 12))) (d2 gMul (dLst (aCons (dC (.int 8)) aNil)) (dC (.int 12)))) (d2 gMul (dLst (aCons (dC (.int 12)) aNil)) (dC (.int 12)))) aNil))))
  (dFrz 5 (dSeq (dSet 6 (dC1 gMin (aCons (dVar 2) (aCons (d2 gIx (dLst (aCons (dC (.int 3)) (aCons (dC (.int 4)) (aCons (dC (.int 2)) (aCons (dC (.int 5)) (aCons (dC (.int 3)) (aCons (dC (.int 4)) (aCons (dC (.int 6)) (aCons (dC (.int 1)) (aCons (dC (.int 5)) (aCons (dC (.int 4)) (aCons (dC (.int 3)) (aCons (dC (.int 6)) aNil))))))))))))) (d2 gIx (dVar 4) (dC (.int 1)))) aNil))))
  (dFrz 6 (dSeq (dIf (dT tBool (d2 gGt (dVar 2) (dC (.int 6))))
  (dSet 6 (dC1 gMin (aCons (dVar 2) (aCons (d2 gIx (dLst (aCons (dC (.int 7)) (aCons (dC (.int 12)) (aCons (dC (.int 9)) (aCons (dC (.int 8)) (aCons (dC (.int 6)) (aCons (dC (.int 12)) (aCons (dC (.int 10)) (aCons (dC (.int 7)) (aCons (dC (.int 11)) (aCons (dC (.int 8)) (aCons (dC (.int 9)) (aCons (dC (.int 12)) aNil))))))))))))) (d2 gIx (dVar 4) (dC (.int 1)))) aNil))))
  dNext)
  (dFrz 6 (dSeq (dSet 7 (dCall 2 F_l_names [] (aCons (d2 gIx (dVar 4) (dC (.int 0))) (aCons (dVar 6) aNil))))
  (dFrz 7 (dSeq (dSet 8 (dLc (iA (dCall 2 F_l_order [] (aCons (dVar 5) (aCons (dVar 6) aNil)))) (bName 14) dYes (d2 gIx (dVar 7) (dVar 14)) [14]))
  (dFrz 8 (dSeq (dSet 9 (dLc (iA (dVar 7)) (bName 17) dYes (d2 gAdd (dC (.int 1)) (dC1 gInt (aCons (d2 gEq (d2 gIx (dVar 4) (dC (.int 3))) (dC (.int 5))) aNil))) [17]))
  (dFrz 9 (dSeq (dIf (dAndT (dT tBool (d2 gGe (d2 gIx (dVar 4) (dC (.int 3))) (dC (.int 3)))) (dT tBool (d2 gNe (d2 gIx (dVar 4) (dC (.int 3))) (dC (.int 5)))))
  (dSeq (dSet 10 (dLc (iA (dSl (dVar 5) (some (dC (.int 24))) (some (dC (.int 36))))) (bName 18) dYes (d2 gAdd (dC (.int 1)) (d2 gMod (dC1 gInt (aCons (dVar 18) aNil)) (dVar 6))) [18]))
  (dFrz 10 (dSet 9 (dLc (iR1 (dVar 6)) (bName 14) dYes (d2 gIx (dLst (aCons (dC (.int 1)) (aCons (dC (.int 1)) (aCons (dC (.int 2)) (aCons (d2 gIx (dVar 10) (dVar 14)) (aCons (dC (.int 3)) (aCons (d2 gIx (dVar 10) (dVar 14)) (aCons (d2 gIx (dVar 10) (dVar 14)) (aCons (d2 gAdd (d2 gPow (dC (.int 10)) (dC (.int 20))) (dVar 14)) aNil))))))))) (d2 gIx (dVar 5) (d2 gAdd (dC (.int 12)) (dVar 14)))) [14]))))
  dNext)
  (dFrz 10 (dFrz 9 (dSeq (dSet 11 (d2 gIx (dLst (aCons (dC (.int 8)) (aCons (dC (.int 8)) (aCons (dC (.int 8)) (aCons (dC (.int 7)) (aCons (dC (.int 7)) (aCons (dC (.int 6)) (aCons (dC (.int 4)) (aCons (dC (.int 1)) aNil))))))))) (d2 gIx (dVar 4) (dC (.int 4)))))
  (dFrz 11 (dSeq (dSet 12 (dLst aNil))
  (dSeq (dSet 13 (dC1 gMin (aCons (dVar 3) (aCons (d2 gIx (dLst (aCons (dC (.int 3)) (aCons (dC (.int 4)) (aCons (dC (.int 2)) (aCons (dC (.int 5)) (aCons (dC (.int 6)) (aCons (dC (.int 0)) (aCons (dC (.int 8)) (aCons (dC (.int 4)) (aCons (dC (.int 5)) (aCons (dC (.int 1)) (aCons (dC (.int 3)) (aCons (dC (.int 7)) (aCons (dC (.int 10)) (aCons (dC (.int 6)) (aCons (dC (.int 12)) (aCons (dC (.int 9)) aNil))))))))))))))))) (d2 gIx (dVar 4) (dC (.int 2)))) aNil))))
  (dFrz 13 (dSeq (dIf (dT tBool (d2 gGt (dVar 3) (dC (.int 12))))
  (dSet 13 (d2 gIx (dLst (aCons (dC (.int 20)) (aCons (dC (.int 60)) (aCons (dC (.int 30)) (aCons (dC (.int 15)) (aCons (dC (.int 45)) (aCons (dC (.int 13)) (aCons (dC (.int 60)) (aCons (dC (.int 25)) (aCons (dC (.int 17)) (aCons (dC (.int 50)) (aCons (dC (.int 24)) (aCons (dC (.int 36)) (aCons (dC (.int 15)) (aCons (dC (.int 59)) (aCons (dC (.int 40)) (aCons (dC (.int 21)) aNil))))))))))))))))) (d2 gIx (dVar 4) (dC (.int 2)))))
  dNext)
  (dFrz 13 (dSeq (dFor (iR1 (dVar 13)) (bName 14)
  (dSeq (dSet 15 (dCall 2 F_l_digits [] (aCons (dCall 2 F_l_cell [] (aCons (dVar 0) (aCons (d2 gAdd (d2 gAdd (dVar 1) (dC (.int 3))) (d2 gMod (dC1 gInt (aCons (dVar 14) aNil)) (dC (.int 50)))) aNil))) (aCons (d2 gMul (d2 gAdd (dLst (aCons (dC (.int 12)) (aCons (dC (.int 8)) (aCons (dC (.int 12)) aNil)))) (d2 gMul (dLst (aCons (dC (.int 3)) aNil)) (dC (.int 12)))) (dC (.int 2))) aNil))))
  (dFrz 15 (dApp 12 (dCall 5 F_l_taking [] (aCons (dVar 7) (aCons (dVar 9) (aCons (dVar 8) (aCons (dVar 11) (aCons (dSl (dVar 15) (some (d2 gMul (d2 gFdv (dVar 14) (dC (.int 50))) (dC (.int 15)))) none) aNil))))))))))
  (dFrz 15 (dSeq (dSet 16 (dCall 4 F_l_ties [] (aCons (dVar 7) (aCons (dVar 8) (aCons (dVar 11) (aCons (dCall 2 F_l_digits [] (aCons (dCall 2 F_l_cell [] (aCons (dVar 0) (aCons (d2 gAdd (dVar 1) (dC (.int 2))) aNil))) (aCons (d2 gAdd (dLst (aCons (dC (.int 8)) aNil)) (d2 gMul (dLst (aCons (dC (.int 12)) (aCons (dC (.int 11)) (aCons (dC (.int 8)) aNil)))) (dC (.int 19)))) aNil))) aNil))))))
  (dFrz 16 (dFrz 12 (dRet (dLst (aCons (dVar 7) (aCons (dVar 12) (aCons (dVar 9) (aCons (dVar 16) aNil)))))))))))))))))))))))))))))))))))
def F_l_seen : List D → Res EV := runD 19 g_l_seen
abbrev s_frozen : Stmt := (top 1)
abbrev N_frozen : List Str := ["value", "item"]
theorem sc_frozen : FnScope N_frozen ["value"] (defScope s_frozen) := ⟨rfl, rfl, rfl, by decide +kernel, rfl, by decide +kernel, by decide +kernel⟩
def g_frozen (rec : List D → Res EV) : Stm := (dSeq (dIf (dT tTru (dC1 gIsi (aCons (dVar 0) (aCons (dTup (aCons (dC (.ty "list")) (aCons (dC (.ty "tuple")) aNil))) aNil))))
  (dRet (dC1 gTuple (aCons (dLc (iA (dVar 0)) (bName 1) dYes (dCall 1 rec [] (aCons (dVar 1) aNil)) [1]) aNil)))
  dNext)
  (dRetV 0))
def F_frozen : Nat → List D → Res EV
  | 0 => fun _ => .stuck
  | n + 1 => runD 2 (g_frozen (F_frozen n))
abbrev s_is_name : Stmt := (top 19)
abbrev N_is_name : List Str := ["value", "character"]
theorem sc_is_name : FnScope N_is_name ["value"] (defScope s_is_name) := ⟨rfl, rfl, rfl, by decide +kernel, rfl, by decide +kernel, by decide +kernel⟩
def g_is_name : Stm := (dSeq (dIf (dNotT (dT tBool (dChL (dC (.int 1)) (dC1 gLen (aCons (dVar 0) aNil)) (dC (.int 8)))))
  (dRet (dC (.bl false)))
  dNext)
  (dSeq (dIf (dT tBool (d2 gNotIn (d2 gIx (dVar 0) (dC (.int 0))) (dC (.str "abcdefghijklmnopqrstuvwxyz"))))
  (dRet (dC (.bl false)))
  dNext)
  (dRet (dC1 gAll (aCons (dLc (iS (dVar 0)) (bName 1) dYes (dOr (d2 gIn (dVar 1) (dC (.str "abcdefghijklmnopqrstuvwxyz"))) (d2 gIn (dVar 1) (dC (.str "0123456789")))) [1]) aNil)))))
def F_is_name : List D → Res EV := runD 2 g_is_name
abbrev s_BadName___init__ : Stmt := (sub 10 0)
theorem sc_BadName___init__ : FnScope ["self", "name"] ["self", "name"] (defScope s_BadName___init__) := ⟨rfl, rfl, rfl, by decide +kernel, rfl, by decide +kernel, by decide +kernel⟩
abbrev s_TakenName___init__ : Stmt := (sub 11 0)
theorem sc_TakenName___init__ : FnScope ["self", "name"] ["self", "name"] (defScope s_TakenName___init__) := ⟨rfl, rfl, rfl, by decide +kernel, rfl, by decide +kernel, by decide +kernel⟩
abbrev s_check_guests : Stmt := (top 21)
abbrev N_check_guests : List Str := ["guests", "name", "index"]
theorem sc_check_guests : FnScope N_check_guests ["guests"] (defScope s_check_guests) := ⟨rfl, rfl, rfl, by decide +kernel, rfl, by decide +kernel, by decide +kernel⟩
def g_check_guests : Stm := (dSeq (dFor (iA (dVar 0)) (bName 1)
  (dIf (dNotT (dT tTru (dCall 1 F_is_name [] (aCons (dVar 1) aNil))))
  (dRaise "BadName" "name" (dVar 1))
  dNext))
  (dFor (iEn (dVar 0)) (bTup 2 (bCons (bName 2) (bCons (bName 1) bNil)))
  (dIf (dT tBool (d2 gIn (dVar 1) (dSl (dVar 0) none (some (dVar 2)))))
  (dRaise "TakenName" "name" (dVar 1))
  dNext)))
def F_check_guests : List D → Res EV := runD 3 g_check_guests
abbrev s_BadDepth___init__ : Stmt := (sub 12 0)
theorem sc_BadDepth___init__ : FnScope ["self", "depth"] ["self", "depth"] (defScope s_BadDepth___init__) := ⟨rfl, rfl, rfl, by decide +kernel, rfl, by decide +kernel, by decide +kernel⟩
abbrev s_is_taking : Stmt := (top 22)
abbrev N_is_taking : List Str := ["guests", "taking", "guest", "cloak", "hanging", "name"]
theorem sc_is_taking : FnScope N_is_taking ["guests", "taking"] (defScope s_is_taking) := ⟨rfl, rfl, rfl, by decide +kernel, rfl, by decide +kernel, by decide +kernel⟩
def g_is_taking : Stm := (dSeq (dAsg (dVar 1) (bTup 3 (bCons (bName 2) (bCons (bName 3) (bCons (bName 4) bNil)))))
  (dSeq (dIf (dOrT (dT tBool (d2 gNotIn (dVar 2) (dVar 0))) (dT tBool (d2 gNotIn (dVar 3) (dVar 4))))
  (dRet (dC (.bl false)))
  dNext)
  (dRet (d2 gEq (dVar 4) (dC1 gTuple (aCons (dLc (iA (dVar 0)) (bName 5) (dT tBool (d2 gIn (dVar 5) (dVar 4))) (dVar 5) [5]) aNil))))))
def F_is_taking : List D → Res EV := runD 6 g_is_taking
abbrev s_BadTaking___init__ : Stmt := (sub 13 0)
theorem sc_BadTaking___init__ : FnScope ["self", "index"] ["self", "index"] (defScope s_BadTaking___init__) := ⟨rfl, rfl, rfl, by decide +kernel, rfl, by decide +kernel, by decide +kernel⟩
abbrev s_is_tie : Stmt := (top 23)
abbrev N_is_tie : List Str := ["guests", "tie", "better", "worse"]
theorem sc_is_tie : FnScope N_is_tie ["guests", "tie"] (defScope s_is_tie) := ⟨rfl, rfl, rfl, by decide +kernel, rfl, by decide +kernel, by decide +kernel⟩
def g_is_tie : Stm := (dSeq (dAsg (dVar 1) (bTup 2 (bCons (bName 2) (bCons (bName 3) bNil))))
  (dRet (dAnd (d2 gIn (dVar 2) (dVar 0)) (dAnd (d2 gIn (dVar 3) (dVar 0)) (d2 gNe (dVar 2) (dVar 3))))))
def F_is_tie : List D → Res EV := runD 4 g_is_tie
abbrev s_BadTie___init__ : Stmt := (sub 14 0)
theorem sc_BadTie___init__ : FnScope ["self", "index"] ["self", "index"] (defScope s_BadTie___init__) := ⟨rfl, rfl, rfl, by decide +kernel, rfl, by decide +kernel, by decide +kernel⟩
abbrev s_Seen___init__ : Stmt := (sub 24 0)
abbrev N_Seen___init__ : List Str := ["self", "guests", "takings", "depths", "ties", "depth", "index", "taking", "tie"]
theorem sc_Seen___init__ : FnScope N_Seen___init__ ["self", "guests", "takings", "depths", "ties"] (defScope s_Seen___init__) := ⟨rfl, rfl, rfl, by decide +kernel, rfl, by decide +kernel, by decide +kernel⟩
def g_Seen___init__ : Stm := (dSeq (dFldSet 0 "Seen" "guests" (dCall 1 (F_frozen 6) [] (aCons (dVar 1) aNil)))
  (dSeq (dFldSet 0 "Seen" "takings" (dCall 1 (F_frozen 6) [] (aCons (dVar 2) aNil)))
  (dSeq (dFldSet 0 "Seen" "depths" (dCall 1 (F_frozen 6) [] (aCons (dVar 3) aNil)))
  (dSeq (dFldSet 0 "Seen" "ties" (dCall 1 (F_frozen 6) [] (aCons (dVar 4) aNil)))
  (dSeq (dDrop (dCall 1 F_check_guests [] (aCons (dFldMk 0 "Seen" "guests") aNil)))
  (dSeq (dFor (iA (dFldMk 0 "Seen" "depths")) (bName 5)
  (dIf (dT tBool (d2 gLt (dVar 5) (dC (.int 1))))
  (dRaise "BadDepth" "depth" (dVar 5))
  dNext))
  (dSeq (dFor (iEn (dFldMk 0 "Seen" "takings")) (bTup 2 (bCons (bName 6) (bCons (bName 7) bNil)))
  (dIf (dNotT (dT tTru (dCall 2 F_is_taking [] (aCons (dFldMk 0 "Seen" "guests") (aCons (dVar 7) aNil)))))
  (dRaise "BadTaking" "index" (dVar 6))
  dNext))
  (dFor (iEn (dFldMk 0 "Seen" "ties")) (bTup 2 (bCons (bName 6) (bCons (bName 8) bNil)))
  (dIf (dNotT (dT tTru (dCall 2 F_is_tie [] (aCons (dFldMk 0 "Seen" "guests") (aCons (dVar 8) aNil)))))
  (dRaise "BadTie" "index" (dVar 6))
  dNext)))))))))
def F_Seen___init__ : List D → Res (List (Str × D)) := initD 9 "Seen" g_Seen___init__
abbrev s_l_made : Stmt := (top 42)
abbrev N_l_made : List Str := ["_law_seen_here", "_law_kind", "_law_rows", "_law_taking_here", "_law_tie"]
theorem sc_l_made : FnScope N_l_made ["_law_seen_here", "_law_kind"] (defScope s_l_made) := ⟨rfl, rfl, rfl, by decide +kernel, rfl, by decide +kernel, by decide +kernel⟩
def g_l_made : Stm := (dSeq (dIf (dT tBool (d2 gEq (dVar 1) (dC (.int 0))))
  (dRet (dCall 4 (mkF "Seen" F_Seen___init__) [] (aCons (dC1 gTuple (aCons (d2 gIx (dVar 0) (dC (.int 0))) aNil)) (aCons (dC1 gTuple (aCons (d2 gIx (dVar 0) (dC (.int 1))) aNil)) (aCons (dC1 gTuple (aCons (d2 gIx (dVar 0) (dC (.int 2))) aNil)) (aCons (dC1 gTuple (aCons (d2 gIx (dVar 0) (dC (.int 3))) aNil)) aNil))))))
  dNext)
  (dSeq (dIf (dT tBool (d2 gEq (dVar 1) (dC (.int 1))))
  (dSeq (dSet 2 (dLc (iA (d2 gIx (dVar 0) (dC (.int 1)))) (bName 3) dYes (dLst (aCons (d2 gIx (dVar 3) (dC (.int 0))) (aCons (d2 gIx (dVar 3) (dC (.int 1))) (aCons (dC1 gList (aCons (d2 gIx (dVar 3) (dC (.int 2))) aNil)) aNil)))) [3]))
  (dFrz 2 (dRet (dCall 4 (mkF "Seen" F_Seen___init__) [] (aCons (dC1 gList (aCons (d2 gIx (dVar 0) (dC (.int 0))) aNil)) (aCons (dVar 2) (aCons (dC1 gList (aCons (d2 gIx (dVar 0) (dC (.int 2))) aNil)) (aCons (dLc (iA (d2 gIx (dVar 0) (dC (.int 3)))) (bName 4) dYes (dC1 gList (aCons (dVar 4) aNil)) [4]) aNil))))))))
  dNext)
  (dFrz 2 (dRet (dCall 4 (mkF "Seen" F_Seen___init__) [] (aCons (dC1 gList (aCons (d2 gIx (dVar 0) (dC (.int 0))) aNil)) (aCons (dC1 gList (aCons (d2 gIx (dVar 0) (dC (.int 1))) aNil)) (aCons (dC1 gList (aCons (d2 gIx (dVar 0) (dC (.int 2))) aNil)) (aCons (dC1 gList (aCons (d2 gIx (dVar 0) (dC (.int 3))) aNil)) aNil)))))))))
def F_l_made : List D → Res EV := runD 5 g_l_made
abbrev s_may_peel : Stmt := (top 4)
abbrev N_may_peel : List Str := ["seen", "left", "cloak", "guest", "taken", "hanging", "many", "better", "worse", "other"]
theorem sc_may_peel : FnScope N_may_peel ["seen", "left", "cloak"] (defScope s_may_peel) := ⟨rfl, rfl, rfl, by decide +kernel, rfl, by decide +kernel, by decide +kernel⟩
def g_may_peel : Stm := (dSeq (dFor (iA (dFld "Seen" "takings" (dVar 0))) (bTup 3 (bCons (bName 3) (bCons (bName 4) (bCons (bName 5) bNil))))
  (dIf (dT tBool (d2 gEq (dVar 4) (dVar 2)))
  (dSeq (dSet 6 (dC1 gLen (aCons (dLc (iA (dVar 5)) (bName 9) (dT tBool (d2 gIn (dVar 9) (dVar 1))) (dVar 9) [9]) aNil)))
  (dIf (dT tBool (d2 gGt (dVar 6) (d2 gIx (dFld "Seen" "depths" (dVar 0)) (dIdx (dFld "Seen" "guests" (dVar 0)) (dVar 3)))))
  (dRet (dC (.bl false)))
  dNext))
  dNext))
  (dSeq (dFor (iA (dFld "Seen" "ties" (dVar 0))) (bTup 2 (bCons (bName 7) (bCons (bName 8) bNil)))
  (dIf (dAndT (dT tBool (d2 gEq (dVar 7) (dVar 2))) (dT tBool (d2 gIn (dVar 8) (dVar 1))))
  (dRet (dC (.bl false)))
  dNext))
  (dRet (dC (.bl true)))))
def F_may_peel : List D → Res EV := runD 10 g_may_peel
abbrev s_last_free : Stmt := (top 5)
abbrev N_last_free : List Str := ["seen", "left", "cloak"]
theorem sc_last_free : FnScope N_last_free ["seen", "left"] (defScope s_last_free) := ⟨rfl, rfl, rfl, by decide +kernel, rfl, by decide +kernel, by decide +kernel⟩
def g_last_free : Stm := (dSeq (dFor (iRev1 (dVar 1)) (bName 2)
  (dIf (dT tTru (dCall 3 F_may_peel [] (aCons (dVar 0) (aCons (dVar 1) (aCons (dVar 2) aNil)))))
  (dRetV 2)
  dNext))
  (dRet (dC .non)))
def F_last_free : List D → Res EV := runD 3 g_last_free
abbrev s_Peel___init__ : Stmt := (sub 3 0)
abbrev N_Peel___init__ : List Str := ["self", "order", "left"]
theorem sc_Peel___init__ : FnScope N_Peel___init__ ["self", "order", "left"] (defScope s_Peel___init__) := ⟨rfl, rfl, rfl, by decide +kernel, rfl, by decide +kernel, by decide +kernel⟩
def g_Peel___init__ : Stm := (dSeq (dFldSet 0 "Peel" "order" (dVar 1))
  (dFldSet 0 "Peel" "left" (dVar 2)))
def F_Peel___init__ : List D → Res (List (Str × D)) := initD 3 "Peel" g_Peel___init__
abbrev s_peel : Stmt := (top 6)
abbrev N_peel : List Str := ["seen", "left", "order", "cloak", "other"]
theorem sc_peel : FnScope N_peel ["seen"] (defScope s_peel) := ⟨rfl, rfl, rfl, by decide +kernel, rfl, by decide +kernel, by decide +kernel⟩
def g_peel : Stm := (dSeq (dSet 1 (dFld "Seen" "guests" (dVar 0)))
  (dSeq (dSet 2 (dTup aNil))
  (dSeq (dSet 3 (dCall 2 F_last_free [] (aCons (dVar 0) (aCons (dVar 1) aNil))))
  (dFrz 3 (dSeq (dWhile (fun _ => 100) (dT tBool (dNotN (dVar 3)))
  (dSeq (dSet 1 (dC1 gTuple (aCons (dLc (iA (dVar 1)) (bName 4) (dT tBool (d2 gNe (dVar 4) (dVar 3))) (dVar 4) [4]) aNil)))
  (dSeq (dSet 2 (d2 gAdd (dTup (aCons (dVar 3) aNil)) (dVar 2)))
  (dFrz 2 (dSeq (dSet 3 (dCall 2 F_last_free [] (aCons (dVar 0) (aCons (dVar 1) aNil))))
  (dFrz 3 dNext))))))
  (dFrz 2 (dFrz 3 (dSeq (dIf (dT tBool (d2 gGt (dC1 gLen (aCons (dVar 1) aNil)) (dC (.int 0))))
  (dRet (dCall 2 (mkF "Peel" F_Peel___init__) [] (aCons (dC .non) (aCons (dVar 1) aNil))))
  dNext)
  (dRet (dCall 2 (mkF "Peel" F_Peel___init__) [] (aCons (dVar 2) (aCons (dVar 1) aNil))))))))))))
def F_peel : List D → Res EV := runD 5 g_peel
abbrev s_l_free : Stmt := (top 38)
abbrev N_l_free : List Str := ["_law_seen_here", "_law_left_here", "_law_cloak", "_law_taking_here", "_law_many", "_law_tie", "_law_other"]
theorem sc_l_free : FnScope N_l_free ["_law_seen_here", "_law_left_here", "_law_cloak"] (defScope s_l_free) := ⟨rfl, rfl, rfl, by decide +kernel, rfl, by decide +kernel, by decide +kernel⟩
def g_l_free : Stm := (dSeq (dFor (iA (d2 gIx (dVar 0) (dC (.int 1)))) (bName 3)
  (dIf (dT tBool (d2 gEq (d2 gIx (dVar 3) (dC (.int 1))) (dVar 2)))
  (dSeq (dSet 4 (dC1 gLen (aCons (dLc (iA (d2 gIx (dVar 3) (dC (.int 2)))) (bName 6) (dT tBool (d2 gIn (dVar 6) (dVar 1))) (dVar 6) [6]) aNil)))
  (dIf (dT tBool (d2 gGt (dVar 4) (d2 gIx (d2 gIx (dVar 0) (dC (.int 2))) (dIdx (d2 gIx (dVar 0) (dC (.int 0))) (d2 gIx (dVar 3) (dC (.int 0)))))))
  (dRet (dC (.bl false)))
  dNext))
  dNext))
  (dSeq (dFor (iA (d2 gIx (dVar 0) (dC (.int 3)))) (bName 5)
  (dIf (dAndT (dT tBool (d2 gEq (d2 gIx (dVar 5) (dC (.int 0))) (dVar 2))) (dT tBool (d2 gIn (d2 gIx (dVar 5) (dC (.int 1))) (dVar 1))))
  (dRet (dC (.bl false)))
  dNext))
  (dRet (dC (.bl true)))))
def F_l_free : List D → Res EV := runD 7 g_l_free
abbrev s_l_peeled : Stmt := (top 39)
abbrev N_l_peeled : List Str := ["_law_seen_here", "_law_left_here", "_law_order_here", "_law_k", "_law_free_here", "_law_cloak"]
theorem sc_l_peeled : FnScope N_l_peeled ["_law_seen_here"] (defScope s_l_peeled) := ⟨rfl, rfl, rfl, by decide +kernel, rfl, by decide +kernel, by decide +kernel⟩
def g_l_peeled : Stm := (dSeq (dSet 1 (dC1 gList (aCons (d2 gIx (dVar 0) (dC (.int 0))) aNil)))
  (dSeq (dSet 2 (dLst aNil))
  (dSeq (dFor (iR1 (dC1 gLen (aCons (d2 gIx (dVar 0) (dC (.int 0))) aNil))) (bName 3)
  (dSeq (dSet 4 (dLend 1 (dLc (iA (dVar 1)) (bName 5) (dT tTru (dCall 3 F_l_free [] (aCons (dVar 0) (aCons (dVar 1) (aCons (dVar 5) aNil))))) (dVar 5) [5])))
  (dFrz 4 (dSeq (dIf (dT tBool (d2 gEq (dC1 gLen (aCons (dVar 4) aNil)) (dC (.int 0))))
  (dRet (dLst (aCons (dC .non) (aCons (dC1 gTuple (aCons (dVar 1) aNil)) aNil))))
  dNext)
  (dSeq (dRem 1 (d2 gIx (dVar 4) (dNeg (dC (.int 1)))))
  (dIns 2 (aCons (dC (.int 0)) (aCons (d2 gIx (dVar 4) (dNeg (dC (.int 1)))) aNil))))))))
  (dFrz 4 (dRet (dLst (aCons (dC1 gTuple (aCons (dVar 2) aNil)) (aCons (dTup aNil) aNil))))))))
def F_l_peeled : List D → Res EV := runD 6 g_l_peeled
abbrev s_l_whole : Stmt := (top 26)
abbrev N_l_whole : List Str := ["_law_value"]
theorem sc_l_whole : FnScope N_l_whole ["_law_value"] (defScope s_l_whole) := ⟨rfl, rfl, rfl, by decide +kernel, rfl, by decide +kernel, by decide +kernel⟩
def g_l_whole : Stm := (dRet (dAnd (dC1 gIsi (aCons (dVar 0) (aCons (dC (.ty "int")) aNil))) (dNot (dC1 gIsi (aCons (dVar 0) (aCons (dC (.ty "bool")) aNil))))))
def F_l_whole : List D → Res EV := runD 1 g_l_whole
abbrev s_l_same : Stmt := (top 27)
abbrev N_l_same : List Str := ["_law_value", "_law_due", "_law_k"]
theorem sc_l_same : FnScope N_l_same ["_law_value", "_law_due"] (defScope s_l_same) := ⟨rfl, rfl, rfl, by decide +kernel, rfl, by decide +kernel, by decide +kernel⟩
def g_l_same (rec : List D → Res EV) : Stm := (dSeq (dIf (dT tTru (dC1 gIsi (aCons (dVar 1) (aCons (dC (.ty "tuple")) aNil))))
  (dSeq (dIf (dOrT (dNotT (dT tTru (dC1 gIsi (aCons (dVar 0) (aCons (dC (.ty "tuple")) aNil))))) (dT tBool (d2 gNe (dC1 gLen (aCons (dVar 0) aNil)) (dC1 gLen (aCons (dVar 1) aNil)))))
  (dRet (dC (.bl false)))
  dNext)
  (dSeq (dFor (iR1 (dC1 gLen (aCons (dVar 1) aNil))) (bName 2)
  (dIf (dNotT (dT tTru (dCall 2 rec [] (aCons (d2 gIx (dVar 0) (dVar 2)) (aCons (d2 gIx (dVar 1) (dVar 2)) aNil)))))
  (dRet (dC (.bl false)))
  dNext))
  (dRet (dC (.bl true)))))
  dNext)
  (dSeq (dIf (dT tBool (dIsN (dVar 1)))
  (dRet (dIsN (dVar 0)))
  dNext)
  (dSeq (dIf (dT tTru (dC1 gIsi (aCons (dVar 1) (aCons (dC (.ty "str")) aNil))))
  (dRet (dAnd (dC1 gIsi (aCons (dVar 0) (aCons (dC (.ty "str")) aNil))) (d2 gEq (dVar 0) (dVar 1))))
  dNext)
  (dRet (dAnd (dCall 1 F_l_whole [] (aCons (dVar 0) aNil)) (d2 gEq (dVar 0) (dVar 1)))))))
def F_l_same : Nat → List D → Res EV
  | 0 => fun _ => .stuck
  | n + 1 => runD 3 (g_l_same (F_l_same n))
abbrev s_is_stuck : Stmt := (top 7)
abbrev N_is_stuck : List Str := ["seen", "lot", "left", "cloak"]
theorem sc_is_stuck : FnScope N_is_stuck ["seen", "lot"] (defScope s_is_stuck) := ⟨rfl, rfl, rfl, by decide +kernel, rfl, by decide +kernel, by decide +kernel⟩
def g_is_stuck : Stm := (dSeq (dSet 2 (dCall 1 (F_frozen 6) [] (aCons (dVar 1) aNil)))
  (dFrz 2 (dSeq (dIf (dT tBool (d2 gEq (dC1 gLen (aCons (dVar 2) aNil)) (dC (.int 0))))
  (dRet (dC (.bl false)))
  dNext)
  (dRet (dNot (dC1 gAny (aCons (dLc (iA (dVar 2)) (bName 3) dYes (dCall 3 F_may_peel [] (aCons (dVar 0) (aCons (dVar 2) (aCons (dVar 3) aNil)))) [3]) aNil)))))))
def F_is_stuck : List D → Res EV := runD 4 g_is_stuck
abbrev s_l_explains : Stmt := (top 35)
abbrev N_l_explains : List Str := ["_law_order_here", "_law_taking_here", "_law_depth", "_law_names_here", "_law_ahead", "_law_cloak"]
theorem sc_l_explains : FnScope N_l_explains ["_law_order_here", "_law_taking_here", "_law_depth"] (defScope s_l_explains) := ⟨rfl, rfl, rfl, by decide +kernel, rfl, by decide +kernel, by decide +kernel⟩
def g_l_explains : Stm := (dSeq (dSet 3 (dC1 gList (aCons (dVar 0) aNil)))
  (dFrz 3 (dSeq (dSet 4 (dSl (dVar 3) none (some (dIdx (dVar 3) (d2 gIx (dVar 1) (dC (.int 1)))))))
  (dFrz 4 (dRet (d2 gLt (dC1 gLen (aCons (dLc (iA (d2 gIx (dVar 1) (dC (.int 2)))) (bName 5) (dT tBool (d2 gIn (dVar 5) (dVar 4))) (dVar 5) [5]) aNil)) (dVar 2)))))))
def F_l_explains : List D → Res EV := runD 6 g_l_explains
abbrev s_l_fits : Stmt := (top 36)
abbrev N_l_fits : List Str := ["_law_seen_here", "_law_order_here", "_law_names_here", "_law_taking_here", "_law_tie"]
theorem sc_l_fits : FnScope N_l_fits ["_law_seen_here", "_law_order_here"] (defScope s_l_fits) := ⟨rfl, rfl, rfl, by decide +kernel, rfl, by decide +kernel, by decide +kernel⟩
def g_l_fits : Stm := (dSeq (dSet 2 (dC1 gList (aCons (dVar 1) aNil)))
  (dFrz 2 (dSeq (dFor (iA (d2 gIx (dVar 0) (dC (.int 1)))) (bName 3)
  (dIf (dNotT (dT tTru (dCall 3 F_l_explains [] (aCons (dVar 2) (aCons (dVar 3) (aCons (d2 gIx (d2 gIx (dVar 0) (dC (.int 2))) (dIdx (d2 gIx (dVar 0) (dC (.int 0))) (d2 gIx (dVar 3) (dC (.int 0))))) aNil))))))
  (dRet (dC (.bl false)))
  dNext))
  (dSeq (dFor (iA (d2 gIx (dVar 0) (dC (.int 3)))) (bName 4)
  (dIf (dT tBool (d2 gGt (dIdx (dVar 2) (d2 gIx (dVar 4) (dC (.int 0)))) (dIdx (dVar 2) (d2 gIx (dVar 4) (dC (.int 1))))))
  (dRet (dC (.bl false)))
  dNext))
  (dRet (dC (.bl true)))))))
def F_l_fits : List D → Res EV := runD 5 g_l_fits
abbrev s_l_stuck : Stmt := (top 40)
abbrev N_l_stuck : List Str := ["_law_seen_here", "_law_lot", "_law_cloak", "_law_held", "_law_taking_here", "_law_many", "_law_tie", "_law_other"]
theorem sc_l_stuck : FnScope N_l_stuck ["_law_seen_here", "_law_lot"] (defScope s_l_stuck) := ⟨rfl, rfl, rfl, by decide +kernel, rfl, by decide +kernel, by decide +kernel⟩
def g_l_stuck : Stm := (dSeq (dFor (iA (dVar 1)) (bName 2)
  (dSeq (dSet 3 (dC (.bl false)))
  (dSeq (dFor (iA (d2 gIx (dVar 0) (dC (.int 1)))) (bName 4)
  (dIf (dT tBool (d2 gEq (d2 gIx (dVar 4) (dC (.int 1))) (dVar 2)))
  (dSeq (dSet 5 (dC1 gLen (aCons (dLc (iA (d2 gIx (dVar 4) (dC (.int 2)))) (bName 7) (dT tBool (d2 gIn (dVar 7) (dVar 1))) (dVar 7) [7]) aNil)))
  (dSet 3 (dOr (dVar 3) (d2 gGt (dVar 5) (d2 gIx (d2 gIx (dVar 0) (dC (.int 2))) (dIdx (d2 gIx (dVar 0) (dC (.int 0))) (d2 gIx (dVar 4) (dC (.int 0)))))))))
  dNext))
  (dSeq (dFor (iA (d2 gIx (dVar 0) (dC (.int 3)))) (bName 6)
  (dIf (dAndT (dT tBool (d2 gEq (d2 gIx (dVar 6) (dC (.int 0))) (dVar 2))) (dT tBool (d2 gIn (d2 gIx (dVar 6) (dC (.int 1))) (dVar 1))))
  (dSet 3 (dC (.bl true)))
  dNext))
  (dIf (dNotT (dT tTru (dVar 3)))
  (dRet (dC (.bl false)))
  dNext)))))
  (dRet (d2 gGt (dC1 gLen (aCons (dVar 1) aNil)) (dC (.int 0)))))
def F_l_stuck : List D → Res EV := runD 8 g_l_stuck
abbrev s_l_orders : Stmt := (top 37)
abbrev N_l_orders : List Str := ["_law_names_here", "_law_rows", "_law_k", "_law_grown", "_law_row", "_law_name"]
theorem sc_l_orders : FnScope N_l_orders ["_law_names_here"] (defScope s_l_orders) := ⟨rfl, rfl, rfl, by decide +kernel, rfl, by decide +kernel, by decide +kernel⟩
def g_l_orders : Stm := (dSeq (dSet 1 (dLst (aCons (dTup aNil) aNil)))
  (dFrz 1 (dSeq (dFor (iR1 (dC1 gLen (aCons (dVar 0) aNil))) (bName 2)
  (dSeq (dSet 3 (dLst aNil))
  (dSeq (dFor (iA (dVar 1)) (bName 4)
  (dFor (iA (dVar 0)) (bName 5)
  (dIf (dT tBool (d2 gNotIn (dVar 5) (dVar 4)))
  (dApp 3 (d2 gAdd (dVar 4) (dTup (aCons (dVar 5) aNil))))
  dNext)))
  (dSeq (dSet 1 (dC1 gList (aCons (dVar 3) aNil)))
  (dFrz 1 dNext)))))
  (dFrz 1 (dRetV 1)))))
def F_l_orders : List D → Res EV := runD 6 g_l_orders
abbrev s_l_right : Stmt := (top 45)
abbrev N_l_right : List Str := ["_law_made_here", "_law_seen_here", "_law_result", "_law_due", "_law_answer", "_law_order_here"]
theorem sc_l_right : FnScope N_l_right ["_law_made_here", "_law_seen_here", "_law_result"] (defScope s_l_right) := ⟨rfl, rfl, rfl, by decide +kernel, rfl, by decide +kernel, by decide +kernel⟩
def g_l_right : Stm := (dSeq (dSet 3 (dCall 1 F_l_peeled [] (aCons (dVar 1) aNil)))
  (dFrz 3 (dSeq (dIf (dOrT (dNotT (dT tTru (dCall 2 (F_l_same 5) [] (aCons (dFld "Peel" "order" (dVar 2)) (aCons (d2 gIx (dVar 3) (dC (.int 0))) aNil))))) (dNotT (dT tTru (dCall 2 (F_l_same 5) [] (aCons (dFld "Peel" "left" (dVar 2)) (aCons (d2 gIx (dVar 3) (dC (.int 1))) aNil))))))
  (dRet (dC (.bl false)))
  dNext)
  (dSeq (dSet 4 (dCall 2 F_is_stuck [] (aCons (dVar 0) (aCons (dFld "Peel" "left" (dVar 2)) aNil))))
  (dFrz 4 (dSeq (dIf (dOrT (dNotT (dT tTru (dC1 gIsi (aCons (dVar 4) (aCons (dC (.ty "bool")) aNil))))) (dT tBool (d2 gNe (dVar 4) (dIsN (dFld "Peel" "order" (dVar 2))))))
  (dRet (dC (.bl false)))
  dNext)
  (dSeq (dIf (dT tBool (dNotN (dFld "Peel" "order" (dVar 2))))
  (dRet (dAnd (d2 gEq (dC1 gLen (aCons (dFld "Peel" "left" (dVar 2)) aNil)) (dC (.int 0))) (dCall 2 F_l_fits [] (aCons (dVar 1) (aCons (dFld "Peel" "order" (dVar 2)) aNil)))))
  dNext)
  (dSeq (dIf (dNotT (dT tTru (dCall 2 F_l_stuck [] (aCons (dVar 1) (aCons (dFld "Peel" "left" (dVar 2)) aNil)))))
  (dRet (dC (.bl false)))
  dNext)
  (dSeq (dIf (dT tBool (d2 gGt (dC1 gLen (aCons (d2 gIx (dVar 1) (dC (.int 0))) aNil)) (dC (.int 6))))
  (dRet (dC (.bl true)))
  dNext)
  (dRet (d2 gEq (dC1 gLen (aCons (dLc (iA (dCall 1 F_l_orders [] (aCons (d2 gIx (dVar 1) (dC (.int 0))) aNil))) (bName 5) (dT tTru (dCall 2 F_l_fits [] (aCons (dVar 1) (aCons (dVar 5) aNil)))) (dVar 5) [5]) aNil)) (dC (.int 0)))))))))))))
def F_l_right : List D → Res EV := runD 6 g_l_right
abbrev s_l_left : Stmt := (top 41)
abbrev N_l_left : List Str := ["_law_seen_here", "_law_row", "_law_left_here", "_law_digit", "_law_free_here", "_law_cloak"]
theorem sc_l_left : FnScope N_l_left ["_law_seen_here", "_law_row"] (defScope s_l_left) := ⟨rfl, rfl, rfl, by decide +kernel, rfl, by decide +kernel, by decide +kernel⟩
def g_l_left : Stm := (dSeq (dSet 2 (dC1 gList (aCons (d2 gIx (dVar 0) (dC (.int 0))) aNil)))
  (dSeq (dFor (iA (dSl (dVar 1) none (some (dC1 gLen (aCons (d2 gIx (dVar 0) (dC (.int 0))) aNil))))) (bName 3)
  (dSeq (dSet 4 (dLend 2 (dLc (iA (dVar 2)) (bName 5) (dT tTru (dCall 3 F_l_free [] (aCons (dVar 0) (aCons (dVar 2) (aCons (dVar 5) aNil))))) (dVar 5) [5])))
  (dFrz 4 (dIf (dT tBool (d2 gGt (dC1 gLen (aCons (dVar 4) aNil)) (dC (.int 0))))
  (dRem 2 (d2 gIx (dVar 4) (d2 gMod (dC1 gInt (aCons (dVar 3) aNil)) (dC1 gLen (aCons (dVar 4) aNil)))))
  dNext))))
  (dFrz 4 (dRet (dC1 gTuple (aCons (dVar 2) aNil))))))
def F_l_left : List D → Res EV := runD 6 g_l_left
abbrev s_l_lots : Stmt := (top 43)
abbrev N_l_lots : List Str := ["_law_seen_here", "_law_row", "_law_names_here", "_law_lots_here", "_law_name", "_law_left_here", "_law_k", "_law_bits", "_law_turned", "_law_lot", "_law_other", "_law_spot"]
theorem sc_l_lots : FnScope N_l_lots ["_law_seen_here", "_law_row"] (defScope s_l_lots) := ⟨rfl, rfl, rfl, by decide +kernel, rfl, by decide +kernel, by decide +kernel⟩
def g_l_lots : Stm := (dSeq (dSet 2 (d2 gIx (dVar 0) (dC (.int 0))))
  (dFrz 2 (dSeq (dSet 3 (dLst (aCons (dTup aNil) aNil)))
  (dSeq (dIf (dT tBool (d2 gLe (dC1 gLen (aCons (dVar 2) aNil)) (dC (.int 6))))
  (dFor (iA (dVar 2)) (bName 4)
  (dSet 3 (d2 gAdd (dVar 3) (dLend 3 (dLc (iA (dVar 3)) (bName 9) dYes (d2 gAdd (dVar 9) (dTup (aCons (dVar 4) aNil))) [9])))))
  (dSeq (dSet 5 (d2 gIx (dCall 1 F_l_peeled [] (aCons (dVar 0) aNil)) (dC (.int 1))))
  (dFrz 5 (dSeq (dSet 3 (d2 gAdd (dVar 3) (dLst (aCons (dVar 5) (aCons (dC1 gTuple (aCons (dVar 2) aNil)) (aCons (dTup (aCons (d2 gIx (dVar 2) (dC (.int 0))) aNil)) (aCons (dTup (aCons (d2 gIx (dVar 2) (dNeg (dC (.int 1)))) aNil)) aNil)))))))
  (dSeq (dFor (iA (dVar 2)) (bName 4)
  (dIf (dT tBool (d2 gIn (dVar 4) (dVar 5)))
  (dApp 3 (dC1 gTuple (aCons (dLc (iA (dVar 5)) (bName 10) (dT tBool (d2 gNe (dVar 10) (dVar 4))) (dVar 10) [10]) aNil)))
  (dApp 3 (d2 gAdd (dVar 5) (dTup (aCons (dVar 4) aNil))))))
  (dFor (iR1 (dC (.int 20))) (bName 6)
  (dSeq (dSet 7 (dSl (dVar 1) (some (d2 gMul (dC (.int 12)) (dVar 6))) (some (d2 gAdd (d2 gMul (dC (.int 12)) (dVar 6)) (dC (.int 12))))))
  (dFrz 7 (dApp 3 (dC1 gTuple (aCons (dLc (iR1 (dC1 gLen (aCons (dVar 2) aNil))) (bName 11) (dT tBool (d2 gGt (d2 gIx (dVar 7) (dVar 11)) (dC (.int 3)))) (d2 gIx (dVar 2) (dVar 11)) [11]) aNil)))))))))))
  (dFrz 5 (dFrz 7 (dSeq (dSet 8 (dLst aNil))
  (dSeq (dFor (iR1 (dC1 gLen (aCons (dVar 3) aNil))) (bName 6)
  (dSeq (dSet 9 (d2 gIx (dVar 3) (dVar 6)))
  (dFrz 9 (dApp 8 (dC1 gTuple (aCons (dLc (iA (dCall 2 F_l_order [] (aCons (dSl (dVar 1) (some (dVar 6)) (some (d2 gAdd (dVar 6) (dC (.int 12))))) (aCons (dC1 gLen (aCons (dVar 9) aNil)) aNil)))) (bName 11) dYes (d2 gIx (dVar 9) (dVar 11)) [11]) aNil))))))
  (dFrz 9 (dRetV 8))))))))))
def F_l_lots : List D → Res EV := runD 12 g_l_lots
abbrev s_l_judged : Stmt := (top 44)
abbrev N_l_judged : List Str := ["_law_made_here", "_law_seen_here", "_law_lots_here", "_law_left_here", "_law_listed", "_law_some", "_law_lot", "_law_told", "_law_answer", "_law_cloak"]
theorem sc_l_judged : FnScope N_l_judged ["_law_made_here", "_law_seen_here", "_law_lots_here", "_law_left_here", "_law_listed"] (defScope s_l_judged) := ⟨rfl, rfl, rfl, by decide +kernel, rfl, by decide +kernel, by decide +kernel⟩
def g_l_judged : Stm := (dSeq (dSet 5 (dC (.bl false)))
  (dSeq (dFor (iA (dVar 2)) (bName 6)
  (dSeq (dSet 7 (dVar 6))
  (dSeq (dIf (dT tTru (dVar 4))
  (dSet 7 (dC1 gList (aCons (dVar 6) aNil)))
  dNext)
  (dFrz 7 (dSeq (dSet 8 (dCall 2 F_is_stuck [] (aCons (dVar 0) (aCons (dVar 7) aNil))))
  (dFrz 8 (dSeq (dIf (dOrT (dNotT (dT tTru (dC1 gIsi (aCons (dVar 8) (aCons (dC (.ty "bool")) aNil))))) (dOrT (dT tBool (d2 gNe (dVar 8) (dCall 2 F_l_stuck [] (aCons (dVar 1) (aCons (dVar 6) aNil))))) (dT tBool (d2 gNe (dC1 gTuple (aCons (dVar 7) aNil)) (dVar 6)))))
  (dRet (dLst (aCons (dC (.bl false)) (aCons (dC (.bl false)) aNil))))
  dNext)
  (dIf (dT tTru (dVar 8))
  (dSeq (dSet 5 (dC (.bl true)))
  (dIf (dT tBool (d2 gGt (dC1 gLen (aCons (dLc (iA (dVar 6)) (bName 9) (dT tBool (d2 gNotIn (dVar 9) (dVar 3))) (dVar 9) [9]) aNil)) (dC (.int 0))))
  (dRet (dLst (aCons (dC (.bl false)) (aCons (dC (.bl false)) aNil))))
  dNext))
  dNext))))))))
  (dFrz 7 (dFrz 8 (dRet (dLst (aCons (dC (.bl true)) (aCons (dVar 5) aNil))))))))
def F_l_judged : List D → Res EV := runD 10 g_l_judged
abbrev s_l_asked : Stmt := (top 46)
abbrev N_l_asked : List Str := ["_law_made_here", "_law_seen_here", "_law_lots_here", "_law_listed", "_law_result", "_law_judged_here"]
theorem sc_l_asked : FnScope N_l_asked ["_law_made_here", "_law_seen_here", "_law_lots_here", "_law_listed"] (defScope s_l_asked) := ⟨rfl, rfl, rfl, by decide +kernel, rfl, by decide +kernel, by decide +kernel⟩
def g_l_asked : Stm := (dSeq (dSet 4 (dCall 1 F_peel [] (aCons (dVar 0) aNil)))
  (dFrz 4 (dSeq (dIf (dNotT (dT tTru (dCall 3 F_l_right [] (aCons (dVar 0) (aCons (dVar 1) (aCons (dVar 4) aNil))))))
  (dRet (dC .non))
  dNext)
  (dSeq (dSet 5 (dCall 5 F_l_judged [] (aCons (dVar 0) (aCons (dVar 1) (aCons (dVar 2) (aCons (dFld "Peel" "left" (dVar 4)) (aCons (dVar 3) aNil)))))))
  (dFrz 5 (dSeq (dIf (dOrT (dNotT (dT tTru (d2 gIx (dVar 5) (dC (.int 0))))) (dAndT (dT tTru (d2 gIx (dVar 5) (dC (.int 1)))) (dT tBool (dNotN (dFld "Peel" "order" (dVar 4))))))
  (dRet (dC .non))
  dNext)
  (dRetV 4)))))))
def F_l_asked : List D → Res EV := runD 6 g_l_asked
abbrev s_Seen_tied : Stmt := (sub 24 1)
abbrev N_Seen_tied : List Str := ["self", "better", "worse"]
theorem sc_Seen_tied : FnScope N_Seen_tied ["self", "better", "worse"] (defScope s_Seen_tied) := ⟨rfl, rfl, rfl, by decide +kernel, rfl, by decide +kernel, by decide +kernel⟩
def g_Seen_tied : Stm := (dRet (dCall 4 (mkF "Seen" F_Seen___init__) [] (aCons (dFld "Seen" "guests" (dVar 0)) (aCons (dFld "Seen" "takings" (dVar 0)) (aCons (dFld "Seen" "depths" (dVar 0)) (aCons (d2 gAdd (dFld "Seen" "ties" (dVar 0)) (dTup (aCons (dTup (aCons (dVar 1) (aCons (dVar 2) aNil))) aNil))) aNil))))))
def F_Seen_tied : List D → Res EV := runD 3 g_Seen_tied
abbrev s_law : Stmt := (top 47)
abbrev N_law : List Str := ["_law_script", "_law_head", "_law_seen_here", "_law_made_here", "_law_first", "_law_turns", "_law_lots_here", "_law_judged_here", "_law_ties_here", "_law_fewer", "_law_second", "_law_one", "_law_others", "_law_two", "_law_more", "_law_third", "_law_kept", "_law_cloak", "_law_name"]
theorem sc_law : FnScope N_law ["_law_script"] (defScope s_law) := ⟨rfl, rfl, rfl, by decide +kernel, rfl, by decide +kernel, by decide +kernel⟩
def g_law : Stm := (dSeq (dSet 1 (dCall 2 F_l_digits [] (aCons (dCall 2 F_l_cell [] (aCons (dVar 0) (aCons (dC (.int 0)) aNil))) (aCons (dLst (aCons (dC (.int 12)) (aCons (dC (.int 12)) (aCons (dC (.int 3)) (aCons (dC (.int 2)) aNil))))) aNil))))
  (dFrz 1 (dSeq (dSet 2 (dCall 4 F_l_seen [] (aCons (dVar 0) (aCons (dC (.int 3)) (aCons (d2 gIx (dLst (aCons (dC (.int 6)) (aCons (dC (.int 12)) aNil))) (dC1 gInt (aCons (d2 gEq (d2 gIx (dVar 1) (dC (.int 0))) (dC (.int 0))) aNil))) (aCons (d2 gIx (dLst (aCons (dC (.int 10)) (aCons (dC (.int 60)) aNil))) (dC1 gInt (aCons (d2 gEq (d2 gIx (dVar 1) (dC (.int 1))) (dC (.int 0))) aNil))) aNil))))))
  (dFrz 2 (dSeq (dSet 3 (dCall 2 F_l_made [] (aCons (dVar 2) (aCons (d2 gIx (dVar 1) (dC (.int 2))) aNil))))
  (dFrz 3 (dSeq (dSet 4 (dCall 1 F_peel [] (aCons (dVar 3) aNil)))
  (dFrz 4 (dSeq (dIf (dNotT (dT tTru (dCall 3 F_l_right [] (aCons (dVar 3) (aCons (dVar 2) (aCons (dVar 4) aNil))))))
  (dRet (dC (.bl false)))
  dNext)
  (dSeq (dSet 5 (dCall 2 F_l_digits [] (aCons (dCall 2 F_l_cell [] (aCons (dVar 0) (aCons (dC (.int 1)) aNil))) (aCons (d2 gAdd (d2 gMul (dLst (aCons (dC (.int 12)) aNil)) (dC (.int 13))) (dLst (aCons (dC (.int 11)) aNil))) aNil))))
  (dFrz 5 (dSeq (dIf (dT tBool (d2 gNe (dCall 2 F_l_left [] (aCons (dVar 2) (aCons (dVar 5) aNil))) (dFld "Peel" "left" (dVar 4))))
  (dRet (dC (.bl false)))
  dNext)
  (dSeq (dSet 6 (dCall 2 F_l_lots [] (aCons (dVar 2) (aCons (dCall 2 F_l_digits [] (aCons (dCall 2 F_l_cell [] (aCons (dVar 0) (aCons (dC (.int 2)) aNil))) (aCons (d2 gMul (dLst (aCons (dC (.int 12)) aNil)) (dC (.int 240))) aNil))) aNil))))
  (dFrz 6 (dSeq (dSet 7 (dCall 5 F_l_judged [] (aCons (dVar 3) (aCons (dVar 2) (aCons (dVar 6) (aCons (dFld "Peel" "left" (dVar 4)) (aCons (d2 gEq (d2 gIx (dVar 1) (dC (.int 3))) (dC (.int 1))) aNil)))))))
  (dFrz 7 (dSeq (dIf (dOrT (dNotT (dT tTru (d2 gIx (dVar 7) (dC (.int 0))))) (dT tBool (d2 gNe (d2 gIx (dVar 7) (dC (.int 1))) (dIsN (dFld "Peel" "order" (dVar 4))))))
  (dRet (dC (.bl false)))
  dNext)
  (dSeq (dFor (iA (dLst (aCons (d2 gIx (dVar 2) (dC (.int 3))) (aCons (dSl (d2 gIx (dVar 2) (dC (.int 3))) none (some (dNeg (dC (.int 1))))) aNil)))) (bName 8)
  (dSeq (dSet 9 (dLst (aCons (d2 gIx (dVar 2) (dC (.int 0))) (aCons (dSl (d2 gIx (dVar 2) (dC (.int 1))) none (some (dNeg (dC (.int 1))))) (aCons (d2 gIx (dVar 2) (dC (.int 2))) (aCons (dVar 8) aNil))))))
  (dFrz 9 (dSeq (dSet 10 (dCall 4 F_l_asked [] (aCons (dCall 2 F_l_made [] (aCons (dVar 9) (aCons (d2 gMod (dC1 gInt (aCons (d2 gAdd (d2 gIx (dVar 1) (dC (.int 2))) (dC (.int 1))) aNil)) (dC (.int 3))) aNil))) (aCons (dVar 9) (aCons (dSl (dVar 6) (some (dNeg (dC (.int 12)))) none) (aCons (d2 gEq (d2 gIx (dVar 1) (dC (.int 3))) (dC (.int 0))) aNil))))))
  (dFrz 10 (dIf (dOrT (dT tBool (dIsN (dVar 10))) (dT tBool (d2 gGt (dC1 gLen (aCons (dLc (iA (dFld "Peel" "left" (dVar 10))) (bName 17) (dT tBool (d2 gNotIn (dVar 17) (dFld "Peel" "left" (dVar 4)))) (dVar 17) [17]) aNil)) (dC (.int 0)))))
  (dRet (dC (.bl false)))
  dNext))))))
  (dFrz 9 (dFrz 10 (dSeq (dSet 11 (d2 gIx (d2 gIx (dVar 2) (dC (.int 0))) (d2 gMod (dC1 gInt (aCons (d2 gIx (dVar 5) (dC (.int 12))) aNil)) (dC1 gLen (aCons (d2 gIx (dVar 2) (dC (.int 0))) aNil)))))
  (dFrz 11 (dSeq (dSet 12 (dLc (iA (d2 gIx (dVar 2) (dC (.int 0)))) (bName 18) (dT tBool (d2 gNe (dVar 18) (dVar 11))) (dVar 18) [18]))
  (dFrz 12 (dSeq (dIf (dT tBool (d2 gGt (dC1 gLen (aCons (dVar 12) aNil)) (dC (.int 0))))
  (dSeq (dSet 13 (d2 gIx (dVar 12) (d2 gMod (dC1 gInt (aCons (d2 gIx (dVar 5) (dC (.int 13))) aNil)) (dC1 gLen (aCons (dVar 12) aNil)))))
  (dFrz 13 (dSeq (dSet 14 (dLst (aCons (d2 gIx (dVar 2) (dC (.int 0))) (aCons (d2 gIx (dVar 2) (dC (.int 1))) (aCons (d2 gIx (dVar 2) (dC (.int 2))) (aCons (d2 gAdd (dC1 gList (aCons (d2 gIx (dVar 2) (dC (.int 3))) aNil)) (dLst (aCons (dTup (aCons (dVar 11) (aCons (dVar 13) aNil))) aNil))) aNil))))))
  (dFrz 14 (dSeq (dSet 15 (dCall 4 F_l_asked [] (aCons (dMeth "Seen" "tied" 3 F_Seen_tied [] (dVar 3) (aCons (dVar 11) (aCons (dVar 13) aNil))) (aCons (dVar 14) (aCons (dSl (dVar 6) (some (dNeg (dC (.int 12)))) none) (aCons (d2 gEq (d2 gIx (dVar 1) (dC (.int 3))) (dC (.int 1))) aNil))))))
  (dFrz 15 (dIf (dOrT (dT tBool (dIsN (dVar 15))) (dT tBool (d2 gGt (dC1 gLen (aCons (dLc (iA (dFld "Peel" "left" (dVar 4))) (bName 17) (dT tBool (d2 gNotIn (dVar 17) (dFld "Peel" "left" (dVar 15)))) (dVar 17) [17]) aNil)) (dC (.int 0)))))
  (dRet (dC (.bl false)))
  dNext)))))))
  dNext)
  (dFrz 13 (dFrz 14 (dFrz 15 (dSeq (dIf (dT tBool (dIsN (dCall 4 F_l_asked [] (aCons (dVar 3) (aCons (dVar 2) (aCons (dSl (dVar 6) (some (dNeg (dC (.int 12)))) none) (aCons (d2 gEq (d2 gIx (dVar 1) (dC (.int 3))) (dC (.int 0))) aNil)))))))
  (dRet (dC (.bl false)))
  dNext)
  (dSeq (dSet 16 (dAnd (dCall 2 (F_l_same 5) [] (aCons (dFld "Seen" "guests" (dVar 3)) (aCons (dC1 gTuple (aCons (d2 gIx (dVar 2) (dC (.int 0))) aNil)) aNil))) (dCall 2 (F_l_same 5) [] (aCons (dFld "Seen" "takings" (dVar 3)) (aCons (dC1 gTuple (aCons (d2 gIx (dVar 2) (dC (.int 1))) aNil)) aNil)))))
  (dSeq (dSet 16 (dAnd (dVar 16) (dAnd (dCall 2 (F_l_same 5) [] (aCons (dFld "Seen" "depths" (dVar 3)) (aCons (dC1 gTuple (aCons (d2 gIx (dVar 2) (dC (.int 2))) aNil)) aNil))) (dCall 2 (F_l_same 5) [] (aCons (dFld "Seen" "ties" (dVar 3)) (aCons (dC1 gTuple (aCons (d2 gIx (dVar 2) (dC (.int 3))) aNil)) aNil))))))
  (dRet (dAnd (dVar 16) (dCall 3 F_l_right [] (aCons (dVar 3) (aCons (dVar 2) (aCons (dVar 4) aNil)))))))))))))))))))))))))))))))))))))
def F_law : List D → Res EV := runD 19 g_law
end K49
set_option Elab.async false
set_option linter.all false
set_option maxRecDepth 100000
set_option maxHeartbeats 0
namespace K49
open PySem PySem.Spec PyProof.Rows L2 Dl
structure Fds where
  l_digits : FuncData
  l_cell : FuncData
  l_names : FuncData
  l_order : FuncData
  l_taking : FuncData
  l_ties : FuncData
  l_seen : FuncData
  frozen : FuncData
  is_name : FuncData
  BadName___init__ : FuncData
  TakenName___init__ : FuncData
  check_guests : FuncData
  BadDepth___init__ : FuncData
  is_taking : FuncData
  BadTaking___init__ : FuncData
  is_tie : FuncData
  BadTie___init__ : FuncData
  Seen___init__ : FuncData
  l_made : FuncData
  may_peel : FuncData
  last_free : FuncData
  Peel___init__ : FuncData
  peel : FuncData
  l_free : FuncData
  l_peeled : FuncData
  l_whole : FuncData
  l_same : FuncData
  is_stuck : FuncData
  l_explains : FuncData
  l_fits : FuncData
  l_stuck : FuncData
  l_orders : FuncData
  l_right : FuncData
  l_left : FuncData
  l_lots : FuncData
  l_judged : FuncData
  l_asked : FuncData
  Seen_tied : FuncData
  law : FuncData
/-- what the head tells -/
structure Fs (P : Program) (w : World) (K : PySem.W.Frag) (mg : Str → Option Value) (fds : Fds) : Prop where
  n_int : mg "int" = none
  n_len : mg "len" = none
  n_range : mg "range" = none
  f_l_digits : FunD K "_law_digits" "_law_digits" (defArgs s_l_digits) (defBody s_l_digits) (defScope s_l_digits) [] [] (He.ga K "_law_digits") fds.l_digits
  f_l_cell : FunD K "_law_cell" "_law_cell" (defArgs s_l_cell) (defBody s_l_cell) (defScope s_l_cell) [] [] (He.ga K "_law_cell") fds.l_cell
  m_l_cell : mg "_law_cell" = some (.ref (He.ga K "_law_cell"))
  m_l_digits : mg "_law_digits" = some (.ref (He.ga K "_law_digits"))
  n_min : mg "min" = none
  f_l_names : FunD K "_law_names" "_law_names" (defArgs s_l_names) (defBody s_l_names) (defScope s_l_names) [] [] (He.ga K "_law_names") fds.l_names
  m_l_names : mg "_law_names" = some (.ref (He.ga K "_law_names"))
  n_list : mg "list" = none
  f_l_order : FunD K "_law_order" "_law_order" (defArgs s_l_order) (defBody s_l_order) (defScope s_l_order) [] [] (He.ga K "_law_order") fds.l_order
  m_l_order : mg "_law_order" = some (.ref (He.ga K "_law_order"))
  n_tuple : mg "tuple" = none
  f_l_taking : FunD K "_law_taking" "_law_taking" (defArgs s_l_taking) (defBody s_l_taking) (defScope s_l_taking) [] [] (He.ga K "_law_taking") fds.l_taking
  m_l_taking : mg "_law_taking" = some (.ref (He.ga K "_law_taking"))
  f_l_ties : FunD K "_law_ties" "_law_ties" (defArgs s_l_ties) (defBody s_l_ties) (defScope s_l_ties) [] [] (He.ga K "_law_ties") fds.l_ties
  m_l_ties : mg "_law_ties" = some (.ref (He.ga K "_law_ties"))
  f_l_seen : FunD K "_law_seen" "_law_seen" (defArgs s_l_seen) (defBody s_l_seen) (defScope s_l_seen) [] [] (He.ga K "_law_seen") fds.l_seen
  m_l_seen : mg "_law_seen" = some (.ref (He.ga K "_law_seen"))
  n_isinstance : mg "isinstance" = none
  m_frozen : mg "frozen" = some (.ref (He.ga K "frozen"))
  f_frozen : FunD K "frozen" "frozen" (defArgs s_frozen) (defBody s_frozen) (defScope s_frozen) [] [] (He.ga K "frozen") fds.frozen
  cl_Seen : Cls K (clOf mg "Seen")
  na_Seen_guests : NoAttr K (clOf mg "Seen") "guests"
  na_Seen_takings : NoAttr K (clOf mg "Seen") "takings"
  na_Seen_depths : NoAttr K (clOf mg "Seen") "depths"
  na_Seen_ties : NoAttr K (clOf mg "Seen") "ties"
  k_LONGEST : ∃ t, mg "LONGEST" = some (.int 8 t)
  k_LETTERS : ∃ t, mg "LETTERS" = some (.str "abcdefghijklmnopqrstuvwxyz" t)
  k_FIGURES : ∃ t, mg "FIGURES" = some (.str "0123456789" t)
  n_all : mg "all" = none
  f_is_name : FunD K "is_name" "is_name" (defArgs s_is_name) (defBody s_is_name) (defScope s_is_name) [] [] (He.ga K "is_name") fds.is_name
  m_is_name : mg "is_name" = some (.ref (He.ga K "is_name"))
  f_BadName___init__ : FunD K "__init__" "BadName.__init__" (defArgs s_BadName___init__) (defBody s_BadName___init__) (defScope s_BadName___init__) [] [] (He.ma K (He.ga K "BadName") "__init__") fds.BadName___init__
  ox_BadName : OexC K (clOf mg "BadName")
  nf_BadName : PySem.W.findIn K (.ref (clOf mg "BadName")) "name" = some none
  ii_BadName : PySem.W.findIn K (.ref (clOf mg "BadName")) "__init__" = some (some (.ref (He.ma K (He.ga K "BadName") "__init__")))
  ti_BadName : PySem.W.typeIn K (.ref (He.ma K (He.ga K "BadName") "__init__")) = some (.type "function")
  c_BadName : mg "BadName" = some (.ref (clOf mg "BadName"))
  n_enumerate : mg "enumerate" = none
  f_TakenName___init__ : FunD K "__init__" "TakenName.__init__" (defArgs s_TakenName___init__) (defBody s_TakenName___init__) (defScope s_TakenName___init__) [] [] (He.ma K (He.ga K "TakenName") "__init__") fds.TakenName___init__
  ox_TakenName : OexC K (clOf mg "TakenName")
  nf_TakenName : PySem.W.findIn K (.ref (clOf mg "TakenName")) "name" = some none
  ii_TakenName : PySem.W.findIn K (.ref (clOf mg "TakenName")) "__init__" = some (some (.ref (He.ma K (He.ga K "TakenName") "__init__")))
  ti_TakenName : PySem.W.typeIn K (.ref (He.ma K (He.ga K "TakenName") "__init__")) = some (.type "function")
  c_TakenName : mg "TakenName" = some (.ref (clOf mg "TakenName"))
  f_check_guests : FunD K "check_guests" "check_guests" (defArgs s_check_guests) (defBody s_check_guests) (defScope s_check_guests) [] [] (He.ga K "check_guests") fds.check_guests
  m_check_guests : mg "check_guests" = some (.ref (He.ga K "check_guests"))
  f_BadDepth___init__ : FunD K "__init__" "BadDepth.__init__" (defArgs s_BadDepth___init__) (defBody s_BadDepth___init__) (defScope s_BadDepth___init__) [] [] (He.ma K (He.ga K "BadDepth") "__init__") fds.BadDepth___init__
  ox_BadDepth : OexC K (clOf mg "BadDepth")
  nf_BadDepth : PySem.W.findIn K (.ref (clOf mg "BadDepth")) "depth" = some none
  ii_BadDepth : PySem.W.findIn K (.ref (clOf mg "BadDepth")) "__init__" = some (some (.ref (He.ma K (He.ga K "BadDepth") "__init__")))
  ti_BadDepth : PySem.W.typeIn K (.ref (He.ma K (He.ga K "BadDepth") "__init__")) = some (.type "function")
  c_BadDepth : mg "BadDepth" = some (.ref (clOf mg "BadDepth"))
  f_is_taking : FunD K "is_taking" "is_taking" (defArgs s_is_taking) (defBody s_is_taking) (defScope s_is_taking) [] [] (He.ga K "is_taking") fds.is_taking
  m_is_taking : mg "is_taking" = some (.ref (He.ga K "is_taking"))
  f_BadTaking___init__ : FunD K "__init__" "BadTaking.__init__" (defArgs s_BadTaking___init__) (defBody s_BadTaking___init__) (defScope s_BadTaking___init__) [] [] (He.ma K (He.ga K "BadTaking") "__init__") fds.BadTaking___init__
  ox_BadTaking : OexC K (clOf mg "BadTaking")
  nf_BadTaking : PySem.W.findIn K (.ref (clOf mg "BadTaking")) "index" = some none
  ii_BadTaking : PySem.W.findIn K (.ref (clOf mg "BadTaking")) "__init__" = some (some (.ref (He.ma K (He.ga K "BadTaking") "__init__")))
  ti_BadTaking : PySem.W.typeIn K (.ref (He.ma K (He.ga K "BadTaking") "__init__")) = some (.type "function")
  c_BadTaking : mg "BadTaking" = some (.ref (clOf mg "BadTaking"))
  f_is_tie : FunD K "is_tie" "is_tie" (defArgs s_is_tie) (defBody s_is_tie) (defScope s_is_tie) [] [] (He.ga K "is_tie") fds.is_tie
  m_is_tie : mg "is_tie" = some (.ref (He.ga K "is_tie"))
  f_BadTie___init__ : FunD K "__init__" "BadTie.__init__" (defArgs s_BadTie___init__) (defBody s_BadTie___init__) (defScope s_BadTie___init__) [] [] (He.ma K (He.ga K "BadTie") "__init__") fds.BadTie___init__
  ox_BadTie : OexC K (clOf mg "BadTie")
  nf_BadTie : PySem.W.findIn K (.ref (clOf mg "BadTie")) "index" = some none
  ii_BadTie : PySem.W.findIn K (.ref (clOf mg "BadTie")) "__init__" = some (some (.ref (He.ma K (He.ga K "BadTie") "__init__")))
  ti_BadTie : PySem.W.typeIn K (.ref (He.ma K (He.ga K "BadTie") "__init__")) = some (.type "function")
  c_BadTie : mg "BadTie" = some (.ref (clOf mg "BadTie"))
  f_Seen___init__ : FunD K "__init__" "Seen.__init__" (defArgs s_Seen___init__) (defBody s_Seen___init__) (defScope s_Seen___init__) [.ref (dfAt (fun K => (He.ma K (He.ga K "Seen") "__init__")) 0 K)] [] (He.ma K (He.ga K "Seen") "__init__") fds.Seen___init__
  mk_Seen : Mk K (clOf mg "Seen") (He.ma K (He.ga K "Seen") "__init__")
  c_Seen : mg "Seen" = some (.ref (clOf mg "Seen"))
  f_l_made : FunD K "_law_made" "_law_made" (defArgs s_l_made) (defBody s_l_made) (defScope s_l_made) [] [] (He.ga K "_law_made") fds.l_made
  m_l_made : mg "_law_made" = some (.ref (He.ga K "_law_made"))
  n_reversed : mg "reversed" = none
  f_may_peel : FunD K "may_peel" "may_peel" (defArgs s_may_peel) (defBody s_may_peel) (defScope s_may_peel) [] [] (He.ga K "may_peel") fds.may_peel
  m_may_peel : mg "may_peel" = some (.ref (He.ga K "may_peel"))
  f_last_free : FunD K "last_free" "last_free" (defArgs s_last_free) (defBody s_last_free) (defScope s_last_free) [] [] (He.ga K "last_free") fds.last_free
  m_last_free : mg "last_free" = some (.ref (He.ga K "last_free"))
  cl_Peel : Cls K (clOf mg "Peel")
  na_Peel_order : NoAttr K (clOf mg "Peel") "order"
  na_Peel_left : NoAttr K (clOf mg "Peel") "left"
  f_Peel___init__ : FunD K "__init__" "Peel.__init__" (defArgs s_Peel___init__) (defBody s_Peel___init__) (defScope s_Peel___init__) [] [] (He.ma K (He.ga K "Peel") "__init__") fds.Peel___init__
  mk_Peel : Mk K (clOf mg "Peel") (He.ma K (He.ga K "Peel") "__init__")
  c_Peel : mg "Peel" = some (.ref (clOf mg "Peel"))
  f_peel : FunD K "peel" "peel" (defArgs s_peel) (defBody s_peel) (defScope s_peel) [] [] (He.ga K "peel") fds.peel
  m_peel : mg "peel" = some (.ref (He.ga K "peel"))
  f_l_free : FunD K "_law_free" "_law_free" (defArgs s_l_free) (defBody s_l_free) (defScope s_l_free) [] [] (He.ga K "_law_free") fds.l_free
  m_l_free : mg "_law_free" = some (.ref (He.ga K "_law_free"))
  f_l_peeled : FunD K "_law_peeled" "_law_peeled" (defArgs s_l_peeled) (defBody s_l_peeled) (defScope s_l_peeled) [] [] (He.ga K "_law_peeled") fds.l_peeled
  m_l_peeled : mg "_law_peeled" = some (.ref (He.ga K "_law_peeled"))
  m_l_same : mg "_law_same" = some (.ref (He.ga K "_law_same"))
  n_str : mg "str" = none
  n_bool : mg "bool" = none
  f_l_whole : FunD K "_law_whole" "_law_whole" (defArgs s_l_whole) (defBody s_l_whole) (defScope s_l_whole) [] [] (He.ga K "_law_whole") fds.l_whole
  m_l_whole : mg "_law_whole" = some (.ref (He.ga K "_law_whole"))
  f_l_same : FunD K "_law_same" "_law_same" (defArgs s_l_same) (defBody s_l_same) (defScope s_l_same) [] [] (He.ga K "_law_same") fds.l_same
  n_any : mg "any" = none
  f_is_stuck : FunD K "is_stuck" "is_stuck" (defArgs s_is_stuck) (defBody s_is_stuck) (defScope s_is_stuck) [] [] (He.ga K "is_stuck") fds.is_stuck
  m_is_stuck : mg "is_stuck" = some (.ref (He.ga K "is_stuck"))
  f_l_explains : FunD K "_law_explains" "_law_explains" (defArgs s_l_explains) (defBody s_l_explains) (defScope s_l_explains) [] [] (He.ga K "_law_explains") fds.l_explains
  m_l_explains : mg "_law_explains" = some (.ref (He.ga K "_law_explains"))
  f_l_fits : FunD K "_law_fits" "_law_fits" (defArgs s_l_fits) (defBody s_l_fits) (defScope s_l_fits) [] [] (He.ga K "_law_fits") fds.l_fits
  m_l_fits : mg "_law_fits" = some (.ref (He.ga K "_law_fits"))
  f_l_stuck : FunD K "_law_stuck" "_law_stuck" (defArgs s_l_stuck) (defBody s_l_stuck) (defScope s_l_stuck) [] [] (He.ga K "_law_stuck") fds.l_stuck
  m_l_stuck : mg "_law_stuck" = some (.ref (He.ga K "_law_stuck"))
  f_l_orders : FunD K "_law_orders" "_law_orders" (defArgs s_l_orders) (defBody s_l_orders) (defScope s_l_orders) [] [] (He.ga K "_law_orders") fds.l_orders
  m_l_orders : mg "_law_orders" = some (.ref (He.ga K "_law_orders"))
  f_l_right : FunD K "_law_right" "_law_right" (defArgs s_l_right) (defBody s_l_right) (defScope s_l_right) [] [] (He.ga K "_law_right") fds.l_right
  m_l_right : mg "_law_right" = some (.ref (He.ga K "_law_right"))
  f_l_left : FunD K "_law_left" "_law_left" (defArgs s_l_left) (defBody s_l_left) (defScope s_l_left) [] [] (He.ga K "_law_left") fds.l_left
  m_l_left : mg "_law_left" = some (.ref (He.ga K "_law_left"))
  f_l_lots : FunD K "_law_lots" "_law_lots" (defArgs s_l_lots) (defBody s_l_lots) (defScope s_l_lots) [] [] (He.ga K "_law_lots") fds.l_lots
  m_l_lots : mg "_law_lots" = some (.ref (He.ga K "_law_lots"))
  f_l_judged : FunD K "_law_judged" "_law_judged" (defArgs s_l_judged) (defBody s_l_judged) (defScope s_l_judged) [] [] (He.ga K "_law_judged") fds.l_judged
  m_l_judged : mg "_law_judged" = some (.ref (He.ga K "_law_judged"))
  f_l_asked : FunD K "_law_asked" "_law_asked" (defArgs s_l_asked) (defBody s_l_asked) (defScope s_l_asked) [] [] (He.ga K "_law_asked") fds.l_asked
  m_l_asked : mg "_law_asked" = some (.ref (He.ga K "_law_asked"))
  f_Seen_tied : FunD K "tied" "Seen.tied" (defArgs s_Seen_tied) (defBody s_Seen_tied) (defScope s_Seen_tied) [] [] (He.ma K (He.ga K "Seen") "tied") fds.Seen_tied
  me_Seen_tied : Meth K (clOf mg "Seen") "tied" (He.ma K (He.ga K "Seen") "tied")
  f_law : FunD K "law" "law" (defArgs s_law) (defBody s_law) (defScope s_law) [] [] (He.ga K "law") fds.law
section
variable {P : Program} {w : World} {K : PySem.W.Frag} {mg : Str → Option Value} {base : Heap} {fds : Fds}
theorem bd_l_digits (Z : Fs P w K mg fds) : Binds K fds.l_digits ["_law_cell_here", "_law_sizes"] [] := Z.f_l_digits.bindsN fun _ _ _ _ _ _ us hl => match us, hl with | [_, _], _ => rfl
theorem ok_l_digits (Z : Fs P w K mg fds) : FnOk P w K mg base (L2N.CX P w) 1 (He.ga K "_law_digits") fds.l_digits ["_law_cell_here", "_law_sizes"] (spD ⟨P, w, K, mg, 0, none, .none⟩ 2 F_l_digits) := fn_d (k := 0) Z.f_l_digits sc_l_digits rfl fun cdv A outer s H E L => by
    have hu := L.u65
    have hu16 := L.u16
    have nd := sc_l_digits.nd
    exact (dss_cons (ds_set (i := 2) nd (de_lst da_nil))
    (dss_cons (ds_set (i := 3) nd (de_intC Z.n_int (da_cons (de_var 0) da_nil)))
    (dss_cons (ds_if (dt_ge (de_var 3) (de_pow de_int de_int))
    (dss_cons (ds_set (i := 3) nd (de_sub (de_var 3) (de_pow de_int de_int)))
    (dss_cons (ds_for L.own L.calm (di_any (de_var 1)) (dg_name (i := 4) nd)
    (dss_cons (ds_app 2 (de_mod (de_intC Z.n_int (da_cons (de_var 3) da_nil)) (de_var 4)))
    (dss_one (ds_set (i := 3) nd (de_fdv (de_intC Z.n_int (da_cons (de_var 3) da_nil)) (de_var 4))))))
    (dss_one (ds_retV 2))))
    dss_nil)
    (dss_cons (ds_set (i := 5) nd (de_mod (de_intC Z.n_int (da_cons (de_var 3) da_nil)) de_int))
    (dss_cons (ds_for L.own L.calm (di_range1 (de_len Z.n_len (da_cons (de_var 1) da_nil)) rfl Z.n_range) (dg_name (i := 6) nd)
    (dss_cons (ds_set (i := 5) nd (de_mod (de_intC Z.n_int (da_cons (de_add (de_add (de_mul (de_var 5) de_int) (de_mul de_int (de_var 6))) de_int) da_nil)) de_int))
    (dss_cons (ds_set (i := 7) nd (de_mod (de_intC Z.n_int (da_cons (de_mul (de_var 5) (de_add (de_fdv (de_var 5) de_int) de_int)) da_nil)) de_int))
    (dss_one (ds_app 2 (de_mod (de_fdv (de_var 7) de_int) (de_sub_ix (de_var 1) (de_var 6))))))))
    (dss_one (ds_retV 2)))))))
theorem bd_l_cell (Z : Fs P w K mg fds) : Binds K fds.l_cell ["_law_script", "_law_k"] [] := Z.f_l_cell.bindsN fun _ _ _ _ _ _ us hl => match us, hl with | [_, _], _ => rfl
theorem ok_l_cell (Z : Fs P w K mg fds) : FnOk P w K mg base (L2N.CX P w) 1 (He.ga K "_law_cell") fds.l_cell ["_law_script", "_law_k"] (spD ⟨P, w, K, mg, 0, none, .none⟩ 2 F_l_cell) := fn_d (k := 0) Z.f_l_cell sc_l_cell rfl fun cdv A outer s H E L => by
    have hu := L.u65
    have hu16 := L.u16
    have nd := sc_l_cell.nd
    exact (dss_cons (ds_if (dt_lt (de_var 1) (de_len Z.n_len (da_cons (de_var 0) da_nil)))
    (dss_one (ds_ret (de_sub_ix (de_var 0) (de_var 1))))
    dss_nil)
    (dss_cons (ds_set (i := 2) nd de_int)
    (dss_cons (ds_for L.own L.calm (di_any (de_var 0)) (dg_name (i := 3) nd)
    (dss_one (ds_set (i := 2) nd (de_mod (de_intC Z.n_int (da_cons (de_add (de_mul (de_var 2) de_int) (de_mod (de_intC Z.n_int (da_cons (de_var 3) da_nil)) de_int)) da_nil)) de_int))))
    (dss_one (ds_ret (de_mod (de_intC Z.n_int (da_cons (de_mul (de_mul (de_add (de_var 2) de_int) (de_add (de_var 1) de_int)) de_int) da_nil)) de_int))))))
theorem bd_l_names (Z : Fs P w K mg fds) : Binds K fds.l_names ["_law_digit", "_law_many"] [] := Z.f_l_names.bindsN fun _ _ _ _ _ _ us hl => match us, hl with | [_, _], _ => rfl
theorem ok_l_names (Z : Fs P w K mg fds) : FnOk P w K mg base (L2N.CX P w) 1 (He.ga K "_law_names") fds.l_names ["_law_digit", "_law_many"] (spD ⟨P, w, K, mg, 0, none, .none⟩ 2 F_l_names) := fn_d (k := 0) Z.f_l_names sc_l_names rfl fun cdv A outer s H E L => by
    have hu := L.u65
    have hu16 := L.u16
    have nd := sc_l_names.nd
    exact (dss_cons (ds_set (i := 2) nd (de_lst (da_cons de_str (da_cons de_str (da_cons de_str (da_cons de_str (da_cons de_str (da_cons de_str (da_cons de_str (da_cons de_str (da_cons de_str (da_cons de_str (da_cons de_str (da_cons de_str da_nil))))))))))))))
    (dss_frz 2 (dss_cons (ds_if (dt_eq hu (de_mod (de_intC Z.n_int (da_cons (de_var 0) da_nil)) de_int) de_int)
    (dss_one (ds_ret (de_lc [("_law_k", 5)] L.calm nd (di_range1 (de_var 1) rfl Z.n_range) rfl (fun s H C cl fp => (dg_name (i := 5) nd)) (fun s H C cl fp => dts_nil) (fun s H C cl fp => (de_sub_ix (de_var 2) (de_mod (de_intC Z.n_int (da_cons (de_add (de_mul (de_fdv (de_var 0) de_int) de_int) (de_mul (de_var 5) de_int)) da_nil)) de_int))))))
    dss_nil)
    (dss_cons (ds_set (i := 3) nd (de_mod (de_fdv (de_intC Z.n_int (da_cons (de_var 0) da_nil)) de_int) de_int))
    (dss_cons (ds_setLc (i := 4) [("_law_k", 5)] L.calm nd (di_range1 (de_var 1) rfl Z.n_range) rfl (fun s H C cl fp => (dg_name (i := 5) nd)) (fun s H C cl fp => dts_nil) (fun s H C cl fp => (de_sub_ix de_str (de_mod (de_intC Z.n_int (da_cons (de_add (de_fdv (de_var 0) de_int) (de_mul (de_var 5) de_int)) da_nil)) de_int))) rfl)
    (dss_frz 4 (dss_one (ds_ret (de_lc [("_law_sign", 6)] L.calm nd (di_any (de_var 4)) rfl (fun s H C cl fp => (dg_name (i := 6) nd)) (fun s H C cl fp => dts_nil) (fun s H C cl fp => (de_add (de_add (de_sl01 de_str (de_var 3)) (de_var 6)) (de_sl10 de_str (de_var 3)))))))))))))
theorem bd_l_order (Z : Fs P w K mg fds) : Binds K fds.l_order ["_law_row", "_law_many"] [] := Z.f_l_order.bindsN fun _ _ _ _ _ _ us hl => match us, hl with | [_, _], _ => rfl
theorem ok_l_order (Z : Fs P w K mg fds) : FnOk P w K mg base (L2N.CX P w) 1 (He.ga K "_law_order") fds.l_order ["_law_row", "_law_many"] (spD ⟨P, w, K, mg, 0, none, .none⟩ 2 F_l_order) := fn_d (k := 0) Z.f_l_order sc_l_order rfl fun cdv A outer s H E L => by
    have hu := L.u65
    have hu16 := L.u16
    have nd := sc_l_order.nd
    exact (dss_cons (ds_set (i := 2) nd (de_listR L.calm (de_var 1) Z.n_list Z.n_range))
    (dss_cons (ds_set (i := 3) nd (de_lst da_nil))
    (dss_cons (ds_for L.own L.calm (di_range1 (de_var 1) rfl Z.n_range) (dg_name (i := 4) nd)
    (dss_one (ds_appPop 3 2 (de_mod (de_intC Z.n_int (da_cons (de_sub_ix (de_var 0) (de_var 4)) da_nil)) (de_len Z.n_len (da_cons (de_var 2) da_nil))))))
    (dss_one (ds_retV 3)))))
theorem bd_l_taking (Z : Fs P w K mg fds) : Binds K fds.l_taking ["_law_names_here", "_law_depths", "_law_ranked", "_law_wild", "_law_row"] [] := Z.f_l_taking.bindsN fun _ _ _ _ _ _ us hl => match us, hl with | [_, _, _, _, _], _ => rfl
theorem ok_l_taking (Z : Fs P w K mg fds) : FnOk P w K mg base (L2N.CX P w) 1 (He.ga K "_law_taking") fds.l_taking ["_law_names_here", "_law_depths", "_law_ranked", "_law_wild", "_law_row"] (spD ⟨P, w, K, mg, 0, none, .none⟩ 5 F_l_taking) := fn_d (k := 0) Z.f_l_taking sc_l_taking rfl fun cdv A outer s H E L => by
    have hu := L.u65
    have hu16 := L.u16
    have nd := sc_l_taking.nd
    exact (dss_cons (ds_set (i := 5) nd (de_mod (de_intC Z.n_int (da_cons (de_sub_ix (de_var 4) de_int) da_nil)) (de_len Z.n_len (da_cons (de_var 0) da_nil))))
    (dss_cons (ds_set (i := 6) nd (de_lc [("_law_k", 8)] L.calm nd (di_range1 (de_len Z.n_len (da_cons (de_var 0) da_nil)) rfl Z.n_range) rfl (fun s H C cl fp => (dg_name (i := 8) nd)) (fun s H C cl fp => (dts_one (dt_gt (de_sub_ix (de_var 4) (de_add de_int (de_var 8))) de_int))) (fun s H C cl fp => (de_sub_ix (de_var 0) (de_var 8)))))
    (dss_frz 6 (dss_cons (ds_if (dt_eq hu (de_len Z.n_len (da_cons (de_var 6) da_nil)) de_int)
    (dss_one (ds_set (i := 6) nd (de_lst (da_cons (de_sub_ix (de_var 0) (de_mod (de_intC Z.n_int (da_cons (de_sub_ix (de_var 4) de_int) da_nil)) (de_len Z.n_len (da_cons (de_var 0) da_nil)))) da_nil))))
    dss_nil)
    (dss_frz 6 (dss_cons (ds_setLc (i := 7) [("_law_name", 9)] L.calm nd (di_any (de_var 2)) rfl (fun s H C cl fp => (dg_name (i := 9) nd)) (fun s H C cl fp => (dts_one (dt_in hu (de_var 9) (de_var 6)))) (fun s H C cl fp => (de_var 9)) rfl)
    (dss_frz 7 (dss_cons (ds_if (dt_ge (de_sub_ix (de_var 4) de_int) (de_var 3))
    (dss_one (ds_ret (de_tup (da_cons (de_sub_ix (de_var 0) (de_var 5)) (da_cons (de_sub_ix (de_var 6) (de_mod (de_intC Z.n_int (da_cons (de_sub_ix (de_var 4) de_int) da_nil)) (de_len Z.n_len (da_cons (de_var 6) da_nil)))) (da_cons (de_tupleC Z.n_tuple (da_cons (de_var 6) da_nil)) da_nil))))))
    dss_nil)
    (dss_one (ds_ret (de_tup (da_cons (de_sub_ix (de_var 0) (de_var 5)) (da_cons (de_sub_ix (de_var 7) (de_mod (de_intC Z.n_int (da_cons (de_sub_ix (de_var 4) de_int) da_nil)) (de_minC L.calm Z.n_min (da_cons (de_len Z.n_len (da_cons (de_var 7) da_nil)) (da_cons (de_sub_ix (de_var 1) (de_var 5)) da_nil))))) (da_cons (de_tupleC Z.n_tuple (da_cons (de_var 6) da_nil)) da_nil))))))))))))))
theorem bd_l_ties (Z : Fs P w K mg fds) : Binds K fds.l_ties ["_law_names_here", "_law_ranked", "_law_wild", "_law_row"] [] := Z.f_l_ties.bindsN fun _ _ _ _ _ _ us hl => match us, hl with | [_, _, _, _], _ => rfl
theorem ok_l_ties (Z : Fs P w K mg fds) : FnOk P w K mg base (L2N.CX P w) 1 (He.ga K "_law_ties") fds.l_ties ["_law_names_here", "_law_ranked", "_law_wild", "_law_row"] (spD ⟨P, w, K, mg, 0, none, .none⟩ 4 F_l_ties) := fn_d (k := 0) Z.f_l_ties sc_l_ties rfl fun cdv A outer s H E L => by
    have hu := L.u65
    have hu16 := L.u16
    have nd := sc_l_ties.nd
    exact (dss_cons (ds_set (i := 4) nd (de_lst da_nil))
    (dss_cons (ds_for L.own L.calm (di_range1 (de_sub_ix (de_lst (da_cons de_int (da_cons de_int (da_cons de_int (da_cons de_int (da_cons de_int (da_cons de_int (da_cons de_int (da_cons de_int da_nil))))))))) (de_sub_ix (de_var 3) de_int)) rfl Z.n_range) (dg_name (i := 5) nd)
    (dss_one (ds_if (dw_t (dw_and (dt_gt (de_len Z.n_len (da_cons (de_var 0) da_nil)) de_int) (dw_and1 (dw_t (dw_or (dt_lt (de_sub_ix (de_var 3) de_int) de_int) (dw_or1 (dt_lt (de_sub_ix (de_var 3) (de_add (de_mul de_int (de_var 5)) de_int)) de_int)))))))
    (dss_cons (ds_set (i := 6) nd (de_sub_ix (de_var 0) (de_mod (de_intC Z.n_int (da_cons (de_sub_ix (de_var 3) (de_add (de_mul de_int (de_var 5)) de_int)) da_nil)) (de_len Z.n_len (da_cons (de_var 0) da_nil)))))
    (dss_frz 6 (dss_cons (ds_setLc (i := 7) [("_law_name", 9)] L.calm nd (di_any (de_var 0)) rfl (fun s H C cl fp => (dg_name (i := 9) nd)) (fun s H C cl fp => (dts_one (dt_ne hu (de_var 9) (de_var 6)))) (fun s H C cl fp => (de_var 9)) rfl)
    (dss_frz 7 (dss_cons (ds_set (i := 8) nd (de_sub_ix (de_var 7) (de_mod (de_intC Z.n_int (da_cons (de_sub_ix (de_var 3) (de_add (de_mul de_int (de_var 5)) de_int)) da_nil)) (de_len Z.n_len (da_cons (de_var 7) da_nil)))))
    (dss_frz 8 (dss_one (ds_if (dw_t (dw_and (dt_gt (de_index hu (de_var 1) (de_var 6)) (de_index hu (de_var 1) (de_var 8))) (dw_and1 (dt_lt (de_sub_ix (de_var 3) (de_add (de_mul de_int (de_var 5)) de_int)) (de_var 2)))))
    (dss_one (ds_app 4 (de_tup (da_cons (de_var 8) (da_cons (de_var 6) da_nil)))))
    (dss_one (ds_app 4 (de_tup (da_cons (de_var 6) (da_cons (de_var 8) da_nil)))))))))))))
    dss_nil)))
    (dss_frz 6 (dss_frz 7 (dss_frz 8 (dss_one (ds_retV 4)))))))
theorem bd_l_seen (Z : Fs P w K mg fds) : Binds K fds.l_seen ["_law_script", "_law_at", "_law_upto", "_law_room"] [] := Z.f_l_seen.bindsN fun _ _ _ _ _ _ us hl => match us, hl with | [_, _, _, _], _ => rfl
theorem ok_l_seen (Z : Fs P w K mg fds) : FnOk P w K mg base (L2N.CX P w) 2 (He.ga K "_law_seen") fds.l_seen ["_law_script", "_law_at", "_law_upto", "_law_room"] (spD ⟨P, w, K, mg, 0, none, .none⟩ 4 F_l_seen) := fn_d (k := 1) Z.f_l_seen sc_l_seen rfl fun cdv A outer s H E L => by
    have hu := L.u65
    have hu16 := L.u16
    have nd := sc_l_seen.nd
    exact (dss_cons (ds_set (i := 4) nd (de_call (L.call (ok_l_digits Z) (by decide) Z.f_l_digits.kp (bd_l_digits Z) .nil (fun _ _ => .nil)) Z.m_l_digits (da_cons (de_call (L.call (ok_l_cell Z) (by decide) Z.f_l_cell.kp (bd_l_cell Z) .nil (fun _ _ => .nil)) Z.m_l_cell (da_cons (de_var 0) (da_cons (de_var 1) da_nil))) (da_cons (de_lst (da_cons de_int (da_cons de_int (da_cons de_int (da_cons de_int (da_cons de_int da_nil)))))) da_nil))))
    (dss_frz 4 (dss_cons (ds_set (i := 5) nd (de_call (L.call (ok_l_digits Z) (by decide) Z.f_l_digits.kp (bd_l_digits Z) .nil (fun _ _ => .nil)) Z.m_l_digits (da_cons (de_call (L.call (ok_l_cell Z) (by decide) Z.f_l_cell.kp (bd_l_cell Z) .nil (fun _ _ => .nil)) Z.m_l_cell (da_cons (de_var 0) (da_cons (de_add (de_var 1) de_int) da_nil))) (da_cons (de_add (de_add (de_mul (de_lst (da_cons de_int da_nil)) de_int) (de_mul (de_lst (da_cons de_int da_nil)) de_int)) (de_mul (de_lst (da_cons de_int da_nil)) de_int)) da_nil))))
    (dss_frz 5 (dss_cons (ds_set (i := 6) nd (de_minC L.calm Z.n_min (da_cons (de_var 2) (da_cons (de_sub_ix (de_lst (da_cons de_int (da_cons de_int (da_cons de_int (da_cons de_int (da_cons de_int (da_cons de_int (da_cons de_int (da_cons de_int (da_cons de_int (da_cons de_int (da_cons de_int (da_cons de_int da_nil))))))))))))) (de_sub_ix (de_var 4) de_int)) da_nil))))
    (dss_frz 6 (dss_cons (ds_if (dt_gt (de_var 2) de_int)
    (dss_one (ds_set (i := 6) nd (de_minC L.calm Z.n_min (da_cons (de_var 2) (da_cons (de_sub_ix (de_lst (da_cons de_int (da_cons de_int (da_cons de_int (da_cons de_int (da_cons de_int (da_cons de_int (da_cons de_int (da_cons de_int (da_cons de_int (da_cons de_int (da_cons de_int (da_cons de_int da_nil))))))))))))) (de_sub_ix (de_var 4) de_int)) da_nil)))))
    dss_nil)
    (dss_frz 6 (dss_cons (ds_set (i := 7) nd (de_call (L.call (ok_l_names Z) (by decide) Z.f_l_names.kp (bd_l_names Z) .nil (fun _ _ => .nil)) Z.m_l_names (da_cons (de_sub_ix (de_var 4) de_int) (da_cons (de_var 6) da_nil))))
    (dss_frz 7 (dss_cons (ds_setLc (i := 8) [("_law_k", 14)] L.calm nd (di_any (de_call (L.call (ok_l_order Z) (by decide) Z.f_l_order.kp (bd_l_order Z) .nil (fun _ _ => .nil)) Z.m_l_order (da_cons (de_var 5) (da_cons (de_var 6) da_nil)))) rfl (fun s H C cl fp => (dg_name (i := 14) nd)) (fun s H C cl fp => dts_nil) (fun s H C cl fp => (de_sub_ix (de_var 7) (de_var 14))) rfl)
    (dss_frz 8 (dss_cons (ds_setLc (i := 9) [("_law_name", 17)] L.calm nd (di_any (de_var 7)) rfl (fun s H C cl fp => (dg_name (i := 17) nd)) (fun s H C cl fp => dts_nil) (fun s H C cl fp => (de_add de_int (de_intC Z.n_int (da_cons (de_eq hu (de_sub_ix (de_var 4) de_int) de_int) da_nil)))) rfl)
    (dss_frz 9 (dss_cons (ds_if (dw_t (dw_and (dt_ge (de_sub_ix (de_var 4) de_int) de_int) (dw_and1 (dt_ne hu (de_sub_ix (de_var 4) de_int) de_int))))
    (dss_cons (ds_set (i := 10) nd (de_lc [("_law_digit", 18)] L.calm nd (di_any (de_sl11 (de_var 5) de_int de_int)) rfl (fun s H C cl fp => (dg_name (i := 18) nd)) (fun s H C cl fp => dts_nil) (fun s H C cl fp => (de_add de_int (de_mod (de_intC Z.n_int (da_cons (de_var 18) da_nil)) (de_var 6))))))
    (dss_frz 10 (dss_one (ds_setLc (i := 9) [("_law_k", 14)] L.calm nd (di_range1 (de_var 6) rfl Z.n_range) rfl (fun s H C cl fp => (dg_name (i := 14) nd)) (fun s H C cl fp => dts_nil) (fun s H C cl fp => (de_sub_ix (de_lst (da_cons de_int (da_cons de_int (da_cons de_int (da_cons (de_sub_ix (de_var 10) (de_var 14)) (da_cons de_int (da_cons (de_sub_ix (de_var 10) (de_var 14)) (da_cons (de_sub_ix (de_var 10) (de_var 14)) (da_cons (de_add (de_pow de_int de_int) (de_var 14)) da_nil))))))))) (de_sub_ix (de_var 5) (de_add de_int (de_var 14))))) rfl))))
    dss_nil)
    (dss_frz 10 (dss_frz 9 (dss_cons (ds_set (i := 11) nd (de_sub_ix (de_lst (da_cons de_int (da_cons de_int (da_cons de_int (da_cons de_int (da_cons de_int (da_cons de_int (da_cons de_int (da_cons de_int da_nil))))))))) (de_sub_ix (de_var 4) de_int)))
    (dss_frz 11 (dss_cons (ds_set (i := 12) nd (de_lst da_nil))
    (dss_cons (ds_set (i := 13) nd (de_minC L.calm Z.n_min (da_cons (de_var 3) (da_cons (de_sub_ix (de_lst (da_cons de_int (da_cons de_int (da_cons de_int (da_cons de_int (da_cons de_int (da_cons de_int (da_cons de_int (da_cons de_int (da_cons de_int (da_cons de_int (da_cons de_int (da_cons de_int (da_cons de_int (da_cons de_int (da_cons de_int (da_cons de_int da_nil))))))))))))))))) (de_sub_ix (de_var 4) de_int)) da_nil))))
    (dss_frz 13 (dss_cons (ds_if (dt_gt (de_var 3) de_int)
    (dss_one (ds_set (i := 13) nd (de_sub_ix (de_lst (da_cons de_int (da_cons de_int (da_cons de_int (da_cons de_int (da_cons de_int (da_cons de_int (da_cons de_int (da_cons de_int (da_cons de_int (da_cons de_int (da_cons de_int (da_cons de_int (da_cons de_int (da_cons de_int (da_cons de_int (da_cons de_int da_nil))))))))))))))))) (de_sub_ix (de_var 4) de_int))))
    dss_nil)
    (dss_frz 13 (dss_cons (ds_for L.own L.calm (di_range1 (de_var 13) rfl Z.n_range) (dg_name (i := 14) nd)
    (dss_cons (ds_set (i := 15) nd (de_call (L.call (ok_l_digits Z) (by decide) Z.f_l_digits.kp (bd_l_digits Z) .nil (fun _ _ => .nil)) Z.m_l_digits (da_cons (de_call (L.call (ok_l_cell Z) (by decide) Z.f_l_cell.kp (bd_l_cell Z) .nil (fun _ _ => .nil)) Z.m_l_cell (da_cons (de_var 0) (da_cons (de_add (de_add (de_var 1) de_int) (de_mod (de_intC Z.n_int (da_cons (de_var 14) da_nil)) de_int)) da_nil))) (da_cons (de_mul (de_add (de_lst (da_cons de_int (da_cons de_int (da_cons de_int da_nil)))) (de_mul (de_lst (da_cons de_int da_nil)) de_int)) de_int) da_nil))))
    (dss_frz 15 (dss_one (ds_app 12 (de_call (L.call (ok_l_taking Z) (by decide) Z.f_l_taking.kp (bd_l_taking Z) .nil (fun _ _ => .nil)) Z.m_l_taking (da_cons (de_var 7) (da_cons (de_var 9) (da_cons (de_var 8) (da_cons (de_var 11) (da_cons (de_sl10 (de_var 15) (de_mul (de_fdv (de_var 14) de_int) de_int)) da_nil)))))))))))
    (dss_frz 15 (dss_cons (ds_set (i := 16) nd (de_call (L.call (ok_l_ties Z) (by decide) Z.f_l_ties.kp (bd_l_ties Z) .nil (fun _ _ => .nil)) Z.m_l_ties (da_cons (de_var 7) (da_cons (de_var 8) (da_cons (de_var 11) (da_cons (de_call (L.call (ok_l_digits Z) (by decide) Z.f_l_digits.kp (bd_l_digits Z) .nil (fun _ _ => .nil)) Z.m_l_digits (da_cons (de_call (L.call (ok_l_cell Z) (by decide) Z.f_l_cell.kp (bd_l_cell Z) .nil (fun _ _ => .nil)) Z.m_l_cell (da_cons (de_var 0) (da_cons (de_add (de_var 1) de_int) da_nil))) (da_cons (de_add (de_lst (da_cons de_int da_nil)) (de_mul (de_lst (da_cons de_int (da_cons de_int (da_cons de_int da_nil)))) de_int)) da_nil))) da_nil))))))
    (dss_frz 16 (dss_frz 12 (dss_one (ds_ret (de_lst (da_cons (de_var 7) (da_cons (de_var 12) (da_cons (de_var 9) (da_cons (de_var 16) da_nil))))))))))))))))))))))))))))))))))))
theorem bd_frozen (Z : Fs P w K mg fds) : Binds K fds.frozen ["value"] [] := Z.f_frozen.bindsN fun _ _ _ _ _ _ us hl => match us, hl with | [_], _ => rfl
theorem ok_frozen : ∀ (n : Nat) (Z : Fs P w K mg fds), FnOk P w K mg base (L2N.CX P w) (0 + n) (He.ga K "frozen") fds.frozen ["value"] (spD ⟨P, w, K, mg, 0, none, .none⟩ 1 (F_frozen n))
  | 0, Z => fn_stuck rfl
  | n + 1, Z => fn_d (k := 0 + n) Z.f_frozen sc_frozen rfl fun cdv A outer s H E L => by
    have hu := L.u65
    have hu16 := L.u16
    have nd := sc_frozen.nd
    have ih := ok_frozen n Z
    have hrec := Nat.le_refl (0 + n)
    exact (dss_cons (ds_if (dt_tru (de_isi Z.n_isinstance (da_cons (de_var 0) (da_cons (de_tup (da_cons (de_ty rfl Z.n_list bt_list) (da_cons (de_ty rfl Z.n_tuple bt_tuple) da_nil))) da_nil))))
    (dss_one (ds_ret (de_tupleC Z.n_tuple (da_cons (de_lc [("item", 1)] L.calm nd (di_any (de_var 0)) rfl (fun s H C cl fp => (dg_name (i := 1) nd)) (fun s H C cl fp => dts_nil) (fun s H C cl fp => (de_call (L.callB ih hrec Z.f_frozen.kp (bd_frozen Z) .nil (fun _ _ => .nil)) Z.m_frozen (da_cons (de_var 1) da_nil)))) da_nil))))
    dss_nil)
    (dss_one (ds_retV 0)))
theorem bd_is_name (Z : Fs P w K mg fds) : Binds K fds.is_name ["value"] [] := Z.f_is_name.bindsN fun _ _ _ _ _ _ us hl => match us, hl with | [_], _ => rfl
theorem ok_is_name (Z : Fs P w K mg fds) : FnOk P w K mg base (L2N.CX P w) 1 (He.ga K "is_name") fds.is_name ["value"] (spD ⟨P, w, K, mg, 0, none, .none⟩ 1 F_is_name) := fn_d (k := 0) Z.f_is_name sc_is_name rfl fun cdv A outer s H E L => by
    have hu := L.u65
    have hu16 := L.u16
    have nd := sc_is_name.nd
    exact (dss_cons (ds_if (dt_not (dt_chainLE de_int (de_len Z.n_len (da_cons (de_var 0) da_nil)) (de_gint Z.k_LONGEST)))
    (dss_one (ds_ret de_bl))
    dss_nil)
    (dss_cons (ds_if (dt_notIn hu (de_sub_ix (de_var 0) de_int) (de_gstr Z.k_LETTERS))
    (dss_one (ds_ret de_bl))
    dss_nil)
    (dss_one (ds_ret (de_allC L.calm Z.n_all (da_cons (de_lc [("character", 1)] L.calm nd (di_str (de_var 0)) rfl (fun s H C cl fp => (dg_name (i := 1) nd)) (fun s H C cl fp => dts_nil) (fun s H C cl fp => (de_or (de_in hu (de_var 1) (de_gstr Z.k_LETTERS)) (de_one (de_in hu (de_var 1) (de_gstr Z.k_FIGURES)))))) da_nil))))))
theorem bd_BadName___init__ (Z : Fs P w K mg fds) : Binds K fds.BadName___init__ ["self", "name"] [] := Z.f_BadName___init__.bindsN fun _ _ _ _ _ _ us hl => match us, hl with | [_, _], _ => rfl
theorem ok_BadName___init__ (Z : Fs P w K mg fds) : FnOk P w K mg base (L2N.CX P w) 1 (He.ma K (He.ga K "BadName") "__init__") fds.BadName___init__ ["self", "name"] (spO K (clOf mg "BadName") "name") := fn_oex Z.f_BadName___init__ sc_BadName___init__ rfl rfl Z.ox_BadName Z.nf_BadName
theorem bd_TakenName___init__ (Z : Fs P w K mg fds) : Binds K fds.TakenName___init__ ["self", "name"] [] := Z.f_TakenName___init__.bindsN fun _ _ _ _ _ _ us hl => match us, hl with | [_, _], _ => rfl
theorem ok_TakenName___init__ (Z : Fs P w K mg fds) : FnOk P w K mg base (L2N.CX P w) 1 (He.ma K (He.ga K "TakenName") "__init__") fds.TakenName___init__ ["self", "name"] (spO K (clOf mg "TakenName") "name") := fn_oex Z.f_TakenName___init__ sc_TakenName___init__ rfl rfl Z.ox_TakenName Z.nf_TakenName
theorem bd_check_guests (Z : Fs P w K mg fds) : Binds K fds.check_guests ["guests"] [] := Z.f_check_guests.bindsN fun _ _ _ _ _ _ us hl => match us, hl with | [_], _ => rfl
theorem ok_check_guests (Z : Fs P w K mg fds) : FnOk P w K mg base (L2N.CX P w) 3 (He.ga K "check_guests") fds.check_guests ["guests"] (spD ⟨P, w, K, mg, 0, none, .none⟩ 1 F_check_guests) := fn_d (k := 2) Z.f_check_guests sc_check_guests rfl fun cdv A outer s H E L => by
    have hu := L.u65
    have hu16 := L.u16
    have nd := sc_check_guests.nd
    exact (dss_cons (ds_for L.own L.calm (di_any (de_var 0)) (dg_name (i := 1) nd)
    (dss_one (ds_if (dt_not (dt_tru (de_call (L.call (ok_is_name Z) (by decide) Z.f_is_name.kp (bd_is_name Z) .nil (fun _ _ => .nil)) Z.m_is_name (da_cons (de_var 1) da_nil))))
    (dss_one (ds_raise L Z.ox_BadName Z.ii_BadName Z.ti_BadName (ok_BadName___init__ Z) (by decide) (bd_BadName___init__ Z) Z.c_BadName (de_var 1)))
    dss_nil)))
    (dss_one (ds_for L.own L.calm (di_enumT (de_var 0) Z.n_enumerate) (dg_tup L.calm (dgs_cons (dg_name (i := 2) nd) (dgs_cons (dg_name (i := 1) nd) dgs_nil)))
    (dss_one (ds_if (dt_in hu (de_var 1) (de_sl01 (de_var 0) (de_var 2)))
    (dss_one (ds_raise L Z.ox_TakenName Z.ii_TakenName Z.ti_TakenName (ok_TakenName___init__ Z) (by decide) (bd_TakenName___init__ Z) Z.c_TakenName (de_var 1)))
    dss_nil)))))
theorem bd_BadDepth___init__ (Z : Fs P w K mg fds) : Binds K fds.BadDepth___init__ ["self", "depth"] [] := Z.f_BadDepth___init__.bindsN fun _ _ _ _ _ _ us hl => match us, hl with | [_, _], _ => rfl
theorem ok_BadDepth___init__ (Z : Fs P w K mg fds) : FnOk P w K mg base (L2N.CX P w) 1 (He.ma K (He.ga K "BadDepth") "__init__") fds.BadDepth___init__ ["self", "depth"] (spO K (clOf mg "BadDepth") "depth") := fn_oex Z.f_BadDepth___init__ sc_BadDepth___init__ rfl rfl Z.ox_BadDepth Z.nf_BadDepth
theorem bd_is_taking (Z : Fs P w K mg fds) : Binds K fds.is_taking ["guests", "taking"] [] := Z.f_is_taking.bindsN fun _ _ _ _ _ _ us hl => match us, hl with | [_, _], _ => rfl
theorem ok_is_taking (Z : Fs P w K mg fds) : FnOk P w K mg base (L2N.CX P w) 1 (He.ga K "is_taking") fds.is_taking ["guests", "taking"] (spD ⟨P, w, K, mg, 0, none, .none⟩ 2 F_is_taking) := fn_d (k := 0) Z.f_is_taking sc_is_taking rfl fun cdv A outer s H E L => by
    have hu := L.u65
    have hu16 := L.u16
    have nd := sc_is_taking.nd
    exact (dss_cons (ds_asg (de_var 1) (dg_tup L.calm (dgs_cons (dg_name (i := 2) nd) (dgs_cons (dg_name (i := 3) nd) (dgs_cons (dg_name (i := 4) nd) dgs_nil)))))
    (dss_cons (ds_if (dw_t (dw_or (dt_notIn hu (de_var 2) (de_var 0)) (dw_or1 (dt_notIn hu (de_var 3) (de_var 4)))))
    (dss_one (ds_ret de_bl))
    dss_nil)
    (dss_one (ds_ret (de_eq hu (de_var 4) (de_tupleC Z.n_tuple (da_cons (de_lc [("name", 5)] L.calm nd (di_any (de_var 0)) rfl (fun s H C cl fp => (dg_name (i := 5) nd)) (fun s H C cl fp => (dts_one (dt_in hu (de_var 5) (de_var 4)))) (fun s H C cl fp => (de_var 5))) da_nil)))))))
theorem bd_BadTaking___init__ (Z : Fs P w K mg fds) : Binds K fds.BadTaking___init__ ["self", "index"] [] := Z.f_BadTaking___init__.bindsN fun _ _ _ _ _ _ us hl => match us, hl with | [_, _], _ => rfl
theorem ok_BadTaking___init__ (Z : Fs P w K mg fds) : FnOk P w K mg base (L2N.CX P w) 1 (He.ma K (He.ga K "BadTaking") "__init__") fds.BadTaking___init__ ["self", "index"] (spO K (clOf mg "BadTaking") "index") := fn_oex Z.f_BadTaking___init__ sc_BadTaking___init__ rfl rfl Z.ox_BadTaking Z.nf_BadTaking
theorem bd_is_tie (Z : Fs P w K mg fds) : Binds K fds.is_tie ["guests", "tie"] [] := Z.f_is_tie.bindsN fun _ _ _ _ _ _ us hl => match us, hl with | [_, _], _ => rfl
theorem ok_is_tie (Z : Fs P w K mg fds) : FnOk P w K mg base (L2N.CX P w) 1 (He.ga K "is_tie") fds.is_tie ["guests", "tie"] (spD ⟨P, w, K, mg, 0, none, .none⟩ 2 F_is_tie) := fn_d (k := 0) Z.f_is_tie sc_is_tie rfl fun cdv A outer s H E L => by
    have hu := L.u65
    have hu16 := L.u16
    have nd := sc_is_tie.nd
    exact (dss_cons (ds_asg (de_var 1) (dg_tup L.calm (dgs_cons (dg_name (i := 2) nd) (dgs_cons (dg_name (i := 3) nd) dgs_nil))))
    (dss_one (ds_ret (de_and (de_in hu (de_var 2) (de_var 0)) (de_and (de_in hu (de_var 3) (de_var 0)) (de_one (de_ne hu (de_var 2) (de_var 3))))))))
theorem bd_BadTie___init__ (Z : Fs P w K mg fds) : Binds K fds.BadTie___init__ ["self", "index"] [] := Z.f_BadTie___init__.bindsN fun _ _ _ _ _ _ us hl => match us, hl with | [_, _], _ => rfl
theorem ok_BadTie___init__ (Z : Fs P w K mg fds) : FnOk P w K mg base (L2N.CX P w) 1 (He.ma K (He.ga K "BadTie") "__init__") fds.BadTie___init__ ["self", "index"] (spO K (clOf mg "BadTie") "index") := fn_oex Z.f_BadTie___init__ sc_BadTie___init__ rfl rfl Z.ox_BadTie Z.nf_BadTie
theorem bd_Seen___init__ (Z : Fs P w K mg fds) : Binds K fds.Seen___init__ ["self", "guests", "takings", "depths", "ties"] [] := by
  obtain ⟨ds, v, b⟩ := Z.f_Seen___init__.binds1 (ps := ["self", "guests", "takings", "depths", "ties"]) 5 1 (by simp) rfl fun _ _ _ _ _ _ _ us its hl hi => match us, hl, its, hi with | [_, _, _, _, _], _, [_], _ => ⟨_, rfl, rfl⟩
  cases v
  exact b
theorem ok_Seen___init__ (Z : Fs P w K mg fds) : FnOk P w K mg base (L2N.CX P w) 7 (He.ma K (He.ga K "Seen") "__init__") fds.Seen___init__ ["self", "guests", "takings", "depths", "ties"] (spI ⟨P, w, K, mg, 0, none, .none⟩ "Seen" 4 F_Seen___init__) := fn_init (k := 6) Z.f_Seen___init__ sc_Seen___init__ rfl fun cdv A outer s H E L => by
    have hu := L.u65
    have hu16 := L.u16
    have nd := sc_Seen___init__.nd
    exact (dss_cons (ds_fldSet 0 Z.cl_Seen Z.na_Seen_guests (de_call (L.call (ok_frozen 6 Z) (by decide) Z.f_frozen.kp (bd_frozen Z) .nil (fun _ _ => .nil)) Z.m_frozen (da_cons (de_var 1) da_nil)))
    (dss_cons (ds_fldSet 0 Z.cl_Seen Z.na_Seen_takings (de_call (L.call (ok_frozen 6 Z) (by decide) Z.f_frozen.kp (bd_frozen Z) .nil (fun _ _ => .nil)) Z.m_frozen (da_cons (de_var 2) da_nil)))
    (dss_cons (ds_fldSet 0 Z.cl_Seen Z.na_Seen_depths (de_call (L.call (ok_frozen 6 Z) (by decide) Z.f_frozen.kp (bd_frozen Z) .nil (fun _ _ => .nil)) Z.m_frozen (da_cons (de_var 3) da_nil)))
    (dss_cons (ds_fldSet 0 Z.cl_Seen Z.na_Seen_ties (de_call (L.call (ok_frozen 6 Z) (by decide) Z.f_frozen.kp (bd_frozen Z) .nil (fun _ _ => .nil)) Z.m_frozen (da_cons (de_var 4) da_nil)))
    (dss_cons (ds_drop (de_call (L.call (ok_check_guests Z) (by decide) Z.f_check_guests.kp (bd_check_guests Z) .nil (fun _ _ => .nil)) Z.m_check_guests (da_cons (de_fldMk 0 Z.cl_Seen Z.na_Seen_guests) da_nil)))
    (dss_cons (ds_for L.own L.calm (di_any (de_fldMk 0 Z.cl_Seen Z.na_Seen_depths)) (dg_name (i := 5) nd)
    (dss_one (ds_if (dt_lt (de_var 5) de_int)
    (dss_one (ds_raise L Z.ox_BadDepth Z.ii_BadDepth Z.ti_BadDepth (ok_BadDepth___init__ Z) (by decide) (bd_BadDepth___init__ Z) Z.c_BadDepth (de_var 5)))
    dss_nil)))
    (dss_cons (ds_for L.own L.calm (di_enumT (de_fldMk 0 Z.cl_Seen Z.na_Seen_takings) Z.n_enumerate) (dg_tup L.calm (dgs_cons (dg_name (i := 6) nd) (dgs_cons (dg_name (i := 7) nd) dgs_nil)))
    (dss_one (ds_if (dt_not (dt_tru (de_call (L.call (ok_is_taking Z) (by decide) Z.f_is_taking.kp (bd_is_taking Z) .nil (fun _ _ => .nil)) Z.m_is_taking (da_cons (de_fldMk 0 Z.cl_Seen Z.na_Seen_guests) (da_cons (de_var 7) da_nil)))))
    (dss_one (ds_raise L Z.ox_BadTaking Z.ii_BadTaking Z.ti_BadTaking (ok_BadTaking___init__ Z) (by decide) (bd_BadTaking___init__ Z) Z.c_BadTaking (de_var 6)))
    dss_nil)))
    (dss_one (ds_for L.own L.calm (di_enumT (de_fldMk 0 Z.cl_Seen Z.na_Seen_ties) Z.n_enumerate) (dg_tup L.calm (dgs_cons (dg_name (i := 6) nd) (dgs_cons (dg_name (i := 8) nd) dgs_nil)))
    (dss_one (ds_if (dt_not (dt_tru (de_call (L.call (ok_is_tie Z) (by decide) Z.f_is_tie.kp (bd_is_tie Z) .nil (fun _ _ => .nil)) Z.m_is_tie (da_cons (de_fldMk 0 Z.cl_Seen Z.na_Seen_guests) (da_cons (de_var 8) da_nil)))))
    (dss_one (ds_raise L Z.ox_BadTie Z.ii_BadTie Z.ti_BadTie (ok_BadTie___init__ Z) (by decide) (bd_BadTie___init__ Z) Z.c_BadTie (de_var 6)))
    dss_nil)))))))))))
theorem bd_l_made (Z : Fs P w K mg fds) : Binds K fds.l_made ["_law_seen_here", "_law_kind"] [] := Z.f_l_made.bindsN fun _ _ _ _ _ _ us hl => match us, hl with | [_, _], _ => rfl
theorem ok_l_made (Z : Fs P w K mg fds) : FnOk P w K mg base (L2N.CX P w) 9 (He.ga K "_law_made") fds.l_made ["_law_seen_here", "_law_kind"] (spD ⟨P, w, K, mg, 0, none, .none⟩ 2 F_l_made) := fn_d (k := 8) Z.f_l_made sc_l_made rfl fun cdv A outer s H E L => by
    have hu := L.u65
    have hu16 := L.u16
    have nd := sc_l_made.nd
    exact (dss_cons (ds_if (dt_eq hu (de_var 1) de_int)
    (dss_one (ds_ret (de_call (L.make Z.mk_Seen (ok_Seen___init__ Z) (by decide) (bd_Seen___init__ Z) .nil (fun _ _ => .nil)) Z.c_Seen (da_cons (de_tupleC Z.n_tuple (da_cons (de_sub_ix (de_var 0) de_int) da_nil)) (da_cons (de_tupleC Z.n_tuple (da_cons (de_sub_ix (de_var 0) de_int) da_nil)) (da_cons (de_tupleC Z.n_tuple (da_cons (de_sub_ix (de_var 0) de_int) da_nil)) (da_cons (de_tupleC Z.n_tuple (da_cons (de_sub_ix (de_var 0) de_int) da_nil)) da_nil)))))))
    dss_nil)
    (dss_cons (ds_if (dt_eq hu (de_var 1) de_int)
    (dss_cons (ds_setLc (i := 2) [("_law_taking_here", 3)] L.calm nd (di_any (de_sub_ix (de_var 0) de_int)) rfl (fun s H C cl fp => (dg_name (i := 3) nd)) (fun s H C cl fp => dts_nil) (fun s H C cl fp => (de_lst (da_cons (de_sub_ix (de_var 3) de_int) (da_cons (de_sub_ix (de_var 3) de_int) (da_cons (de_listC Z.n_list (da_cons (de_sub_ix (de_var 3) de_int) da_nil)) da_nil))))) rfl)
    (dss_frz 2 (dss_one (ds_ret (de_call (L.make Z.mk_Seen (ok_Seen___init__ Z) (by decide) (bd_Seen___init__ Z) .nil (fun _ _ => .nil)) Z.c_Seen (da_cons (de_listC Z.n_list (da_cons (de_sub_ix (de_var 0) de_int) da_nil)) (da_cons (de_var 2) (da_cons (de_listC Z.n_list (da_cons (de_sub_ix (de_var 0) de_int) da_nil)) (da_cons (de_lc [("_law_tie", 4)] L.calm nd (di_any (de_sub_ix (de_var 0) de_int)) rfl (fun s H C cl fp => (dg_name (i := 4) nd)) (fun s H C cl fp => dts_nil) (fun s H C cl fp => (de_listC Z.n_list (da_cons (de_var 4) da_nil)))) da_nil)))))))))
    dss_nil)
    (dss_frz 2 (dss_one (ds_ret (de_call (L.make Z.mk_Seen (ok_Seen___init__ Z) (by decide) (bd_Seen___init__ Z) .nil (fun _ _ => .nil)) Z.c_Seen (da_cons (de_listC Z.n_list (da_cons (de_sub_ix (de_var 0) de_int) da_nil)) (da_cons (de_listC Z.n_list (da_cons (de_sub_ix (de_var 0) de_int) da_nil)) (da_cons (de_listC Z.n_list (da_cons (de_sub_ix (de_var 0) de_int) da_nil)) (da_cons (de_listC Z.n_list (da_cons (de_sub_ix (de_var 0) de_int) da_nil)) da_nil))))))))))
theorem bd_may_peel (Z : Fs P w K mg fds) : Binds K fds.may_peel ["seen", "left", "cloak"] [] := Z.f_may_peel.bindsN fun _ _ _ _ _ _ us hl => match us, hl with | [_, _, _], _ => rfl
theorem ok_may_peel (Z : Fs P w K mg fds) : FnOk P w K mg base (L2N.CX P w) 1 (He.ga K "may_peel") fds.may_peel ["seen", "left", "cloak"] (spD ⟨P, w, K, mg, 0, none, .none⟩ 3 F_may_peel) := fn_d (k := 0) Z.f_may_peel sc_may_peel rfl fun cdv A outer s H E L => by
    have hu := L.u65
    have hu16 := L.u16
    have nd := sc_may_peel.nd
    exact (dss_cons (ds_for L.own L.calm (di_any (de_fld (de_var 0) Z.cl_Seen Z.na_Seen_takings)) (dg_tup L.calm (dgs_cons (dg_name (i := 3) nd) (dgs_cons (dg_name (i := 4) nd) (dgs_cons (dg_name (i := 5) nd) dgs_nil))))
    (dss_one (ds_if (dt_eq hu (de_var 4) (de_var 2))
    (dss_cons (ds_set (i := 6) nd (de_len Z.n_len (da_cons (de_lc [("other", 9)] L.calm nd (di_any (de_var 5)) rfl (fun s H C cl fp => (dg_name (i := 9) nd)) (fun s H C cl fp => (dts_one (dt_in hu (de_var 9) (de_var 1)))) (fun s H C cl fp => (de_var 9))) da_nil)))
    (dss_one (ds_if (dt_gt (de_var 6) (de_sub_ix (de_fld (de_var 0) Z.cl_Seen Z.na_Seen_depths) (de_index hu (de_fld (de_var 0) Z.cl_Seen Z.na_Seen_guests) (de_var 3))))
    (dss_one (ds_ret de_bl))
    dss_nil)))
    dss_nil)))
    (dss_cons (ds_for L.own L.calm (di_any (de_fld (de_var 0) Z.cl_Seen Z.na_Seen_ties)) (dg_tup L.calm (dgs_cons (dg_name (i := 7) nd) (dgs_cons (dg_name (i := 8) nd) dgs_nil)))
    (dss_one (ds_if (dw_t (dw_and (dt_eq hu (de_var 7) (de_var 2)) (dw_and1 (dt_in hu (de_var 8) (de_var 1)))))
    (dss_one (ds_ret de_bl))
    dss_nil)))
    (dss_one (ds_ret de_bl))))
theorem bd_last_free (Z : Fs P w K mg fds) : Binds K fds.last_free ["seen", "left"] [] := Z.f_last_free.bindsN fun _ _ _ _ _ _ us hl => match us, hl with | [_, _], _ => rfl
theorem ok_last_free (Z : Fs P w K mg fds) : FnOk P w K mg base (L2N.CX P w) 2 (He.ga K "last_free") fds.last_free ["seen", "left"] (spD ⟨P, w, K, mg, 0, none, .none⟩ 2 F_last_free) := fn_d (k := 1) Z.f_last_free sc_last_free rfl fun cdv A outer s H E L => by
    have hu := L.u65
    have hu16 := L.u16
    have nd := sc_last_free.nd
    exact (dss_cons (ds_for L.own L.calm (di_rev (de_var 1) Z.n_reversed) (dg_name (i := 2) nd)
    (dss_one (ds_if (dt_tru (de_call (L.call (ok_may_peel Z) (by decide) Z.f_may_peel.kp (bd_may_peel Z) .nil (fun _ _ => .nil)) Z.m_may_peel (da_cons (de_var 0) (da_cons (de_var 1) (da_cons (de_var 2) da_nil)))))
    (dss_one (ds_retV 2))
    dss_nil)))
    (dss_one (ds_ret de_non)))
theorem bd_Peel___init__ (Z : Fs P w K mg fds) : Binds K fds.Peel___init__ ["self", "order", "left"] [] := Z.f_Peel___init__.bindsN fun _ _ _ _ _ _ us hl => match us, hl with | [_, _, _], _ => rfl
theorem ok_Peel___init__ (Z : Fs P w K mg fds) : FnOk P w K mg base (L2N.CX P w) 1 (He.ma K (He.ga K "Peel") "__init__") fds.Peel___init__ ["self", "order", "left"] (spI ⟨P, w, K, mg, 0, none, .none⟩ "Peel" 2 F_Peel___init__) := fn_init (k := 0) Z.f_Peel___init__ sc_Peel___init__ rfl fun cdv A outer s H E L => by
    have hu := L.u65
    have hu16 := L.u16
    have nd := sc_Peel___init__.nd
    exact (dss_cons (ds_fldSet 0 Z.cl_Peel Z.na_Peel_order (de_var 1))
    (dss_one (ds_fldSet 0 Z.cl_Peel Z.na_Peel_left (de_var 2))))
theorem bd_peel (Z : Fs P w K mg fds) : Binds K fds.peel ["seen"] [] := Z.f_peel.bindsN fun _ _ _ _ _ _ us hl => match us, hl with | [_], _ => rfl
theorem ok_peel (Z : Fs P w K mg fds) : FnOk P w K mg base (L2N.CX P w) 3 (He.ga K "peel") fds.peel ["seen"] (spD ⟨P, w, K, mg, 0, none, .none⟩ 1 F_peel) := fn_d (k := 2) Z.f_peel sc_peel rfl fun cdv A outer s H E L => by
    have hu := L.u65
    have hu16 := L.u16
    have nd := sc_peel.nd
    exact (dss_cons (ds_set (i := 1) nd (de_fld (de_var 0) Z.cl_Seen Z.na_Seen_guests))
    (dss_cons (ds_set (i := 2) nd (de_tup da_nil))
    (dss_cons (ds_set (i := 3) nd (de_call (L.call (ok_last_free Z) (by decide) Z.f_last_free.kp (bd_last_free Z) .nil (fun _ _ => .nil)) Z.m_last_free (da_cons (de_var 0) (da_cons (de_var 1) da_nil))))
    (dss_frz 3 (dss_cons (ds_while (fun _ => 100) L.own (dt_notN (de_var 3))
    (dss_cons (ds_set (i := 1) nd (de_tupleC Z.n_tuple (da_cons (de_lc [("other", 4)] L.calm nd (di_any (de_var 1)) rfl (fun s H C cl fp => (dg_name (i := 4) nd)) (fun s H C cl fp => (dts_one (dt_ne hu (de_var 4) (de_var 3)))) (fun s H C cl fp => (de_var 4))) da_nil)))
    (dss_cons (ds_set (i := 2) nd (de_add (de_tup (da_cons (de_var 3) da_nil)) (de_var 2)))
    (dss_frz 2 (dss_cons (ds_set (i := 3) nd (de_call (L.call (ok_last_free Z) (by decide) Z.f_last_free.kp (bd_last_free Z) .nil (fun _ _ => .nil)) Z.m_last_free (da_cons (de_var 0) (da_cons (de_var 1) da_nil))))
    (dss_frz 3 dss_nil))))))
    (dss_frz 2 (dss_frz 3 (dss_cons (ds_if (dt_gt (de_len Z.n_len (da_cons (de_var 1) da_nil)) de_int)
    (dss_one (ds_ret (de_call (L.make Z.mk_Peel (ok_Peel___init__ Z) (by decide) (bd_Peel___init__ Z) .nil (fun _ _ => .nil)) Z.c_Peel (da_cons de_non (da_cons (de_var 1) da_nil)))))
    dss_nil)
    (dss_one (ds_ret (de_call (L.make Z.mk_Peel (ok_Peel___init__ Z) (by decide) (bd_Peel___init__ Z) .nil (fun _ _ => .nil)) Z.c_Peel (da_cons (de_var 2) (da_cons (de_var 1) da_nil)))))))))))))
theorem bd_l_free (Z : Fs P w K mg fds) : Binds K fds.l_free ["_law_seen_here", "_law_left_here", "_law_cloak"] [] := Z.f_l_free.bindsN fun _ _ _ _ _ _ us hl => match us, hl with | [_, _, _], _ => rfl
theorem ok_l_free (Z : Fs P w K mg fds) : FnOk P w K mg base (L2N.CX P w) 1 (He.ga K "_law_free") fds.l_free ["_law_seen_here", "_law_left_here", "_law_cloak"] (spD ⟨P, w, K, mg, 0, none, .none⟩ 3 F_l_free) := fn_d (k := 0) Z.f_l_free sc_l_free rfl fun cdv A outer s H E L => by
    have hu := L.u65
    have hu16 := L.u16
    have nd := sc_l_free.nd
    exact (dss_cons (ds_for L.own L.calm (di_any (de_sub_ix (de_var 0) de_int)) (dg_name (i := 3) nd)
    (dss_one (ds_if (dt_eq hu (de_sub_ix (de_var 3) de_int) (de_var 2))
    (dss_cons (ds_set (i := 4) nd (de_len Z.n_len (da_cons (de_lc [("_law_other", 6)] L.calm nd (di_any (de_sub_ix (de_var 3) de_int)) rfl (fun s H C cl fp => (dg_name (i := 6) nd)) (fun s H C cl fp => (dts_one (dt_in hu (de_var 6) (de_var 1)))) (fun s H C cl fp => (de_var 6))) da_nil)))
    (dss_one (ds_if (dt_gt (de_var 4) (de_sub_ix (de_sub_ix (de_var 0) de_int) (de_index hu (de_sub_ix (de_var 0) de_int) (de_sub_ix (de_var 3) de_int))))
    (dss_one (ds_ret de_bl))
    dss_nil)))
    dss_nil)))
    (dss_cons (ds_for L.own L.calm (di_any (de_sub_ix (de_var 0) de_int)) (dg_name (i := 5) nd)
    (dss_one (ds_if (dw_t (dw_and (dt_eq hu (de_sub_ix (de_var 5) de_int) (de_var 2)) (dw_and1 (dt_in hu (de_sub_ix (de_var 5) de_int) (de_var 1)))))
    (dss_one (ds_ret de_bl))
    dss_nil)))
    (dss_one (ds_ret de_bl))))
theorem bd_l_peeled (Z : Fs P w K mg fds) : Binds K fds.l_peeled ["_law_seen_here"] [] := Z.f_l_peeled.bindsN fun _ _ _ _ _ _ us hl => match us, hl with | [_], _ => rfl
theorem ok_l_peeled (Z : Fs P w K mg fds) : FnOk P w K mg base (L2N.CX P w) 2 (He.ga K "_law_peeled") fds.l_peeled ["_law_seen_here"] (spD ⟨P, w, K, mg, 0, none, .none⟩ 1 F_l_peeled) := fn_d (k := 1) Z.f_l_peeled sc_l_peeled rfl fun cdv A outer s H E L => by
    have hu := L.u65
    have hu16 := L.u16
    have nd := sc_l_peeled.nd
    exact (dss_cons (ds_set (i := 1) nd (de_listC Z.n_list (da_cons (de_sub_ix (de_var 0) de_int) da_nil)))
    (dss_cons (ds_set (i := 2) nd (de_lst da_nil))
    (dss_cons (ds_for L.own L.calm (di_range1 (de_len Z.n_len (da_cons (de_sub_ix (de_var 0) de_int) da_nil)) rfl Z.n_range) (dg_name (i := 3) nd)
    (dss_cons (ds_setLcL 1 (i := 4) [("_law_cloak", 5)] L.calm nd (di_any (de_var 1)) rfl (fun s H C cl fp => (dg_name (i := 5) nd)) (fun s H C cl fp => (dts_one (dt_tru (de_call (L.callB (ok_l_free Z) (by decide) Z.f_l_free.kp (bd_l_free Z) .nil (fun _ _ => .nil)) Z.m_l_free (da_cons (de_var 0) (da_cons (de_var 1) (da_cons (de_var 5) da_nil))))))) (fun s H C cl fp => (de_var 5)) rfl)
    (dss_frz 4 (dss_cons (ds_if (dt_eq hu (de_len Z.n_len (da_cons (de_var 4) da_nil)) de_int)
    (dss_one (ds_ret (de_lst (da_cons de_non (da_cons (de_tupleC Z.n_tuple (da_cons (de_var 1) da_nil)) da_nil)))))
    dss_nil)
    (dss_cons (ds_rem 1 hu (de_sub_ix (de_var 4) (de_neg de_int)))
    (dss_one (ds_ins 2 (da_cons de_int (da_cons (de_sub_ix (de_var 4) (de_neg de_int)) da_nil)))))))))
    (dss_frz 4 (dss_one (ds_ret (de_lst (da_cons (de_tupleC Z.n_tuple (da_cons (de_var 2) da_nil)) (da_cons (de_tup da_nil) da_nil)))))))))
theorem bd_l_whole (Z : Fs P w K mg fds) : Binds K fds.l_whole ["_law_value"] [] := Z.f_l_whole.bindsN fun _ _ _ _ _ _ us hl => match us, hl with | [_], _ => rfl
theorem ok_l_whole (Z : Fs P w K mg fds) : FnOk P w K mg base (L2N.CX P w) 1 (He.ga K "_law_whole") fds.l_whole ["_law_value"] (spD ⟨P, w, K, mg, 0, none, .none⟩ 1 F_l_whole) := fn_d (k := 0) Z.f_l_whole sc_l_whole rfl fun cdv A outer s H E L => by
    have hu := L.u65
    have hu16 := L.u16
    have nd := sc_l_whole.nd
    exact (dss_one (ds_ret (de_and (de_isi Z.n_isinstance (da_cons (de_var 0) (da_cons (de_ty rfl Z.n_int bt_int) da_nil))) (de_one (de_not (de_isi Z.n_isinstance (da_cons (de_var 0) (da_cons (de_ty rfl Z.n_bool bt_bool) da_nil))))))))
theorem bd_l_same (Z : Fs P w K mg fds) : Binds K fds.l_same ["_law_value", "_law_due"] [] := Z.f_l_same.bindsN fun _ _ _ _ _ _ us hl => match us, hl with | [_, _], _ => rfl
theorem ok_l_same : ∀ (n : Nat) (Z : Fs P w K mg fds), FnOk P w K mg base (L2N.CX P w) (1 + n) (He.ga K "_law_same") fds.l_same ["_law_value", "_law_due"] (spD ⟨P, w, K, mg, 0, none, .none⟩ 2 (F_l_same n))
  | 0, Z => fn_stuck rfl
  | n + 1, Z => fn_d (k := 1 + n) Z.f_l_same sc_l_same rfl fun cdv A outer s H E L => by
    have hu := L.u65
    have hu16 := L.u16
    have nd := sc_l_same.nd
    have ih := ok_l_same n Z
    have hrec := Nat.le_refl (1 + n)
    exact (dss_cons (ds_if (dt_tru (de_isi Z.n_isinstance (da_cons (de_var 1) (da_cons (de_ty rfl Z.n_tuple bt_tuple) da_nil))))
    (dss_cons (ds_if (dw_t (dw_or (dt_not (dt_tru (de_isi Z.n_isinstance (da_cons (de_var 0) (da_cons (de_ty rfl Z.n_tuple bt_tuple) da_nil))))) (dw_or1 (dt_ne hu (de_len Z.n_len (da_cons (de_var 0) da_nil)) (de_len Z.n_len (da_cons (de_var 1) da_nil))))))
    (dss_one (ds_ret de_bl))
    dss_nil)
    (dss_cons (ds_for L.own L.calm (di_range1 (de_len Z.n_len (da_cons (de_var 1) da_nil)) rfl Z.n_range) (dg_name (i := 2) nd)
    (dss_one (ds_if (dt_not (dt_tru (de_call (L.call ih hrec Z.f_l_same.kp (bd_l_same Z) .nil (fun _ _ => .nil)) Z.m_l_same (da_cons (de_sub_ix (de_var 0) (de_var 2)) (da_cons (de_sub_ix (de_var 1) (de_var 2)) da_nil)))))
    (dss_one (ds_ret de_bl))
    dss_nil)))
    (dss_one (ds_ret de_bl))))
    dss_nil)
    (dss_cons (ds_if (dt_isN (de_var 1))
    (dss_one (ds_ret (de_isN (de_var 0))))
    dss_nil)
    (dss_cons (ds_if (dt_tru (de_isi Z.n_isinstance (da_cons (de_var 1) (da_cons (de_ty rfl Z.n_str bt_str) da_nil))))
    (dss_one (ds_ret (de_and (de_isi Z.n_isinstance (da_cons (de_var 0) (da_cons (de_ty rfl Z.n_str bt_str) da_nil))) (de_one (de_eq hu (de_var 0) (de_var 1))))))
    dss_nil)
    (dss_one (ds_ret (de_and (de_call (L.call (ok_l_whole Z) (Nat.le_trans (by decide) (Nat.le_add_right 1 n)) Z.f_l_whole.kp (bd_l_whole Z) .nil (fun _ _ => .nil)) Z.m_l_whole (da_cons (de_var 0) da_nil)) (de_one (de_eq hu (de_var 0) (de_var 1)))))))))
theorem bd_is_stuck (Z : Fs P w K mg fds) : Binds K fds.is_stuck ["seen", "lot"] [] := Z.f_is_stuck.bindsN fun _ _ _ _ _ _ us hl => match us, hl with | [_, _], _ => rfl
theorem ok_is_stuck (Z : Fs P w K mg fds) : FnOk P w K mg base (L2N.CX P w) 7 (He.ga K "is_stuck") fds.is_stuck ["seen", "lot"] (spD ⟨P, w, K, mg, 0, none, .none⟩ 2 F_is_stuck) := fn_d (k := 6) Z.f_is_stuck sc_is_stuck rfl fun cdv A outer s H E L => by
    have hu := L.u65
    have hu16 := L.u16
    have nd := sc_is_stuck.nd
    exact (dss_cons (ds_set (i := 2) nd (de_call (L.call (ok_frozen 6 Z) (by decide) Z.f_frozen.kp (bd_frozen Z) .nil (fun _ _ => .nil)) Z.m_frozen (da_cons (de_var 1) da_nil)))
    (dss_frz 2 (dss_cons (ds_if (dt_eq hu (de_len Z.n_len (da_cons (de_var 2) da_nil)) de_int)
    (dss_one (ds_ret de_bl))
    dss_nil)
    (dss_one (ds_ret (de_not (de_anyC L.calm Z.n_any (da_cons (de_lc [("cloak", 3)] L.calm nd (di_any (de_var 2)) rfl (fun s H C cl fp => (dg_name (i := 3) nd)) (fun s H C cl fp => dts_nil) (fun s H C cl fp => (de_call (L.callB (ok_may_peel Z) (by decide) Z.f_may_peel.kp (bd_may_peel Z) .nil (fun _ _ => .nil)) Z.m_may_peel (da_cons (de_var 0) (da_cons (de_var 2) (da_cons (de_var 3) da_nil)))))) da_nil))))))))
theorem bd_l_explains (Z : Fs P w K mg fds) : Binds K fds.l_explains ["_law_order_here", "_law_taking_here", "_law_depth"] [] := Z.f_l_explains.bindsN fun _ _ _ _ _ _ us hl => match us, hl with | [_, _, _], _ => rfl
theorem ok_l_explains (Z : Fs P w K mg fds) : FnOk P w K mg base (L2N.CX P w) 1 (He.ga K "_law_explains") fds.l_explains ["_law_order_here", "_law_taking_here", "_law_depth"] (spD ⟨P, w, K, mg, 0, none, .none⟩ 3 F_l_explains) := fn_d (k := 0) Z.f_l_explains sc_l_explains rfl fun cdv A outer s H E L => by
    have hu := L.u65
    have hu16 := L.u16
    have nd := sc_l_explains.nd
    exact (dss_cons (ds_set (i := 3) nd (de_listC Z.n_list (da_cons (de_var 0) da_nil)))
    (dss_frz 3 (dss_cons (ds_set (i := 4) nd (de_sl01 (de_var 3) (de_index hu (de_var 3) (de_sub_ix (de_var 1) de_int))))
    (dss_frz 4 (dss_one (ds_ret (de_lt (de_len Z.n_len (da_cons (de_lc [("_law_cloak", 5)] L.calm nd (di_any (de_sub_ix (de_var 1) de_int)) rfl (fun s H C cl fp => (dg_name (i := 5) nd)) (fun s H C cl fp => (dts_one (dt_in hu (de_var 5) (de_var 4)))) (fun s H C cl fp => (de_var 5))) da_nil)) (de_var 2))))))))
theorem bd_l_fits (Z : Fs P w K mg fds) : Binds K fds.l_fits ["_law_seen_here", "_law_order_here"] [] := Z.f_l_fits.bindsN fun _ _ _ _ _ _ us hl => match us, hl with | [_, _], _ => rfl
theorem ok_l_fits (Z : Fs P w K mg fds) : FnOk P w K mg base (L2N.CX P w) 2 (He.ga K "_law_fits") fds.l_fits ["_law_seen_here", "_law_order_here"] (spD ⟨P, w, K, mg, 0, none, .none⟩ 2 F_l_fits) := fn_d (k := 1) Z.f_l_fits sc_l_fits rfl fun cdv A outer s H E L => by
    have hu := L.u65
    have hu16 := L.u16
    have nd := sc_l_fits.nd
    exact (dss_cons (ds_set (i := 2) nd (de_listC Z.n_list (da_cons (de_var 1) da_nil)))
    (dss_frz 2 (dss_cons (ds_for L.own L.calm (di_any (de_sub_ix (de_var 0) de_int)) (dg_name (i := 3) nd)
    (dss_one (ds_if (dt_not (dt_tru (de_call (L.call (ok_l_explains Z) (by decide) Z.f_l_explains.kp (bd_l_explains Z) .nil (fun _ _ => .nil)) Z.m_l_explains (da_cons (de_var 2) (da_cons (de_var 3) (da_cons (de_sub_ix (de_sub_ix (de_var 0) de_int) (de_index hu (de_sub_ix (de_var 0) de_int) (de_sub_ix (de_var 3) de_int))) da_nil))))))
    (dss_one (ds_ret de_bl))
    dss_nil)))
    (dss_cons (ds_for L.own L.calm (di_any (de_sub_ix (de_var 0) de_int)) (dg_name (i := 4) nd)
    (dss_one (ds_if (dt_gt (de_index hu (de_var 2) (de_sub_ix (de_var 4) de_int)) (de_index hu (de_var 2) (de_sub_ix (de_var 4) de_int)))
    (dss_one (ds_ret de_bl))
    dss_nil)))
    (dss_one (ds_ret de_bl))))))
theorem bd_l_stuck (Z : Fs P w K mg fds) : Binds K fds.l_stuck ["_law_seen_here", "_law_lot"] [] := Z.f_l_stuck.bindsN fun _ _ _ _ _ _ us hl => match us, hl with | [_, _], _ => rfl
theorem ok_l_stuck (Z : Fs P w K mg fds) : FnOk P w K mg base (L2N.CX P w) 1 (He.ga K "_law_stuck") fds.l_stuck ["_law_seen_here", "_law_lot"] (spD ⟨P, w, K, mg, 0, none, .none⟩ 2 F_l_stuck) := fn_d (k := 0) Z.f_l_stuck sc_l_stuck rfl fun cdv A outer s H E L => by
    have hu := L.u65
    have hu16 := L.u16
    have nd := sc_l_stuck.nd
    exact (dss_cons (ds_for L.own L.calm (di_any (de_var 1)) (dg_name (i := 2) nd)
    (dss_cons (ds_set (i := 3) nd de_bl)
    (dss_cons (ds_for L.own L.calm (di_any (de_sub_ix (de_var 0) de_int)) (dg_name (i := 4) nd)
    (dss_one (ds_if (dt_eq hu (de_sub_ix (de_var 4) de_int) (de_var 2))
    (dss_cons (ds_set (i := 5) nd (de_len Z.n_len (da_cons (de_lc [("_law_other", 7)] L.calm nd (di_any (de_sub_ix (de_var 4) de_int)) rfl (fun s H C cl fp => (dg_name (i := 7) nd)) (fun s H C cl fp => (dts_one (dt_in hu (de_var 7) (de_var 1)))) (fun s H C cl fp => (de_var 7))) da_nil)))
    (dss_one (ds_set (i := 3) nd (de_or (de_var 3) (de_one (de_gt (de_var 5) (de_sub_ix (de_sub_ix (de_var 0) de_int) (de_index hu (de_sub_ix (de_var 0) de_int) (de_sub_ix (de_var 4) de_int)))))))))
    dss_nil)))
    (dss_cons (ds_for L.own L.calm (di_any (de_sub_ix (de_var 0) de_int)) (dg_name (i := 6) nd)
    (dss_one (ds_if (dw_t (dw_and (dt_eq hu (de_sub_ix (de_var 6) de_int) (de_var 2)) (dw_and1 (dt_in hu (de_sub_ix (de_var 6) de_int) (de_var 1)))))
    (dss_one (ds_set (i := 3) nd de_bl))
    dss_nil)))
    (dss_one (ds_if (dt_not (dt_tru (de_var 3)))
    (dss_one (ds_ret de_bl))
    dss_nil))))))
    (dss_one (ds_ret (de_gt (de_len Z.n_len (da_cons (de_var 1) da_nil)) de_int))))
theorem bd_l_orders (Z : Fs P w K mg fds) : Binds K fds.l_orders ["_law_names_here"] [] := Z.f_l_orders.bindsN fun _ _ _ _ _ _ us hl => match us, hl with | [_], _ => rfl
theorem ok_l_orders (Z : Fs P w K mg fds) : FnOk P w K mg base (L2N.CX P w) 1 (He.ga K "_law_orders") fds.l_orders ["_law_names_here"] (spD ⟨P, w, K, mg, 0, none, .none⟩ 1 F_l_orders) := fn_d (k := 0) Z.f_l_orders sc_l_orders rfl fun cdv A outer s H E L => by
    have hu := L.u65
    have hu16 := L.u16
    have nd := sc_l_orders.nd
    exact (dss_cons (ds_set (i := 1) nd (de_lst (da_cons (de_tup da_nil) da_nil)))
    (dss_frz 1 (dss_cons (ds_for L.own L.calm (di_range1 (de_len Z.n_len (da_cons (de_var 0) da_nil)) rfl Z.n_range) (dg_name (i := 2) nd)
    (dss_cons (ds_set (i := 3) nd (de_lst da_nil))
    (dss_cons (ds_for L.own L.calm (di_any (de_var 1)) (dg_name (i := 4) nd)
    (dss_one (ds_for L.own L.calm (di_any (de_var 0)) (dg_name (i := 5) nd)
    (dss_one (ds_if (dt_notIn hu (de_var 5) (de_var 4))
    (dss_one (ds_app 3 (de_add (de_var 4) (de_tup (da_cons (de_var 5) da_nil)))))
    dss_nil)))))
    (dss_cons (ds_set (i := 1) nd (de_listC Z.n_list (da_cons (de_var 3) da_nil)))
    (dss_frz 1 dss_nil)))))
    (dss_frz 1 (dss_one (ds_retV 1))))))
theorem bd_l_right (Z : Fs P w K mg fds) : Binds K fds.l_right ["_law_made_here", "_law_seen_here", "_law_result"] [] := Z.f_l_right.bindsN fun _ _ _ _ _ _ us hl => match us, hl with | [_, _, _], _ => rfl
theorem ok_l_right (Z : Fs P w K mg fds) : FnOk P w K mg base (L2N.CX P w) 8 (He.ga K "_law_right") fds.l_right ["_law_made_here", "_law_seen_here", "_law_result"] (spD ⟨P, w, K, mg, 0, none, .none⟩ 3 F_l_right) := fn_d (k := 7) Z.f_l_right sc_l_right rfl fun cdv A outer s H E L => by
    have hu := L.u65
    have hu16 := L.u16
    have nd := sc_l_right.nd
    exact (dss_cons (ds_set (i := 3) nd (de_call (L.call (ok_l_peeled Z) (by decide) Z.f_l_peeled.kp (bd_l_peeled Z) .nil (fun _ _ => .nil)) Z.m_l_peeled (da_cons (de_var 1) da_nil)))
    (dss_frz 3 (dss_cons (ds_if (dw_t (dw_or (dt_not (dt_tru (de_call (L.call (ok_l_same 5 Z) (by decide) Z.f_l_same.kp (bd_l_same Z) .nil (fun _ _ => .nil)) Z.m_l_same (da_cons (de_fld (de_var 2) Z.cl_Peel Z.na_Peel_order) (da_cons (de_sub_ix (de_var 3) de_int) da_nil))))) (dw_or1 (dt_not (dt_tru (de_call (L.call (ok_l_same 5 Z) (by decide) Z.f_l_same.kp (bd_l_same Z) .nil (fun _ _ => .nil)) Z.m_l_same (da_cons (de_fld (de_var 2) Z.cl_Peel Z.na_Peel_left) (da_cons (de_sub_ix (de_var 3) de_int) da_nil))))))))
    (dss_one (ds_ret de_bl))
    dss_nil)
    (dss_cons (ds_set (i := 4) nd (de_call (L.call (ok_is_stuck Z) (by decide) Z.f_is_stuck.kp (bd_is_stuck Z) .nil (fun _ _ => .nil)) Z.m_is_stuck (da_cons (de_var 0) (da_cons (de_fld (de_var 2) Z.cl_Peel Z.na_Peel_left) da_nil))))
    (dss_frz 4 (dss_cons (ds_if (dw_t (dw_or (dt_not (dt_tru (de_isi Z.n_isinstance (da_cons (de_var 4) (da_cons (de_ty rfl Z.n_bool bt_bool) da_nil))))) (dw_or1 (dt_ne hu (de_var 4) (de_isN (de_fld (de_var 2) Z.cl_Peel Z.na_Peel_order))))))
    (dss_one (ds_ret de_bl))
    dss_nil)
    (dss_cons (ds_if (dt_notN (de_fld (de_var 2) Z.cl_Peel Z.na_Peel_order))
    (dss_one (ds_ret (de_and (de_eq hu (de_len Z.n_len (da_cons (de_fld (de_var 2) Z.cl_Peel Z.na_Peel_left) da_nil)) de_int) (de_one (de_call (L.call (ok_l_fits Z) (by decide) Z.f_l_fits.kp (bd_l_fits Z) .nil (fun _ _ => .nil)) Z.m_l_fits (da_cons (de_var 1) (da_cons (de_fld (de_var 2) Z.cl_Peel Z.na_Peel_order) da_nil)))))))
    dss_nil)
    (dss_cons (ds_if (dt_not (dt_tru (de_call (L.call (ok_l_stuck Z) (by decide) Z.f_l_stuck.kp (bd_l_stuck Z) .nil (fun _ _ => .nil)) Z.m_l_stuck (da_cons (de_var 1) (da_cons (de_fld (de_var 2) Z.cl_Peel Z.na_Peel_left) da_nil)))))
    (dss_one (ds_ret de_bl))
    dss_nil)
    (dss_cons (ds_if (dt_gt (de_len Z.n_len (da_cons (de_sub_ix (de_var 1) de_int) da_nil)) de_int)
    (dss_one (ds_ret de_bl))
    dss_nil)
    (dss_one (ds_ret (de_eq hu (de_len Z.n_len (da_cons (de_lc [("_law_order_here", 5)] L.calm nd (di_any (de_call (L.call (ok_l_orders Z) (by decide) Z.f_l_orders.kp (bd_l_orders Z) .nil (fun _ _ => .nil)) Z.m_l_orders (da_cons (de_sub_ix (de_var 1) de_int) da_nil))) rfl (fun s H C cl fp => (dg_name (i := 5) nd)) (fun s H C cl fp => (dts_one (dt_tru (de_call (L.callB (ok_l_fits Z) (by decide) Z.f_l_fits.kp (bd_l_fits Z) .nil (fun _ _ => .nil)) Z.m_l_fits (da_cons (de_var 1) (da_cons (de_var 5) da_nil)))))) (fun s H C cl fp => (de_var 5))) da_nil)) de_int))))))))))))
theorem bd_l_left (Z : Fs P w K mg fds) : Binds K fds.l_left ["_law_seen_here", "_law_row"] [] := Z.f_l_left.bindsN fun _ _ _ _ _ _ us hl => match us, hl with | [_, _], _ => rfl
theorem ok_l_left (Z : Fs P w K mg fds) : FnOk P w K mg base (L2N.CX P w) 2 (He.ga K "_law_left") fds.l_left ["_law_seen_here", "_law_row"] (spD ⟨P, w, K, mg, 0, none, .none⟩ 2 F_l_left) := fn_d (k := 1) Z.f_l_left sc_l_left rfl fun cdv A outer s H E L => by
    have hu := L.u65
    have hu16 := L.u16
    have nd := sc_l_left.nd
    exact (dss_cons (ds_set (i := 2) nd (de_listC Z.n_list (da_cons (de_sub_ix (de_var 0) de_int) da_nil)))
    (dss_cons (ds_for L.own L.calm (di_any (de_sl01 (de_var 1) (de_len Z.n_len (da_cons (de_sub_ix (de_var 0) de_int) da_nil)))) (dg_name (i := 3) nd)
    (dss_cons (ds_setLcL 2 (i := 4) [("_law_cloak", 5)] L.calm nd (di_any (de_var 2)) rfl (fun s H C cl fp => (dg_name (i := 5) nd)) (fun s H C cl fp => (dts_one (dt_tru (de_call (L.callB (ok_l_free Z) (by decide) Z.f_l_free.kp (bd_l_free Z) .nil (fun _ _ => .nil)) Z.m_l_free (da_cons (de_var 0) (da_cons (de_var 2) (da_cons (de_var 5) da_nil))))))) (fun s H C cl fp => (de_var 5)) rfl)
    (dss_frz 4 (dss_one (ds_if (dt_gt (de_len Z.n_len (da_cons (de_var 4) da_nil)) de_int)
    (dss_one (ds_rem 2 hu (de_sub_ix (de_var 4) (de_mod (de_intC Z.n_int (da_cons (de_var 3) da_nil)) (de_len Z.n_len (da_cons (de_var 4) da_nil))))))
    dss_nil)))))
    (dss_frz 4 (dss_one (ds_ret (de_tupleC Z.n_tuple (da_cons (de_var 2) da_nil)))))))
theorem bd_l_lots (Z : Fs P w K mg fds) : Binds K fds.l_lots ["_law_seen_here", "_law_row"] [] := Z.f_l_lots.bindsN fun _ _ _ _ _ _ us hl => match us, hl with | [_, _], _ => rfl
theorem ok_l_lots (Z : Fs P w K mg fds) : FnOk P w K mg base (L2N.CX P w) 3 (He.ga K "_law_lots") fds.l_lots ["_law_seen_here", "_law_row"] (spD ⟨P, w, K, mg, 0, none, .none⟩ 2 F_l_lots) := fn_d (k := 2) Z.f_l_lots sc_l_lots rfl fun cdv A outer s H E L => by
    have hu := L.u65
    have hu16 := L.u16
    have nd := sc_l_lots.nd
    exact (dss_cons (ds_set (i := 2) nd (de_sub_ix (de_var 0) de_int))
    (dss_frz 2 (dss_cons (ds_set (i := 3) nd (de_lst (da_cons (de_tup da_nil) da_nil)))
    (dss_cons (ds_if (dt_le (de_len Z.n_len (da_cons (de_var 2) da_nil)) de_int)
    (dss_one (ds_for L.own L.calm (di_any (de_var 2)) (dg_name (i := 4) nd)
    (dss_one (ds_set (i := 3) nd (de_add (de_var 3) (de_lend 3 (de_lc [("_law_lot", 9)] L.calm nd (di_any (de_var 3)) rfl (fun s H C cl fp => (dg_name (i := 9) nd)) (fun s H C cl fp => dts_nil) (fun s H C cl fp => (de_add (de_var 9) (de_tup (da_cons (de_var 4) da_nil)))))))))))
    (dss_cons (ds_set (i := 5) nd (de_sub_ix (de_call (L.call (ok_l_peeled Z) (by decide) Z.f_l_peeled.kp (bd_l_peeled Z) .nil (fun _ _ => .nil)) Z.m_l_peeled (da_cons (de_var 0) da_nil)) de_int))
    (dss_frz 5 (dss_cons (ds_set (i := 3) nd (de_add (de_var 3) (de_lst (da_cons (de_var 5) (da_cons (de_tupleC Z.n_tuple (da_cons (de_var 2) da_nil)) (da_cons (de_tup (da_cons (de_sub_ix (de_var 2) de_int) da_nil)) (da_cons (de_tup (da_cons (de_sub_ix (de_var 2) (de_neg de_int)) da_nil)) da_nil)))))))
    (dss_cons (ds_for L.own L.calm (di_any (de_var 2)) (dg_name (i := 4) nd)
    (dss_one (ds_if (dt_in hu (de_var 4) (de_var 5))
    (dss_one (ds_app 3 (de_tupleC Z.n_tuple (da_cons (de_lc [("_law_other", 10)] L.calm nd (di_any (de_var 5)) rfl (fun s H C cl fp => (dg_name (i := 10) nd)) (fun s H C cl fp => (dts_one (dt_ne hu (de_var 10) (de_var 4)))) (fun s H C cl fp => (de_var 10))) da_nil))))
    (dss_one (ds_app 3 (de_add (de_var 5) (de_tup (da_cons (de_var 4) da_nil))))))))
    (dss_one (ds_for L.own L.calm (di_range1 de_int rfl Z.n_range) (dg_name (i := 6) nd)
    (dss_cons (ds_set (i := 7) nd (de_sl11 (de_var 1) (de_mul de_int (de_var 6)) (de_add (de_mul de_int (de_var 6)) de_int)))
    (dss_frz 7 (dss_one (ds_app 3 (de_tupleC Z.n_tuple (da_cons (de_lc [("_law_spot", 11)] L.calm nd (di_range1 (de_len Z.n_len (da_cons (de_var 2) da_nil)) rfl Z.n_range) rfl (fun s H C cl fp => (dg_name (i := 11) nd)) (fun s H C cl fp => (dts_one (dt_gt (de_sub_ix (de_var 7) (de_var 11)) de_int))) (fun s H C cl fp => (de_sub_ix (de_var 2) (de_var 11)))) da_nil)))))))))))))
    (dss_frz 5 (dss_frz 7 (dss_cons (ds_set (i := 8) nd (de_lst da_nil))
    (dss_cons (ds_for L.own L.calm (di_range1 (de_len Z.n_len (da_cons (de_var 3) da_nil)) rfl Z.n_range) (dg_name (i := 6) nd)
    (dss_cons (ds_set (i := 9) nd (de_sub_ix (de_var 3) (de_var 6)))
    (dss_frz 9 (dss_one (ds_app 8 (de_tupleC Z.n_tuple (da_cons (de_lc [("_law_spot", 11)] L.calm nd (di_any (de_call (L.call (ok_l_order Z) (by decide) Z.f_l_order.kp (bd_l_order Z) .nil (fun _ _ => .nil)) Z.m_l_order (da_cons (de_sl11 (de_var 1) (de_var 6) (de_add (de_var 6) de_int)) (da_cons (de_len Z.n_len (da_cons (de_var 9) da_nil)) da_nil)))) rfl (fun s H C cl fp => (dg_name (i := 11) nd)) (fun s H C cl fp => dts_nil) (fun s H C cl fp => (de_sub_ix (de_var 9) (de_var 11)))) da_nil)))))))
    (dss_frz 9 (dss_one (ds_retV 8)))))))))))
theorem bd_l_judged (Z : Fs P w K mg fds) : Binds K fds.l_judged ["_law_made_here", "_law_seen_here", "_law_lots_here", "_law_left_here", "_law_listed"] [] := Z.f_l_judged.bindsN fun _ _ _ _ _ _ us hl => match us, hl with | [_, _, _, _, _], _ => rfl
theorem ok_l_judged (Z : Fs P w K mg fds) : FnOk P w K mg base (L2N.CX P w) 8 (He.ga K "_law_judged") fds.l_judged ["_law_made_here", "_law_seen_here", "_law_lots_here", "_law_left_here", "_law_listed"] (spD ⟨P, w, K, mg, 0, none, .none⟩ 5 F_l_judged) := fn_d (k := 7) Z.f_l_judged sc_l_judged rfl fun cdv A outer s H E L => by
    have hu := L.u65
    have hu16 := L.u16
    have nd := sc_l_judged.nd
    exact (dss_cons (ds_set (i := 5) nd de_bl)
    (dss_cons (ds_for L.own L.calm (di_any (de_var 2)) (dg_name (i := 6) nd)
    (dss_cons (ds_set (i := 7) nd (de_var 6))
    (dss_cons (ds_if (dt_tru (de_var 4))
    (dss_one (ds_set (i := 7) nd (de_listC Z.n_list (da_cons (de_var 6) da_nil))))
    dss_nil)
    (dss_frz 7 (dss_cons (ds_set (i := 8) nd (de_call (L.call (ok_is_stuck Z) (by decide) Z.f_is_stuck.kp (bd_is_stuck Z) .nil (fun _ _ => .nil)) Z.m_is_stuck (da_cons (de_var 0) (da_cons (de_var 7) da_nil))))
    (dss_frz 8 (dss_cons (ds_if (dw_t (dw_or (dt_not (dt_tru (de_isi Z.n_isinstance (da_cons (de_var 8) (da_cons (de_ty rfl Z.n_bool bt_bool) da_nil))))) (dw_or (dt_ne hu (de_var 8) (de_call (L.call (ok_l_stuck Z) (by decide) Z.f_l_stuck.kp (bd_l_stuck Z) .nil (fun _ _ => .nil)) Z.m_l_stuck (da_cons (de_var 1) (da_cons (de_var 6) da_nil)))) (dw_or1 (dt_ne hu (de_tupleC Z.n_tuple (da_cons (de_var 7) da_nil)) (de_var 6))))))
    (dss_one (ds_ret (de_lst (da_cons de_bl (da_cons de_bl da_nil)))))
    dss_nil)
    (dss_one (ds_if (dt_tru (de_var 8))
    (dss_cons (ds_set (i := 5) nd de_bl)
    (dss_one (ds_if (dt_gt (de_len Z.n_len (da_cons (de_lc [("_law_cloak", 9)] L.calm nd (di_any (de_var 6)) rfl (fun s H C cl fp => (dg_name (i := 9) nd)) (fun s H C cl fp => (dts_one (dt_notIn hu (de_var 9) (de_var 3)))) (fun s H C cl fp => (de_var 9))) da_nil)) de_int)
    (dss_one (ds_ret (de_lst (da_cons de_bl (da_cons de_bl da_nil)))))
    dss_nil)))
    dss_nil)))))))))
    (dss_frz 7 (dss_frz 8 (dss_one (ds_ret (de_lst (da_cons de_bl (da_cons (de_var 5) da_nil)))))))))
theorem bd_l_asked (Z : Fs P w K mg fds) : Binds K fds.l_asked ["_law_made_here", "_law_seen_here", "_law_lots_here", "_law_listed"] [] := Z.f_l_asked.bindsN fun _ _ _ _ _ _ us hl => match us, hl with | [_, _, _, _], _ => rfl
theorem ok_l_asked (Z : Fs P w K mg fds) : FnOk P w K mg base (L2N.CX P w) 9 (He.ga K "_law_asked") fds.l_asked ["_law_made_here", "_law_seen_here", "_law_lots_here", "_law_listed"] (spD ⟨P, w, K, mg, 0, none, .none⟩ 4 F_l_asked) := fn_d (k := 8) Z.f_l_asked sc_l_asked rfl fun cdv A outer s H E L => by
    have hu := L.u65
    have hu16 := L.u16
    have nd := sc_l_asked.nd
    exact (dss_cons (ds_set (i := 4) nd (de_call (L.call (ok_peel Z) (by decide) Z.f_peel.kp (bd_peel Z) .nil (fun _ _ => .nil)) Z.m_peel (da_cons (de_var 0) da_nil)))
    (dss_frz 4 (dss_cons (ds_if (dt_not (dt_tru (de_call (L.call (ok_l_right Z) (by decide) Z.f_l_right.kp (bd_l_right Z) .nil (fun _ _ => .nil)) Z.m_l_right (da_cons (de_var 0) (da_cons (de_var 1) (da_cons (de_var 4) da_nil))))))
    (dss_one (ds_ret de_non))
    dss_nil)
    (dss_cons (ds_set (i := 5) nd (de_call (L.call (ok_l_judged Z) (by decide) Z.f_l_judged.kp (bd_l_judged Z) .nil (fun _ _ => .nil)) Z.m_l_judged (da_cons (de_var 0) (da_cons (de_var 1) (da_cons (de_var 2) (da_cons (de_fld (de_var 4) Z.cl_Peel Z.na_Peel_left) (da_cons (de_var 3) da_nil)))))))
    (dss_frz 5 (dss_cons (ds_if (dw_t (dw_or (dt_not (dt_tru (de_sub_ix (de_var 5) de_int))) (dw_or1 (dw_t (dw_and (dt_tru (de_sub_ix (de_var 5) de_int)) (dw_and1 (dt_notN (de_fld (de_var 4) Z.cl_Peel Z.na_Peel_order))))))))
    (dss_one (ds_ret de_non))
    dss_nil)
    (dss_one (ds_retV 4))))))))
theorem bd_Seen_tied (Z : Fs P w K mg fds) : Binds K fds.Seen_tied ["self", "better", "worse"] [] := Z.f_Seen_tied.bindsN fun _ _ _ _ _ _ us hl => match us, hl with | [_, _, _], _ => rfl
theorem ok_Seen_tied (Z : Fs P w K mg fds) : FnOk P w K mg base (L2N.CX P w) 9 (He.ma K (He.ga K "Seen") "tied") fds.Seen_tied ["self", "better", "worse"] (spD ⟨P, w, K, mg, 0, none, .none⟩ 3 F_Seen_tied) := fn_d (k := 8) Z.f_Seen_tied sc_Seen_tied rfl fun cdv A outer s H E L => by
    have hu := L.u65
    have hu16 := L.u16
    have nd := sc_Seen_tied.nd
    exact (dss_one (ds_ret (de_call (L.make Z.mk_Seen (ok_Seen___init__ Z) (by decide) (bd_Seen___init__ Z) .nil (fun _ _ => .nil)) Z.c_Seen (da_cons (de_fld (de_var 0) Z.cl_Seen Z.na_Seen_guests) (da_cons (de_fld (de_var 0) Z.cl_Seen Z.na_Seen_takings) (da_cons (de_fld (de_var 0) Z.cl_Seen Z.na_Seen_depths) (da_cons (de_add (de_fld (de_var 0) Z.cl_Seen Z.na_Seen_ties) (de_tup (da_cons (de_tup (da_cons (de_var 1) (da_cons (de_var 2) da_nil))) da_nil))) da_nil)))))))
theorem bd_law (Z : Fs P w K mg fds) : Binds K fds.law ["_law_script"] [] := Z.f_law.bindsN fun _ _ _ _ _ _ us hl => match us, hl with | [_], _ => rfl
theorem ok_law (Z : Fs P w K mg fds) : FnOk P w K mg base (L2N.CX P w) 10 (He.ga K "law") fds.law ["_law_script"] (spD ⟨P, w, K, mg, 0, none, .none⟩ 1 F_law) := fn_d (k := 9) Z.f_law sc_law rfl fun cdv A outer s H E L => by
    have hu := L.u65
    have hu16 := L.u16
    have nd := sc_law.nd
    exact (dss_cons (ds_set (i := 1) nd (de_call (L.call (ok_l_digits Z) (by decide) Z.f_l_digits.kp (bd_l_digits Z) .nil (fun _ _ => .nil)) Z.m_l_digits (da_cons (de_call (L.call (ok_l_cell Z) (by decide) Z.f_l_cell.kp (bd_l_cell Z) .nil (fun _ _ => .nil)) Z.m_l_cell (da_cons (de_var 0) (da_cons de_int da_nil))) (da_cons (de_lst (da_cons de_int (da_cons de_int (da_cons de_int (da_cons de_int da_nil))))) da_nil))))
    (dss_frz 1 (dss_cons (ds_set (i := 2) nd (de_call (L.call (ok_l_seen Z) (by decide) Z.f_l_seen.kp (bd_l_seen Z) .nil (fun _ _ => .nil)) Z.m_l_seen (da_cons (de_var 0) (da_cons de_int (da_cons (de_sub_ix (de_lst (da_cons de_int (da_cons de_int da_nil))) (de_intC Z.n_int (da_cons (de_eq hu (de_sub_ix (de_var 1) de_int) de_int) da_nil))) (da_cons (de_sub_ix (de_lst (da_cons de_int (da_cons de_int da_nil))) (de_intC Z.n_int (da_cons (de_eq hu (de_sub_ix (de_var 1) de_int) de_int) da_nil))) da_nil))))))
    (dss_frz 2 (dss_cons (ds_set (i := 3) nd (de_call (L.call (ok_l_made Z) (by decide) Z.f_l_made.kp (bd_l_made Z) .nil (fun _ _ => .nil)) Z.m_l_made (da_cons (de_var 2) (da_cons (de_sub_ix (de_var 1) de_int) da_nil))))
    (dss_frz 3 (dss_cons (ds_set (i := 4) nd (de_call (L.call (ok_peel Z) (by decide) Z.f_peel.kp (bd_peel Z) .nil (fun _ _ => .nil)) Z.m_peel (da_cons (de_var 3) da_nil)))
    (dss_frz 4 (dss_cons (ds_if (dt_not (dt_tru (de_call (L.call (ok_l_right Z) (by decide) Z.f_l_right.kp (bd_l_right Z) .nil (fun _ _ => .nil)) Z.m_l_right (da_cons (de_var 3) (da_cons (de_var 2) (da_cons (de_var 4) da_nil))))))
    (dss_one (ds_ret de_bl))
    dss_nil)
    (dss_cons (ds_set (i := 5) nd (de_call (L.call (ok_l_digits Z) (by decide) Z.f_l_digits.kp (bd_l_digits Z) .nil (fun _ _ => .nil)) Z.m_l_digits (da_cons (de_call (L.call (ok_l_cell Z) (by decide) Z.f_l_cell.kp (bd_l_cell Z) .nil (fun _ _ => .nil)) Z.m_l_cell (da_cons (de_var 0) (da_cons de_int da_nil))) (da_cons (de_add (de_mul (de_lst (da_cons de_int da_nil)) de_int) (de_lst (da_cons de_int da_nil))) da_nil))))
    (dss_frz 5 (dss_cons (ds_if (dt_ne hu (de_call (L.call (ok_l_left Z) (by decide) Z.f_l_left.kp (bd_l_left Z) .nil (fun _ _ => .nil)) Z.m_l_left (da_cons (de_var 2) (da_cons (de_var 5) da_nil))) (de_fld (de_var 4) Z.cl_Peel Z.na_Peel_left))
    (dss_one (ds_ret de_bl))
    dss_nil)
    (dss_cons (ds_set (i := 6) nd (de_call (L.call (ok_l_lots Z) (by decide) Z.f_l_lots.kp (bd_l_lots Z) .nil (fun _ _ => .nil)) Z.m_l_lots (da_cons (de_var 2) (da_cons (de_call (L.call (ok_l_digits Z) (by decide) Z.f_l_digits.kp (bd_l_digits Z) .nil (fun _ _ => .nil)) Z.m_l_digits (da_cons (de_call (L.call (ok_l_cell Z) (by decide) Z.f_l_cell.kp (bd_l_cell Z) .nil (fun _ _ => .nil)) Z.m_l_cell (da_cons (de_var 0) (da_cons de_int da_nil))) (da_cons (de_mul (de_lst (da_cons de_int da_nil)) de_int) da_nil))) da_nil))))
    (dss_frz 6 (dss_cons (ds_set (i := 7) nd (de_call (L.call (ok_l_judged Z) (by decide) Z.f_l_judged.kp (bd_l_judged Z) .nil (fun _ _ => .nil)) Z.m_l_judged (da_cons (de_var 3) (da_cons (de_var 2) (da_cons (de_var 6) (da_cons (de_fld (de_var 4) Z.cl_Peel Z.na_Peel_left) (da_cons (de_eq hu (de_sub_ix (de_var 1) de_int) de_int) da_nil)))))))
    (dss_frz 7 (dss_cons (ds_if (dw_t (dw_or (dt_not (dt_tru (de_sub_ix (de_var 7) de_int))) (dw_or1 (dt_ne hu (de_sub_ix (de_var 7) de_int) (de_isN (de_fld (de_var 4) Z.cl_Peel Z.na_Peel_order))))))
    (dss_one (ds_ret de_bl))
    dss_nil)
    (dss_cons (ds_for L.own L.calm (di_any (de_lst (da_cons (de_sub_ix (de_var 2) de_int) (da_cons (de_sl01 (de_sub_ix (de_var 2) de_int) (de_neg de_int)) da_nil)))) (dg_name (i := 8) nd)
    (dss_cons (ds_set (i := 9) nd (de_lst (da_cons (de_sub_ix (de_var 2) de_int) (da_cons (de_sl01 (de_sub_ix (de_var 2) de_int) (de_neg de_int)) (da_cons (de_sub_ix (de_var 2) de_int) (da_cons (de_var 8) da_nil))))))
    (dss_frz 9 (dss_cons (ds_set (i := 10) nd (de_call (L.call (ok_l_asked Z) (by decide) Z.f_l_asked.kp (bd_l_asked Z) .nil (fun _ _ => .nil)) Z.m_l_asked (da_cons (de_call (L.call (ok_l_made Z) (by decide) Z.f_l_made.kp (bd_l_made Z) .nil (fun _ _ => .nil)) Z.m_l_made (da_cons (de_var 9) (da_cons (de_mod (de_intC Z.n_int (da_cons (de_add (de_sub_ix (de_var 1) de_int) de_int) da_nil)) de_int) da_nil))) (da_cons (de_var 9) (da_cons (de_sl10 (de_var 6) (de_neg de_int)) (da_cons (de_eq hu (de_sub_ix (de_var 1) de_int) de_int) da_nil))))))
    (dss_frz 10 (dss_one (ds_if (dw_t (dw_or (dt_isN (de_var 10)) (dw_or1 (dt_gt (de_len Z.n_len (da_cons (de_lc [("_law_cloak", 17)] L.calm nd (di_any (de_fld (de_var 10) Z.cl_Peel Z.na_Peel_left)) rfl (fun s H C cl fp => (dg_name (i := 17) nd)) (fun s H C cl fp => (dts_one (dt_notIn hu (de_var 17) (de_fld (de_var 4) Z.cl_Peel Z.na_Peel_left)))) (fun s H C cl fp => (de_var 17))) da_nil)) de_int))))
    (dss_one (ds_ret de_bl))
    dss_nil)))))))
    (dss_frz 9 (dss_frz 10 (dss_cons (ds_set (i := 11) nd (de_sub_ix (de_sub_ix (de_var 2) de_int) (de_mod (de_intC Z.n_int (da_cons (de_sub_ix (de_var 5) de_int) da_nil)) (de_len Z.n_len (da_cons (de_sub_ix (de_var 2) de_int) da_nil)))))
    (dss_frz 11 (dss_cons (ds_setLc (i := 12) [("_law_name", 18)] L.calm nd (di_any (de_sub_ix (de_var 2) de_int)) rfl (fun s H C cl fp => (dg_name (i := 18) nd)) (fun s H C cl fp => (dts_one (dt_ne hu (de_var 18) (de_var 11)))) (fun s H C cl fp => (de_var 18)) rfl)
    (dss_frz 12 (dss_cons (ds_if (dt_gt (de_len Z.n_len (da_cons (de_var 12) da_nil)) de_int)
    (dss_cons (ds_set (i := 13) nd (de_sub_ix (de_var 12) (de_mod (de_intC Z.n_int (da_cons (de_sub_ix (de_var 5) de_int) da_nil)) (de_len Z.n_len (da_cons (de_var 12) da_nil)))))
    (dss_frz 13 (dss_cons (ds_set (i := 14) nd (de_lst (da_cons (de_sub_ix (de_var 2) de_int) (da_cons (de_sub_ix (de_var 2) de_int) (da_cons (de_sub_ix (de_var 2) de_int) (da_cons (de_add (de_listC Z.n_list (da_cons (de_sub_ix (de_var 2) de_int) da_nil)) (de_lst (da_cons (de_tup (da_cons (de_var 11) (da_cons (de_var 13) da_nil))) da_nil))) da_nil))))))
    (dss_frz 14 (dss_cons (ds_set (i := 15) nd (de_call (L.call (ok_l_asked Z) (by decide) Z.f_l_asked.kp (bd_l_asked Z) .nil (fun _ _ => .nil)) Z.m_l_asked (da_cons (de_meth (de_var 3) Z.cl_Seen Z.me_Seen_tied (L.call (ok_Seen_tied Z) (by decide) Z.f_Seen_tied.kp (bd_Seen_tied Z) .nil (fun _ _ => .nil)) (da_cons (de_var 11) (da_cons (de_var 13) da_nil))) (da_cons (de_var 14) (da_cons (de_sl10 (de_var 6) (de_neg de_int)) (da_cons (de_eq hu (de_sub_ix (de_var 1) de_int) de_int) da_nil))))))
    (dss_frz 15 (dss_one (ds_if (dw_t (dw_or (dt_isN (de_var 15)) (dw_or1 (dt_gt (de_len Z.n_len (da_cons (de_lc [("_law_cloak", 17)] L.calm nd (di_any (de_fld (de_var 4) Z.cl_Peel Z.na_Peel_left)) rfl (fun s H C cl fp => (dg_name (i := 17) nd)) (fun s H C cl fp => (dts_one (dt_notIn hu (de_var 17) (de_fld (de_var 15) Z.cl_Peel Z.na_Peel_left)))) (fun s H C cl fp => (de_var 17))) da_nil)) de_int))))
    (dss_one (ds_ret de_bl))
    dss_nil))))))))
    dss_nil)
    (dss_frz 13 (dss_frz 14 (dss_frz 15 (dss_cons (ds_if (dt_isN (de_call (L.call (ok_l_asked Z) (by decide) Z.f_l_asked.kp (bd_l_asked Z) .nil (fun _ _ => .nil)) Z.m_l_asked (da_cons (de_var 3) (da_cons (de_var 2) (da_cons (de_sl10 (de_var 6) (de_neg de_int)) (da_cons (de_eq hu (de_sub_ix (de_var 1) de_int) de_int) da_nil))))))
    (dss_one (ds_ret de_bl))
    dss_nil)
    (dss_cons (ds_set (i := 16) nd (de_and (de_call (L.call (ok_l_same 5 Z) (by decide) Z.f_l_same.kp (bd_l_same Z) .nil (fun _ _ => .nil)) Z.m_l_same (da_cons (de_fld (de_var 3) Z.cl_Seen Z.na_Seen_guests) (da_cons (de_tupleC Z.n_tuple (da_cons (de_sub_ix (de_var 2) de_int) da_nil)) da_nil))) (de_one (de_call (L.call (ok_l_same 5 Z) (by decide) Z.f_l_same.kp (bd_l_same Z) .nil (fun _ _ => .nil)) Z.m_l_same (da_cons (de_fld (de_var 3) Z.cl_Seen Z.na_Seen_takings) (da_cons (de_tupleC Z.n_tuple (da_cons (de_sub_ix (de_var 2) de_int) da_nil)) da_nil))))))
    (dss_cons (ds_set (i := 16) nd (de_and (de_var 16) (de_and (de_call (L.call (ok_l_same 5 Z) (by decide) Z.f_l_same.kp (bd_l_same Z) .nil (fun _ _ => .nil)) Z.m_l_same (da_cons (de_fld (de_var 3) Z.cl_Seen Z.na_Seen_depths) (da_cons (de_tupleC Z.n_tuple (da_cons (de_sub_ix (de_var 2) de_int) da_nil)) da_nil))) (de_one (de_call (L.call (ok_l_same 5 Z) (by decide) Z.f_l_same.kp (bd_l_same Z) .nil (fun _ _ => .nil)) Z.m_l_same (da_cons (de_fld (de_var 3) Z.cl_Seen Z.na_Seen_ties) (da_cons (de_tupleC Z.n_tuple (da_cons (de_sub_ix (de_var 2) de_int) da_nil)) da_nil)))))))
    (dss_one (ds_ret (de_and (de_var 16) (de_one (de_call (L.call (ok_l_right Z) (by decide) Z.f_l_right.kp (bd_l_right Z) .nil (fun _ _ => .nil)) Z.m_l_right (da_cons (de_var 3) (da_cons (de_var 2) (da_cons (de_var 4) da_nil)))))))))))))))))))))))))))))))))))))))
end
end K49
set_option Elab.async false
set_option linter.all false
set_option maxRecDepth 100000
set_option maxHeartbeats 0
namespace K49
open PySem PySem.Spec PyProof.Rows L2 Dl
/-! ### the head -/
def d_l_digits : DefA := ⟨fun K => (He.ga K "_law_digits"), "_law_digits", "_law_digits", defArgs s_l_digits, defBody s_l_digits, defScope s_l_digits, []⟩
def d_l_cell : DefA := ⟨fun K => (He.ga K "_law_cell"), "_law_cell", "_law_cell", defArgs s_l_cell, defBody s_l_cell, defScope s_l_cell, []⟩
def d_l_names : DefA := ⟨fun K => (He.ga K "_law_names"), "_law_names", "_law_names", defArgs s_l_names, defBody s_l_names, defScope s_l_names, []⟩
def d_l_order : DefA := ⟨fun K => (He.ga K "_law_order"), "_law_order", "_law_order", defArgs s_l_order, defBody s_l_order, defScope s_l_order, []⟩
def d_l_taking : DefA := ⟨fun K => (He.ga K "_law_taking"), "_law_taking", "_law_taking", defArgs s_l_taking, defBody s_l_taking, defScope s_l_taking, []⟩
def d_l_ties : DefA := ⟨fun K => (He.ga K "_law_ties"), "_law_ties", "_law_ties", defArgs s_l_ties, defBody s_l_ties, defScope s_l_ties, []⟩
def d_l_seen : DefA := ⟨fun K => (He.ga K "_law_seen"), "_law_seen", "_law_seen", defArgs s_l_seen, defBody s_l_seen, defScope s_l_seen, []⟩
def d_frozen : DefA := ⟨fun K => (He.ga K "frozen"), "frozen", "frozen", defArgs s_frozen, defBody s_frozen, defScope s_frozen, []⟩
def d_is_name : DefA := ⟨fun K => (He.ga K "is_name"), "is_name", "is_name", defArgs s_is_name, defBody s_is_name, defScope s_is_name, []⟩
def d_BadName___init__ : DefA := ⟨fun K => (He.ma K (He.ga K "BadName") "__init__"), "__init__", "BadName.__init__", defArgs s_BadName___init__, defBody s_BadName___init__, defScope s_BadName___init__, []⟩
def d_TakenName___init__ : DefA := ⟨fun K => (He.ma K (He.ga K "TakenName") "__init__"), "__init__", "TakenName.__init__", defArgs s_TakenName___init__, defBody s_TakenName___init__, defScope s_TakenName___init__, []⟩
def d_check_guests : DefA := ⟨fun K => (He.ga K "check_guests"), "check_guests", "check_guests", defArgs s_check_guests, defBody s_check_guests, defScope s_check_guests, []⟩
def d_BadDepth___init__ : DefA := ⟨fun K => (He.ma K (He.ga K "BadDepth") "__init__"), "__init__", "BadDepth.__init__", defArgs s_BadDepth___init__, defBody s_BadDepth___init__, defScope s_BadDepth___init__, []⟩
def d_is_taking : DefA := ⟨fun K => (He.ga K "is_taking"), "is_taking", "is_taking", defArgs s_is_taking, defBody s_is_taking, defScope s_is_taking, []⟩
def d_BadTaking___init__ : DefA := ⟨fun K => (He.ma K (He.ga K "BadTaking") "__init__"), "__init__", "BadTaking.__init__", defArgs s_BadTaking___init__, defBody s_BadTaking___init__, defScope s_BadTaking___init__, []⟩
def d_is_tie : DefA := ⟨fun K => (He.ga K "is_tie"), "is_tie", "is_tie", defArgs s_is_tie, defBody s_is_tie, defScope s_is_tie, []⟩
def d_BadTie___init__ : DefA := ⟨fun K => (He.ma K (He.ga K "BadTie") "__init__"), "__init__", "BadTie.__init__", defArgs s_BadTie___init__, defBody s_BadTie___init__, defScope s_BadTie___init__, []⟩
def d_Seen___init__ : DefA := ⟨fun K => (He.ma K (He.ga K "Seen") "__init__"), "__init__", "Seen.__init__", defArgs s_Seen___init__, defBody s_Seen___init__, defScope s_Seen___init__, [.adr (dfAt (fun K => (He.ma K (He.ga K "Seen") "__init__")) 0)]⟩
def d_l_made : DefA := ⟨fun K => (He.ga K "_law_made"), "_law_made", "_law_made", defArgs s_l_made, defBody s_l_made, defScope s_l_made, []⟩
def d_may_peel : DefA := ⟨fun K => (He.ga K "may_peel"), "may_peel", "may_peel", defArgs s_may_peel, defBody s_may_peel, defScope s_may_peel, []⟩
def d_last_free : DefA := ⟨fun K => (He.ga K "last_free"), "last_free", "last_free", defArgs s_last_free, defBody s_last_free, defScope s_last_free, []⟩
def d_Peel___init__ : DefA := ⟨fun K => (He.ma K (He.ga K "Peel") "__init__"), "__init__", "Peel.__init__", defArgs s_Peel___init__, defBody s_Peel___init__, defScope s_Peel___init__, []⟩
def d_peel : DefA := ⟨fun K => (He.ga K "peel"), "peel", "peel", defArgs s_peel, defBody s_peel, defScope s_peel, []⟩
def d_l_free : DefA := ⟨fun K => (He.ga K "_law_free"), "_law_free", "_law_free", defArgs s_l_free, defBody s_l_free, defScope s_l_free, []⟩
def d_l_peeled : DefA := ⟨fun K => (He.ga K "_law_peeled"), "_law_peeled", "_law_peeled", defArgs s_l_peeled, defBody s_l_peeled, defScope s_l_peeled, []⟩
def d_l_whole : DefA := ⟨fun K => (He.ga K "_law_whole"), "_law_whole", "_law_whole", defArgs s_l_whole, defBody s_l_whole, defScope s_l_whole, []⟩
def d_l_same : DefA := ⟨fun K => (He.ga K "_law_same"), "_law_same", "_law_same", defArgs s_l_same, defBody s_l_same, defScope s_l_same, []⟩
def d_is_stuck : DefA := ⟨fun K => (He.ga K "is_stuck"), "is_stuck", "is_stuck", defArgs s_is_stuck, defBody s_is_stuck, defScope s_is_stuck, []⟩
def d_l_explains : DefA := ⟨fun K => (He.ga K "_law_explains"), "_law_explains", "_law_explains", defArgs s_l_explains, defBody s_l_explains, defScope s_l_explains, []⟩
def d_l_fits : DefA := ⟨fun K => (He.ga K "_law_fits"), "_law_fits", "_law_fits", defArgs s_l_fits, defBody s_l_fits, defScope s_l_fits, []⟩
def d_l_stuck : DefA := ⟨fun K => (He.ga K "_law_stuck"), "_law_stuck", "_law_stuck", defArgs s_l_stuck, defBody s_l_stuck, defScope s_l_stuck, []⟩
def d_l_orders : DefA := ⟨fun K => (He.ga K "_law_orders"), "_law_orders", "_law_orders", defArgs s_l_orders, defBody s_l_orders, defScope s_l_orders, []⟩
def d_l_right : DefA := ⟨fun K => (He.ga K "_law_right"), "_law_right", "_law_right", defArgs s_l_right, defBody s_l_right, defScope s_l_right, []⟩
def d_l_left : DefA := ⟨fun K => (He.ga K "_law_left"), "_law_left", "_law_left", defArgs s_l_left, defBody s_l_left, defScope s_l_left, []⟩
def d_l_lots : DefA := ⟨fun K => (He.ga K "_law_lots"), "_law_lots", "_law_lots", defArgs s_l_lots, defBody s_l_lots, defScope s_l_lots, []⟩
def d_l_judged : DefA := ⟨fun K => (He.ga K "_law_judged"), "_law_judged", "_law_judged", defArgs s_l_judged, defBody s_l_judged, defScope s_l_judged, []⟩
def d_l_asked : DefA := ⟨fun K => (He.ga K "_law_asked"), "_law_asked", "_law_asked", defArgs s_l_asked, defBody s_l_asked, defScope s_l_asked, []⟩
def d_Seen_tied : DefA := ⟨fun K => (He.ma K (He.ga K "Seen") "tied"), "tied", "Seen.tied", defArgs s_Seen_tied, defBody s_Seen_tied, defScope s_Seen_tied, []⟩
def d_law : DefA := ⟨fun K => (He.ga K "law"), "law", "law", defArgs s_law, defBody s_law, defScope s_law, []⟩
def fn : List DefA := [d_l_digits, d_l_cell, d_l_names, d_l_order, d_l_taking, d_l_ties, d_l_seen, d_frozen, d_is_name, d_BadName___init__, d_TakenName___init__, d_check_guests, d_BadDepth___init__, d_is_taking, d_BadTaking___init__, d_is_tie, d_BadTie___init__, d_Seen___init__, d_l_made, d_may_peel, d_last_free, d_Peel___init__, d_peel, d_l_free, d_l_peeled, d_l_whole, d_l_same, d_is_stuck, d_l_explains, d_l_fits, d_l_stuck, d_l_orders, d_l_right, d_l_left, d_l_lots, d_l_judged, d_l_asked, d_Seen_tied, d_law]
def fa : List (PySem.W.Frag → Bool) := [
  fun K => (He.Fa.glo "law").ok K,
  fun K => (He.Fa.glo "BadDepth").ok K,
  fun K => (He.Fa.glo "BadName").ok K,
  fun K => (He.Fa.glo "BadTaking").ok K,
  fun K => (He.Fa.glo "BadTie").ok K,
  fun K => (He.Fa.glo "Peel").ok K,
  fun K => (He.Fa.glo "Seen").ok K,
  fun K => (He.Fa.glo "TakenName").ok K,
  fun K => (He.Fa.free "int").ok K,
  fun K => (He.Fa.free "len").ok K,
  fun K => (He.Fa.free "range").ok K,
  fun K => (He.Fa.glo "_law_cell").ok K,
  fun K => (He.Fa.glo "_law_digits").ok K,
  fun K => (He.Fa.free "min").ok K,
  fun K => (He.Fa.glo "_law_names").ok K,
  fun K => (He.Fa.free "list").ok K,
  fun K => (He.Fa.glo "_law_order").ok K,
  fun K => (He.Fa.free "tuple").ok K,
  fun K => (He.Fa.glo "_law_taking").ok K,
  fun K => (He.Fa.glo "_law_ties").ok K,
  fun K => (He.Fa.glo "_law_seen").ok K,
  fun K => (He.Fa.free "isinstance").ok K,
  fun K => (He.Fa.glo "frozen").ok K,
  fun K => (He.Fa.cls "Seen").ok K,
  fun K => (He.Fa.noat "Seen" "guests").ok K,
  fun K => (He.Fa.noat "Seen" "takings").ok K,
  fun K => (He.Fa.noat "Seen" "depths").ok K,
  fun K => (He.Fa.noat "Seen" "ties").ok K,
  fun K => (He.Fa.int "LONGEST" 8).ok K,
  fun K => (He.Fa.str "LETTERS" "abcdefghijklmnopqrstuvwxyz").ok K,
  fun K => (He.Fa.str "FIGURES" "0123456789").ok K,
  fun K => (He.Fa.free "all").ok K,
  fun K => (He.Fa.glo "is_name").ok K,
  fun K => oxB K (He.ga K "BadName"),
  fun K => He.eqO (PySem.W.findIn K (.ref (He.ga K "BadName")) "name") (some none),
  fun K => He.eqO (PySem.W.findIn K (.ref (He.ga K "BadName")) "__init__") (some (some (.ref (He.ma K (He.ga K "BadName") "__init__")))),
  fun K => decide (PySem.W.typeIn K (.ref (He.ma K (He.ga K "BadName") "__init__")) = some (.type "function")),
  fun K => (He.Fa.free "enumerate").ok K,
  fun K => oxB K (He.ga K "TakenName"),
  fun K => He.eqO (PySem.W.findIn K (.ref (He.ga K "TakenName")) "name") (some none),
  fun K => He.eqO (PySem.W.findIn K (.ref (He.ga K "TakenName")) "__init__") (some (some (.ref (He.ma K (He.ga K "TakenName") "__init__")))),
  fun K => decide (PySem.W.typeIn K (.ref (He.ma K (He.ga K "TakenName") "__init__")) = some (.type "function")),
  fun K => (He.Fa.glo "check_guests").ok K,
  fun K => oxB K (He.ga K "BadDepth"),
  fun K => He.eqO (PySem.W.findIn K (.ref (He.ga K "BadDepth")) "depth") (some none),
  fun K => He.eqO (PySem.W.findIn K (.ref (He.ga K "BadDepth")) "__init__") (some (some (.ref (He.ma K (He.ga K "BadDepth") "__init__")))),
  fun K => decide (PySem.W.typeIn K (.ref (He.ma K (He.ga K "BadDepth") "__init__")) = some (.type "function")),
  fun K => (He.Fa.glo "is_taking").ok K,
  fun K => oxB K (He.ga K "BadTaking"),
  fun K => He.eqO (PySem.W.findIn K (.ref (He.ga K "BadTaking")) "index") (some none),
  fun K => He.eqO (PySem.W.findIn K (.ref (He.ga K "BadTaking")) "__init__") (some (some (.ref (He.ma K (He.ga K "BadTaking") "__init__")))),
  fun K => decide (PySem.W.typeIn K (.ref (He.ma K (He.ga K "BadTaking") "__init__")) = some (.type "function")),
  fun K => (He.Fa.glo "is_tie").ok K,
  fun K => oxB K (He.ga K "BadTie"),
  fun K => He.eqO (PySem.W.findIn K (.ref (He.ga K "BadTie")) "index") (some none),
  fun K => He.eqO (PySem.W.findIn K (.ref (He.ga K "BadTie")) "__init__") (some (some (.ref (He.ma K (He.ga K "BadTie") "__init__")))),
  fun K => decide (PySem.W.typeIn K (.ref (He.ma K (He.ga K "BadTie") "__init__")) = some (.type "function")),
  fun K => (He.Fa.mkr "Seen").ok K,
  fun K => (He.Fa.glo "_law_made").ok K,
  fun K => (He.Fa.free "reversed").ok K,
  fun K => (He.Fa.glo "may_peel").ok K,
  fun K => (He.Fa.glo "last_free").ok K,
  fun K => (He.Fa.cls "Peel").ok K,
  fun K => (He.Fa.noat "Peel" "order").ok K,
  fun K => (He.Fa.noat "Peel" "left").ok K,
  fun K => (He.Fa.mkr "Peel").ok K,
  fun K => (He.Fa.glo "peel").ok K,
  fun K => (He.Fa.glo "_law_free").ok K,
  fun K => (He.Fa.glo "_law_peeled").ok K,
  fun K => (He.Fa.glo "_law_same").ok K,
  fun K => (He.Fa.free "str").ok K,
  fun K => (He.Fa.free "bool").ok K,
  fun K => (He.Fa.glo "_law_whole").ok K,
  fun K => (He.Fa.free "any").ok K,
  fun K => (He.Fa.glo "is_stuck").ok K,
  fun K => (He.Fa.glo "_law_explains").ok K,
  fun K => (He.Fa.glo "_law_fits").ok K,
  fun K => (He.Fa.glo "_law_stuck").ok K,
  fun K => (He.Fa.glo "_law_orders").ok K,
  fun K => (He.Fa.glo "_law_right").ok K,
  fun K => (He.Fa.glo "_law_left").ok K,
  fun K => (He.Fa.glo "_law_lots").ok K,
  fun K => (He.Fa.glo "_law_judged").ok K,
  fun K => (He.Fa.glo "_law_asked").ok K,
  fun K => (He.Fa.meth "Seen" "tied").ok K]
theorem facts {P : Program} {w : World} {K : PySem.W.Frag} {h : Heap} {mg : Str → Option Value} (X : K.In h) (G : h.Ns mainGlobals mg) (c : SaysM fa fn K) : ∃ fds : Fds, Fs P w K mg fds := by
  obtain ⟨fd_0, F_0⟩ := c.def_ 0 (d := d_l_digits) rfl
  obtain ⟨fd_1, F_1⟩ := c.def_ 1 (d := d_l_cell) rfl
  obtain ⟨fd_2, F_2⟩ := c.def_ 2 (d := d_l_names) rfl
  obtain ⟨fd_3, F_3⟩ := c.def_ 3 (d := d_l_order) rfl
  obtain ⟨fd_4, F_4⟩ := c.def_ 4 (d := d_l_taking) rfl
  obtain ⟨fd_5, F_5⟩ := c.def_ 5 (d := d_l_ties) rfl
  obtain ⟨fd_6, F_6⟩ := c.def_ 6 (d := d_l_seen) rfl
  obtain ⟨fd_7, F_7⟩ := c.def_ 7 (d := d_frozen) rfl
  obtain ⟨fd_8, F_8⟩ := c.def_ 8 (d := d_is_name) rfl
  obtain ⟨fd_9, F_9⟩ := c.def_ 9 (d := d_BadName___init__) rfl
  obtain ⟨fd_10, F_10⟩ := c.def_ 10 (d := d_TakenName___init__) rfl
  obtain ⟨fd_11, F_11⟩ := c.def_ 11 (d := d_check_guests) rfl
  obtain ⟨fd_12, F_12⟩ := c.def_ 12 (d := d_BadDepth___init__) rfl
  obtain ⟨fd_13, F_13⟩ := c.def_ 13 (d := d_is_taking) rfl
  obtain ⟨fd_14, F_14⟩ := c.def_ 14 (d := d_BadTaking___init__) rfl
  obtain ⟨fd_15, F_15⟩ := c.def_ 15 (d := d_is_tie) rfl
  obtain ⟨fd_16, F_16⟩ := c.def_ 16 (d := d_BadTie___init__) rfl
  obtain ⟨fd_17, F_17⟩ := c.def_ 17 (d := d_Seen___init__) rfl
  obtain ⟨fd_18, F_18⟩ := c.def_ 18 (d := d_l_made) rfl
  obtain ⟨fd_19, F_19⟩ := c.def_ 19 (d := d_may_peel) rfl
  obtain ⟨fd_20, F_20⟩ := c.def_ 20 (d := d_last_free) rfl
  obtain ⟨fd_21, F_21⟩ := c.def_ 21 (d := d_Peel___init__) rfl
  obtain ⟨fd_22, F_22⟩ := c.def_ 22 (d := d_peel) rfl
  obtain ⟨fd_23, F_23⟩ := c.def_ 23 (d := d_l_free) rfl
  obtain ⟨fd_24, F_24⟩ := c.def_ 24 (d := d_l_peeled) rfl
  obtain ⟨fd_25, F_25⟩ := c.def_ 25 (d := d_l_whole) rfl
  obtain ⟨fd_26, F_26⟩ := c.def_ 26 (d := d_l_same) rfl
  obtain ⟨fd_27, F_27⟩ := c.def_ 27 (d := d_is_stuck) rfl
  obtain ⟨fd_28, F_28⟩ := c.def_ 28 (d := d_l_explains) rfl
  obtain ⟨fd_29, F_29⟩ := c.def_ 29 (d := d_l_fits) rfl
  obtain ⟨fd_30, F_30⟩ := c.def_ 30 (d := d_l_stuck) rfl
  obtain ⟨fd_31, F_31⟩ := c.def_ 31 (d := d_l_orders) rfl
  obtain ⟨fd_32, F_32⟩ := c.def_ 32 (d := d_l_right) rfl
  obtain ⟨fd_33, F_33⟩ := c.def_ 33 (d := d_l_left) rfl
  obtain ⟨fd_34, F_34⟩ := c.def_ 34 (d := d_l_lots) rfl
  obtain ⟨fd_35, F_35⟩ := c.def_ 35 (d := d_l_judged) rfl
  obtain ⟨fd_36, F_36⟩ := c.def_ 36 (d := d_l_asked) rfl
  obtain ⟨fd_37, F_37⟩ := c.def_ 37 (d := d_Seen_tied) rfl
  obtain ⟨fd_38, F_38⟩ := c.def_ 38 (d := d_law) rfl
  have E_BadDepth : clOf mg "BadDepth" = He.ga K "BadDepth" := clOf_eq (He.glo_ok X G (c.fact 1))
  have E_BadName : clOf mg "BadName" = He.ga K "BadName" := clOf_eq (He.glo_ok X G (c.fact 2))
  have E_BadTaking : clOf mg "BadTaking" = He.ga K "BadTaking" := clOf_eq (He.glo_ok X G (c.fact 3))
  have E_BadTie : clOf mg "BadTie" = He.ga K "BadTie" := clOf_eq (He.glo_ok X G (c.fact 4))
  have E_Peel : clOf mg "Peel" = He.ga K "Peel" := clOf_eq (He.glo_ok X G (c.fact 5))
  have E_Seen : clOf mg "Seen" = He.ga K "Seen" := clOf_eq (He.glo_ok X G (c.fact 6))
  have E_TakenName : clOf mg "TakenName" = He.ga K "TakenName" := clOf_eq (He.glo_ok X G (c.fact 7))
  exact ⟨⟨fd_0, fd_1, fd_2, fd_3, fd_4, fd_5, fd_6, fd_7, fd_8, fd_9, fd_10, fd_11, fd_12, fd_13, fd_14, fd_15, fd_16, fd_17, fd_18, fd_19, fd_20, fd_21, fd_22, fd_23, fd_24, fd_25, fd_26, fd_27, fd_28, fd_29, fd_30, fd_31, fd_32, fd_33, fd_34, fd_35, fd_36, fd_37, fd_38⟩, {
    n_int := He.free_ok X G (c.fact 8)
    n_len := He.free_ok X G (c.fact 9)
    n_range := He.free_ok X G (c.fact 10)
    m_l_cell := He.glo_ok X G (c.fact 11)
    m_l_digits := He.glo_ok X G (c.fact 12)
    n_min := He.free_ok X G (c.fact 13)
    m_l_names := He.glo_ok X G (c.fact 14)
    n_list := He.free_ok X G (c.fact 15)
    m_l_order := He.glo_ok X G (c.fact 16)
    n_tuple := He.free_ok X G (c.fact 17)
    m_l_taking := He.glo_ok X G (c.fact 18)
    m_l_ties := He.glo_ok X G (c.fact 19)
    m_l_seen := He.glo_ok X G (c.fact 20)
    n_isinstance := He.free_ok X G (c.fact 21)
    m_frozen := He.glo_ok X G (c.fact 22)
    cl_Seen := by rw [E_Seen]; exact He.cls_ok (c.fact 23)
    na_Seen_guests := by rw [E_Seen]; exact He.noat_ok (c.fact 24)
    na_Seen_takings := by rw [E_Seen]; exact He.noat_ok (c.fact 25)
    na_Seen_depths := by rw [E_Seen]; exact He.noat_ok (c.fact 26)
    na_Seen_ties := by rw [E_Seen]; exact He.noat_ok (c.fact 27)
    k_LONGEST := He.int_ok X G (c.fact 28)
    k_LETTERS := He.str_ok X G (c.fact 29)
    k_FIGURES := He.str_ok X G (c.fact 30)
    n_all := He.free_ok X G (c.fact 31)
    m_is_name := He.glo_ok X G (c.fact 32)
    ox_BadName := by rw [E_BadName]; exact oxB_ok (c.fact 33)
    nf_BadName := by rw [E_BadName]; exact He.eqO_ok (c.fact 34)
    ii_BadName := by rw [E_BadName]; exact He.eqO_ok (c.fact 35)
    ti_BadName := of_decide_eq_true (c.fact 36)
    c_BadName := clOf_mg (He.glo_ok X G (c.fact 2))
    n_enumerate := He.free_ok X G (c.fact 37)
    ox_TakenName := by rw [E_TakenName]; exact oxB_ok (c.fact 38)
    nf_TakenName := by rw [E_TakenName]; exact He.eqO_ok (c.fact 39)
    ii_TakenName := by rw [E_TakenName]; exact He.eqO_ok (c.fact 40)
    ti_TakenName := of_decide_eq_true (c.fact 41)
    c_TakenName := clOf_mg (He.glo_ok X G (c.fact 7))
    m_check_guests := He.glo_ok X G (c.fact 42)
    ox_BadDepth := by rw [E_BadDepth]; exact oxB_ok (c.fact 43)
    nf_BadDepth := by rw [E_BadDepth]; exact He.eqO_ok (c.fact 44)
    ii_BadDepth := by rw [E_BadDepth]; exact He.eqO_ok (c.fact 45)
    ti_BadDepth := of_decide_eq_true (c.fact 46)
    c_BadDepth := clOf_mg (He.glo_ok X G (c.fact 1))
    m_is_taking := He.glo_ok X G (c.fact 47)
    ox_BadTaking := by rw [E_BadTaking]; exact oxB_ok (c.fact 48)
    nf_BadTaking := by rw [E_BadTaking]; exact He.eqO_ok (c.fact 49)
    ii_BadTaking := by rw [E_BadTaking]; exact He.eqO_ok (c.fact 50)
    ti_BadTaking := of_decide_eq_true (c.fact 51)
    c_BadTaking := clOf_mg (He.glo_ok X G (c.fact 3))
    m_is_tie := He.glo_ok X G (c.fact 52)
    ox_BadTie := by rw [E_BadTie]; exact oxB_ok (c.fact 53)
    nf_BadTie := by rw [E_BadTie]; exact He.eqO_ok (c.fact 54)
    ii_BadTie := by rw [E_BadTie]; exact He.eqO_ok (c.fact 55)
    ti_BadTie := of_decide_eq_true (c.fact 56)
    c_BadTie := clOf_mg (He.glo_ok X G (c.fact 4))
    mk_Seen := by rw [E_Seen]; exact He.mkr_ok (c.fact 57)
    c_Seen := clOf_mg (He.glo_ok X G (c.fact 6))
    m_l_made := He.glo_ok X G (c.fact 58)
    n_reversed := He.free_ok X G (c.fact 59)
    m_may_peel := He.glo_ok X G (c.fact 60)
    m_last_free := He.glo_ok X G (c.fact 61)
    cl_Peel := by rw [E_Peel]; exact He.cls_ok (c.fact 62)
    na_Peel_order := by rw [E_Peel]; exact He.noat_ok (c.fact 63)
    na_Peel_left := by rw [E_Peel]; exact He.noat_ok (c.fact 64)
    mk_Peel := by rw [E_Peel]; exact He.mkr_ok (c.fact 65)
    c_Peel := clOf_mg (He.glo_ok X G (c.fact 5))
    m_peel := He.glo_ok X G (c.fact 66)
    m_l_free := He.glo_ok X G (c.fact 67)
    m_l_peeled := He.glo_ok X G (c.fact 68)
    m_l_same := He.glo_ok X G (c.fact 69)
    n_str := He.free_ok X G (c.fact 70)
    n_bool := He.free_ok X G (c.fact 71)
    m_l_whole := He.glo_ok X G (c.fact 72)
    n_any := He.free_ok X G (c.fact 73)
    m_is_stuck := He.glo_ok X G (c.fact 74)
    m_l_explains := He.glo_ok X G (c.fact 75)
    m_l_fits := He.glo_ok X G (c.fact 76)
    m_l_stuck := He.glo_ok X G (c.fact 77)
    m_l_orders := He.glo_ok X G (c.fact 78)
    m_l_right := He.glo_ok X G (c.fact 79)
    m_l_left := He.glo_ok X G (c.fact 80)
    m_l_lots := He.glo_ok X G (c.fact 81)
    m_l_judged := He.glo_ok X G (c.fact 82)
    m_l_asked := He.glo_ok X G (c.fact 83)
    me_Seen_tied := by rw [E_Seen]; exact He.meth_ok (c.fact 84)
    f_l_digits := F_0
    f_l_cell := F_1
    f_l_names := F_2
    f_l_order := F_3
    f_l_taking := F_4
    f_l_ties := F_5
    f_l_seen := F_6
    f_frozen := F_7
    f_is_name := F_8
    f_BadName___init__ := F_9
    f_TakenName___init__ := F_10
    f_check_guests := F_11
    f_BadDepth___init__ := F_12
    f_is_taking := F_13
    f_BadTaking___init__ := F_14
    f_is_tie := F_15
    f_BadTie___init__ := F_16
    f_Seen___init__ := F_17
    f_l_made := F_18
    f_may_peel := F_19
    f_last_free := F_20
    f_Peel___init__ := F_21
    f_peel := F_22
    f_l_free := F_23
    f_l_peeled := F_24
    f_l_whole := F_25
    f_l_same := F_26
    f_is_stuck := F_27
    f_l_explains := F_28
    f_l_fits := F_29
    f_l_stuck := F_30
    f_l_orders := F_31
    f_l_right := F_32
    f_l_left := F_33
    f_l_lots := F_34
    f_l_judged := F_35
    f_l_asked := F_36
    f_Seen_tied := F_37
    f_law := F_38
  }⟩
abbrev R : PySem.W.OpenRow := PySem.W.OpenLaw.row PySem.Challenge.rw_leavetaking_k49_peeling_whole
abbrev hk : PySem.W.Hook := hookM 6 fa fn
def ob (s : PySem.W.SharedT) : He.AlD := obsMG 6 fa fn (HandSHeadRun.getT s)
theorem ob_eq (s : PySem.W.SharedT) : ob s = hk.obs s.abs := obsMG_eq (HandSHeadRun.getT_eq s)
def names : List PySem.Str := [("Peel" : PySem.Str), ("LeaveError" : PySem.Str), ("BadName" : PySem.Str), ("TakenName" : PySem.Str), ("BadDepth" : PySem.Str), ("BadTaking" : PySem.Str), ("BadTie" : PySem.Str), ("Seen" : PySem.Str), ("frozen" : PySem.Str), ("may_peel" : PySem.Str), ("last_free" : PySem.Str), ("peel" : PySem.Str), ("is_stuck" : PySem.Str), ("is_name" : PySem.Str), ("check_guests" : PySem.Str), ("is_taking" : PySem.Str), ("is_tie" : PySem.Str), ("_law_whole" : PySem.Str), ("_law_same" : PySem.Str), ("_law_cell" : PySem.Str), ("_law_digits" : PySem.Str), ("_law_order" : PySem.Str), ("_law_names" : PySem.Str), ("_law_taking" : PySem.Str), ("_law_ties" : PySem.Str), ("_law_seen" : PySem.Str), ("_law_explains" : PySem.Str), ("_law_fits" : PySem.Str), ("_law_orders" : PySem.Str), ("_law_free" : PySem.Str), ("_law_peeled" : PySem.Str), ("_law_stuck" : PySem.Str), ("_law_left" : PySem.Str), ("_law_made" : PySem.Str), ("_law_lots" : PySem.Str), ("_law_judged" : PySem.Str), ("_law_right" : PySem.Str), ("_law_asked" : PySem.Str), ("LETTERS" : PySem.Str), ("FIGURES" : PySem.Str), ("LONGEST" : PySem.Str)]
theorem run (w : World) : HandSHeadRun.RunEq R (PySem.W.view R.prog [47]) hk ob 4000 names w := by
  intro os
  kernel_rfl
end K49
set_option Elab.async false
set_option linter.all false
set_option maxRecDepth 100000
namespace K49
open PySem PySem.Spec PyProof.Rows L2 Dl
/-! ### frozen, same, digits, cells -/
theorem whole_int (n : Int) : F_l_whole [.int n] = .ok (.sh (.bl true)) := by
  simp [F_l_whole, g_l_whole]
mutual
def pl : D → Bool
  | .non => true
  | .int _ => true
  | .str _ => true
  | .tup ds => decide (ds.length ≤ 1000) && pls ds
  | .lst ds => decide (ds.length ≤ 1000) && pls ds
  | _ => false
def pls : List D → Bool
  | [] => true
  | d :: ds => pl d && pls ds
end
mutual
def frz : D → D
  | .tup ds => .tup (frzs ds)
  | .lst ds => .tup (frzs ds)
  | d => d
def frzs : List D → List D
  | [] => []
  | d :: ds => frz d :: frzs ds
end
theorem frzs_map : ∀ ds : List D, frzs ds = ds.map frz
  | [] => rfl
  | d :: ds => by rw [frzs, frzs_map ds]; rfl
mutual
theorem frozen_ok : ∀ (d : D) (n : Nat), pl d = true → d.dep < n → F_frozen n [d] = .ok (.sh (frz d))
  | .non, n + 1, _, _ => by simp [F_frozen, g_frozen, frz]
  | .int i, n + 1, _, _ => by simp [F_frozen, g_frozen, frz]
  | .str s, n + 1, _, _ => by simp [F_frozen, g_frozen, frz]
  | .tup ds, n + 1, h, hd => by
    simp only [pl, Bool.and_eq_true, decide_eq_true_eq] at h
    have q := frozens_ok ds n h.2 (by rw [D.dep] at hd; omega)
    simp [F_frozen, g_frozen, frz]
    rw [x_lc_flat (p := fun _ => true) (h := frz) (by omega) (fun d hd => ⟨[.sh (.tup ds), .sh d], by simp [putR, SV.free], rfl, fun _ => by simp [q d hd]⟩)]
    simp [frzs_map, toDs_map, T.toDs_eq, filter_yes, Function.comp_def]
  | .lst ds, n + 1, h, hd => by
    simp only [pl, Bool.and_eq_true, decide_eq_true_eq] at h
    have q := frozens_ok ds n h.2 (by rw [D.dep] at hd; omega)
    simp [F_frozen, g_frozen, frz]
    rw [x_lc_flat (p := fun _ => true) (h := frz) (by omega) (fun d hd => ⟨[.sh (.lst ds), .sh d], by simp [putR, SV.free], rfl, fun _ => by simp [q d hd]⟩)]
    simp [frzs_map, toDs_map, T.toDs_eq, filter_yes, Function.comp_def]
  | .bl _, _ + 1, h, _ => by simp [pl] at h
  | .ty _, _ + 1, h, _ => by simp [pl] at h
  | .scr _, _ + 1, h, _ => by simp [pl] at h
  | .obj _ _, _ + 1, h, _ => by simp [pl] at h
  | .dic _, _ + 1, h, _ => by simp [pl] at h
  | _, 0, _, h => absurd h (Nat.not_lt_zero _)
theorem frozens_ok : ∀ (ds : List D) (n : Nat), pls ds = true → D.deps ds < n → ∀ d ∈ ds, F_frozen n [d] = .ok (.sh (frz d))
  | [], _, _, _ => fun _ h => by cases h
  | d :: ds, n, h, hd => fun x hx => by
    rw [pls, Bool.and_eq_true] at h
    rw [D.deps] at hd
    rcases List.mem_cons.mp hx with e | hx
    · rw [e]
      exact frozen_ok d n h.1 (by omega)
    · exact frozens_ok ds n h.2 (by omega) x hx
end
mutual
def sm : D → Bool
  | .non => true
  | .int _ => true
  | .str s => PyData.strOk s
  | .tup ds => decide (ds.length ≤ 1000) && sms ds
  | _ => false
def sms : List D → Bool
  | [] => true
  | d :: ds => sm d && sms ds
end
@[simp] theorem isN_str {k : Str} : nonK false (.ok (.sh (.str k))) = .ok (.sh (.bl false)) := rfl
@[simp] theorem isN_tup {k : List D} : nonK false (.ok (.sh (.tup k))) = .ok (.sh (.bl false)) := rfl
theorem sms_get : ∀ {ds : List D}, sms ds = true → ∀ d ∈ ds, sm d = true
  | [], _, _, h => by cases h
  | d :: ds, h, x, hx => by
    rw [sms, Bool.and_eq_true] at h
    rcases List.mem_cons.mp hx with rfl | hx
    · exact h.1
    · exact sms_get h.2 x hx
theorem dep_get : ∀ {ds : List D}, ∀ d ∈ ds, d.dep ≤ D.deps ds
  | [], _, h => by cases h
  | d :: ds, x, hx => by
    rw [D.deps]
    rcases List.mem_cons.mp hx with rfl | hx
    · omega
    · have := dep_get x hx
      omega
theorem same_int {n : Nat} {a b : Int} : F_l_same (n + 1) [.int a, .int b] = .ok (.sh (.bl (decide (a = b)))) := by
  simp [F_l_same, g_l_same, whole_int]
def sbody (n : Nat) : Stm := dIf (dNotT (dT tTru (dCall 2 (F_l_same n) [] (aCons (d2 gIx (dVar 0) (dVar 2)) (aCons (d2 gIx (dVar 1) (dVar 2)) aNil))))) (dRet (dC (.bl false))) dNext
theorem same_step {n i : Nat} {ds : List D} (hi : i < ds.length) (ih : ∀ d ∈ ds, F_l_same n [d, d] = .ok (.sh (.bl true))) : sbody n [.sh (.tup ds), .sh (.tup ds), .sh (.int i)] = .ok (.nx [.sh (.tup ds), .sh (.tup ds), .sh (.int i)]) := by
  have hx := x_ixT (ds := ds) (i := i) (List.getElem?_eq_getElem hi)
  simp [sbody, hx, ih _ (List.getElem_mem hi)]
theorem same_loop {n : Nat} {ds : List D} (ih : ∀ d ∈ ds, F_l_same n [d, d] = .ok (.sh (.bl true))) : ∃ y, forD (bName 2) (sbody n) (rangeD 0 ds.length) [.sh (.tup ds), .sh (.tup ds), .no] = .ok (.nx [.sh (.tup ds), .sh (.tup ds), y]) := by
  obtain ⟨ρ', ⟨y, _, e1⟩, e⟩ := forD_keep (b := bName 2) (g := sbody n)
    (P := fun ρ => ∃ y, y.free = true ∧ ρ = [.sh (.tup ds), .sh (.tup ds), y]) (ds := rangeD 0 ds.length) (by
      rintro d hm ρ ⟨y, hy, rfl⟩
      obtain ⟨i, hi, rfl⟩ := mem_range.mp hm
      exact ⟨_, _, by simp only [bName, putR, List.getElem?_cons_succ, List.getElem?_cons_zero, hy, if_true, List.set_cons_succ, List.set_cons_zero], same_step hi ih, _, rfl, rfl⟩) [.sh (.tup ds), .sh (.tup ds), .no] ⟨.no, rfl, rfl⟩
  exact ⟨y, by rw [e, e1]⟩
theorem same_rng {ds : List D} (h : ds.length ≤ 1000) : iR1 (dC1 gLen (aCons (dVar 1) aNil)) [.sh (.tup ds), .sh (.tup ds), .no] = .ok (rangeD 0 ds.length) := by
  have q : (dC1 gLen (aCons (dVar 1) aNil)) [.sh (.tup ds), .sh (.tup ds), .no] = .ok (.sh (.int ds.length)) := by simp
  have := x_rng (n := ds.length) (by omega) q
  rwa [Int.toNat_natCast] at this
theorem same_for {n : Nat} {ds : List D} (h : ds.length ≤ 1000) (ih : ∀ d ∈ ds, F_l_same n [d, d] = .ok (.sh (.bl true))) : ∃ y, dFor (iR1 (dC1 gLen (aCons (dVar 1) aNil))) (bName 2) (sbody n) [.sh (.tup ds), .sh (.tup ds), .no] = .ok (.nx [.sh (.tup ds), .sh (.tup ds), y]) := by
  obtain ⟨y, e⟩ := same_loop ih
  exact ⟨y, by rw [x_for, same_rng h, x_for_ok, e]⟩
theorem same_c1 {ds : List D} {ρ : Dl.Env} : dT tTru (dC1 gIsi (aCons (dVar 1) (aCons (dC (.ty "tuple")) aNil))) (.sh (.tup ds) :: .sh (.tup ds) :: ρ) = .ok true := by
  simp only [x_t, x_c1, x_cons, x_var, List.getElem?_cons_succ, List.getElem?_cons_zero, x_var_sh, x_c, x_nil, x_cons_ok, x_c1_ok, x_isi_tt, x_t_ok, x_tTru]
theorem same_c0 {ds : List D} {ρ : Dl.Env} : dT tTru (dC1 gIsi (aCons (dVar 0) (aCons (dC (.ty "tuple")) aNil))) (.sh (.tup ds) :: .sh (.tup ds) :: ρ) = .ok true := by
  simp only [x_t, x_c1, x_cons, x_var, List.getElem?_cons_succ, List.getElem?_cons_zero, x_var_sh, x_c, x_nil, x_cons_ok, x_c1_ok, x_isi_tt, x_t_ok, x_tTru]
theorem same_cl {ds : List D} {ρ : Dl.Env} : dT tBool (d2 gNe (dC1 gLen (aCons (dVar 0) aNil)) (dC1 gLen (aCons (dVar 1) aNil))) (.sh (.tup ds) :: .sh (.tup ds) :: ρ) = .ok false := by
  simp only [x_t, x_c1, x_cons, x_var, List.getElem?_cons_succ, List.getElem?_cons_zero, x_var_sh, x_c, x_nil, x_cons_ok, x_c1_ok, x_len_tup, x_d2, x_d2_ok, x_neI, x_t_ok, x_tBool, decide_true, Bool.not_true]
theorem same_tup {n : Nat} {ds : List D} (h : ds.length ≤ 1000) (ih : ∀ d ∈ ds, F_l_same n [d, d] = .ok (.sh (.bl true))) : F_l_same (n + 1) [.tup ds, .tup ds] = .ok (.sh (.bl true)) := by
  obtain ⟨y, hf⟩ := same_for h ih
  unfold sbody at hf
  rw [F_l_same, x_run, g_l_same, List.map_cons, List.map_cons, List.map_nil]
  simp only [List.length_cons, List.length_nil, List.cons_append, List.nil_append]
  rw [x_seq, x_if, same_c1, x_if_t, x_seq, x_if, x_orT, x_notT, same_c0, x_notT_ok, Bool.not_true, x_orT_f, same_cl, x_if_f, x_next, x_seq_nx, x_seq]
  have er : List.replicate (3 - (0 + 1 + 1)) SV.no = [SV.no] := rfl
  rw [er, hf, x_seq_nx, x_ret, x_c, x_ret_sh, x_seq_ret, x_run_ret]
theorem same_refl (n : Nat) : ∀ d : D, sm d = true → d.dep < n → F_l_same n [d, d] = .ok (.sh (.bl true)) := by
  induction n with
  | zero => exact fun _ _ h => absurd h (Nat.not_lt_zero _)
  | succ n ih =>
    intro d h hd
    cases d with
    | int a => rw [same_int]; simp
    | non => simp [F_l_same, g_l_same]
    | str s =>
      rw [sm] at h
      simp [F_l_same, g_l_same, x_eqS h h]
    | tup ds =>
      simp only [sm, Bool.and_eq_true, decide_eq_true_eq] at h
      rw [D.dep] at hd
      exact same_tup h.1 fun d hm => ih d (sms_get h.2 d hm) (by have := dep_get d hm; omega)
    | _ => simp [sm] at h
def dgA : Stm := dSeq (dApp 2 (d2 gMod (dC1 gInt (aCons (dVar 3) aNil)) (dVar 4))) (dSet 3 (d2 gFdv (dC1 gInt (aCons (dVar 3) aNil)) (dVar 4)))
theorem dgA_loop {a0 a1 a5 a6 a7 : SV} : ∀ (todo done row : List Int) (n : Int) (y : SV), y.free = true → okRow row done → (∀ s ∈ todo, 0 < s ∧ s < 1073741824) → row.length + todo.length ≤ 1000 →
    ∃ row' n' y', okRow row' (done ++ todo) ∧ forD (bName 4) dgA (todo.map D.int) [a0, a1, .own ((row.map D.int).map T.leaf), .sh (.int n), y, a5, a6, a7] = .ok (.nx [a0, a1, .own ((row'.map D.int).map T.leaf), .sh (.int n'), y', a5, a6, a7])
  | [], done, row, n, y, hy, hr, _, _ => ⟨row, n, y, by rw [List.append_nil]; exact hr, rfl⟩
  | s :: todo, done, row, n, y, hy, hr, hs, hl => by
    rw [List.length_cons] at hl
    obtain ⟨s0, s1⟩ := hs s List.mem_cons_self
    have hd : 0 ≤ n % s ∧ n % s < s := ⟨Int.emod_nonneg n (by omega), Int.emod_lt_of_pos n s0⟩
    obtain ⟨row', n', y', h1, h2⟩ := dgA_loop (a0 := a0) (a1 := a1) (a5 := a5) (a6 := a6) (a7 := a7) todo (done ++ [s]) (row ++ [n % s]) (n / s) (.sh (.int s)) rfl (hr.snoc hd) (fun x hx => hs x (List.mem_cons_of_mem _ hx)) (by simp; omega)
    refine ⟨row', n', y', by rw [List.append_assoc] at h1; exact h1, ?_⟩
    rw [List.map_cons, x_forD_cons (ρ1 := [a0, a1, .own ((row.map D.int).map T.leaf), .sh (.int n), .sh (.int s), a5, a6, a7]) (by simp [putR, hy])]
    have hb : dgA [a0, a1, .own ((row.map D.int).map T.leaf), .sh (.int n), .sh (.int s), a5, a6, a7] = .ok (.nx [a0, a1, .own (((row ++ [n % s]).map D.int).map T.leaf), .sh (.int (n / s)), .sh (.int s), a5, a6, a7]) := by
      have hlen : ((row.map D.int).map T.leaf).length < 16777216 := by simp; omega
      rw [dgA, x_seq, x_app]
      have e1 : d2 gMod (dC1 gInt (aCons (dVar 3) aNil)) (dVar 4) [a0, a1, .own ((row.map D.int).map T.leaf), .sh (.int n), .sh (.int s), a5, a6, a7] = .ok (.sh (.int (n % s))) := by simp [x_mod s0]
      rw [e1]
      show seqK _ (appK 2 _ (some (.own _)) _) = _
      rw [x_app_sh hlen, x_seq_nx]
      show dSet 3 _ [a0, a1, .own _, .sh (.int n), .sh (.int s), a5, a6, a7] = _
      have e2 : ∀ {a2 : SV}, d2 gFdv (dC1 gInt (aCons (dVar 3) aNil)) (dVar 4) [a0, a1, a2, .sh (.int n), .sh (.int s), a5, a6, a7] = .ok (.sh (.int (n / s))) := by simp [x_fdv s0 s1]
      rw [x_set, e2, x_set_sh]
      simp
    rw [hb, x_turn_nx]
    exact h2
def dgB : Stm := (dSeq (dSet 5 (d2 gMod (dC1 gInt (aCons (d2 gAdd (d2 gAdd (d2 gMul (dVar 5) (dC (.int 48271))) (d2 gMul (dC (.int 974711)) (dVar 6))) (dC (.int 12345))) aNil)) (dC (.int 2147483647))))
  (dSeq (dSet 7 (d2 gMod (dC1 gInt (aCons (d2 gMul (dVar 5) (d2 gAdd (d2 gFdv (dVar 5) (dC (.int 65537))) (dC (.int 3)))) aNil)) (dC (.int 2147483629))))
  (dApp 2 (d2 gMod (d2 gFdv (dVar 7) (dC (.int 19))) (d2 gIx (dVar 1) (dVar 6))))))
theorem dgB_ok {a0 a3 a4 x7 : SV} {sizes row : List Int} {i : Nat} {n s : Int} (h7 : x7.free = true) (hs : sizes[i]? = some s) (s0 : 0 < s) (hl : row.length < 1000) (hn : 0 ≤ n ∧ n < 2147483647) :
    ∃ n' d m, (0 ≤ n' ∧ n' < 2147483647) ∧ (0 ≤ d ∧ d < s) ∧ dgB [a0, .sh (.lst (sizes.map D.int)), .own ((row.map D.int).map T.leaf), a3, a4, .sh (.int n), .sh (.int i), x7] = .ok (.nx [a0, .sh (.lst (sizes.map D.int)), .own (((row ++ [d]).map D.int).map T.leaf), a3, a4, .sh (.int n'), .sh (.int i), .sh (.int m)]) := by
  have p7 : ∀ {x : SV} {ρ : Dl.Env}, Dl.putK 0 x (x7 :: ρ) = .ok (.nx (x :: ρ)) := fun {x ρ} => x_put0 h7
  have hlen : (row.map (T.leaf ∘ D.int)).length < 16777216 := by simp; omega
  have hx := x_ixL (ds := sizes.map D.int) (i := i) (d := .int s) (by simp [hs])
  refine ⟨(n * 48271 + 974711 * i + 12345) % 2147483647, ((n * 48271 + 974711 * i + 12345) % 2147483647) * (((n * 48271 + 974711 * i + 12345) % 2147483647) / 65537 + 3) % 2147483629 / 19 % s, ((n * 48271 + 974711 * i + 12345) % 2147483647) * (((n * 48271 + 974711 * i + 12345) % 2147483647) / 65537 + 3) % 2147483629, ⟨Int.emod_nonneg _ (by omega), Int.emod_lt_of_pos _ (by omega)⟩, ⟨Int.emod_nonneg _ (by omega), Int.emod_lt_of_pos _ s0⟩, ?_⟩
  generalize e : (n * 48271 + 974711 * (i : Int) + 12345) % 2147483647 = z
  have hz : 0 ≤ z ∧ z < 2147483647 := by rw [← e]; exact ⟨Int.emod_nonneg _ (by omega), Int.emod_lt_of_pos _ (by omega)⟩
  have m1 : gMul (.sh (.int n)) (.sh (.int 48271)) = .ok (.sh (.int (n * 48271))) := x_mulR (by omega)
  have m2 : gMul (.sh (.int 974711)) (.sh (.int i)) = .ok (.sh (.int (974711 * (i : Int)))) := x_mulL (by omega)
  have m3 : ∀ y : Int, gMul (.sh (.int z)) (.sh (.int y)) = .ok (.sh (.int (z * y))) := fun y => x_mulL (by omega)
  have o1 : ∀ y : Int, gMod (.sh (.int y)) (.sh (.int 2147483647)) = .ok (.sh (.int (y % 2147483647))) := fun y => x_mod (by omega)
  have o2 : ∀ y : Int, gMod (.sh (.int y)) (.sh (.int 2147483629)) = .ok (.sh (.int (y % 2147483629))) := fun y => x_mod (by omega)
  have o3 : ∀ y : Int, gFdv (.sh (.int y)) (.sh (.int 65537)) = .ok (.sh (.int (y / 65537))) := fun y => x_fdv (by omega) (by omega)
  have o4 : ∀ y : Int, gFdv (.sh (.int y)) (.sh (.int 19)) = .ok (.sh (.int (y / 19))) := fun y => x_fdv (by omega) (by omega)
  simp [dgB, m1, m2, o1, e, m3, o2, o3, o4, p7, hx, x_mod s0, x_app_sh hlen]
theorem pow18 : gPow (.sh (.int 10)) (.sh (.int 18)) = .ok (.sh (.int 1000000000000000000)) := by
  simp [gPow, gF, iI]
theorem dgB_loop {a0 a3 a4 y6 y7 : SV} {sizes : List Int} {n : Int} (hs : ∀ s ∈ sizes, 0 < s ∧ s < 1073741824) (hl : sizes.length ≤ 1000) (hn : 0 ≤ n ∧ n < 2147483647) (h6 : y6.free = true) (h7 : y7.free = true) :
    ∃ row z6 z7 n', okRow row sizes ∧ forD (bName 6) dgB (rangeD 0 sizes.length) [a0, .sh (.lst (sizes.map D.int)), .own (([] : List T)), a3, a4, .sh (.int n), y6, y7] = .ok (.nx [a0, .sh (.lst (sizes.map D.int)), .own ((row.map D.int).map T.leaf), a3, a4, .sh (.int n'), z6, z7]) := by
  obtain ⟨ρ', ⟨row, n', z6, z7, q1, q2, q3, q4, q5⟩, e⟩ := forD_range (b := bName 6) (g := dgB) (n := sizes.length)
    (P := fun i ρ => ∃ (row : List Int) (n : Int) (z6 z7 : SV), okRow row (sizes.take i) ∧ (0 ≤ n ∧ n < 2147483647) ∧ z6.free = true ∧ z7.free = true ∧ ρ = [a0, .sh (.lst (sizes.map D.int)), .own ((row.map D.int).map T.leaf), a3, a4, .sh (.int n), z6, z7]) (by
      rintro i hi ρ ⟨row, n, z6, z7, q1, q2, q3, q4, rfl⟩
      have hsi : sizes[i]? = some (sizes[i]'hi) := List.getElem?_eq_getElem hi
      have hrl : row.length < 1000 := by
        rw [q1.1, List.length_take]
        omega
      obtain ⟨n', d, m, h1, h2, h3⟩ := dgB_ok (a0 := a0) (a3 := a3) (a4 := a4) (row := row) q4 hsi (hs _ (List.getElem_mem hi)).1 hrl q2
      refine ⟨_, _, by simp only [bName, putR, List.getElem?_cons_succ, List.getElem?_cons_zero, q3, if_true, List.set_cons_succ, List.set_cons_zero], h3, _, _, _, _, ?_, h1, rfl, rfl, rfl⟩
      have := q1.snoc h2
      rwa [List.take_append_getElem hi] at this) _ ⟨[], n, y6, y7, okRow.nil, hn, h6, h7, rfl⟩
  rw [List.take_of_length_le (Nat.le_refl _)] at q1
  refine ⟨row, z6, z7, n', q1, ?_⟩
  rw [← q5]
  exact e
theorem digits_ok {c : Int} {sizes : List Int} (hs : ∀ s ∈ sizes, 0 < s ∧ s < 1073741824) (hl : sizes.length ≤ 1000) : ∃ row, okRow row sizes ∧ F_l_digits [.int c, .lst (sizes.map D.int)] = .ok (.fr ((row.map D.int).map T.leaf)) := by
  have eg : g_l_digits = dSeq (dSet 2 (dLst aNil)) (dSeq (dSet 3 (dC1 gInt (aCons (dVar 0) aNil))) (dSeq (dIf (dT tBool (d2 gGe (dVar 3) (d2 gPow (dC (.int 10)) (dC (.int 18)))))
      (dSeq (dSet 3 (d2 gSub (dVar 3) (d2 gPow (dC (.int 10)) (dC (.int 18))))) (dSeq (dFor (iA (dVar 1)) (bName 4) dgA) (dRetV 2))) dNext)
      (dSeq (dSet 5 (d2 gMod (dC1 gInt (aCons (dVar 3) aNil)) (dC (.int 2147483629)))) (dSeq (dFor (iR1 (dC1 gLen (aCons (dVar 1) aNil))) (bName 6) dgB) (dRetV 2))))) := rfl
  have h0 : dSet 2 (dLst aNil) [.sh (.int c), .sh (.lst (sizes.map D.int)), .no, .no, .no, .no, .no, .no] = .ok (.nx [.sh (.int c), .sh (.lst (sizes.map D.int)), .own [], .no, .no, .no, .no, .no]) := rfl
  have h1 : dSet 3 (dC1 gInt (aCons (dVar 0) aNil)) [.sh (.int c), .sh (.lst (sizes.map D.int)), .own [], .no, .no, .no, .no, .no] = .ok (.nx [.sh (.int c), .sh (.lst (sizes.map D.int)), .own [], .sh (.int c), .no, .no, .no, .no]) := rfl
  have h2 : dT tBool (d2 gGe (dVar 3) (d2 gPow (dC (.int 10)) (dC (.int 18)))) [.sh (.int c), .sh (.lst (sizes.map D.int)), .own [], .sh (.int c), .no, .no, .no, .no] = .ok (decide (1000000000000000000 ≤ c)) := by
    simp [pow18]
  rw [F_l_digits, x_run, eg]
  by_cases h : 1000000000000000000 ≤ c
  · have h3 : dSet 3 (d2 gSub (dVar 3) (d2 gPow (dC (.int 10)) (dC (.int 18)))) [.sh (.int c), .sh (.lst (sizes.map D.int)), .own [], .sh (.int c), .no, .no, .no, .no] = .ok (.nx [.sh (.int c), .sh (.lst (sizes.map D.int)), .own [], .sh (.int (c - 1000000000000000000)), .no, .no, .no, .no]) := by
      simp [pow18]
    obtain ⟨row, n', y', q1, q2⟩ := dgA_loop (a0 := .sh (.int c)) (a1 := .sh (.lst (sizes.map D.int))) (a5 := .no) (a6 := .no) (a7 := .no) sizes [] [] (c - 1000000000000000000) .no rfl okRow.nil hs (by simpa using hl)
    refine ⟨row, q1, ?_⟩
    have hi : iA (dVar 1) [.sh (.int c), .sh (.lst (sizes.map D.int)), .own [], .sh (.int (c - 1000000000000000000)), .no, .no, .no, .no] = .ok (sizes.map D.int) := rfl
    show runK (dSeq _ _ [.sh (.int c), .sh (.lst (sizes.map D.int)), .no, .no, .no, .no, .no, .no]) = _
    rw [x_seq, h0, x_seq_nx, x_seq, h1, x_seq_nx, x_seq, x_if, h2, decide_eq_true h, x_if_t, x_seq, h3, x_seq_nx, x_seq, x_for, hi, x_for_ok]
    rw [List.map_nil, List.map_nil] at q2
    rw [q2, x_seq_nx]
    rfl
  · have h3 : dSet 5 (d2 gMod (dC1 gInt (aCons (dVar 3) aNil)) (dC (.int 2147483629))) [.sh (.int c), .sh (.lst (sizes.map D.int)), .own [], .sh (.int c), .no, .no, .no, .no] = .ok (.nx [.sh (.int c), .sh (.lst (sizes.map D.int)), .own [], .sh (.int c), .no, .sh (.int (c % 2147483629)), .no, .no]) := by
      have o2 : ∀ y : Int, gMod (.sh (.int y)) (.sh (.int 2147483629)) = .ok (.sh (.int (y % 2147483629))) := fun y => x_mod (by omega)
      simp [o2]
    have hb : 0 ≤ c % 2147483629 ∧ c % 2147483629 < 2147483647 := by omega
    obtain ⟨row, z6, z7, n', q1, q2⟩ := dgB_loop (a0 := .sh (.int c)) (a3 := .sh (.int c)) (a4 := .no) (y6 := .no) (y7 := .no) hs hl hb rfl rfl
    refine ⟨row, q1, ?_⟩
    have hi : iR1 (dC1 gLen (aCons (dVar 1) aNil)) [.sh (.int c), .sh (.lst (sizes.map D.int)), .own [], .sh (.int c), .no, .sh (.int (c % 2147483629)), .no, .no] = .ok (rangeD 0 sizes.length) := by
      have q : (dC1 gLen (aCons (dVar 1) aNil)) [.sh (.int c), .sh (.lst (sizes.map D.int)), .own [], .sh (.int c), .no, .sh (.int (c % 2147483629)), .no, .no] = .ok (.sh (.int sizes.length)) := by simp
      have := x_rng (n := sizes.length) (by omega) q
      rwa [Int.toNat_natCast] at this
    show runK (dSeq _ _ [.sh (.int c), .sh (.lst (sizes.map D.int)), .no, .no, .no, .no, .no, .no]) = _
    rw [x_seq, h0, x_seq_nx, x_seq, h1, x_seq_nx, x_seq, x_if, h2, decide_eq_false h, x_if_f, x_next, x_seq_nx, x_seq, h3, x_seq_nx, x_seq, x_for, hi, x_for_ok, q2, x_seq_nx]
    rfl
def ceB : Stm := dSet 2 (d2 gMod (dC1 gInt (aCons (d2 gAdd (d2 gMul (dVar 2) (dC (.int 31))) (d2 gMod (dC1 gInt (aCons (dVar 3) aNil)) (dC (.int 1000003)))) aNil)) (dC (.int 1000003)))
theorem ceB_loop {a0 a1 : SV} : ∀ (ns : List Int) (n : Int) (y : SV), y.free = true → ∃ n' y', forD (bName 3) ceB (ns.map D.int) [a0, a1, .sh (.int n), y] = .ok (.nx [a0, a1, .sh (.int n'), y'])
  | [], n, y, _ => ⟨n, y, rfl⟩
  | m :: ns, n, y, hy => by
    have m1 : gMul (.sh (.int n)) (.sh (.int 31)) = .ok (.sh (.int (n * 31))) := x_mulR (by omega)
    have o1 : ∀ y : Int, gMod (.sh (.int y)) (.sh (.int 1000003)) = .ok (.sh (.int (y % 1000003))) := fun y => x_mod (by omega)
    obtain ⟨n', y', h⟩ := ceB_loop (a0 := a0) (a1 := a1) ns ((n * 31 + m % 1000003) % 1000003) (.sh (.int m)) rfl
    refine ⟨n', y', ?_⟩
    have hb : ceB [a0, a1, .sh (.int n), .sh (.int m)] = .ok (.nx [a0, a1, .sh (.int ((n * 31 + m % 1000003) % 1000003)), .sh (.int m)]) := by simp [ceB, m1, o1]
    rw [List.map_cons, x_forD_cons (ρ1 := [a0, a1, .sh (.int n), .sh (.int m)]) (by simp [putR, hy]), hb, x_turn_nx]
    exact h
theorem cell_ok {ns : List Int} {k : Nat} (hk : k < 1000) : ∃ c, F_l_cell [.scr ns, .int k] = .ok (.sh (.int c)) := by
  have eg : g_l_cell = dSeq (dIf (dT tBool (d2 gLt (dVar 1) (dC1 gLen (aCons (dVar 0) aNil)))) (dRet (d2 gIx (dVar 0) (dVar 1))) dNext) (dSeq (dSet 2 (dC (.int 17))) (dSeq (dFor (iA (dVar 0)) (bName 3) ceB)
      (dRet (d2 gMod (dC1 gInt (aCons (d2 gMul (d2 gMul (d2 gAdd (dVar 2) (dC (.int 7))) (d2 gAdd (dVar 1) (dC (.int 3)))) (dC (.int 69621))) aNil)) (dC (.int 2147483647)))))) := rfl
  have h1 : dT tBool (d2 gLt (dVar 1) (dC1 gLen (aCons (dVar 0) aNil))) [.sh (.scr ns), .sh (.int k), .no, .no] = .ok (decide ((k : Int) < ns.length)) := by simp
  rw [F_l_cell, x_run, eg]
  show ∃ c, runK (dSeq _ _ [.sh (.scr ns), .sh (.int k), .no, .no]) = _
  rw [x_seq, x_if, h1]
  by_cases h : (k : Int) < ns.length
  · have hk' : k < ns.length := by omega
    have e : d2 gIx (dVar 0) (dVar 1) [.sh (.scr ns), .sh (.int k), .no, .no] = .ok (.sh (.int (ns[k]'hk'))) := by
      simp [gIx, atI, ixN, hk']
    exact ⟨ns[k]'hk', by rw [decide_eq_true h, x_if_t, x_ret, e]; rfl⟩
  · obtain ⟨n', y', q⟩ := ceB_loop (a0 := .sh (.scr ns)) (a1 := .sh (.int k)) ns 17 .no rfl
    have h2 : dSet 2 (dC (.int 17)) [.sh (.scr ns), .sh (.int k), .no, .no] = .ok (.nx [.sh (.scr ns), .sh (.int k), .sh (.int 17), .no]) := rfl
    have hi : iA (dVar 0) [.sh (.scr ns), .sh (.int k), .sh (.int 17), .no] = .ok (ns.map D.int) := rfl
    have m1 : gMul (.sh (.int (n' + 7))) (.sh (.int (k + 3))) = .ok (.sh (.int ((n' + 7) * (k + 3)))) := x_mulR (by omega)
    have m2 : ∀ z : Int, gMul (.sh (.int z)) (.sh (.int 69621)) = .ok (.sh (.int (z * 69621))) := fun z => x_mulR (by omega)
    have o1 : ∀ y : Int, gMod (.sh (.int y)) (.sh (.int 2147483647)) = .ok (.sh (.int (y % 2147483647))) := fun y => x_mod (by omega)
    rw [decide_eq_false h, x_if_f, x_next, x_seq_nx, x_seq, h2, x_seq_nx, x_seq, x_for, hi, x_for_ok, q, x_seq_nx]
    exact ⟨_, by simp [m1, m2, o1]; rfl⟩
section
variable {ρ : Dl.Env} {ns : List Int} {y : SV}
theorem cell_okI {k : Int} (h : 0 ≤ k ∧ k < 1000) : ∃ c, F_l_cell [.scr ns, .int k] = .ok (.sh (.int c)) := by
  obtain ⟨c, e⟩ := cell_ok (ns := ns) (k := k.toNat) (by omega)
  rw [Int.toNat_of_nonneg h.1] at e
  exact ⟨c, e⟩
/-- digits(cell(script, k), sizes) -/
def dgc (i : Nat) (k L : Dl.Env → Res EV) : Dl.Env → Res EV := dCall 2 F_l_digits [] (aCons (dCall 2 F_l_cell [] (aCons (dVar i) (aCons k aNil))) (aCons L aNil))
theorem dgc_ok {i : Nat} {k : Int} {f L : Dl.Env → Res EV} {sizes : List Int} (hk : 0 ≤ k ∧ k < 1000) (h0 : ρ[i]? = some (.sh (.scr ns))) (hf : f ρ = .ok (.sh (.int k))) (hL : L ρ = .ok (.fr ((sizes.map D.int).map T.leaf))) (hs : ∀ s ∈ sizes, 0 < s ∧ s < 1073741824) (hl : sizes.length ≤ 1000) :
    ∃ row, okRow row sizes ∧ dgc i f L ρ = .ok (.fr ((row.map D.int).map T.leaf)) := by
  obtain ⟨c, e⟩ := cell_okI (ns := ns) hk
  obtain ⟨row, h1, h2⟩ := digits_ok (c := c) hs hl
  refine ⟨row, h1, ?_⟩
  rw [dgc, x_call, x_cons, x_call, x_cons, v_sh h0, x_cons, hf, x_nil, x_cons_ok, x_cons_ok, x_call_ok, callN_ss, e, x_cons, hL, x_nil, x_cons_ok, x_cons_ok, x_call_ok, callN_sf, x_leaves, h2]
theorem lit_ix {L : List Int} {e f : Dl.Env → Res EV} {q : Int} (hL : e ρ = .ok (.fr ((L.map D.int).map T.leaf))) (hf : f ρ = .ok (.sh (.int q))) (hq : 0 ≤ q ∧ q < L.length) : ∃ v ∈ L, d2 gIx e f ρ = .ok (.sh (.int v)) := by
  have hi : q.toNat < L.length := by omega
  refine ⟨L[q.toNat]'hi, List.getElem_mem hi, ?_⟩
  rw [x_d2, hL, hf, x_d2_ok]
  exact x_ixFr hq.1 (by rw [List.getElem?_map, List.getElem?_eq_getElem hi, Option.map_some])
end
theorem pls_map {α : Type} {h : α → D} : ∀ {xs : List α}, (∀ x ∈ xs, pl (h x) = true) → pls (xs.map h) = true
  | [], _ => rfl
  | x :: xs, q => by rw [List.map_cons, pls, q x List.mem_cons_self, pls_map fun y hy => q y (List.mem_cons_of_mem _ hy)]; rfl
theorem deps_map {α : Type} {h : α → D} {n : Nat} : ∀ {xs : List α}, (∀ x ∈ xs, (h x).dep ≤ n) → D.deps (xs.map h) ≤ n
  | [], _ => Nat.zero_le _
  | x :: xs, q => by
    rw [List.map_cons, D.deps]
    have h1 := q x List.mem_cons_self
    have h2 := deps_map fun y hy => q y (List.mem_cons_of_mem _ hy)
    omega
theorem sms_map {α : Type} {h : α → D} : ∀ {xs : List α}, (∀ x ∈ xs, sm (h x) = true) → sms (xs.map h) = true
  | [], _ => rfl
  | x :: xs, q => by rw [List.map_cons, sms, q x List.mem_cons_self, sms_map fun y hy => q y (List.mem_cons_of_mem _ hy)]; rfl
end K49
set_option Elab.async false
set_option linter.all false
set_option maxRecDepth 100000
namespace Dl
open PySem PySem.Spec PyProof.Rows L2
/-- a loop that ends by one value at the first bad item -/
theorem forD_stop {α : Type} {b : Bnd} {g : Stm} {c : α → D} {P : Dl.Env → Prop} {bad : α → Bool} {x : EV} : ∀ {xs : List α}, (∀ a ∈ xs, ∀ ρ, P ρ → ∃ ρ1, b (c a) ρ = some ρ1 ∧ (bad a = true → g ρ1 = .ok (.ret x)) ∧ (bad a = false → ∃ ρ2, g ρ1 = .ok (.nx ρ2) ∧ P ρ2)) →
    ∀ ρ, P ρ → (xs.any bad = true → forD b g (xs.map c) ρ = .ok (.ret x)) ∧ (xs.any bad = false → ∃ ρ', P ρ' ∧ forD b g (xs.map c) ρ = .ok (.nx ρ'))
  | [], _, ρ, h => ⟨fun z => by simp at z, fun _ => ⟨ρ, h, rfl⟩⟩
  | a :: xs, q, ρ, h => by
    obtain ⟨ρ1, e1, e2, e3⟩ := q a List.mem_cons_self ρ h
    rw [List.map_cons, x_forD_cons e1, List.any_cons]
    cases e : bad a with
    | true => exact ⟨fun _ => by rw [e2 e, x_turn_ret], fun z => by simp at z⟩
    | false =>
      obtain ⟨ρ2, e4, h2⟩ := e3 e
      rw [e4, x_turn_nx, Bool.false_or]
      exact forD_stop (fun y hy => q y (List.mem_cons_of_mem _ hy)) ρ2 h2
/-- a slot that holds texts: shared, or its own list -/
def holdsS (ss : List Str) (x : SV) : Prop := (∃ k, x = .sh (seqS k ss)) ∨ x = .own ((ss.map D.str).map T.leaf)
theorem in_slot {ρ : Dl.Env} {v l : Nat} {s : Str} {ss : List Str} {x : SV} (hv : ρ[v]? = some (.sh (.str s))) (hl : ρ[l]? = some x) (hx : holdsS ss x) (hs : PyData.strOk s = true) (hn : ∀ n ∈ ss, PyData.strOk n = true) : d2 gIn (dVar v) (dVar l) ρ = .ok (.sh (.bl (decide (s ∈ ss)))) := by
  rcases hx with ⟨k, rfl⟩ | rfl
  · rw [x_d2, v_sh hv, v_sh hl, x_d2_ok, in_seq hs hn]
  · rw [x_d2, v_sh hv, v_own hl, x_d2_ok, in_own hs hn]
theorem cnt_ok {ρ : Dl.Env} {it : Itf} {v l : Nat} {hs ss : List Str} {x y : SV} (hit : it ρ = .ok (hs.map D.str)) (hv : ρ[v]? = some y) (hl : ρ[l]? = some x) (hvl : v ≠ l) (hx : holdsS ss x) (h1 : ∀ n ∈ hs, PyData.strOk n = true) (h2 : ∀ n ∈ ss, PyData.strOk n = true) (hlen : hs.length ≤ 1000) :
    dLc it (bName v) (dT tBool (d2 gIn (dVar v) (dVar l))) (dVar v) [v] ρ = .ok (.fr (((hs.filter fun h => decide (h ∈ ss)).map D.str).map T.leaf)) := by
  rw [x_lc, x_wipe1, hit, x_lc_of (p := fun h => decide (h ∈ ss)) (k := D.str) (by omega) fun h hh => ⟨_, bn hv, ?_, fun _ => v_sh (get_set hv)⟩]
  rw [x_t, in_slot (get_set hv) (by rw [get_ne hvl]; exact hl) hx (h1 h hh) h2, x_t_ok, x_tBool]
end Dl
namespace K49
open PySem PySem.Spec PyProof.Rows L2 Dl
/-! ### what was seen -/
structure Tk where
  g : Str
  c : Str
  hs : List Str
def Tk.d (t : Tk) : D := .tup [.str t.g, .str t.c, .tup (t.hs.map D.str)]
def tieD (p : Str × Str) : D := .tup [.str p.1, .str p.2]
structure Sn where
  names : List Str
  tks : List Tk
  dep : List Int
  ties : List (Str × Str)
def Sn.d (s : Sn) : D := .lst [.lst (s.names.map D.str), .lst (s.tks.map Tk.d), .lst (s.dep.map D.int), .lst (s.ties.map tieD)]
def Sn.o (s : Sn) : D := .obj "Seen" [("guests", .tup (s.names.map D.str)), ("takings", .tup (s.tks.map Tk.d)), ("depths", .tup (s.dep.map D.int)), ("ties", .tup (s.ties.map tieD))]
structure Sn.Ok (s : Sn) : Prop where
  so : ∀ n ∈ s.names, PyData.strOk n = true
  nm : ∀ n ∈ s.names, F_is_name [.str n] = .ok (.sh (.bl true))
  nd : s.names.Nodup
  ne : s.names ≠ []
  nl : s.names.length ≤ 12
  tk : ∀ t ∈ s.tks, t.g ∈ s.names ∧ t.c ∈ t.hs ∧ t.hs = s.names.filter fun n => decide (n ∈ t.hs)
  tl : s.tks.length ≤ 100
  dl : s.dep.length = s.names.length
  dp : ∀ d ∈ s.dep, 1 ≤ d
  ti : ∀ p ∈ s.ties, p.1 ∈ s.names ∧ p.2 ∈ s.names ∧ p.1 ≠ p.2
  til : s.ties.length ≤ 100
def depOf (s : Sn) (g : Str) : Int := (s.dep[s.names.idxOf g]?).getD 0
def held (left hs : List Str) : List Str := hs.filter fun h => decide (h ∈ left)
/-- the taking t forbids its cloak, as long as left is there -/
def over (s : Sn) (left : List Str) (c : Str) (t : Tk) : Bool := decide (t.c = c) && decide (depOf s t.g < ((held left t.hs).length : Int))
def bound (left : List Str) (c : Str) (p : Str × Str) : Bool := decide (p.1 = c) && decide (p.2 ∈ left)
def may (s : Sn) (left : List Str) (c : Str) : Bool := !s.tks.any (over s left c) && !s.ties.any (bound left c)
section
variable {s : Sn} {left : List Str} {c : Str} {t : Tk} {ρ : Dl.Env}
theorem hs_in (o : s.Ok) (ht : t ∈ s.tks) : ∀ h ∈ t.hs, h ∈ s.names := fun h hh => by
  rw [(o.tk t ht).2.2] at hh
  exact (List.mem_filter.mp hh).1
theorem hs_so (o : s.Ok) (ht : t ∈ s.tks) : ∀ h ∈ t.hs, PyData.strOk h = true := fun h hh => o.so h (hs_in o ht h hh)
theorem hs_len (o : s.Ok) (ht : t ∈ s.tks) : t.hs.length ≤ 12 := by
  rw [(o.tk t ht).2.2]
  exact Nat.le_trans (List.length_filter_le _ _) o.nl
theorem dep_ix (o : s.Ok) (hg : t.g ∈ s.names) : s.dep[s.names.idxOf t.g]? = some (depOf s t.g) := by
  have hl := List.idxOf_lt_length_of_mem hg
  rw [← o.dl] at hl
  unfold depOf
  rw [List.getElem?_eq_getElem hl]
  rfl
theorem dep_pos (o : s.Ok) (hg : t.g ∈ s.names) : 1 ≤ depOf s t.g := by
  have h := dep_ix o hg
  exact o.dp _ (List.mem_of_getElem? h)
/-! ### may_peel -/
def mpD : Dl.Env → Res EV := d2 gIx (dFld "Seen" "depths" (dVar 0)) (dIdx (dFld "Seen" "guests" (dVar 0)) (dVar 3))
theorem fld_guests : fldK "Seen" "guests" (.ok (.sh s.o)) = .ok (.sh (seqS true s.names)) := x_fld_ok rfl
theorem fld_takings : fldK "Seen" "takings" (.ok (.sh s.o)) = .ok (.sh (.tup (s.tks.map Tk.d))) := x_fld_ok rfl
theorem fld_depths : fldK "Seen" "depths" (.ok (.sh s.o)) = .ok (.sh (.tup (s.dep.map D.int))) := x_fld_ok rfl
theorem fld_ties : fldK "Seen" "ties" (.ok (.sh s.o)) = .ok (.sh (.tup (s.ties.map tieD))) := x_fld_ok rfl
theorem mpD_ok (o : s.Ok) (hg : t.g ∈ s.names) (h0 : ρ[0]? = some (.sh s.o)) (h3 : ρ[3]? = some (.sh (.str t.g))) : mpD ρ = .ok (.sh (.int (depOf s t.g))) := by
  rw [mpD, x_d2, x_fld, v_sh h0, fld_depths, x_idx, x_fld, v_sh h0, fld_guests, idx_seq (v_sh h3) hg o.so, x_d2_ok]
  exact x_ixT (by rw [List.getElem?_map, dep_ix o hg]; rfl)
def mpL : Dl.Env → Res EV := dC1 gLen (aCons (dLc (iA (dVar 5)) (bName 9) (dT tBool (d2 gIn (dVar 9) (dVar 1))) (dVar 9) [9]) aNil)
theorem len_strs {ss : List Str} : gLen [.fr ((ss.map D.str).map T.leaf)] = .ok (.sh (.int (ss.length : Nat))) := by
  rw [x_len_fr, x_leaves, List.length_map]
def mp1 : Stm := dIf (dT tBool (d2 gEq (dVar 4) (dVar 2)))
  (dSeq (dSet 6 mpL)
  (dIf (dT tBool (d2 gGt (dVar 6) mpD))
  (dRet (dC (.bl false)))
  dNext))
  dNext
theorem mp1_ok {L x6 : SV} (o : s.Ok) (ht : t ∈ s.tks) (hL : holdsS left L) (hl : ∀ n ∈ left, PyData.strOk n = true) (hc : PyData.strOk c = true) (h6 : x6.free = true) :
    (over s left c t = true → mp1 [.sh s.o, L, .sh (.str c), .sh (.str t.g), .sh (.str t.c), .sh (.tup (t.hs.map D.str)), x6, .no, .no, .no] = .ok (.ret (.sh (.bl false)))) ∧
    (over s left c t = false → ∃ y6 : SV, y6.free = true ∧ mp1 [.sh s.o, L, .sh (.str c), .sh (.str t.g), .sh (.str t.c), .sh (.tup (t.hs.map D.str)), x6, .no, .no, .no] = .ok (.nx [.sh s.o, L, .sh (.str c), .sh (.str t.g), .sh (.str t.c), .sh (.tup (t.hs.map D.str)), y6, .no, .no, .no])) := by
  obtain ⟨hg, hch, _⟩ := o.tk t ht
  have hso := hs_so o ht
  have hlen := hs_len o ht
  have ct : PyData.strOk t.c = true := hso _ hch
  have e1 : dT tBool (d2 gEq (dVar 4) (dVar 2)) [.sh s.o, L, .sh (.str c), .sh (.str t.g), .sh (.str t.c), .sh (.tup (t.hs.map D.str)), x6, .no, .no, .no] = .ok (decide (t.c = c)) := by
    have v4 : dVar 4 [.sh s.o, L, .sh (.str c), .sh (.str t.g), .sh (.str t.c), .sh (.tup (t.hs.map D.str)), x6, .no, .no, .no] = .ok (.sh (.str t.c)) := rfl
    have v2 : dVar 2 [.sh s.o, L, .sh (.str c), .sh (.str t.g), .sh (.str t.c), .sh (.tup (t.hs.map D.str)), x6, .no, .no, .no] = .ok (.sh (.str c)) := rfl
    rw [x_t, x_d2, v4, v2, x_d2_ok, x_eqS ct hc, x_t_ok, x_tBool]
  have e2 : mpL [.sh s.o, L, .sh (.str c), .sh (.str t.g), .sh (.str t.c), .sh (.tup (t.hs.map D.str)), x6, .no, .no, .no] = .ok (.sh (.int ((held left t.hs).length : Nat))) := by
    rw [mpL, x_c1, x_cons, cnt_ok (hs := t.hs) (ss := left) (x := L) (y := .no) rfl rfl rfl (by decide) hL hso hl (by omega), x_nil, x_cons_ok, x_c1_ok, len_strs]
    rfl
  rw [mp1, x_if, e1]
  unfold over
  by_cases h : t.c = c
  · rw [decide_eq_true h, Bool.true_and, x_if_t]
    have e3 : dT tBool (d2 gGt (dVar 6) mpD) [.sh s.o, L, .sh (.str c), .sh (.str t.g), .sh (.str t.c), .sh (.tup (t.hs.map D.str)), .sh (.int ((held left t.hs).length : Nat)), .no, .no, .no] = .ok (decide (depOf s t.g < ((held left t.hs).length : Int))) := by
      have v6 : dVar 6 [.sh s.o, L, .sh (.str c), .sh (.str t.g), .sh (.str t.c), .sh (.tup (t.hs.map D.str)), .sh (.int ((held left t.hs).length : Nat)), .no, .no, .no] = .ok (.sh (.int ((held left t.hs).length : Nat))) := rfl
      rw [x_t, x_d2, v6, mpD_ok o hg rfl rfl, x_d2_ok, x_gt, x_t_ok, x_tBool]
    rw [st_sh0 (i := 6) (y := x6) e2 rfl h6]
    show (_ → dIf _ _ _ [.sh s.o, L, .sh (.str c), .sh (.str t.g), .sh (.str t.c), .sh (.tup (t.hs.map D.str)), .sh (.int ((held left t.hs).length : Nat)), .no, .no, .no] = _) ∧ (_ → ∃ y6 : SV, _ ∧ dIf _ _ _ [.sh s.o, L, .sh (.str c), .sh (.str t.g), .sh (.str t.c), .sh (.tup (t.hs.map D.str)), .sh (.int ((held left t.hs).length : Nat)), .no, .no, .no] = _)
    rw [x_if, e3]
    exact ⟨fun z => by rw [z]; rfl, fun z => ⟨.sh (.int ((held left t.hs).length : Nat)), rfl, by rw [z]; rfl⟩⟩
  · rw [decide_eq_false h, Bool.false_and, x_if_f]
    exact ⟨(fun z => by cases z), fun _ => ⟨x6, h6, rfl⟩⟩
def mp2 : Stm := dIf (dAndT (dT tBool (d2 gEq (dVar 7) (dVar 2))) (dT tBool (d2 gIn (dVar 8) (dVar 1))))
  (dRet (dC (.bl false)))
  dNext
theorem mp2_ok {L a0 x3 x4 x5 x6 x9 : SV} {p : Str × Str} (h1 : PyData.strOk p.1 = true) (h2 : PyData.strOk p.2 = true) (hL : holdsS left L) (hl : ∀ n ∈ left, PyData.strOk n = true) (hc : PyData.strOk c = true) :
    mp2 [a0, L, .sh (.str c), x3, x4, x5, x6, .sh (.str p.1), .sh (.str p.2), x9] = if bound left c p then .ok (.ret (.sh (.bl false))) else .ok (.nx [a0, L, .sh (.str c), x3, x4, x5, x6, .sh (.str p.1), .sh (.str p.2), x9]) := by
  have e1 : dT tBool (d2 gEq (dVar 7) (dVar 2)) [a0, L, .sh (.str c), x3, x4, x5, x6, .sh (.str p.1), .sh (.str p.2), x9] = .ok (decide (p.1 = c)) := by
    have v7 : dVar 7 [a0, L, .sh (.str c), x3, x4, x5, x6, .sh (.str p.1), .sh (.str p.2), x9] = .ok (.sh (.str p.1)) := rfl
    have v2 : dVar 2 [a0, L, .sh (.str c), x3, x4, x5, x6, .sh (.str p.1), .sh (.str p.2), x9] = .ok (.sh (.str c)) := rfl
    rw [x_t, x_d2, v7, v2, x_d2_ok, x_eqS h1 hc, x_t_ok, x_tBool]
  have e2 : dT tBool (d2 gIn (dVar 8) (dVar 1)) [a0, L, .sh (.str c), x3, x4, x5, x6, .sh (.str p.1), .sh (.str p.2), x9] = .ok (decide (p.2 ∈ left)) := by
    rw [x_t, in_slot (s := p.2) (ss := left) (x := L) rfl rfl hL h2 hl, x_t_ok, x_tBool]
  rw [mp2, x_if, x_andT, e1]
  unfold bound
  by_cases h : p.1 = c
  · rw [decide_eq_true h, x_andT_t, e2, Bool.true_and]
    cases decide (p.2 ∈ left) <;> rfl
  · rw [decide_eq_false h, x_andT_f, Bool.false_and]
    rfl
theorem g_may : g_may_peel = dSeq (dFor (iA (dFld "Seen" "takings" (dVar 0))) (bTup 3 (bCons (bName 3) (bCons (bName 4) (bCons (bName 5) bNil)))) mp1) (dSeq (dFor (iA (dFld "Seen" "ties" (dVar 0))) (bTup 2 (bCons (bName 7) (bCons (bName 8) bNil))) mp2) (dRet (dC (.bl true)))) := rfl
theorem may_run {L : SV} (o : s.Ok) (hL : holdsS left L) (hl : ∀ n ∈ left, PyData.strOk n = true) (hc : PyData.strOk c = true) :
    runK (g_may_peel [.sh s.o, L, .sh (.str c), .no, .no, .no, .no, .no, .no, .no]) = .ok (.sh (.bl (may s left c))) := by
  have q1 := forD_stop (b := bTup 3 (bCons (bName 3) (bCons (bName 4) (bCons (bName 5) bNil)))) (g := mp1) (c := Tk.d) (bad := over s left c) (x := .sh (.bl false)) (xs := s.tks)
    (P := fun ρ => ∃ x3 x4 x5 x6 : SV, x3.free = true ∧ x4.free = true ∧ x5.free = true ∧ x6.free = true ∧ ρ = [.sh s.o, L, .sh (.str c), x3, x4, x5, x6, .no, .no, .no]) (by
      rintro t ht ρ ⟨x3, x4, x5, x6, f3, f4, f5, f6, rfl⟩
      obtain ⟨k1, k2⟩ := mp1_ok (x6 := x6) o ht hL hl hc f6
      refine ⟨_, by simp [bTup, bCons, bNil, bName, putR, f3, f4, f5, Tk.d], k1, fun z => ?_⟩
      obtain ⟨y6, f, e⟩ := k2 z
      exact ⟨_, e, _, _, _, y6, rfl, rfl, rfl, f, rfl⟩) [.sh s.o, L, .sh (.str c), .no, .no, .no, .no, .no, .no, .no] ⟨.no, .no, .no, .no, rfl, rfl, rfl, rfl, rfl⟩
  have i1 : iA (dFld "Seen" "takings" (dVar 0)) [.sh s.o, L, .sh (.str c), .no, .no, .no, .no, .no, .no, .no] = .ok (s.tks.map Tk.d) := by
    have v0 : dVar 0 [.sh s.o, L, .sh (.str c), .no, .no, .no, .no, .no, .no, .no] = .ok (.sh s.o) := rfl
    rw [x_iA, x_fld, v0, fld_takings, x_wK, x_walk_tup]
  rw [g_may, x_seq, x_for, i1, x_for_ok]
  unfold may
  cases e1 : s.tks.any (over s left c) with
  | true =>
    rw [q1.1 e1]
    rfl
  | false =>
    obtain ⟨ρ', ⟨x3, x4, x5, x6, f3, f4, f5, f6, rfl⟩, e2⟩ := q1.2 e1
    rw [e2, x_seq_nx, x_seq]
    have q2 := forD_stop (b := bTup 2 (bCons (bName 7) (bCons (bName 8) bNil))) (g := mp2) (c := tieD) (bad := bound left c) (x := .sh (.bl false)) (xs := s.ties)
      (P := fun ρ => ∃ x7 x8 : SV, x7.free = true ∧ x8.free = true ∧ ρ = [.sh s.o, L, .sh (.str c), x3, x4, x5, x6, x7, x8, .no]) (by
        rintro p hp ρ ⟨x7, x8, f7, f8, rfl⟩
        obtain ⟨p1, p2, _⟩ := o.ti p hp
        have k := mp2_ok (a0 := .sh s.o) (x3 := x3) (x4 := x4) (x5 := x5) (x6 := x6) (x9 := .no) (o.so _ p1) (o.so _ p2) hL hl hc
        refine ⟨[.sh s.o, L, .sh (.str c), x3, x4, x5, x6, .sh (.str p.1), .sh (.str p.2), .no], by simp [bTup, bCons, bNil, bName, putR, f7, f8, tieD], fun z => by rw [k, z]; rfl, fun z => ⟨_, by rw [k, z]; rfl, _, _, rfl, rfl, rfl⟩⟩) [.sh s.o, L, .sh (.str c), x3, x4, x5, x6, .no, .no, .no] ⟨.no, .no, rfl, rfl, rfl⟩
    have i2 : iA (dFld "Seen" "ties" (dVar 0)) [.sh s.o, L, .sh (.str c), x3, x4, x5, x6, .no, .no, .no] = .ok (s.ties.map tieD) := by
      have v0 : dVar 0 [.sh s.o, L, .sh (.str c), x3, x4, x5, x6, .no, .no, .no] = .ok (.sh s.o) := rfl
      rw [x_iA, x_fld, v0, fld_ties, x_wK, x_walk_tup]
    rw [x_for, i2, x_for_ok]
    cases e3 : s.ties.any (bound left c) with
    | true =>
      rw [q2.1 e3]
      rfl
    | false =>
      obtain ⟨ρ', ⟨x7, x8, f7, f8, rfl⟩, e4⟩ := q2.2 e3
      rw [e4]
      rfl
theorem may_ok {k : Bool} (o : s.Ok) (hl : ∀ n ∈ left, PyData.strOk n = true) (hc : PyData.strOk c = true) : F_may_peel [s.o, seqS k left, .str c] = .ok (.sh (.bl (may s left c))) := by
  have h := may_run (c := c) (L := .sh (seqS k left)) o (.inl ⟨k, rfl⟩) hl hc
  exact h
end
end K49
set_option Elab.async false
set_option linter.all false
set_option maxRecDepth 100000
namespace K49
open PySem PySem.Spec PyProof.Rows L2 Dl
section
variable {s : Sn} {left : List Str} {c : Str} {t : Tk} {ρ : Dl.Env}
/-! ### the law's own free -/
theorem ix0 {v : Nat} (h : ρ[v]? = some (.sh s.d)) : d2 gIx (dVar v) (dC (.int 0)) ρ = .ok (.sh (seqS false s.names)) := by
  rw [x_d2, v_sh h, x_c, x_d2_ok]
  exact x_ixLz (by omega) rfl
theorem ix1 {v : Nat} (h : ρ[v]? = some (.sh s.d)) : d2 gIx (dVar v) (dC (.int 1)) ρ = .ok (.sh (.lst (s.tks.map Tk.d))) := by
  rw [x_d2, v_sh h, x_c, x_d2_ok]
  exact x_ixLz (by omega) rfl
theorem ix2 {v : Nat} (h : ρ[v]? = some (.sh s.d)) : d2 gIx (dVar v) (dC (.int 2)) ρ = .ok (.sh (.lst (s.dep.map D.int))) := by
  rw [x_d2, v_sh h, x_c, x_d2_ok]
  exact x_ixLz (by omega) rfl
theorem ix3 {v : Nat} (h : ρ[v]? = some (.sh s.d)) : d2 gIx (dVar v) (dC (.int 3)) ρ = .ok (.sh (.lst (s.ties.map tieD))) := by
  rw [x_d2, v_sh h, x_c, x_d2_ok]
  exact x_ixLz (by omega) rfl
theorem tk0 {v : Nat} (h : ρ[v]? = some (.sh t.d)) : d2 gIx (dVar v) (dC (.int 0)) ρ = .ok (.sh (.str t.g)) := by
  rw [x_d2, v_sh h, x_c, x_d2_ok, Tk.d, x_ix0]
theorem tk1 {v : Nat} (h : ρ[v]? = some (.sh t.d)) : d2 gIx (dVar v) (dC (.int 1)) ρ = .ok (.sh (.str t.c)) := by
  rw [x_d2, v_sh h, x_c, x_d2_ok, Tk.d, x_ix1]
theorem tk2 {v : Nat} (h : ρ[v]? = some (.sh t.d)) : d2 gIx (dVar v) (dC (.int 2)) ρ = .ok (.sh (.tup (t.hs.map D.str))) := by
  rw [x_d2, v_sh h, x_c, x_d2_ok, Tk.d, x_ix2]
theorem ti0 {v : Nat} {p : Str × Str} (h : ρ[v]? = some (.sh (tieD p))) : d2 gIx (dVar v) (dC (.int 0)) ρ = .ok (.sh (.str p.1)) := by
  rw [x_d2, v_sh h, x_c, x_d2_ok, tieD, x_ix0]
theorem ti1 {v : Nat} {p : Str × Str} (h : ρ[v]? = some (.sh (tieD p))) : d2 gIx (dVar v) (dC (.int 1)) ρ = .ok (.sh (.str p.2)) := by
  rw [x_d2, v_sh h, x_c, x_d2_ok, tieD, x_ix1]
/-- the depth of the guest of the taking in slot v -/
def dpt (v : Nat) : Dl.Env → Res EV := d2 gIx (d2 gIx (dVar 0) (dC (.int 2))) (dIdx (d2 gIx (dVar 0) (dC (.int 0))) (d2 gIx (dVar v) (dC (.int 0))))
theorem dpt_ok {v : Nat} (o : s.Ok) (hg : t.g ∈ s.names) (h0 : ρ[0]? = some (.sh s.d)) (hv : ρ[v]? = some (.sh t.d)) : dpt v ρ = .ok (.sh (.int (depOf s t.g))) := by
  rw [dpt, x_d2, ix2 h0, x_idx, ix0 h0, idx_seq (tk0 hv) hg o.so, x_d2_ok]
  exact x_ixL (by rw [List.getElem?_map, dep_ix o hg]; rfl)
/-- how many of the taking's cloaks are there -/
def cnt (v w : Nat) : Dl.Env → Res EV := dC1 gLen (aCons (dLc (iA (d2 gIx (dVar v) (dC (.int 2)))) (bName w) (dT tBool (d2 gIn (dVar w) (dVar 1))) (dVar w) [w]) aNil)
theorem cntv_ok {v w : Nat} {L y : SV} (o : s.Ok) (ht : t ∈ s.tks) (hL : holdsS left L) (hl : ∀ n ∈ left, PyData.strOk n = true) (hv : ρ[v]? = some (.sh t.d)) (hw : ρ[w]? = some y) (h1 : ρ[1]? = some L) (hw1 : w ≠ 1) : cnt v w ρ = .ok (.sh (.int ((held left t.hs).length : Nat))) := by
  have hlen := hs_len o ht
  have hi : iA (d2 gIx (dVar v) (dC (.int 2))) ρ = .ok (t.hs.map D.str) := by rw [x_iA, tk2 hv, x_wK, x_walk_tup]
  rw [cnt, x_c1, x_cons, cnt_ok hi hw h1 hw1 hL (hs_so o ht) hl (by omega), x_nil, x_cons_ok, x_c1_ok, len_strs]
  rfl
theorem eq_c {v : Nat} (ht : PyData.strOk t.c = true) (hc : PyData.strOk c = true) (hv : ρ[v]? = some (.sh t.d)) (h2 : ρ[2]? = some (.sh (.str c))) : dT tBool (d2 gEq (d2 gIx (dVar v) (dC (.int 1))) (dVar 2)) ρ = .ok (decide (t.c = c)) := by
  rw [x_t, x_d2, tk1 hv, v_sh h2, x_d2_ok, x_eqS ht hc, x_t_ok, x_tBool]
def fr1 : Stm := dIf (dT tBool (d2 gEq (d2 gIx (dVar 3) (dC (.int 1))) (dVar 2)))
  (dSeq (dSet 4 (cnt 3 6))
  (dIf (dT tBool (d2 gGt (dVar 4) (dpt 3)))
  (dRet (dC (.bl false)))
  dNext))
  dNext
theorem fr1_ok {L x4 x5 : SV} (o : s.Ok) (ht : t ∈ s.tks) (hL : holdsS left L) (hl : ∀ n ∈ left, PyData.strOk n = true) (hc : PyData.strOk c = true) (h4 : x4.free = true) :
    (over s left c t = true → fr1 [.sh s.d, L, .sh (.str c), .sh t.d, x4, x5, .no] = .ok (.ret (.sh (.bl false)))) ∧
    (over s left c t = false → ∃ y4 : SV, y4.free = true ∧ fr1 [.sh s.d, L, .sh (.str c), .sh t.d, x4, x5, .no] = .ok (.nx [.sh s.d, L, .sh (.str c), .sh t.d, y4, x5, .no])) := by
  obtain ⟨hg, hch, _⟩ := o.tk t ht
  have ct : PyData.strOk t.c = true := hs_so o ht _ hch
  have e2 : cnt 3 6 [.sh s.d, L, .sh (.str c), .sh t.d, x4, x5, .no] = .ok (.sh (.int ((held left t.hs).length : Nat))) := cntv_ok o ht hL hl rfl rfl rfl (by decide)
  rw [fr1, x_if, eq_c ct hc rfl rfl]
  unfold over
  by_cases h : t.c = c
  · rw [decide_eq_true h, Bool.true_and, x_if_t]
    have e3 : dT tBool (d2 gGt (dVar 4) (dpt 3)) [.sh s.d, L, .sh (.str c), .sh t.d, .sh (.int ((held left t.hs).length : Nat)), x5, .no] = .ok (decide (depOf s t.g < ((held left t.hs).length : Int))) := by
      have v4 : dVar 4 [.sh s.d, L, .sh (.str c), .sh t.d, .sh (.int ((held left t.hs).length : Nat)), x5, .no] = .ok (.sh (.int ((held left t.hs).length : Nat))) := rfl
      rw [x_t, x_d2, v4, dpt_ok o hg rfl rfl, x_d2_ok, x_gt, x_t_ok, x_tBool]
    rw [st_sh0 (i := 4) (y := x4) e2 rfl h4]
    show (_ → dIf _ _ _ [.sh s.d, L, .sh (.str c), .sh t.d, .sh (.int ((held left t.hs).length : Nat)), x5, .no] = _) ∧ (_ → ∃ y4 : SV, _ ∧ dIf _ _ _ [.sh s.d, L, .sh (.str c), .sh t.d, .sh (.int ((held left t.hs).length : Nat)), x5, .no] = _)
    rw [x_if, e3]
    exact ⟨fun z => by rw [z]; rfl, fun z => ⟨.sh (.int ((held left t.hs).length : Nat)), rfl, by rw [z]; rfl⟩⟩
  · rw [decide_eq_false h, Bool.false_and, x_if_f]
    exact ⟨(fun z => by cases z), fun _ => ⟨x4, h4, rfl⟩⟩
/-- the test of a tie -/
def tiT (v : Nat) : Dl.Env → Res Bool := dAndT (dT tBool (d2 gEq (d2 gIx (dVar v) (dC (.int 0))) (dVar 2))) (dT tBool (d2 gIn (d2 gIx (dVar v) (dC (.int 1))) (dVar 1)))
theorem tiT_ok {v : Nat} {L : SV} {p : Str × Str} (h1 : PyData.strOk p.1 = true) (h2 : PyData.strOk p.2 = true) (hL : holdsS left L) (hl : ∀ n ∈ left, PyData.strOk n = true) (hc : PyData.strOk c = true) (hv : ρ[v]? = some (.sh (tieD p))) (r1 : ρ[1]? = some L) (r2 : ρ[2]? = some (.sh (.str c))) : tiT v ρ = .ok (bound left c p) := by
  have e2 : dT tBool (d2 gIn (d2 gIx (dVar v) (dC (.int 1))) (dVar 1)) ρ = .ok (decide (p.2 ∈ left)) := by
    rcases hL with ⟨k, rfl⟩ | rfl
    · rw [x_t, x_d2, ti1 hv, v_sh r1, x_d2_ok, in_seq h2 hl, x_t_ok, x_tBool]
    · rw [x_t, x_d2, ti1 hv, v_own r1, x_d2_ok, in_own h2 hl, x_t_ok, x_tBool]
  rw [tiT, x_andT, x_t, x_d2, ti0 hv, v_sh r2, x_d2_ok, x_eqS h1 hc, x_t_ok, x_tBool]
  unfold bound
  by_cases h : p.1 = c
  · rw [decide_eq_true h, x_andT_t, e2, Bool.true_and]
  · rw [decide_eq_false h, x_andT_f, Bool.false_and]
def fr2 : Stm := dIf (tiT 5) (dRet (dC (.bl false))) dNext
theorem g_free : g_l_free = dSeq (dFor (iA (d2 gIx (dVar 0) (dC (.int 1)))) (bName 3) fr1) (dSeq (dFor (iA (d2 gIx (dVar 0) (dC (.int 3)))) (bName 5) fr2) (dRet (dC (.bl true)))) := rfl
theorem free_run {L : SV} (o : s.Ok) (hL : holdsS left L) (hl : ∀ n ∈ left, PyData.strOk n = true) (hc : PyData.strOk c = true) :
    runK (g_l_free [.sh s.d, L, .sh (.str c), .no, .no, .no, .no]) = .ok (.sh (.bl (may s left c))) := by
  have q1 := forD_stop (b := bName 3) (g := fr1) (c := Tk.d) (bad := over s left c) (x := .sh (.bl false)) (xs := s.tks)
    (P := fun ρ => ∃ x3 x4 : SV, x3.free = true ∧ x4.free = true ∧ ρ = [.sh s.d, L, .sh (.str c), x3, x4, .no, .no]) (by
      rintro t ht ρ ⟨x3, x4, f3, f4, rfl⟩
      obtain ⟨k1, k2⟩ := fr1_ok (x4 := x4) (x5 := .no) o ht hL hl hc f4
      refine ⟨_, by simp only [bName, putR, List.getElem?_cons_succ, List.getElem?_cons_zero, f3, if_true, List.set_cons_succ, List.set_cons_zero], k1, fun z => ?_⟩
      obtain ⟨y4, f, e⟩ := k2 z
      exact ⟨_, e, _, y4, rfl, f, rfl⟩) [.sh s.d, L, .sh (.str c), .no, .no, .no, .no] ⟨.no, .no, rfl, rfl, rfl⟩
  have i1 : iA (d2 gIx (dVar 0) (dC (.int 1))) [.sh s.d, L, .sh (.str c), .no, .no, .no, .no] = .ok (s.tks.map Tk.d) := by rw [x_iA, ix1 (s := s) rfl, x_wK, x_walk_lst]
  rw [g_free, x_seq, x_for, i1, x_for_ok]
  unfold may
  cases e1 : s.tks.any (over s left c) with
  | true =>
    rw [q1.1 e1]
    rfl
  | false =>
    obtain ⟨ρ', ⟨x3, x4, f3, f4, rfl⟩, e2⟩ := q1.2 e1
    rw [e2, x_seq_nx, x_seq]
    have q2 := forD_stop (b := bName 5) (g := fr2) (c := tieD) (bad := bound left c) (x := .sh (.bl false)) (xs := s.ties)
      (P := fun ρ => ∃ x5 : SV, x5.free = true ∧ ρ = [.sh s.d, L, .sh (.str c), x3, x4, x5, .no]) (by
        rintro p hp ρ ⟨x5, f5, rfl⟩
        obtain ⟨p1, p2, _⟩ := o.ti p hp
        have k : fr2 [.sh s.d, L, .sh (.str c), x3, x4, .sh (tieD p), .no] = if bound left c p then .ok (.ret (.sh (.bl false))) else .ok (.nx [.sh s.d, L, .sh (.str c), x3, x4, .sh (tieD p), .no]) := by
          rw [fr2, x_if, tiT_ok (L := L) (c := c) (p := p) (o.so _ p1) (o.so _ p2) hL hl hc rfl rfl rfl]
          cases bound left c p <;> rfl
        refine ⟨[.sh s.d, L, .sh (.str c), x3, x4, .sh (tieD p), .no], by simp only [bName, putR, List.getElem?_cons_succ, List.getElem?_cons_zero, f5, if_true, List.set_cons_succ, List.set_cons_zero], fun z => by rw [k, z]; rfl, fun z => ⟨_, by rw [k, z]; rfl, _, rfl, rfl⟩⟩) [.sh s.d, L, .sh (.str c), x3, x4, .no, .no] ⟨.no, rfl, rfl⟩
    have i2 : iA (d2 gIx (dVar 0) (dC (.int 3))) [.sh s.d, L, .sh (.str c), x3, x4, .no, .no] = .ok (s.ties.map tieD) := by rw [x_iA, ix3 (s := s) rfl, x_wK, x_walk_lst]
    rw [x_for, i2, x_for_ok]
    cases e3 : s.ties.any (bound left c) with
    | true =>
      rw [q2.1 e3]
      rfl
    | false =>
      obtain ⟨ρ', ⟨x5, f5, rfl⟩, e4⟩ := q2.2 e3
      rw [e4]
      rfl
theorem free_ok {k : Bool} (o : s.Ok) (hl : ∀ n ∈ left, PyData.strOk n = true) (hc : PyData.strOk c = true) : F_l_free [s.d, seqS k left, .str c] = .ok (.sh (.bl (may s left c))) := free_run (c := c) (L := .sh (seqS k left)) o (.inl ⟨k, rfl⟩) hl hc
theorem free_bo (o : s.Ok) (hl : ∀ n ∈ left, PyData.strOk n = true) (hc : PyData.strOk c = true) : callN 3 F_l_free [] [.sh s.d, .bo ((left.map D.str).map T.leaf), .sh (.str c)] = .ok (.sh (.bl (may s left c))) := by
  refine callN_bo rfl ?_ rfl
  show F_l_free [s.d, .lst (T.toDs ((left.map D.str).map T.leaf)), .str c] = _
  rw [x_leaves]
  exact free_ok (k := false) o hl hc
/-! ### stuck -/
def stuck (s : Sn) (lot : List Str) : Bool := lot.all (fun c => !may s lot c) && decide (0 < (lot.length : Int))
def sk1 : Stm := dIf (dT tBool (d2 gEq (d2 gIx (dVar 4) (dC (.int 1))) (dVar 2)))
  (dSeq (dSet 5 (cnt 4 7))
  (dSet 3 (dOr (dVar 3) (d2 gGt (dVar 5) (dpt 4)))))
  dNext
theorem sk1_ok {L x5 x6 : SV} {h : Bool} (o : s.Ok) (ht : t ∈ s.tks) (hL : holdsS left L) (hl : ∀ n ∈ left, PyData.strOk n = true) (hc : PyData.strOk c = true) (h5 : x5.free = true) :
    ∃ y5 : SV, y5.free = true ∧ sk1 [.sh s.d, L, .sh (.str c), .sh (.bl h), .sh t.d, x5, x6, .no] = .ok (.nx [.sh s.d, L, .sh (.str c), .sh (.bl (h || over s left c t)), .sh t.d, y5, x6, .no]) := by
  obtain ⟨hg, hch, _⟩ := o.tk t ht
  have ct : PyData.strOk t.c = true := hs_so o ht _ hch
  have e2 : cnt 4 7 [.sh s.d, L, .sh (.str c), .sh (.bl h), .sh t.d, x5, x6, .no] = .ok (.sh (.int ((held left t.hs).length : Nat))) := cntv_ok o ht hL hl rfl rfl rfl (by decide)
  rw [sk1, x_if, eq_c ct hc rfl rfl]
  unfold over
  by_cases hcc : t.c = c
  · rw [decide_eq_true hcc, Bool.true_and, x_if_t, st_sh0 (i := 5) (y := x5) e2 rfl h5]
    refine ⟨.sh (.int ((held left t.hs).length : Nat)), rfl, ?_⟩
    show dSet 3 _ [.sh s.d, L, .sh (.str c), .sh (.bl h), .sh t.d, .sh (.int ((held left t.hs).length : Nat)), x6, .no] = _
    have v3 : dVar 3 [.sh s.d, L, .sh (.str c), .sh (.bl h), .sh t.d, .sh (.int ((held left t.hs).length : Nat)), x6, .no] = .ok (.sh (.bl h)) := rfl
    have e4 : d2 gGt (dVar 5) (dpt 4) [.sh s.d, L, .sh (.str c), .sh (.bl h), .sh t.d, .sh (.int ((held left t.hs).length : Nat)), x6, .no] = .ok (.sh (.bl (decide (depOf s t.g < ((held left t.hs).length : Int))))) := by
      have v5 : dVar 5 [.sh s.d, L, .sh (.str c), .sh (.bl h), .sh t.d, .sh (.int ((held left t.hs).length : Nat)), x6, .no] = .ok (.sh (.int ((held left t.hs).length : Nat))) := rfl
      rw [x_d2, v5, dpt_ok o hg rfl rfl, x_d2_ok, x_gt]
    rw [x_set, x_or, v3]
    cases h with
    | true => rfl
    | false =>
      rw [x_or_f, e4]
      rfl
  · rw [decide_eq_false hcc, Bool.false_and, x_if_f, Bool.or_false]
    exact ⟨x5, h5, rfl⟩
end
end K49
set_option Elab.async false
set_option linter.all false
set_option maxRecDepth 100000
namespace K49
open PySem PySem.Spec PyProof.Rows L2 Dl
section
variable {s : Sn} {left : List Str} {c : Str} {t : Tk} {ρ : Dl.Env}
def sk2 : Stm := dIf (tiT 6) (dSet 3 (dC (.bl true))) dNext
theorem sk2_ok {L x4 x5 : SV} {h : Bool} {p : Str × Str} (h1 : PyData.strOk p.1 = true) (h2 : PyData.strOk p.2 = true) (hL : holdsS left L) (hl : ∀ n ∈ left, PyData.strOk n = true) (hc : PyData.strOk c = true) :
    sk2 [.sh s.d, L, .sh (.str c), .sh (.bl h), x4, x5, .sh (tieD p), .no] = .ok (.nx [.sh s.d, L, .sh (.str c), .sh (.bl (h || bound left c p)), x4, x5, .sh (tieD p), .no]) := by
  rw [sk2, x_if, tiT_ok (L := L) (c := c) (p := p) h1 h2 hL hl hc rfl rfl rfl]
  cases bound left c p
  · rw [Bool.or_false]
    rfl
  · rw [Bool.or_true]
    rfl
def skB : Stm := dSeq (dSet 3 (dC (.bl false))) (dSeq (dFor (iA (d2 gIx (dVar 0) (dC (.int 1)))) (bName 4) sk1) (dSeq (dFor (iA (d2 gIx (dVar 0) (dC (.int 3)))) (bName 6) sk2) (dIf (dNotT (dT tTru (dVar 3))) (dRet (dC (.bl false))) dNext)))
theorem skB_ok {L x3 x4 x5 x6 : SV} (o : s.Ok) (hL : holdsS left L) (hl : ∀ n ∈ left, PyData.strOk n = true) (hc : PyData.strOk c = true) (f3 : x3.free = true) (f4 : x4.free = true) (f5 : x5.free = true) (f6 : x6.free = true) :
    (may s left c = true → skB [.sh s.d, L, .sh (.str c), x3, x4, x5, x6, .no] = .ok (.ret (.sh (.bl false)))) ∧
    (may s left c = false → ∃ y4 y5 y6 : SV, y4.free = true ∧ y5.free = true ∧ y6.free = true ∧ skB [.sh s.d, L, .sh (.str c), x3, x4, x5, x6, .no] = .ok (.nx [.sh s.d, L, .sh (.str c), .sh (.bl true), y4, y5, y6, .no])) := by
  obtain ⟨_, ⟨x4', x5', g4, g5, rfl⟩, e1⟩ := forD_fold (b := bName 4) (g := sk1) (c := Tk.d) (st := fun h t => h || over s left c t) (xs := s.tks)
    (P := fun h ρ => ∃ x4 x5 : SV, x4.free = true ∧ x5.free = true ∧ ρ = [.sh s.d, L, .sh (.str c), .sh (.bl h), x4, x5, x6, .no]) (by
      rintro t ht h ρ ⟨x4, x5, f4, f5, rfl⟩
      obtain ⟨y5, f, e⟩ := sk1_ok (x5 := x5) (x6 := x6) (h := h) o ht hL hl hc f5
      exact ⟨[.sh s.d, L, .sh (.str c), .sh (.bl h), .sh t.d, x5, x6, .no], _, by simp only [bName, putR, List.getElem?_cons_succ, List.getElem?_cons_zero, f4, if_true, List.set_cons_succ, List.set_cons_zero], e, _, y5, rfl, f, rfl⟩) false _ ⟨x4, x5, f4, f5, rfl⟩
  obtain ⟨_, ⟨x6', g6, rfl⟩, e2⟩ := forD_fold (b := bName 6) (g := sk2) (c := tieD) (st := fun h p => h || bound left c p) (xs := s.ties)
    (P := fun h ρ => ∃ x6 : SV, x6.free = true ∧ ρ = [.sh s.d, L, .sh (.str c), .sh (.bl h), x4', x5', x6, .no]) (by
      rintro p hp h ρ ⟨x6, f6, rfl⟩
      obtain ⟨p1, p2, _⟩ := o.ti p hp
      exact ⟨[.sh s.d, L, .sh (.str c), .sh (.bl h), x4', x5', .sh (tieD p), .no], _, by simp only [bName, putR, List.getElem?_cons_succ, List.getElem?_cons_zero, f6, if_true, List.set_cons_succ, List.set_cons_zero], sk2_ok (o.so _ p1) (o.so _ p2) hL hl hc, _, rfl, rfl⟩) (s.tks.foldl (fun h t => h || over s left c t) false) _ ⟨x6, f6, rfl⟩
  rw [foldl_or] at e2
  rw [foldl_or, Bool.false_or] at e2
  rw [foldl_or, Bool.false_or] at e1
  have i1 : iA (d2 gIx (dVar 0) (dC (.int 1))) [.sh s.d, L, .sh (.str c), .sh (.bl false), x4, x5, x6, .no] = .ok (s.tks.map Tk.d) := by rw [x_iA, ix1 (s := s) rfl, x_wK, x_walk_lst]
  have i2 : iA (d2 gIx (dVar 0) (dC (.int 3))) [.sh s.d, L, .sh (.str c), .sh (.bl (s.tks.any (over s left c))), x4', x5', x6, .no] = .ok (s.ties.map tieD) := by rw [x_iA, ix3 (s := s) rfl, x_wK, x_walk_lst]
  have hm : may s left c = !(s.tks.any (over s left c) || s.ties.any (bound left c)) := by
    unfold may
    rw [Bool.not_or]
  have key : skB [.sh s.d, L, .sh (.str c), x3, x4, x5, x6, .no] = dIf (dNotT (dT tTru (dVar 3))) (dRet (dC (.bl false))) dNext [.sh s.d, L, .sh (.str c), .sh (.bl (s.tks.any (over s left c) || s.ties.any (bound left c))), x4', x5', x6', .no] := by
    rw [skB, st_sh0 (i := 3) (y := x3) (d := .bl false) (x_c) rfl f3]
    show dSeq _ _ [.sh s.d, L, .sh (.str c), .sh (.bl false), x4, x5, x6, .no] = _
    rw [x_seq, x_for, i1, x_for_ok, e1, x_seq_nx, x_seq, x_for, i2, x_for_ok, e2, x_seq_nx]
  rw [key, hm]
  generalize (s.tks.any (over s left c) || s.ties.any (bound left c)) = z
  cases z
  · exact ⟨fun _ => rfl, fun z => by cases z⟩
  · exact ⟨(fun z => by cases z), fun _ => ⟨x4', x5', x6', g4, g5, g6, rfl⟩⟩
theorem g_stuck : g_l_stuck = dSeq (dFor (iA (dVar 1)) (bName 2) skB) (dRet (d2 gGt (dC1 gLen (aCons (dVar 1) aNil)) (dC (.int 0)))) := rfl
theorem lot_ok {k : Bool} {lot : List Str} (o : s.Ok) (hl : ∀ n ∈ lot, PyData.strOk n = true) : F_l_stuck [s.d, seqS k lot] = .ok (.sh (.bl (stuck s lot))) := by
  have q := forD_stop (b := bName 2) (g := skB) (c := D.str) (bad := may s lot) (x := .sh (.bl false)) (xs := lot)
    (P := fun ρ => ∃ x2 x3 x4 x5 x6 : SV, x2.free = true ∧ x3.free = true ∧ x4.free = true ∧ x5.free = true ∧ x6.free = true ∧ ρ = [.sh s.d, .sh (seqS k lot), x2, x3, x4, x5, x6, .no]) (by
      rintro c hc ρ ⟨x2, x3, x4, x5, x6, f2, f3, f4, f5, f6, rfl⟩
      obtain ⟨k1, k2⟩ := skB_ok (x3 := x3) (x4 := x4) (x5 := x5) (x6 := x6) (c := c) o (.inl ⟨k, rfl⟩) hl (hl c hc) f3 f4 f5 f6
      refine ⟨[.sh s.d, .sh (seqS k lot), .sh (.str c), x3, x4, x5, x6, .no], by simp only [bName, putR, List.getElem?_cons_succ, List.getElem?_cons_zero, f2, if_true, List.set_cons_succ, List.set_cons_zero], k1, fun z => ?_⟩
      obtain ⟨y4, y5, y6, g4, g5, g6, e⟩ := k2 z
      exact ⟨_, e, _, _, y4, y5, y6, rfl, rfl, g4, g5, g6, rfl⟩) [.sh s.d, .sh (seqS k lot), .no, .no, .no, .no, .no, .no] ⟨.no, .no, .no, .no, .no, rfl, rfl, rfl, rfl, rfl, rfl⟩
  show runK (g_l_stuck [.sh s.d, .sh (seqS k lot), .no, .no, .no, .no, .no, .no]) = _
  have iw : iA (dVar 1) [.sh s.d, .sh (seqS k lot), .no, .no, .no, .no, .no, .no] = .ok (lot.map D.str) := by
    rw [x_iA, v_sh (d := seqS k lot) rfl, x_wK, walk_seq]
  rw [g_stuck, x_seq, x_for, iw, x_for_ok]
  have hs : stuck s lot = (!(lot.any (may s lot)) && decide (0 < (lot.length : Int))) := by
    unfold stuck
    rw [List.not_any_eq_all_not]
  cases e : lot.any (may s lot) with
  | true =>
    rw [q.1 e, hs, e]
    rfl
  | false =>
    obtain ⟨_, ⟨x2, x3, x4, x5, x6, _, _, _, _, _, rfl⟩, e2⟩ := q.2 e
    have v1 : dVar 1 [.sh s.d, .sh (seqS k lot), x2, x3, x4, x5, x6, .no] = .ok (.sh (seqS k lot)) := rfl
    rw [e2, x_seq_nx, x_ret, x_d2, x_c1, x_cons, v1, x_nil, x_cons_ok, x_c1_ok, len_seq, x_c, x_d2_ok, x_gt, x_ret_sh, x_run_ret, hs, e]
    rfl
/-! ### is_stuck of the program -/
theorem isk_eq : g_is_stuck = dSeq (dSet 2 (dCall 1 (F_frozen 6) [] (aCons (dVar 1) aNil))) (dFrz 2 (dSeq (dIf (dT tBool (d2 gEq (dC1 gLen (aCons (dVar 2) aNil)) (dC (.int 0)))) (dRet (dC (.bl false))) dNext) (dRet (dNot (dC1 gAny (aCons (dLc (iA (dVar 2)) (bName 3) dYes (dCall 3 F_may_peel [] (aCons (dVar 0) (aCons (dVar 2) (aCons (dVar 3) aNil)))) [3]) aNil)))))) := rfl
theorem frz_strs : ∀ ss : List Str, frzs (ss.map D.str) = ss.map D.str
  | [] => rfl
  | s :: ss => by
    show frz (.str s) :: frzs (ss.map D.str) = _
    rw [frz_strs ss]
    rfl
theorem frozen_seq {k : Bool} {ss : List Str} (hlen : ss.length ≤ 1000) : F_frozen 6 [seqS k ss] = .ok (.sh (seqS true ss)) := by
  have hp : (decide ((ss.map D.str).length ≤ 1000) && pls (ss.map D.str)) = true := by
    rw [pls_map fun x _ => rfl, Bool.and_true, List.length_map]
    exact decide_eq_true hlen
  have hd : D.deps (ss.map D.str) ≤ 0 := deps_map fun x _ => by
    show D.dep (.str x) ≤ 0
    simp [D.dep]
  have e : frz (seqS k ss) = seqS true ss := by
    cases k
    · show D.tup (frzs (ss.map D.str)) = _
      rw [frz_strs]
      rfl
    · show D.tup (frzs (ss.map D.str)) = _
      rw [frz_strs]
      rfl
  rw [← e]
  refine frozen_ok _ 6 ?_ ?_
  · cases k <;> exact hp
  · have : (seqS k ss).dep = D.deps (ss.map D.str) + 1 := by cases k <;> simp [seqS, D.dep]
    omega
theorem isk_ok {k : Bool} {lot : List Str} (o : s.Ok) (hl : ∀ n ∈ lot, PyData.strOk n = true) (hlen : lot.length ≤ 1000) : F_is_stuck [s.o, seqS k lot] = .ok (.sh (.bl (stuck s lot))) := by
  show runK (g_is_stuck [.sh s.o, .sh (seqS k lot), .no, .no]) = _
  have e1 : dCall 1 (F_frozen 6) [] (aCons (dVar 1) aNil) [.sh s.o, .sh (seqS k lot), .no, .no] = .ok (.sh (seqS true lot)) := by
    have v1 : dVar 1 [.sh s.o, .sh (seqS k lot), .no, .no] = .ok (.sh (seqS k lot)) := rfl
    rw [x_call, x_cons, v1, x_nil, x_cons_ok, x_call_ok, callN_s, frozen_seq hlen]
  rw [isk_eq, st_sh (i := 2) (y := .no) e1 rfl rfl]
  show runK (dSeq _ _ [.sh s.o, .sh (seqS k lot), .sh (seqS true lot), .no]) = _
  have v2 : dVar 2 [.sh s.o, .sh (seqS k lot), .sh (seqS true lot), .no] = .ok (.sh (seqS true lot)) := rfl
  have e3 : dLc (iA (dVar 2)) (bName 3) dYes (dCall 3 F_may_peel [] (aCons (dVar 0) (aCons (dVar 2) (aCons (dVar 3) aNil)))) [3] [.sh s.o, .sh (seqS k lot), .sh (seqS true lot), .no] = .ok (.fr (((lot.map (may s lot)).map D.bl).map T.leaf)) := by
    rw [x_lc, x_wipe1, x_iA, v2, x_wK, walk_seq, x_lc_of (p := fun _ => true) (k := fun c => D.bl (may s lot c)) (by omega) fun c hc => ⟨[.sh s.o, .sh (seqS k lot), .sh (seqS true lot), .sh (.str c)], rfl, rfl, fun _ => ?_⟩, filter_yes]
    · rw [List.map_map, List.map_map, List.map_map]
      rfl
    · have w0 : dVar 0 [.sh s.o, .sh (seqS k lot), .sh (seqS true lot), .sh (.str c)] = .ok (.sh s.o) := rfl
      have w2 : dVar 2 [.sh s.o, .sh (seqS k lot), .sh (seqS true lot), .sh (.str c)] = .ok (.sh (seqS true lot)) := rfl
      have w3 : dVar 3 [.sh s.o, .sh (seqS k lot), .sh (seqS true lot), .sh (.str c)] = .ok (.sh (.str c)) := rfl
      rw [x_call, x_cons, x_cons, x_cons, w0, w2, w3, x_nil, x_cons_ok, x_cons_ok, x_cons_ok, x_call_ok, callN_sss, may_ok o hl (hl c hc)]
  rw [x_seq, x_if, x_t, x_d2, x_c1, x_cons, v2, x_nil, x_cons_ok, x_c1_ok, len_seq, x_c, x_d2_ok, x_eqI, x_t_ok, x_tBool]
  have hs : stuck s lot = (!((lot.map (may s lot)).any id) && decide (0 < (lot.length : Int))) := by
    unfold stuck
    rw [List.any_map, Function.id_comp, List.not_any_eq_all_not]
  by_cases h : (lot.length : Int) = 0
  · rw [decide_eq_true h, x_if_t, hs, decide_eq_false (show ¬ 0 < (lot.length : Int) by omega), Bool.and_false]
    rfl
  · rw [decide_eq_false h, x_if_f, x_next, x_seq_nx, x_ret, x_not, x_c1, x_cons, e3, x_nil, x_cons_ok, x_c1_ok, any_ok, x_not_ok, x_ret_sh, x_run_ret, hs, decide_eq_true (show 0 < (lot.length : Int) by omega), Bool.and_true]
/-! ### last_free -/
def lastFree (s : Sn) (left : List Str) : Option Str := left.reverse.find? (may s left)
def optD : Option Str → D
  | none => .non
  | some c => .str c
theorem forD_find {α : Type} {b : Bnd} {g : Stm} {c : α → D} {P : Dl.Env → Prop} {p : α → Bool} {k : α → EV} : ∀ {xs : List α}, (∀ a ∈ xs, ∀ ρ, P ρ → ∃ ρ1, b (c a) ρ = some ρ1 ∧ (p a = true → g ρ1 = .ok (.ret (k a))) ∧ (p a = false → ∃ ρ2, g ρ1 = .ok (.nx ρ2) ∧ P ρ2)) →
    ∀ ρ, P ρ → (∀ a, xs.find? p = some a → forD b g (xs.map c) ρ = .ok (.ret (k a))) ∧ (xs.find? p = none → ∃ ρ', P ρ' ∧ forD b g (xs.map c) ρ = .ok (.nx ρ'))
  | [], _, ρ, h => ⟨fun _ z => by simp at z, fun _ => ⟨ρ, h, rfl⟩⟩
  | a :: xs, q, ρ, h => by
    obtain ⟨ρ1, e1, e2, e3⟩ := q a List.mem_cons_self ρ h
    rw [List.map_cons, x_forD_cons e1, List.find?_cons]
    cases e : p a with
    | true =>
      refine ⟨fun a' z => ?_, fun z => by simp at z⟩
      rw [e2 e, x_turn_ret]
      simp only [Option.some.injEq] at z
      rw [z]
    | false =>
      obtain ⟨ρ2, e4, h2⟩ := e3 e
      rw [e4, x_turn_nx]
      exact forD_find (fun y hy => q y (List.mem_cons_of_mem _ hy)) ρ2 h2
theorem lastF_ok (o : s.Ok) (hl : ∀ n ∈ left, PyData.strOk n = true) {k : Bool} : F_last_free [s.o, seqS k left] = .ok (.sh (optD (lastFree s left))) := by
  have q := forD_find (b := bName 2) (g := dIf (dT tTru (dCall 3 F_may_peel [] (aCons (dVar 0) (aCons (dVar 1) (aCons (dVar 2) aNil))))) (dRetV 2) dNext) (c := D.str) (p := may s left) (k := fun c => .sh (.str c)) (xs := left.reverse)
    (P := fun ρ => ∃ x2 : SV, x2.free = true ∧ ρ = [.sh s.o, .sh (seqS k left), x2]) (by
      rintro c hc ρ ⟨x2, f2, rfl⟩
      have hc' := hl c (List.mem_reverse.mp hc)
      have e : dIf (dT tTru (dCall 3 F_may_peel [] (aCons (dVar 0) (aCons (dVar 1) (aCons (dVar 2) aNil))))) (dRetV 2) dNext [.sh s.o, .sh (seqS k left), .sh (.str c)] = if may s left c then .ok (.ret (.sh (.str c))) else .ok (.nx [.sh s.o, .sh (seqS k left), .sh (.str c)]) := by
        have w0 : dVar 0 [.sh s.o, .sh (seqS k left), .sh (.str c)] = .ok (.sh s.o) := rfl
        have w1 : dVar 1 [.sh s.o, .sh (seqS k left), .sh (.str c)] = .ok (.sh (seqS k left)) := rfl
        have w2 : dVar 2 [.sh s.o, .sh (seqS k left), .sh (.str c)] = .ok (.sh (.str c)) := rfl
        rw [x_if, x_t, x_call, x_cons, x_cons, x_cons, w0, w1, w2, x_nil, x_cons_ok, x_cons_ok, x_cons_ok, x_call_ok, callN_sss, may_ok o hl hc', x_t_ok, x_tTru]
        cases may s left c <;> rfl
      exact ⟨[.sh s.o, .sh (seqS k left), .sh (.str c)], by simp only [bName, putR, List.getElem?_cons_succ, List.getElem?_cons_zero, f2, if_true, List.set_cons_succ, List.set_cons_zero], fun z => by rw [e, z]; rfl, fun z => ⟨_, by rw [e, z]; rfl, _, rfl, rfl⟩⟩) [.sh s.o, .sh (seqS k left), .no] ⟨.no, rfl, rfl⟩
  show runK (dSeq (dFor (iRev1 (dVar 1)) (bName 2) _) (dRet (dC .non)) [.sh s.o, .sh (seqS k left), .no]) = _
  have v1 : dVar 1 [.sh s.o, .sh (seqS k left), .no] = .ok (.sh (seqS k left)) := rfl
  rw [x_seq, x_for, x_rev_seq v1, x_for_ok]
  unfold lastFree
  cases e : left.reverse.find? (may s left) with
  | some c =>
    rw [q.1 c e]
    rfl
  | none =>
    obtain ⟨_, ⟨x2, _, rfl⟩, e2⟩ := q.2 e
    rw [e2]
    rfl
end
end K49
set_option Elab.async false
set_option linter.all false
set_option maxRecDepth 100000
namespace Dl
open PySem PySem.Spec PyProof.Rows L2
theorem x_neS {m n : Str} (hm : PyData.strOk m = true) (hn : PyData.strOk n = true) : gNe (.sh (.str m)) (.sh (.str n)) = .ok (.sh (.bl (!decide (m = n)))) := by
  by_cases h : m = n
  · subst h
    rw [decide_eq_true rfl]
    exact x_ne_t rfl (by simpa [D.fine] using hm) (by simp [D.dep])
  · rw [decide_eq_false h]
    exact x_ne_f (fun z => h (D.str.inj z)) (by simpa [D.fine] using hm) (by simpa [D.fine] using hn) (by simp [D.dep]) (by simp [D.dep])
theorem add_tups {ds es : List D} (h : ds.length + es.length ≤ 16777216) : gAdd (.sh (.tup ds)) (.sh (.tup es)) = .ok (.sh (.tup (ds ++ es))) := if_pos h
theorem x_len0 {ss : List Str} {k : Bool} {ρ : Dl.Env} {i : Nat} (h : ρ[i]? = some (.sh (seqS k ss))) : dC1 gLen (aCons (dVar i) aNil) ρ = .ok (.sh (.int (ss.length : Nat))) := by
  rw [x_c1, x_cons, v_sh h, x_nil, x_cons_ok, x_c1_ok, len_seq]
/-- the texts but for one -/
def dropS (c : Str) (l : List Str) : List Str := l.filter fun x => !decide (x = c)
theorem drop_erase {c : Str} {l : List Str} (h : l.Nodup) : l.erase c = dropS c l := by
  rw [h.erase_eq_filter]
  rfl
theorem drop_len {c : Str} {l : List Str} (h : l.Nodup) (hc : c ∈ l) : (dropS c l).length + 1 = l.length := by
  have := List.length_pos_of_mem hc
  rw [← drop_erase h, List.length_erase_of_mem hc]
  omega
theorem drop_sub {c x : Str} {l : List Str} : x ∈ dropS c l ↔ x ∈ l ∧ x ≠ c := by
  unfold dropS
  rw [List.mem_filter]
  simp
theorem drop_nd {c : Str} {l : List Str} (h : l.Nodup) : (dropS c l).Nodup := h.filter _
theorem drop_le {c : Str} {l : List Str} : (dropS c l).length ≤ l.length := List.length_filter_le _ _
theorem last_filter {α : Type} {p : α → Bool} {l : List α} : (l.filter p).getLast? = l.reverse.find? p := by
  rw [List.getLast?_eq_head?_reverse, ← List.filter_reverse, List.head?_filter]
/-- a comprehension that leaves out one text -/
theorem lc_drop {ρ : Dl.Env} {it : Itf} {v w : Nat} {ss : List Str} {c : Str} {y : SV} (hit : it ρ = .ok (ss.map D.str)) (hv : ρ[v]? = some y) (hw : ρ[w]? = some (.sh (.str c))) (hvw : v ≠ w) (hs : ∀ n ∈ ss, PyData.strOk n = true) (hc : PyData.strOk c = true) (hlen : ss.length ≤ 1000) :
    dLc it (bName v) (dT tBool (d2 gNe (dVar v) (dVar w))) (dVar v) [v] ρ = .ok (.fr (((dropS c ss).map D.str).map T.leaf)) := by
  rw [x_lc, x_wipe1, hit, x_lc_of (p := fun x => !decide (x = c)) (k := D.str) (by omega) fun h hh => ⟨_, bn hv, ?_, fun _ => v_sh (get_set hv)⟩]
  · rfl
  · rw [x_t, x_d2, v_sh (get_set hv), v_sh (i := w) (by rw [get_ne hvw]; exact hw), x_d2_ok, x_neS (hs h hh) hc, x_t_ok, x_tBool]
end Dl
namespace K49
open PySem PySem.Spec PyProof.Rows L2 Dl
section
variable {s : Sn} {left : List Str} {c : Str} {t : Tk} {ρ : Dl.Env}
/-! ### what is peeled off -/
def peelN (s : Sn) : Nat → List Str → List Str → List Str × List Str
  | 0, l, o => (l, o)
  | n + 1, l, o => match lastFree s l with
    | none => (l, o)
    | some c => peelN s n (dropS c l) (c :: o)
theorem lf_mem {l : List Str} (h : lastFree s l = some c) : c ∈ l ∧ may s l c = true := by
  unfold lastFree at h
  exact ⟨List.mem_reverse.mp (List.mem_of_find?_eq_some h), List.find?_some h⟩
theorem lf_nil : lastFree s [] = none := rfl
theorem drop_lt {l : List Str} (hc : c ∈ l) : (dropS c l).length < l.length := by
  unfold dropS
  rw [List.length_filter_lt_length_iff_exists]
  exact ⟨c, hc, by simp⟩
theorem peelN_none {n : Nat} {l o : List Str} (h : lastFree s l = none) : peelN s n l o = (l, o) := by
  cases n with
  | zero => rfl
  | succ n => rw [peelN, h]
theorem peelN_eq : ∀ {n m : Nat} {l o : List Str}, l.length ≤ n → l.length ≤ m → peelN s n l o = peelN s m l o
  | 0, m, l, o, h, _ => by
    have : l = [] := List.length_eq_zero_iff.mp (by omega)
    subst this
    rw [peelN_none lf_nil, peelN_none lf_nil]
  | n + 1, 0, l, o, _, h => by
    have : l = [] := List.length_eq_zero_iff.mp (by omega)
    subst this
    rw [peelN_none lf_nil, peelN_none lf_nil]
  | n + 1, m + 1, l, o, h1, h2 => by
    rw [peelN, peelN]
    cases e : lastFree s l with
    | none => rfl
    | some c =>
      have := drop_lt (lf_mem e).1
      exact peelN_eq (by omega) (by omega)
def peelR (s : Sn) : List Str × List Str := peelN s s.names.length s.names []
def ordD (r : List Str × List Str) : D := if r.1 = [] then seqS true r.2 else .non
/-! ### the program's peel -/
def plB : Stm := dSeq (dSet 1 (dC1 gTuple (aCons (dLc (iA (dVar 1)) (bName 4) (dT tBool (d2 gNe (dVar 4) (dVar 3))) (dVar 4) [4]) aNil)))
  (dSeq (dSet 2 (d2 gAdd (dTup (aCons (dVar 3) aNil)) (dVar 2)))
  (dFrz 2 (dSeq (dSet 3 (dCall 2 F_last_free [] (aCons (dVar 0) (aCons (dVar 1) aNil))))
  (dFrz 3 dNext))))
theorem plB_ok {o : List Str} {x4 : SV} (k : s.Ok) (hl : ∀ n ∈ left, PyData.strOk n = true) (h4 : x4.free = true) (hc : c ∈ left) (hn : left.length ≤ 1000) (ho : o.length ≤ 1000) :
    plB [.sh s.o, .sh (seqS true left), .sh (seqS true o), .sh (.str c), x4] = .ok (.nx [.sh s.o, .sh (seqS true (dropS c left)), .sh (seqS true (c :: o)), .sh (optD (lastFree s (dropS c left))), x4]) := by
  have hl2 : ∀ n ∈ dropS c left, PyData.strOk n = true := fun n hn => hl n (drop_sub.mp hn).1
  have e1 : dC1 gTuple (aCons (dLc (iA (dVar 1)) (bName 4) (dT tBool (d2 gNe (dVar 4) (dVar 3))) (dVar 4) [4]) aNil) [.sh s.o, .sh (seqS true left), .sh (seqS true o), .sh (.str c), x4] = .ok (.sh (seqS true (dropS c left))) := by
    have i1 : iA (dVar 1) [.sh s.o, .sh (seqS true left), .sh (seqS true o), .sh (.str c), x4] = .ok (left.map D.str) := by rw [x_iA, v_sh (d := seqS true left) rfl, x_wK, walk_seq]
    rw [x_c1, x_cons, lc_drop (ss := left) (c := c) (y := x4) i1 rfl rfl (by decide) hl (hl c hc) hn, x_nil, x_cons_ok, x_c1_ok, x_tuple_fr, x_leaves]
    rfl
  rw [plB, st_sh0 (i := 1) (y := .sh (seqS true left)) e1 rfl rfl]
  show dSeq _ _ [.sh s.o, .sh (seqS true (dropS c left)), .sh (seqS true o), .sh (.str c), x4] = _
  have e2 : d2 gAdd (dTup (aCons (dVar 3) aNil)) (dVar 2) [.sh s.o, .sh (seqS true (dropS c left)), .sh (seqS true o), .sh (.str c), x4] = .ok (.sh (seqS true (c :: o))) := by
    rw [x_d2, x_tup, x_cons, v_sh (d := .str c) rfl, x_nil, x_cons_ok, x_tup1, v_sh (d := seqS true o) rfl, x_d2_ok]
    exact add_tups (by simp only [List.length_cons, List.length_nil, List.length_map]; omega)
  rw [st_sh (i := 2) (y := .sh (seqS true o)) e2 rfl rfl]
  show dSeq _ _ [.sh s.o, .sh (seqS true (dropS c left)), .sh (seqS true (c :: o)), .sh (.str c), x4] = _
  have e3 : dCall 2 F_last_free [] (aCons (dVar 0) (aCons (dVar 1) aNil)) [.sh s.o, .sh (seqS true (dropS c left)), .sh (seqS true (c :: o)), .sh (.str c), x4] = .ok (.sh (optD (lastFree s (dropS c left)))) := by
    rw [x_call, x_cons, x_cons, v_sh (d := s.o) rfl, v_sh (d := seqS true (dropS c left)) rfl, x_nil, x_cons_ok, x_cons_ok, x_call_ok, callN_ss, lastF_ok k hl2]
  rw [st_sh (i := 3) (y := .sh (.str c)) e3 rfl rfl]
  rfl
def plT : Dl.Env → Res Bool := dT tBool (dNotN (dVar 3))
theorem while_ok (k : s.Ok) : ∀ (n : Nat) (l o : List Str) (x4 : SV), x4.free = true → (∀ n ∈ l, PyData.strOk n = true) → l.length ≤ n → l.length + o.length ≤ 1000 →
    whileD plT plB (n + 1) [.sh s.o, .sh (seqS true l), .sh (seqS true o), .sh (optD (lastFree s l)), x4] = .ok (.nx [.sh s.o, .sh (seqS true (peelN s n l o).1), .sh (seqS true (peelN s n l o).2), .sh .non, x4])
  | n, l, o, x4, h4, hl, hn, ho => by
    cases e : lastFree s l with
    | none => 
      rw [wh_stop (by rfl), peelN_none e]
      rfl
    | some c =>
      obtain ⟨hc, _⟩ := lf_mem e
      have lt := drop_lt hc
      cases n with
      | zero => omega
      | succ n =>
        have s1 := plB_ok (o := o) (x4 := x4) k hl h4 hc (by omega) (by omega)
        show whileD plT plB (n + 1 + 1) [.sh s.o, .sh (seqS true l), .sh (seqS true o), .sh (.str c), x4] = _
        rw [wh_step (by rfl) s1, while_ok k n (dropS c l) (c :: o) x4 h4 (fun n hn => hl n (drop_sub.mp hn).1) (by omega) (by rw [List.length_cons]; omega), peelN, e]
def plO (r : List Str × List Str) : D := .obj "Peel" [("order", ordD r), ("left", seqS true r.1)]
theorem mk_peel {a b : D} : mkF "Peel" F_Peel___init__ [a, b] = .ok (.sh (.obj "Peel" [("order", a), ("left", b)])) := rfl
theorem peel_eq : g_peel = dSeq (dSet 1 (dFld "Seen" "guests" (dVar 0))) (dSeq (dSet 2 (dTup aNil)) (dSeq (dSet 3 (dCall 2 F_last_free [] (aCons (dVar 0) (aCons (dVar 1) aNil)))) (dFrz 3 (dSeq (dWhile (fun _ => 100) plT plB)
  (dFrz 2 (dFrz 3 (dSeq (dIf (dT tBool (d2 gGt (dC1 gLen (aCons (dVar 1) aNil)) (dC (.int 0)))) (dRet (dCall 2 (mkF "Peel" F_Peel___init__) [] (aCons (dC .non) (aCons (dVar 1) aNil)))) dNext) (dRet (dCall 2 (mkF "Peel" F_Peel___init__) [] (aCons (dVar 2) (aCons (dVar 1) aNil))))))))))) := rfl
theorem peel_ok (k : s.Ok) : F_peel [s.o] = .ok (.sh (plO (peelR s))) := by
  show runK (g_peel [.sh s.o, .no, .no, .no, .no]) = _
  have e1 : dFld "Seen" "guests" (dVar 0) [.sh s.o, .no, .no, .no, .no] = .ok (.sh (seqS true s.names)) := by
    rw [x_fld, v_sh (d := s.o) rfl, fld_guests]
  rw [peel_eq, st_sh0 (i := 1) (y := .no) e1 rfl rfl]
  show runK (dSeq _ _ [.sh s.o, .sh (seqS true s.names), .no, .no, .no]) = _
  have e2 : dTup aNil [.sh s.o, .sh (seqS true s.names), .no, .no, .no] = .ok (.sh (seqS true [])) := rfl
  rw [st_sh0 (i := 2) (y := .no) e2 rfl rfl]
  show runK (dSeq _ _ [.sh s.o, .sh (seqS true s.names), .sh (seqS true []), .no, .no]) = _
  have e3 : dCall 2 F_last_free [] (aCons (dVar 0) (aCons (dVar 1) aNil)) [.sh s.o, .sh (seqS true s.names), .sh (seqS true []), .no, .no] = .ok (.sh (optD (lastFree s s.names))) := by
    rw [x_call, x_cons, x_cons, v_sh (d := s.o) rfl, v_sh (d := seqS true s.names) rfl, x_nil, x_cons_ok, x_cons_ok, x_call_ok, callN_ss, lastF_ok k k.so]
  rw [st_sh (i := 3) (y := .no) e3 rfl rfl]
  show runK (dSeq _ _ [.sh s.o, .sh (seqS true s.names), .sh (seqS true []), .sh (optD (lastFree s s.names)), .no]) = _
  have nl := k.nl
  have w : whileD plT plB 100 [.sh s.o, .sh (seqS true s.names), .sh (seqS true []), .sh (optD (lastFree s s.names)), .no] = _ := while_ok k 99 s.names [] .no rfl k.so (by omega) (by simp; omega)
  rw [x_seq, x_while, w, x_seq_nx, peelN_eq (m := s.names.length) (by omega) (Nat.le_refl _)]
  unfold plO peelR ordD
  generalize peelN s s.names.length s.names [] = r
  show runK (dSeq _ _ [.sh s.o, .sh (seqS true r.1), .sh (seqS true r.2), .sh .non, .no]) = _
  rw [x_seq, x_if, x_t, x_d2, x_len0 (ss := r.1) (k := true) rfl, x_c, x_d2_ok, x_gt, x_t_ok, x_tBool]
  by_cases h : r.1 = []
  · rw [if_pos h, h]
    rfl
  · have h0 : 0 < r.1.length := List.length_pos_iff.mpr h
    rw [if_neg h, decide_eq_true (show 0 < (r.1.length : Int) by omega)]
    rfl
/-! ### the law's own peeling -/
def ppB : Stm := dSeq (dSet 4 (dLend 1 (dLc (iA (dVar 1)) (bName 5) (dT tTru (dCall 3 F_l_free [] (aCons (dVar 0) (aCons (dVar 1) (aCons (dVar 5) aNil))))) (dVar 5) [5])))
  (dFrz 4 (dSeq (dIf (dT tBool (d2 gEq (dC1 gLen (aCons (dVar 4) aNil)) (dC (.int 0))))
  (dRet (dLst (aCons (dC .non) (aCons (dC1 gTuple (aCons (dVar 1) aNil)) aNil))))
  dNext)
  (dSeq (dRem 1 (d2 gIx (dVar 4) (dNeg (dC (.int 1)))))
  (dIns 2 (aCons (dC (.int 0)) (aCons (d2 gIx (dVar 4) (dNeg (dC (.int 1)))) aNil))))))
theorem own_ll {ss : List Str} : (EV.fr ((ss.map D.str).map T.leaf)).ll = true := by
  show T.lls _ = true
  induction ss with
  | nil => rfl
  | cons a ss ih => exact ih
theorem frees_ok {i v w : Nat} {y : SV} {it : Itf} (k : s.Ok) (hl : ∀ n ∈ left, PyData.strOk n = true) (hn : left.length ≤ 1000) (h0 : ρ[0]? = some (.sh s.d)) (hi : ρ[i]? = some (.own ((left.map D.str).map T.leaf))) (hv : ρ[v]? = some y) (i0 : i ≠ 0) (hiv : v ≠ i) (hv0 : v ≠ 0) :
    dLend i (dLc (iA (dVar i)) (bName v) (dT tTru (dCall 3 F_l_free [] (aCons (dVar 0) (aCons (dVar i) (aCons (dVar v) aNil))))) (dVar v) [v]) ρ = .ok (.fr (((left.filter (may s left)).map D.str).map T.leaf)) := by
  refine x_lend hi ?_ own_ll
  rw [x_leaves]
  have a0 : (ρ.set i (.sh (.lst (left.map D.str))))[0]? = some (.sh s.d) := by rw [get_ne i0]; exact h0
  have ai : (ρ.set i (.sh (.lst (left.map D.str))))[i]? = some (.sh (seqS false left)) := get_set hi
  have av : (ρ.set i (.sh (.lst (left.map D.str))))[v]? = some y := by rw [get_ne (Ne.symm hiv)]; exact hv
  generalize ρ.set i (.sh (.lst (left.map D.str))) = τ at a0 ai av ⊢
  have i1 : iA (dVar i) τ = .ok (left.map D.str) := by rw [x_iA, v_sh ai, x_wK, walk_seq]
  rw [x_lc, x_wipe1, i1, x_lc_of (p := may s left) (k := D.str) (by omega) fun c hc => ⟨_, bn av, ?_, fun _ => v_sh (get_set av)⟩]
  rw [x_t, x_call, x_cons, x_cons, x_cons, v_sh (i := 0) (by rw [get_ne hv0]; exact a0), v_sh (i := i) (by rw [get_ne hiv]; exact ai), v_sh (get_set av), x_nil, x_cons_ok, x_cons_ok, x_cons_ok, x_call_ok, callN_sss, free_ok k hl (hl c hc), x_t_ok, x_tTru]
theorem last_ix {i : Nat} {ss : List Str} (h : ρ[i]? = some (.sh (.lst (ss.map D.str)))) (hl : ss.getLast? = some c) : d2 gIx (dVar i) (dNeg (dC (.int 1))) ρ = .ok (.sh (.str c)) := by
  rw [x_d2, v_sh h, x_neg, x_c]
  show gIx (.sh (.lst (ss.map D.str))) (.sh (.int (-1))) = _
  exact x_ixLast (by rw [List.getLast?_map, hl]; rfl)
theorem ppB_ok {o : List Str} {x3 x4 : SV} (k : s.Ok) (hl : ∀ n ∈ left, PyData.strOk n = true) (nd : left.Nodup) (f4 : x4.free = true) (hn : left.length ≤ 1000) (ho : o.length ≤ 1000) :
    (lastFree s left = none → ppB [.sh s.d, .own ((left.map D.str).map T.leaf), .own ((o.map D.str).map T.leaf), x3, x4, .no] = .ok (.ret (.fr [.leaf .non, .leaf (seqS true left)]))) ∧
    (∀ c, lastFree s left = some c → ∃ y4 : SV, y4.free = true ∧ ppB [.sh s.d, .own ((left.map D.str).map T.leaf), .own ((o.map D.str).map T.leaf), x3, x4, .no] = .ok (.nx [.sh s.d, .own (((dropS c left).map D.str).map T.leaf), .own (((c :: o).map D.str).map T.leaf), x3, y4, .no])) := by
  have e1 := frees_ok (ρ := [.sh s.d, .own ((left.map D.str).map T.leaf), .own ((o.map D.str).map T.leaf), x3, x4, .no]) (i := 1) (v := 5) (w := 0) (it := iA (dVar 1)) k hl hn rfl rfl rfl (by decide) (by decide) (by decide)
  have hf : (left.filter (may s left)).getLast? = lastFree s left := last_filter
  rw [ppB, st_fr (i := 4) (y := x4) e1 rfl f4, x_leaves]
  generalize left.filter (may s left) = fs at hf ⊢
  show (_ → dSeq _ _ [.sh s.d, .own ((left.map D.str).map T.leaf), .own ((o.map D.str).map T.leaf), x3, .sh (seqS false fs), .no] = _) ∧ ∀ c, _ → ∃ y4 : SV, _ ∧ dSeq _ _ [.sh s.d, .own ((left.map D.str).map T.leaf), .own ((o.map D.str).map T.leaf), x3, .sh (seqS false fs), .no] = _
  rw [x_seq, x_if, x_t, x_d2, x_len0 (ss := fs) (k := false) rfl, x_c, x_d2_ok, x_eqI, x_t_ok, x_tBool]
  constructor
  · intro z
    rw [z] at hf
    have : fs = [] := List.getLast?_eq_none_iff.mp hf
    subst this
    have v1 : dVar 1 [.sh s.d, .own ((left.map D.str).map T.leaf), .own ((o.map D.str).map T.leaf), x3, .sh (seqS false []), .no] = .ok (.bo ((left.map D.str).map T.leaf)) := rfl
    rw [decide_eq_true (by rfl), x_if_t, x_ret, x_lst, x_cons, x_cons, x_c, x_c1, x_cons, v1, x_nil, x_cons_ok, x_c1_ok]
    have : gTuple [.bo ((left.map D.str).map T.leaf)] = .ok (.sh (seqS true left)) := by
      show (match leaves? ((left.map D.str).map T.leaf) with | some ds => Res.ok (EV.sh (.tup ds)) | none => .stuck) = _
      rw [leavesQ_map]
      rfl
    rw [this]
    rfl
  · intro c z
    rw [z] at hf
    obtain ⟨hc, hm⟩ := lf_mem z
    have ne : fs ≠ [] := by
      rintro rfl
      cases hf
    have h0 : 0 < fs.length := List.length_pos_iff.mpr ne
    have hcs := hl c hc
    have r1 := x_rem (ρ := [.sh s.d, .own ((left.map D.str).map T.leaf), .own ((o.map D.str).map T.leaf), x3, .sh (seqS false fs), .no]) (i := 1) (f := d2 gIx (dVar 4) (dNeg (dC (.int 1)))) rfl (last_ix rfl hf) hc hl
    rw [drop_erase nd] at r1
    refine ⟨.sh (seqS false fs), rfl, ?_⟩
    rw [decide_eq_false (show ¬ (fs.length : Int) = 0 by omega), x_if_f, x_next, x_seq_nx, x_seq, r1, x_seq_nx]
    show dIns 2 _ [.sh s.d, .own (((dropS c left).map D.str).map T.leaf), .own ((o.map D.str).map T.leaf), x3, .sh (seqS false fs), .no] = _
    rw [x_ins0 (d := .str c) (ds := o.map D.str) rfl x_c (last_ix (ss := fs) rfl hf) (by rw [List.length_map]; omega)]
    rfl
theorem peeled_eq : g_l_peeled = dSeq (dSet 1 (dC1 gList (aCons (d2 gIx (dVar 0) (dC (.int 0))) aNil))) (dSeq (dSet 2 (dLst aNil)) (dSeq (dFor (iR1 (dC1 gLen (aCons (d2 gIx (dVar 0) (dC (.int 0))) aNil))) (bName 3) ppB)
  (dFrz 4 (dRet (dLst (aCons (dC1 gTuple (aCons (dVar 2) aNil)) (aCons (dTup aNil) aNil))))))) := rfl
theorem peeled_ok (k : s.Ok) : F_l_peeled [s.d] = .ok (.fr [.leaf (ordD (peelR s)), .leaf (seqS true (peelR s).1)]) := by
  rw [F_l_peeled, x_run, peeled_eq]
  show runK (dSeq _ _ [.sh s.d, .no, .no, .no, .no, .no]) = _
  have nl := k.nl
  have e1 : dC1 gList (aCons (d2 gIx (dVar 0) (dC (.int 0))) aNil) [.sh s.d, .no, .no, .no, .no, .no] = .ok (.fr ((s.names.map D.str).map T.leaf)) := by
    rw [x_c1, x_cons, ix0 (s := s) rfl, x_nil, x_cons_ok, x_c1_ok]
    exact x_list_lst
  rw [st_fr0 (i := 1) (y := .no) e1 rfl rfl]
  show runK (dSeq _ _ [.sh s.d, .own ((s.names.map D.str).map T.leaf), .no, .no, .no, .no]) = _
  have e2 : dLst aNil [.sh s.d, .own ((s.names.map D.str).map T.leaf), .no, .no, .no, .no] = .ok (.fr []) := rfl
  rw [st_fr0 (i := 2) (y := .no) e2 rfl rfl]
  show runK (dSeq _ _ [.sh s.d, .own ((s.names.map D.str).map T.leaf), .own ((([] : List Str).map D.str).map T.leaf), .no, .no, .no]) = _
  have i1 : iR1 (dC1 gLen (aCons (d2 gIx (dVar 0) (dC (.int 0))) aNil)) [.sh s.d, .own ((s.names.map D.str).map T.leaf), .own ((([] : List Str).map D.str).map T.leaf), .no, .no, .no] = .ok (rangeD 0 s.names.length) := by
    rw [x_rng (n := (s.names.length : Nat)) (by omega) (by rw [x_c1, x_cons, ix0 (s := s) rfl, x_nil, x_cons_ok, x_c1_ok, len_seq]), Int.toNat_natCast]
  rw [x_seq, x_for, i1, x_for_ok]
  rcases forD_ret (b := bName 3) (g := ppB) (n := s.names.length) (Q := fun x => runK (.ok (.ret x)) = .ok (.fr [.leaf (ordD (peelR s)), .leaf (seqS true (peelR s).1)]))
    (P := fun i ρ => ∃ (l o : List Str) (x3 x4 : SV), x3.free = true ∧ x4.free = true ∧ l.Nodup ∧ (∀ n ∈ l, PyData.strOk n = true) ∧ l.length + i = s.names.length ∧ o.length = i ∧ peelN s (s.names.length - i) l o = peelR s ∧ ρ = [.sh s.d, .own ((l.map D.str).map T.leaf), .own ((o.map D.str).map T.leaf), x3, x4, .no]) (by
      rintro i hi ρ ⟨l, o, x3, x4, f3, f4, nd, hl, h1, h2, h3, rfl⟩
      obtain ⟨k1, k2⟩ := ppB_ok (left := l) (o := o) (x3 := .sh (.int (i : Int))) (x4 := x4) k hl nd f4 (by omega) (by omega)
      refine ⟨[.sh s.d, .own ((l.map D.str).map T.leaf), .own ((o.map D.str).map T.leaf), .sh (.int (i : Int)), x4, .no], by simp only [bName, putR, List.getElem?_cons_succ, List.getElem?_cons_zero, f3, if_true, List.set_cons_succ, List.set_cons_zero], ?_⟩
      cases e : lastFree s l with
      | none =>
        refine .inl ⟨_, k1 e, ?_⟩
        rw [peelN_none e] at h3
        rw [← h3]
        have ne : l ≠ [] := by
          rintro rfl
          rw [List.length_nil] at h1
          omega
        show Res.ok _ = _
        unfold ordD
        rw [if_neg ne]
      | some c =>
        obtain ⟨y4, f, q⟩ := k2 c e
        have hc := (lf_mem e).1
        have := drop_len nd hc
        refine .inr ⟨_, q, dropS c l, c :: o, _, y4, rfl, f, drop_nd nd, fun n hn => hl n (drop_sub.mp hn).1, by omega, by rw [List.length_cons]; omega, ?_, rfl⟩
        rw [← h3, show s.names.length - i = (s.names.length - (i + 1)) + 1 by omega, peelN, e]) _ ⟨s.names, [], .no, .no, rfl, rfl, k.nd, k.so, rfl, rfl, rfl, rfl⟩ with ⟨x, q, hx⟩ | ⟨_, q, l, o, x3, x4, f3, f4, nd, hl, h1, h2, h3, rfl⟩
  · rw [q]
    exact hx
  · rw [q, x_seq_nx]
    have hl0 : l = [] := List.length_eq_zero_iff.mp (by omega)
    subst hl0
    rw [peelN_none lf_nil] at h3
    rw [← h3]
    obtain ⟨y4, _, e4⟩ := x_frz_any (i := 4) (g := dRet (dLst (aCons (dC1 gTuple (aCons (dVar 2) aNil)) (aCons (dTup aNil) aNil)))) (ρ := [.sh s.d, .own ((([] : List Str).map D.str).map T.leaf), .own ((o.map D.str).map T.leaf), x3, x4, .no]) rfl f4
    rw [e4]
    show runK (dRet _ [.sh s.d, .own ((([] : List Str).map D.str).map T.leaf), .own ((o.map D.str).map T.leaf), x3, y4, .no]) = _
    have v2 : dVar 2 [.sh s.d, .own ((([] : List Str).map D.str).map T.leaf), .own ((o.map D.str).map T.leaf), x3, y4, .no] = .ok (.bo ((o.map D.str).map T.leaf)) := rfl
    have : gTuple [.bo ((o.map D.str).map T.leaf)] = .ok (.sh (seqS true o)) := by
      show (match leaves? ((o.map D.str).map T.leaf) with | some ds => Res.ok (EV.sh (.tup ds)) | none => .stuck) = _
      rw [leavesQ_map]
      rfl
    rw [x_ret, x_lst, x_cons, x_cons, x_c1, x_cons, v2, x_nil, x_cons_ok, x_c1_ok, this]
    rfl
end
end K49
set_option Elab.async false
set_option linter.all false
set_option maxRecDepth 100000
namespace Dl
open PySem PySem.Spec PyProof.Rows L2
theorem cut_takeS {ss : List Str} {k : Nat} : cutL (ss.map D.str) none (some (k : Int)) = (ss.take k).map D.str := by
  have e1 : HT.sIx (ss.map D.str).length 0 none = 0 := by simp [HT.sIx]
  have e2 : HT.sIx (ss.map D.str).length (ss.map D.str).length (some (k : Int)) = min k (ss.map D.str).length := by simp [HT.sIx]; omega
  unfold cutL
  rw [e1, e2, List.drop_zero, Nat.sub_zero, ← List.take_eq_take_min, List.map_take]
theorem cut_dropLast {α : Type} {xs : List α} : cutL xs none (some (-1)) = xs.dropLast := by
  have e1 : HT.sIx xs.length 0 none = 0 := by simp [HT.sIx]
  have e2 : HT.sIx xs.length xs.length (some (-1)) = xs.length - 1 := by simp [HT.sIx]; omega
  unfold cutL
  rw [e1, e2, List.drop_zero, Nat.sub_zero, List.dropLast_eq_take]
theorem cut_sub {α : Type} {xs : List α} {lo hi : Option Int} : ∀ x ∈ cutL xs lo hi, x ∈ xs := fun x h => List.mem_of_mem_drop (List.mem_of_mem_take h)
theorem forD_idx {α : Type} {b : Bnd} {g : Stm} {c : α → D} {P : Nat → Dl.Env → Prop} {xs : List α} (q : ∀ k (a : α), xs[k]? = some a → ∀ ρ, P k ρ → ∃ ρ1 ρ2, b (c a) ρ = some ρ1 ∧ g ρ1 = .ok (.nx ρ2) ∧ P (k + 1) ρ2) (ρ : Dl.Env) (h : P 0 ρ) : ∃ ρ', P xs.length ρ' ∧ forD b g (xs.map c) ρ = .ok (.nx ρ') := by
  have key : ∀ (xs : List α) (j : Nat), (∀ k (a : α), xs[k]? = some a → ∀ ρ, P (j + k) ρ → ∃ ρ1 ρ2, b (c a) ρ = some ρ1 ∧ g ρ1 = .ok (.nx ρ2) ∧ P (j + k + 1) ρ2) → ∀ ρ, P j ρ → ∃ ρ', P (j + xs.length) ρ' ∧ forD b g (xs.map c) ρ = .ok (.nx ρ') := by
    intro xs
    induction xs with
    | nil => exact fun j _ ρ h => ⟨ρ, h, rfl⟩
    | cons a xs ih =>
      intro j q ρ h
      obtain ⟨ρ1, ρ2, e1, e2, h2⟩ := q 0 a rfl ρ h
      obtain ⟨ρ3, h3, e3⟩ := ih (j + 1) (fun k a' e ρ h => by
        have := q (k + 1) a' e ρ (by rw [show j + (k + 1) = j + 1 + k by omega]; exact h)
        rw [show j + (k + 1) = j + 1 + k by omega] at this
        exact this) ρ2 h2
      refine ⟨ρ3, ?_, by rw [List.map_cons, x_forD_cons e1, e2, x_turn_nx, e3]⟩
      rw [List.length_cons, show j + (xs.length + 1) = j + 1 + xs.length by omega]
      exact h3
  obtain ⟨ρ', h1, h2⟩ := key xs 0 (by simpa using q) ρ h
  exact ⟨ρ', by rwa [Nat.zero_add] at h1, h2⟩
end Dl
namespace K49
open PySem PySem.Spec PyProof.Rows L2 Dl
section
variable {s : Sn} {left o : List Str} {c : Str} {t : Tk} {ρ : Dl.Env}
/-! ### an order fits -/
def expl (s : Sn) (o : List Str) (t : Tk) : Bool := decide (((held (o.take (o.idxOf t.c)) t.hs).length : Int) < depOf s t.g)
def ties (o : List Str) (p : Str × Str) : Bool := decide ((o.idxOf p.2 : Int) < (o.idxOf p.1 : Int))
def fits (s : Sn) (o : List Str) : Bool := s.tks.all (expl s o) && s.ties.all fun p => !ties o p
theorem explains_eq : g_l_explains = dSeq (dSet 3 (dC1 gList (aCons (dVar 0) aNil))) (dFrz 3 (dSeq (dSet 4 (dSl (dVar 3) none (some (dIdx (dVar 3) (d2 gIx (dVar 1) (dC (.int 1)))))))
  (dFrz 4 (dRet (d2 gLt (dC1 gLen (aCons (dLc (iA (d2 gIx (dVar 1) (dC (.int 2)))) (bName 5) (dT tBool (d2 gIn (dVar 5) (dVar 4))) (dVar 5) [5]) aNil)) (dVar 2)))))) := rfl
theorem list_seq {k : Bool} {ss : List Str} : gList [.sh (seqS k ss)] = .ok (.fr ((ss.map D.str).map T.leaf)) := by cases k <;> rfl
theorem explains_ok (k : s.Ok) (ht : t ∈ s.tks) (hc : t.c ∈ o) (ho : ∀ n ∈ o, PyData.strOk n = true) : F_l_explains [seqS false o, t.d, .int (depOf s t.g)] = .ok (.sh (.bl (expl s o t))) := by
  rw [F_l_explains, x_run, explains_eq]
  show runK (dSeq _ _ [.sh (seqS false o), .sh t.d, .sh (.int (depOf s t.g)), .no, .no, .no]) = _
  have e1 : dC1 gList (aCons (dVar 0) aNil) [.sh (seqS false o), .sh t.d, .sh (.int (depOf s t.g)), .no, .no, .no] = .ok (.fr ((o.map D.str).map T.leaf)) := by
    rw [x_c1, x_cons, v_sh (d := seqS false o) rfl, x_nil, x_cons_ok, x_c1_ok, list_seq]
  rw [st_fr (i := 3) (y := .no) e1 rfl rfl, x_leaves]
  show runK (dSeq _ _ [.sh (seqS false o), .sh t.d, .sh (.int (depOf s t.g)), .sh (seqS false o), .no, .no]) = _
  have e2 : dSl (dVar 3) none (some (dIdx (dVar 3) (d2 gIx (dVar 1) (dC (.int 1))))) [.sh (seqS false o), .sh t.d, .sh (.int (depOf s t.g)), .sh (seqS false o), .no, .no] = .ok (.fr (((o.take (o.idxOf t.c)).map D.str).map T.leaf)) := by
    rw [x_sl, v_sh (d := seqS false o) rfl, x_sl_hi (k := (o.idxOf t.c : Nat)) (by rw [x_idx, v_sh (d := seqS false o) rfl, idx_seq (tk1 (t := t) rfl) hc ho])]
    show gSl (.sh (.lst (o.map D.str))) _ _ = _
    rw [x_sl_lst, cut_takeS]
  rw [st_fr (i := 4) (y := .no) e2 rfl rfl, x_leaves]
  show runK (dRet _ [.sh (seqS false o), .sh t.d, .sh (.int (depOf s t.g)), .sh (seqS false o), .sh (seqS false (o.take (o.idxOf t.c))), .no]) = _
  have i1 : iA (d2 gIx (dVar 1) (dC (.int 2))) [.sh (seqS false o), .sh t.d, .sh (.int (depOf s t.g)), .sh (seqS false o), .sh (seqS false (o.take (o.idxOf t.c))), .no] = .ok (t.hs.map D.str) := by
    rw [x_iA, tk2 (t := t) rfl, x_wK, x_walk_tup]
  have hlen := hs_len k ht
  rw [x_ret, x_d2, x_c1, x_cons, cnt_ok (v := 5) (l := 4) (ss := o.take (o.idxOf t.c)) (x := .sh (seqS false (o.take (o.idxOf t.c)))) (y := .no) i1 rfl rfl (by decide) (.inl ⟨false, rfl⟩) (hs_so k ht) (fun n hn => ho n (List.mem_of_mem_take hn)) (by omega), x_nil, x_cons_ok, x_c1_ok, len_strs, v_sh (d := .int (depOf s t.g)) rfl, x_d2_ok, x_lt]
  rfl
def ft1 : Stm := dIf (dNotT (dT tTru (dCall 3 F_l_explains [] (aCons (dVar 2) (aCons (dVar 3) (aCons (d2 gIx (d2 gIx (dVar 0) (dC (.int 2))) (dIdx (d2 gIx (dVar 0) (dC (.int 0))) (d2 gIx (dVar 3) (dC (.int 0))))) aNil))))))
  (dRet (dC (.bl false)))
  dNext
def ft2 : Stm := dIf (dT tBool (d2 gGt (dIdx (dVar 2) (d2 gIx (dVar 4) (dC (.int 0)))) (dIdx (dVar 2) (d2 gIx (dVar 4) (dC (.int 1))))))
  (dRet (dC (.bl false)))
  dNext
theorem fits_eq : g_l_fits = dSeq (dSet 2 (dC1 gList (aCons (dVar 1) aNil))) (dFrz 2 (dSeq (dFor (iA (d2 gIx (dVar 0) (dC (.int 1)))) (bName 3) ft1) (dSeq (dFor (iA (d2 gIx (dVar 0) (dC (.int 3)))) (bName 4) ft2) (dRet (dC (.bl true)))))) := rfl
theorem fits_ok {b : Bool} (k : s.Ok) (hn : ∀ n ∈ s.names, n ∈ o) (ho : ∀ n ∈ o, PyData.strOk n = true) : F_l_fits [s.d, seqS b o] = .ok (.sh (.bl (fits s o))) := by
  rw [F_l_fits, x_run, fits_eq]
  show runK (dSeq _ _ [.sh s.d, .sh (seqS b o), .no, .no, .no]) = _
  have e1 : dC1 gList (aCons (dVar 1) aNil) [.sh s.d, .sh (seqS b o), .no, .no, .no] = .ok (.fr ((o.map D.str).map T.leaf)) := by
    rw [x_c1, x_cons, v_sh (d := seqS b o) rfl, x_nil, x_cons_ok, x_c1_ok, list_seq]
  rw [st_fr (i := 2) (y := .no) e1 rfl rfl, x_leaves]
  show runK (dSeq _ _ [.sh s.d, .sh (seqS b o), .sh (seqS false o), .no, .no]) = _
  have q1 := forD_stop (b := bName 3) (g := ft1) (c := Tk.d) (bad := fun t => !expl s o t) (x := .sh (.bl false)) (xs := s.tks)
    (P := fun ρ => ∃ x3 : SV, x3.free = true ∧ ρ = [.sh s.d, .sh (seqS b o), .sh (seqS false o), x3, .no]) (by
      rintro t ht ρ ⟨x3, f3, rfl⟩
      obtain ⟨hg, hch, _⟩ := k.tk t ht
      have q : ft1 [.sh s.d, .sh (seqS b o), .sh (seqS false o), .sh t.d, .no] = if expl s o t then .ok (.nx [.sh s.d, .sh (seqS b o), .sh (seqS false o), .sh t.d, .no]) else .ok (.ret (.sh (.bl false))) := by
        have dp : dpt 3 [.sh s.d, .sh (seqS b o), .sh (seqS false o), .sh t.d, .no] = .ok (.sh (.int (depOf s t.g))) := dpt_ok k hg rfl rfl
        unfold dpt at dp
        rw [ft1, x_if, x_notT, x_t, x_call, x_cons, x_cons, x_cons, dp, v_sh (d := seqS false o) rfl, v_sh (d := t.d) rfl, x_nil, x_cons_ok, x_cons_ok, x_cons_ok, x_call_ok, callN_sss, explains_ok k ht (hn _ (hs_in k ht _ hch)) ho, x_t_ok, x_tTru, x_notT_ok]
        cases expl s o t <;> rfl
      exact ⟨[.sh s.d, .sh (seqS b o), .sh (seqS false o), .sh t.d, .no], by simp only [bName, putR, List.getElem?_cons_succ, List.getElem?_cons_zero, f3, if_true, List.set_cons_succ, List.set_cons_zero], fun z => by rw [q, if_neg (by simpa using z)], fun z => ⟨_, by rw [q, if_pos (by simpa using z)], _, rfl, rfl⟩⟩) [.sh s.d, .sh (seqS b o), .sh (seqS false o), .no, .no] ⟨.no, rfl, rfl⟩
  have i1 : iA (d2 gIx (dVar 0) (dC (.int 1))) [.sh s.d, .sh (seqS b o), .sh (seqS false o), .no, .no] = .ok (s.tks.map Tk.d) := by rw [x_iA, ix1 (s := s) rfl, x_wK, x_walk_lst]
  rw [x_seq, x_for, i1, x_for_ok]
  have hf : fits s o = (!(s.tks.any fun t => !expl s o t) && !(s.ties.any (ties o))) := by
    unfold fits
    rw [List.not_any_eq_all_not, List.not_any_eq_all_not]
    simp
  rw [hf]
  cases e : s.tks.any fun t => !expl s o t with
  | true =>
    rw [q1.1 e]
    rfl
  | false =>
    obtain ⟨_, ⟨x3, f3, rfl⟩, e2⟩ := q1.2 e
    rw [e2, x_seq_nx, x_seq]
    have q2 := forD_stop (b := bName 4) (g := ft2) (c := tieD) (bad := ties o) (x := .sh (.bl false)) (xs := s.ties)
      (P := fun ρ => ∃ x4 : SV, x4.free = true ∧ ρ = [.sh s.d, .sh (seqS b o), .sh (seqS false o), x3, x4]) (by
        rintro p hp ρ ⟨x4, f4, rfl⟩
        obtain ⟨p1, p2, _⟩ := k.ti p hp
        have q : ft2 [.sh s.d, .sh (seqS b o), .sh (seqS false o), x3, .sh (tieD p)] = if ties o p then .ok (.ret (.sh (.bl false))) else .ok (.nx [.sh s.d, .sh (seqS b o), .sh (seqS false o), x3, .sh (tieD p)]) := by
          rw [ft2, x_if, x_t, x_d2, x_idx, x_idx, v_sh (d := seqS false o) rfl, idx_seq (ti0 (p := p) rfl) (hn _ p1) ho, idx_seq (ti1 (p := p) rfl) (hn _ p2) ho, x_d2_ok, x_gt, x_t_ok, x_tBool]
          unfold ties
          cases decide ((o.idxOf p.2 : Int) < (o.idxOf p.1 : Int)) <;> rfl
        exact ⟨[.sh s.d, .sh (seqS b o), .sh (seqS false o), x3, .sh (tieD p)], by simp only [bName, putR, List.getElem?_cons_succ, List.getElem?_cons_zero, f4, if_true, List.set_cons_succ, List.set_cons_zero], fun z => by rw [q, if_pos z], fun z => ⟨_, by rw [q, z]; rfl, _, rfl, rfl⟩⟩) [.sh s.d, .sh (seqS b o), .sh (seqS false o), x3, .no] ⟨.no, rfl, rfl⟩
    have i2 : iA (d2 gIx (dVar 0) (dC (.int 3))) [.sh s.d, .sh (seqS b o), .sh (seqS false o), x3, .no] = .ok (s.ties.map tieD) := by rw [x_iA, ix3 (s := s) rfl, x_wK, x_walk_lst]
    rw [x_for, i2, x_for_ok]
    cases e3 : s.ties.any (ties o) with
    | true =>
      rw [q2.1 e3]
      rfl
    | false =>
      obtain ⟨_, ⟨x4, f4, rfl⟩, e4⟩ := q2.2 e3
      rw [e4]
      rfl
/-! ### all orders -/
def orB : Stm := dIf (dT tBool (d2 gNotIn (dVar 5) (dVar 4))) (dApp 3 (d2 gAdd (dVar 4) (dTup (aCons (dVar 5) aNil)))) dNext
def okRows (names : List Str) (i : Nat) (rows : List (List Str)) : Prop := ∀ r ∈ rows, r.length = i ∧ r.Nodup ∧ ∀ n ∈ r, n ∈ names
def orM : Stm := dSeq (dSet 3 (dLst aNil)) (dSeq (dFor (iA (dVar 1)) (bName 4) (dFor (iA (dVar 0)) (bName 5) orB)) (dSeq (dSet 1 (dC1 gList (aCons (dVar 3) aNil))) (dFrz 1 dNext)))
theorem orB_ok {names : List Str} {a0 a1 x2 : SV} {i : Nat} {r : List Str} {nx : List (List Str)} {n : Str} (hs : ∀ n ∈ names, PyData.strOk n = true) (hr : r.length = i ∧ r.Nodup ∧ ∀ n ∈ r, n ∈ names) (hx : okRows names (i + 1) nx) (hn : n ∈ names) (hi : i ≤ 1000) (hl : nx.length < 16777216) :
    ∃ nx', okRows names (i + 1) nx' ∧ nx'.length ≤ nx.length + 1 ∧ orB [a0, a1, x2, .own ((nx.map (seqS true)).map T.leaf), .sh (seqS true r), .sh (.str n)] = .ok (.nx [a0, a1, x2, .own ((nx'.map (seqS true)).map T.leaf), .sh (seqS true r), .sh (.str n)]) := by
  have hrs : ∀ m ∈ r, PyData.strOk m = true := fun m hm => hs m (hr.2.2 m hm)
  rw [orB, x_if, x_t, x_d2, v_sh (d := .str n) rfl, v_sh (d := seqS true r) rfl, x_d2_ok, nin_seq (hs n hn) hrs, x_t_ok, x_tBool]
  by_cases h : n ∈ r
  · rw [decide_eq_true h]
    exact ⟨nx, hx, by omega, rfl⟩
  · rw [decide_eq_false h]
    refine ⟨nx ++ [r ++ [n]], fun q hq => ?_, by simp, ?_⟩
    · rcases List.mem_append.mp hq with hq | hq
      · exact hx q hq
      · obtain rfl := List.mem_singleton.mp hq
        refine ⟨by rw [List.length_append, hr.1]; rfl, ?_, fun m hm => ?_⟩
        · rw [List.nodup_append]
          exact ⟨hr.2.1, by simp, fun a ha b hb => by
            obtain rfl := List.mem_singleton.mp hb
            rintro rfl
            exact h ha⟩
        · rcases List.mem_append.mp hm with hm | hm
          · exact hr.2.2 m hm
          · obtain rfl := List.mem_singleton.mp hm
            exact hn
    · have e1 : d2 gAdd (dVar 4) (dTup (aCons (dVar 5) aNil)) [a0, a1, x2, .own ((nx.map (seqS true)).map T.leaf), .sh (seqS true r), .sh (.str n)] = .ok (.sh (seqS true (r ++ [n]))) := by
        rw [x_d2, v_sh (d := seqS true r) rfl, x_tup, x_cons, v_sh (d := .str n) rfl, x_nil, x_cons_ok, x_tup1, x_d2_ok]
        show gAdd (.sh (.tup (r.map D.str))) (.sh (.tup [.str n])) = _
        rw [add_tups (by simp only [List.length_map, List.length_cons, List.length_nil]; omega)]
        show _ = Res.ok (EV.sh (D.tup ((r ++ [n]).map D.str)))
        rw [List.map_append]
        rfl
      show dApp 3 _ [a0, a1, x2, .own ((nx.map (seqS true)).map T.leaf), .sh (seqS true r), .sh (.str n)] = _
      rw [x_app, e1]
      show appK 3 _ (some (.own ((nx.map (seqS true)).map T.leaf))) _ = _
      rw [x_app_sh (by rw [List.length_map, List.length_map]; exact hl)]
      simp only [List.map_append, List.map_cons, List.map_nil, List.set_cons_succ, List.set_cons_zero]
theorem orM_ok {names : List Str} {i : Nat} {x2 x3 x4 x5 : SV} {rows : List (List Str)} (hs : ∀ n ∈ names, PyData.strOk n = true) (hr : okRows names i rows) (hi : i ≤ 1000) (hn : names.length ≤ 6) (hl : rows.length ≤ 6 ^ i) (hi6 : i < 6) (f3 : x3.free = true) (f4 : x4.free = true) (f5 : x5.free = true) :
    ∃ rows' y3 y4 y5, okRows names (i + 1) rows' ∧ rows'.length ≤ 6 ^ (i + 1) ∧ SV.free y3 = true ∧ SV.free y4 = true ∧ SV.free y5 = true ∧
      orM [.sh (seqS false names), .sh (.lst (rows.map (seqS true))), x2, x3, x4, x5] = .ok (.nx [.sh (seqS false names), .sh (.lst (rows'.map (seqS true))), x2, y3, y4, y5]) := by
  have p6 : 6 ^ (i + 1) ≤ 46656 := by
    have : (6 : Nat) ^ (i + 1) ≤ 6 ^ 6 := Nat.pow_le_pow_right (by omega) (by omega)
    exact Nat.le_trans this (by decide)
  have p7 : 6 ^ (i + 1) = 6 * 6 ^ i := by rw [Nat.pow_succ, Nat.mul_comm]
  rw [orM, st_fr0 (i := 3) (y := x3) (f := dLst aNil) (ts := []) rfl rfl f3]
  show ∃ rows' y3 y4 y5, _ ∧ _ ∧ _ ∧ _ ∧ _ ∧ dSeq _ _ [.sh (seqS false names), .sh (.lst (rows.map (seqS true))), x2, .own ((([] : List (List Str)).map (seqS true)).map T.leaf), x4, x5] = _
  obtain ⟨_, ⟨nx, y4, y5, g1, g2, g4, g5, rfl⟩, e⟩ := forD_idx (b := bName 4) (g := dFor (iA (dVar 0)) (bName 5) orB) (c := seqS true) (xs := rows)
    (P := fun k ρ => ∃ (nx : List (List Str)) (x4 x5 : SV), okRows names (i + 1) nx ∧ nx.length ≤ 6 * k ∧ x4.free = true ∧ x5.free = true ∧ ρ = [.sh (seqS false names), .sh (.lst (rows.map (seqS true))), x2, .own ((nx.map (seqS true)).map T.leaf), x4, x5]) (by
      rintro k r hk ρ ⟨nx, x4, x5, h1, h2, f4, f5, rfl⟩
      have hr' := hr r (List.mem_of_getElem? hk)
      have hkl : k < rows.length := (List.getElem?_eq_some_iff.mp hk).1
      obtain ⟨_, ⟨nx2, y5, g1, g2, g5, rfl⟩, e⟩ := forD_idx (b := bName 5) (g := orB) (c := D.str) (xs := names)
        (P := fun j ρ => ∃ (nx2 : List (List Str)) (x5 : SV), okRows names (i + 1) nx2 ∧ nx2.length ≤ nx.length + j ∧ x5.free = true ∧ ρ = [.sh (seqS false names), .sh (.lst (rows.map (seqS true))), x2, .own ((nx2.map (seqS true)).map T.leaf), .sh (seqS true r), x5]) (by
          rintro j n hj ρ ⟨nx2, x5, h1, h3, f5, rfl⟩
          have hjl : j < names.length := (List.getElem?_eq_some_iff.mp hj).1
          obtain ⟨nx3, w1, w2, w3⟩ := orB_ok (a0 := .sh (seqS false names)) (a1 := .sh (.lst (rows.map (seqS true)))) (x2 := x2) hs hr' h1 (List.mem_of_getElem? hj) hi (by omega)
          exact ⟨[.sh (seqS false names), .sh (.lst (rows.map (seqS true))), x2, .own ((nx2.map (seqS true)).map T.leaf), .sh (seqS true r), .sh (.str n)], _, by simp only [bName, putR, List.getElem?_cons_succ, List.getElem?_cons_zero, f5, if_true, List.set_cons_succ, List.set_cons_zero], w3, nx3, _, w1, by omega, rfl, rfl⟩) _ ⟨nx, x5, h1, by omega, f5, rfl⟩
      have i1 : iA (dVar 0) [.sh (seqS false names), .sh (.lst (rows.map (seqS true))), x2, .own ((nx.map (seqS true)).map T.leaf), .sh (seqS true r), x5] = .ok (names.map D.str) := by rw [x_iA, v_sh (d := seqS false names) rfl, x_wK, walk_seq]
      exact ⟨[.sh (seqS false names), .sh (.lst (rows.map (seqS true))), x2, .own ((nx.map (seqS true)).map T.leaf), .sh (seqS true r), x5], _, by simp only [bName, putR, List.getElem?_cons_succ, List.getElem?_cons_zero, f4, if_true, List.set_cons_succ, List.set_cons_zero], by rw [x_for, i1, x_for_ok, e], nx2, _, y5, g1, by omega, rfl, g5, rfl⟩) _ ⟨[], x4, x5, (fun r hr => by cases hr), by simp, f4, f5, rfl⟩
  have i1 : iA (dVar 1) [.sh (seqS false names), .sh (.lst (rows.map (seqS true))), x2, .own ((([] : List (List Str)).map (seqS true)).map T.leaf), x4, x5] = .ok (rows.map (seqS true)) := by rw [x_iA, v_sh (d := .lst (rows.map (seqS true))) rfl, x_wK, x_walk_lst]
  rw [x_seq, x_for, i1, x_for_ok, e, x_seq_nx]
  have e2 : dC1 gList (aCons (dVar 3) aNil) [.sh (seqS false names), .sh (.lst (rows.map (seqS true))), x2, .own ((nx.map (seqS true)).map T.leaf), y4, y5] = .ok (.fr ((nx.map (seqS true)).map T.leaf)) := by
    rw [x_c1, x_cons, v_own (i := 3) (ts := (nx.map (seqS true)).map T.leaf) rfl, x_nil, x_cons_ok, x_c1_ok]
    show (match leaves? ((nx.map (seqS true)).map T.leaf) with | some ds => Res.ok (EV.fr (ds.map T.leaf)) | none => .stuck) = _
    rw [leavesQ_map]
  rw [st_fr (i := 1) e2 rfl rfl, x_leaves]
  exact ⟨nx, _, y4, y5, g1, by omega, rfl, g4, g5, rfl⟩
theorem orders_eq : g_l_orders = dSeq (dSet 1 (dLst (aCons (dTup aNil) aNil))) (dFrz 1 (dSeq (dFor (iR1 (dC1 gLen (aCons (dVar 0) aNil))) (bName 2) orM) (dFrz 1 (dRetV 1)))) := rfl
theorem orders_ok {names : List Str} (hs : ∀ n ∈ names, PyData.strOk n = true) (hn : names.length ≤ 6) : ∃ rows, okRows names names.length rows ∧ rows.length ≤ 46656 ∧ F_l_orders [seqS false names] = .ok (.sh (.lst (rows.map (seqS true)))) := by
  rw [F_l_orders, x_run, orders_eq]
  show ∃ rows, _ ∧ _ ∧ runK (dSeq _ _ [.sh (seqS false names), .no, .no, .no, .no, .no]) = _
  have e1 : dLst (aCons (dTup aNil) aNil) [.sh (seqS false names), .no, .no, .no, .no, .no] = .ok (.fr [.leaf (seqS true [])]) := rfl
  rw [st_fr (i := 1) (y := .no) e1 rfl rfl]
  show ∃ rows, _ ∧ _ ∧ runK (dSeq _ _ [.sh (seqS false names), .sh (.lst (([[]] : List (List Str)).map (seqS true))), .no, .no, .no, .no]) = _
  have i1 : iR1 (dC1 gLen (aCons (dVar 0) aNil)) [.sh (seqS false names), .sh (.lst (([[]] : List (List Str)).map (seqS true))), .no, .no, .no, .no] = .ok (rangeD 0 names.length) := by
    rw [x_rng (n := (names.length : Nat)) (by omega) (by rw [x_c1, x_cons, v_sh (d := seqS false names) rfl, x_nil, x_cons_ok, x_c1_ok, len_seq]), Int.toNat_natCast]
  obtain ⟨_, ⟨rows, x2, x3, x4, x5, h1, h2, f2, f3, f4, f5, rfl⟩, e⟩ := forD_range (b := bName 2) (g := orM) (n := names.length)
    (P := fun i ρ => ∃ (rows : List (List Str)) (x2 x3 x4 x5 : SV), okRows names i rows ∧ rows.length ≤ 6 ^ i ∧ x2.free = true ∧ x3.free = true ∧ x4.free = true ∧ x5.free = true ∧ ρ = [.sh (seqS false names), .sh (.lst (rows.map (seqS true))), x2, x3, x4, x5]) (by
      rintro i hi ρ ⟨rows, x2, x3, x4, x5, h1, h2, f2, f3, f4, f5, rfl⟩
      obtain ⟨rows', y3, y4, y5, w1, w2, g3, g4, g5, e⟩ := orM_ok (x2 := .sh (.int (i : Int))) hs h1 (by omega) hn h2 (by omega) f3 f4 f5
      exact ⟨[.sh (seqS false names), .sh (.lst (rows.map (seqS true))), .sh (.int (i : Int)), x3, x4, x5], _, by simp only [bName, putR, List.getElem?_cons_succ, List.getElem?_cons_zero, f2, if_true, List.set_cons_succ, List.set_cons_zero], e, rows', _, y3, y4, y5, w1, w2, rfl, g3, g4, g5, rfl⟩) _ ⟨[[]], .no, .no, .no, .no, (fun r hr => by
        obtain rfl := List.mem_singleton.mp hr
        exact ⟨rfl, by simp, fun n hn => by cases hn⟩), by simp, rfl, rfl, rfl, rfl, rfl⟩
  have p6 : 6 ^ names.length ≤ 46656 := by
    have : (6 : Nat) ^ names.length ≤ 6 ^ 6 := Nat.pow_le_pow_right (by omega) hn
    exact Nat.le_trans this (by decide)
  refine ⟨rows, h1, by omega, ?_⟩
  rw [x_seq, x_for, i1, x_for_ok, e]
  rfl
end
end K49
set_option Elab.async false
set_option linter.all false
set_option maxRecDepth 100000
namespace K49
open PySem PySem.Spec PyProof.Rows L2 Dl
section
variable {s s' : Sn} {l m lot left o : List Str} {c : Str} {t : Tk} {n : Nat}
theorem held_mono {hs : List Str} (h : ∀ x ∈ l, x ∈ m) : (held l hs).length ≤ (held m hs).length := by
  unfold held
  rw [← List.countP_eq_length_filter, ← List.countP_eq_length_filter]
  exact List.countP_mono_left fun x _ hx => by
    simp only [decide_eq_true_eq] at hx ⊢
    exact h x hx
theorem over_mono (h : ∀ x ∈ l, x ∈ m) (z : over s l c t = true) : over s m c t = true := by
  unfold over at z ⊢
  rw [Bool.and_eq_true, decide_eq_true_eq, decide_eq_true_eq] at z ⊢
  have := held_mono (hs := t.hs) h
  exact ⟨z.1, by omega⟩
theorem bound_mono {p : Str × Str} (h : ∀ x ∈ l, x ∈ m) (z : bound l c p = true) : bound m c p = true := by
  unfold bound at z ⊢
  rw [Bool.and_eq_true, decide_eq_true_eq, decide_eq_true_eq] at z ⊢
  exact ⟨z.1, h _ z.2⟩
theorem may_iff : may s l c = true ↔ (∀ t ∈ s.tks, over s l c t = false) ∧ ∀ p ∈ s.ties, bound l c p = false := by
  unfold may
  rw [Bool.and_eq_true, Bool.not_eq_true', Bool.not_eq_true', List.any_eq_false, List.any_eq_false]
  simp only [Bool.not_eq_true]
theorem may_anti (h : ∀ x ∈ l, x ∈ m) (z : may s m c = true) : may s l c = true := by
  rw [may_iff] at z ⊢
  refine ⟨fun t ht => ?_, fun p hp => ?_⟩
  · have := z.1 t ht
    cases e : over s l c t with
    | false => rfl
    | true => rw [over_mono h e] at this; cases this
  · have := z.2 p hp
    cases e : bound l c p with
    | false => rfl
    | true => rw [bound_mono h e] at this; cases this
theorem may_congr (h1 : ∀ x ∈ l, x ∈ m) (h2 : ∀ x ∈ m, x ∈ l) : may s l c = may s m c := by
  cases e : may s m c with
  | true => exact may_anti h1 e
  | false =>
    cases e2 : may s l c with
    | false => rfl
    | true => rw [may_anti h2 e2] at e; cases e
theorem stuck_iff : stuck s lot = true ↔ lot ≠ [] ∧ ∀ c ∈ lot, may s lot c = false := by
  unfold stuck
  rw [Bool.and_eq_true, List.all_eq_true, decide_eq_true_eq]
  constructor
  · rintro ⟨h1, h2⟩
    refine ⟨?_, fun c hc => by simpa using h1 c hc⟩
    rintro rfl
    simp at h2
  · rintro ⟨h1, h2⟩
    refine ⟨fun c hc => by simpa using h2 c hc, ?_⟩
    have := List.length_pos_iff.mpr h1
    omega
theorem stuck_congr (h1 : ∀ x ∈ l, x ∈ m) (h2 : ∀ x ∈ m, x ∈ l) : stuck s l = stuck s m := by
  have key : ∀ {a b : List Str}, (∀ x ∈ a, x ∈ b) → (∀ x ∈ b, x ∈ a) → stuck s a = true → stuck s b = true := fun {a b} h1 h2 z => by
    rw [stuck_iff] at z ⊢
    refine ⟨?_, fun c hc => by rw [← may_congr h1 h2]; exact z.2 c (h2 c hc)⟩
    rintro rfl
    obtain ⟨x, hx⟩ := List.exists_mem_of_ne_nil _ z.1
    cases h1 x hx
  cases e : stuck s m with
  | true => exact key h2 h1 e
  | false =>
    cases e2 : stuck s l with
    | false => rfl
    | true => rw [key h1 h2 e2] at e; cases e
theorem lf_none : lastFree s l = none ↔ ∀ c ∈ l, may s l c = false := by
  unfold lastFree
  rw [List.find?_eq_none]
  simp
/-- a stuck lot stays whatever free cloak is taken -/
theorem stuck_drop (hs : stuck s lot = true) (h : ∀ x ∈ lot, x ∈ l) (hc : may s l c = true) : ∀ x ∈ lot, x ∈ dropS c l := by
  intro x hx
  refine drop_sub.mpr ⟨h x hx, ?_⟩
  rintro rfl
  have := (stuck_iff.mp hs).2 x hx
  rw [may_anti h hc] at this
  cases this
theorem stuck_peel (hs : stuck s lot = true) : ∀ (n : Nat) (l o : List Str), (∀ x ∈ lot, x ∈ l) → ∀ x ∈ lot, x ∈ (peelN s n l o).1
  | 0, l, o, h => h
  | n + 1, l, o, h => by
    rw [peelN]
    cases e : lastFree s l with
    | none => exact h
    | some c => exact stuck_peel hs n _ _ (stuck_drop hs h (lf_mem e).2)
theorem peel_end : ∀ (n : Nat) (l o : List Str), l.length ≤ n → lastFree s (peelN s n l o).1 = none
  | 0, l, o, h => by
    obtain rfl : l = [] := List.length_eq_zero_iff.mp (by omega)
    rfl
  | n + 1, l, o, h => by
    rw [peelN]
    cases e : lastFree s l with
    | none => exact e
    | some c =>
      have := drop_lt (lf_mem e).1
      exact peel_end n _ _ (by omega)
theorem peel_sub : ∀ (n : Nat) (l o : List Str), ∃ p : Str → Bool, (peelN s n l o).1 = l.filter p
  | 0, l, o => ⟨fun _ => true, filter_yes.symm⟩
  | n + 1, l, o => by
    rw [peelN]
    cases e : lastFree s l with
    | none => exact ⟨fun _ => true, filter_yes.symm⟩
    | some c =>
      obtain ⟨p, hp⟩ := peel_sub n (dropS c l) (c :: o)
      simp only
      rw [hp]
      unfold dropS
      rw [List.filter_filter]
      exact ⟨_, rfl⟩
/-- what is left -/
abbrev lefts (s : Sn) : List Str := (peelR s).1
theorem lefts_in : ∀ x ∈ lefts s, x ∈ s.names := by
  obtain ⟨p, hp⟩ := peel_sub (s := s) s.names.length s.names []
  intro x hx
  unfold lefts peelR at hx
  rw [hp] at hx
  exact (List.mem_filter.mp hx).1
theorem lefts_nf : ∀ c ∈ lefts s, may s (lefts s) c = false := lf_none.mp (peel_end _ _ _ (Nat.le_refl _))
theorem lefts_stuck : stuck s (lefts s) = decide (lefts s ≠ []) := by
  by_cases h : lefts s = []
  · rw [h]
    rfl
  · rw [decide_eq_true h]
    exact stuck_iff.mpr ⟨h, lefts_nf⟩
theorem stuck_in (hs : stuck s lot = true) (h : ∀ x ∈ lot, x ∈ s.names) : ∀ x ∈ lot, x ∈ lefts s := stuck_peel hs _ _ _ h
/-- all rows of free cloaks end at the same lot -/
theorem filter_same {p q : Str → Bool} (h : ∀ x ∈ l, (p x = true ↔ q x = true)) : l.filter p = l.filter q := by
  refine List.filter_congr fun x hx => ?_
  have := h x hx
  cases e : p x <;> cases e2 : q x <;> simp_all
theorem lefts_any (h1 : ∃ p : Str → Bool, l = s.names.filter p) (h2 : ∀ c ∈ l, may s l c = false) (h3 : ∀ x ∈ lefts s, x ∈ l) : l = lefts s := by
  obtain ⟨q, hq⟩ := peel_sub (s := s) s.names.length s.names []
  obtain ⟨p, hp⟩ := h1
  have sub : ∀ x ∈ l, x ∈ lefts s := by
    by_cases h : l = []
    · rw [h]
      exact fun x hx => by cases hx
    · exact stuck_in (stuck_iff.mpr ⟨h, h2⟩) fun x hx => by
        rw [hp] at hx
        exact (List.mem_filter.mp hx).1
  have hq' : lefts s = s.names.filter q := hq
  rw [hq', hp]
  refine filter_same fun x hx => ⟨fun z => ?_, fun z => ?_⟩
  · have := sub x (by rw [hp]; exact List.mem_filter.mpr ⟨hx, z⟩)
    rw [hq'] at this
    exact (List.mem_filter.mp this).2
  · have := h3 x (by rw [hq']; exact List.mem_filter.mpr ⟨hx, z⟩)
    rw [hp] at this
    exact (List.mem_filter.mp this).2
/-- what forbids less leaves less -/
theorem lefts_le (hn : s'.names = s.names) (h : ∀ l c, may s l c = true → may s' l c = true) : ∀ x ∈ lefts s', x ∈ lefts s := by
  by_cases e : lefts s' = []
  · rw [e]
    exact fun x hx => by cases hx
  · refine stuck_in (stuck_iff.mpr ⟨e, fun c hc => ?_⟩) fun x hx => by
      rw [← hn]
      exact lefts_in x hx
    have := lefts_nf c hc
    cases e2 : may s (lefts s') c with
    | false => rfl
    | true => rw [h _ _ e2] at this; cases this
theorem may_less (hd : s'.dep = s.dep) (hn : s'.names = s.names) (h1 : ∀ t ∈ s'.tks, t ∈ s.tks) (h2 : ∀ p ∈ s'.ties, p ∈ s.ties) (z : may s l c = true) : may s' l c = true := by
  rw [may_iff] at z ⊢
  refine ⟨fun t ht => ?_, fun p hp => z.2 p (h2 p hp)⟩
  have := z.1 t (h1 t ht)
  unfold over depOf at this ⊢
  rw [hd, hn]
  exact this
/-! ### the order that is told fits -/
theorem not_take : ∀ {l : List Str}, c ∉ l.take (l.idxOf c)
  | [] => by simp
  | a :: l => by
    rw [List.idxOf_cons]
    by_cases h : a = c
    · subst h
      simp
    · have : (a == c) = false := by simpa using h
      rw [this]
      simp only [cond_false, List.take_succ_cons, List.mem_cons, not_or]
      exact ⟨fun z => h z.symm, not_take⟩
theorem take_of {a b : Str} : ∀ {l : List Str}, l.idxOf b < l.idxOf a → b ∈ l.take (l.idxOf a)
  | [], h => by simp at h
  | x :: l, h => by
    rw [List.idxOf_cons, List.idxOf_cons] at h
    rw [List.idxOf_cons]
    by_cases ha : x = a
    · subst ha
      simp at h
    · have e : (x == a) = false := by simpa using ha
      rw [e] at h ⊢
      simp only [cond_false, List.take_succ_cons] at h ⊢
      by_cases hb : x = b
      · rw [hb]
        exact List.mem_cons_self
      · have e2 : (x == b) = false := by simpa using hb
        rw [e2] at h
        simp only [cond_false] at h
        exact List.mem_cons_of_mem _ (take_of (by omega))
def Good (s : Sn) (l o : List Str) : Prop := (∀ x ∈ s.names, x ∈ l ∨ x ∈ o) ∧ (∀ x ∈ o, x ∈ s.names) ∧ (∀ x ∈ o, x ∉ l) ∧ ∀ c ∈ o, may s (l ++ o.take (o.idxOf c) ++ [c]) c = true
theorem good_peel : ∀ (n : Nat) (l o : List Str), (∀ x ∈ l, x ∈ s.names) → Good s l o → Good s (peelN s n l o).1 (peelN s n l o).2
  | 0, l, o, _, h => h
  | n + 1, l, o, hl, ⟨h1, h2, h3, h4⟩ => by
    rw [peelN]
    cases e : lastFree s l with
    | none => exact ⟨h1, h2, h3, h4⟩
    | some c =>
      obtain ⟨hc, hm⟩ := lf_mem e
      refine good_peel n _ _ (fun x hx => hl x (drop_sub.mp hx).1) ⟨fun x hx => ?_, fun x hx => ?_, fun x hx => ?_, fun x hx => ?_⟩
      · by_cases hxc : x = c
        · exact .inr (by rw [hxc]; exact List.mem_cons_self)
        · rcases h1 x hx with z | z
          · exact .inl (drop_sub.mpr ⟨z, hxc⟩)
          · exact .inr (List.mem_cons_of_mem _ z)
      · rcases List.mem_cons.mp hx with rfl | hx
        · exact hl _ hc
        · exact h2 x hx
      · intro z
        rcases List.mem_cons.mp hx with rfl | hx
        · exact (drop_sub.mp z).2 rfl
        · exact h3 x hx (drop_sub.mp z).1
      · rcases List.mem_cons.mp hx with rfl | hx
        · refine may_anti (m := l) (fun y hy => ?_) hm
          rw [List.idxOf_cons_self, List.take_zero, List.append_nil] at hy
          rcases List.mem_append.mp hy with hy | hy
          · exact (drop_sub.mp hy).1
          · rw [List.mem_singleton.mp hy]
            exact hc
        · have ne : c ≠ x := by
            rintro rfl
            exact h3 _ hx hc
          refine may_anti (m := l ++ o.take (o.idxOf x) ++ [x]) (fun y hy => ?_) (h4 x hx)
          have eb : (c == x) = false := by simpa using ne
          rw [List.idxOf_cons, eb, cond_false, List.take_succ_cons] at hy
          rcases List.mem_append.mp hy with hy | hy
          · rcases List.mem_append.mp hy with hy | hy
            · exact List.mem_append_left _ (List.mem_append_left _ (drop_sub.mp hy).1)
            · rcases List.mem_cons.mp hy with rfl | hy
              · exact List.mem_append_left _ (List.mem_append_left _ hc)
              · exact List.mem_append_left _ (List.mem_append_right _ hy)
          · exact List.mem_append_right _ hy
theorem good_all : Good s (lefts s) (peelR s).2 := good_peel _ _ _ (fun _ h => h) ⟨fun x hx => .inl hx, fun x hx => (by cases hx), fun x hx => (by cases hx), fun x hx => (by cases hx)⟩
theorem told_in (h : lefts s = []) : ∀ x ∈ s.names, x ∈ (peelR s).2 := fun x hx => by
  rcases (good_all (s := s)).1 x hx with z | z
  · rw [h] at z
    cases z
  · exact z
theorem fits_iff : fits s o = true ↔ (∀ t ∈ s.tks, ((held (o.take (o.idxOf t.c)) t.hs).length : Int) < depOf s t.g) ∧ ∀ p ∈ s.ties, ¬ (o.idxOf p.2 : Int) < (o.idxOf p.1 : Int) := by
  unfold fits expl ties
  rw [Bool.and_eq_true, List.all_eq_true, List.all_eq_true]
  simp only [decide_eq_true_eq, Bool.not_eq_true', decide_eq_false_iff_not]
theorem told_fits (k : s.Ok) (h : lefts s = []) : fits s (peelR s).2 = true := by
  obtain ⟨_, _, _, g⟩ := good_all (s := s)
  have hin := told_in h
  rw [h] at g
  generalize (peelR s).2 = o at g hin
  rw [fits_iff]
  refine ⟨fun t ht => ?_, fun p hp z => ?_⟩
  · obtain ⟨hg, hch, _⟩ := k.tk t ht
    have hc := hin _ (hs_in k ht _ hch)
    have m := (may_iff.mp (g t.c hc)).1 t ht
    unfold over at m
    rw [decide_eq_true rfl, Bool.true_and, decide_eq_false_iff_not, List.nil_append] at m
    have lt : (held (o.take (o.idxOf t.c)) t.hs).length < (held (o.take (o.idxOf t.c) ++ [t.c]) t.hs).length := by
      have e : held (o.take (o.idxOf t.c)) t.hs = held (o.take (o.idxOf t.c)) (held (o.take (o.idxOf t.c) ++ [t.c]) t.hs) := by
        unfold held
        rw [List.filter_filter]
        refine filter_same fun x hx => ?_
        simp only [List.mem_append, List.mem_singleton, Bool.and_eq_true, decide_eq_true_eq]
        exact ⟨fun z => ⟨z, .inl z⟩, fun z => z.1⟩
      rw [e]
      unfold held
      rw [List.length_filter_lt_length_iff_exists]
      exact ⟨t.c, List.mem_filter.mpr ⟨hch, by simp⟩, by simpa using not_take⟩
    omega
  · obtain ⟨p1, p2, ne⟩ := k.ti p hp
    have hc := hin _ p1
    have m := (may_iff.mp (g p.1 hc)).2 p hp
    unfold bound at m
    rw [decide_eq_true rfl, Bool.true_and, decide_eq_false_iff_not, List.nil_append] at m
    exact m (List.mem_append_left _ (take_of (by omega)))
/-! ### where something is left, no order fits -/
theorem exists_max {f : Str → Nat} : ∀ {l : List Str}, l ≠ [] → ∃ c ∈ l, ∀ x ∈ l, f x ≤ f c
  | [], h => (h rfl).elim
  | [a], _ => ⟨a, List.mem_cons_self, fun x hx => by rw [List.mem_singleton.mp hx]; exact Nat.le_refl _⟩
  | a :: b :: l, _ => by
    obtain ⟨c, hc, h⟩ := exists_max (f := f) (l := b :: l) (by simp)
    by_cases q : f a ≤ f c
    · exact ⟨c, List.mem_cons_of_mem _ hc, fun x hx => by
        rcases List.mem_cons.mp hx with rfl | hx
        · exact q
        · exact h x hx⟩
    · exact ⟨a, List.mem_cons_self, fun x hx => by
        rcases List.mem_cons.mp hx with rfl | hx
        · exact Nat.le_refl _
        · have := h x hx
          omega⟩
theorem hs_nd (k : s.Ok) (ht : t ∈ s.tks) : t.hs.Nodup := by
  rw [(k.tk t ht).2.2]
  exact k.nd.filter _
theorem held_one {hs : List Str} (h : hs.Nodup) : (held (l ++ [c]) hs).length ≤ (held l hs).length + 1 := by
  induction hs with
  | nil => simp [held]
  | cons a hs ih =>
    have nd := List.nodup_cons.mp h
    have ih := ih nd.2
    by_cases e : a = c
    · subst e
      have : held (l ++ [a]) hs = held l hs := by
        unfold held
        refine filter_same fun x hx => ?_
        have : x ≠ a := fun z => nd.1 (z ▸ hx)
        simp [this]
      unfold held at this ⊢
      rw [List.filter_cons, List.filter_cons, this]
      by_cases q : a ∈ l <;> simp [q]
    · unfold held at ih ⊢
      rw [List.filter_cons, List.filter_cons]
      have : (a ∈ l ++ [c]) ↔ a ∈ l := by simp [e]
      by_cases q : a ∈ l
      · rw [if_pos (decide_eq_true (this.mpr q)), if_pos (decide_eq_true q), List.length_cons, List.length_cons]
        omega
      · rw [if_neg (by simpa using fun z => q (this.mp z)), if_neg (by simpa using q)]
        exact ih
theorem none_fits (k : s.Ok) (h : lefts s ≠ []) (hn : ∀ x ∈ s.names, x ∈ o) : fits s o = false := by
  cases e : fits s o with
  | false => rfl
  | true =>
    exfalso
    obtain ⟨f1, f2⟩ := fits_iff.mp e
    obtain ⟨c, hc, mx⟩ := exists_max (f := o.idxOf) h
    have inj : ∀ x ∈ lefts s, x ≠ c → x ∈ o.take (o.idxOf c) := fun x hx ne => by
      refine take_of ?_
      have h1 := mx x hx
      have hxo := hn x (lefts_in x hx)
      have hco := hn c (lefts_in c hc)
      rcases Nat.lt_or_ge (o.idxOf x) (o.idxOf c) with z | z
      · exact z
      · exfalso
        have eq : o.idxOf x = o.idxOf c := by omega
        have l1 := List.idxOf_lt_length_of_mem hxo
        have l2 := List.idxOf_lt_length_of_mem hco
        have g1 := List.getElem_idxOf l1
        have g2 := List.getElem_idxOf l2
        apply ne
        rw [← g1, ← g2]
        simp only [eq]
    have sub : ∀ x ∈ lefts s, x ∈ o.take (o.idxOf c) ++ [c] := fun x hx => by
      by_cases z : x = c
      · rw [z]
        simp
      · exact List.mem_append_left _ (inj x hx z)
    have m := lefts_nf c hc
    have : may s (lefts s) c = true := by
      rw [may_iff]
      refine ⟨fun t ht => ?_, fun p hp => ?_⟩
      · unfold over
        by_cases q : t.c = c
        · rw [decide_eq_true q, Bool.true_and, decide_eq_false_iff_not]
          have a1 := f1 t ht
          rw [q] at a1
          have a2 := held_mono (hs := t.hs) sub
          have a3 := held_one (l := o.take (o.idxOf c)) (c := c) (hs_nd k ht)
          omega
        · rw [decide_eq_false q, Bool.false_and]
      · obtain ⟨p1, p2, ne⟩ := k.ti p hp
        unfold bound
        by_cases q : p.1 = c
        · rw [decide_eq_true q, Bool.true_and, decide_eq_false_iff_not]
          intro z
          have a1 := f2 p hp
          rw [q] at a1
          have a2 := inj p.2 z (fun w => ne (q.trans w.symm))
          have a3 : o.idxOf p.2 < o.idxOf c := by
            have w := mx p.2 z
            rcases Nat.lt_or_ge (o.idxOf p.2) (o.idxOf c) with y | y
            · exact y
            · exfalso
              have eq : o.idxOf p.2 = o.idxOf c := by omega
              rw [← eq] at a2
              exact not_take a2
          omega
        · rw [decide_eq_false q, Bool.false_and]
    rw [this] at m
    cases m
end
end K49
set_option Elab.async false
set_option linter.all false
set_option maxRecDepth 100000
namespace Dl
open PySem PySem.Spec PyProof.Rows L2
theorem x_neBB {a b : Bool} : gNe (.sh (.bl a)) (.sh (.bl b)) = .ok (.sh (.bl (a != b))) := by cases a <;> cases b <;> rfl
theorem x_ixfr {ts : List T} {ds : List D} {i : Nat} {d : D} (e : T.toDs ts = ds) (h : ds[i]? = some d) : gIx (.sh (.lst (T.toDs ts))) (.sh (.int (i : Int))) = .ok (.sh d) := by
  rw [e]
  exact x_ixL h
end Dl
namespace K49
open PySem PySem.Spec PyProof.Rows L2 Dl
section
variable {s : Sn} {left o lot : List Str} {c : Str} {t : Tk} {ρ : Dl.Env}
theorem strs_dep {ss : List Str} : D.deps (ss.map D.str) ≤ 0 := deps_map fun x _ => by
  show D.dep (.str x) ≤ 0
  simp [D.dep]
theorem pig : ∀ {r l : List Str}, r.Nodup → (∀ x ∈ r, x ∈ l) → l.length ≤ r.length → ∀ x ∈ l, x ∈ r
  | [], l, _, _, h => fun x hx => by
    obtain rfl : l = [] := List.length_eq_zero_iff.mp (by rw [List.length_nil] at h; omega)
    exact hx
  | a :: r, l, nd, hs, h => fun x hx => by
    obtain ⟨n1, n2⟩ := List.nodup_cons.mp nd
    have ha := hs a List.mem_cons_self
    by_cases e : x = a
    · rw [e]
      exact List.mem_cons_self
    · refine List.mem_cons_of_mem _ (pig (l := l.erase a) n2 (fun y hy => ?_) ?_ x ((List.mem_erase_of_ne e).mpr hx))
      · refine (List.mem_erase_of_ne ?_).mpr (hs y (List.mem_cons_of_mem _ hy))
        rintro rfl
        exact n1 hy
      · rw [List.length_erase_of_mem ha]
        rw [List.length_cons] at h
        omega
theorem sm_seq {ss : List Str} (h : ss.length ≤ 1000) (hs : ∀ s ∈ ss, PyData.strOk s = true) : sm (seqS true ss) = true := by
  have : (decide ((ss.map D.str).length ≤ 1000) && sms (ss.map D.str)) = true := by
    rw [sms_map (h := D.str) fun x hx => hs x hx, Bool.and_true, List.length_map]
    exact decide_eq_true h
  exact this
theorem same_seq {ss : List Str} (h : ss.length ≤ 1000) (hs : ∀ s ∈ ss, PyData.strOk s = true) : F_l_same 5 [seqS true ss, seqS true ss] = .ok (.sh (.bl true)) := by
  refine same_refl 5 _ (sm_seq h hs) ?_
  have e : (seqS true ss).dep = D.deps (ss.map D.str) + 1 := by simp [seqS, D.dep]
  have := strs_dep (ss := ss)
  omega
theorem same_ord {r : List Str × List Str} (h : r.2.length ≤ 1000) (hs : ∀ s ∈ r.2, PyData.strOk s = true) : F_l_same 5 [ordD r, ordD r] = .ok (.sh (.bl true)) := by
  unfold ordD
  by_cases e : r.1 = []
  · rw [if_pos e]
    exact same_seq h hs
  · rw [if_neg e]
    exact same_refl 5 .non rfl (by simp [D.dep])
theorem peel_len : ∀ (n : Nat) (l o : List Str), (peelN s n l o).1.length + (peelN s n l o).2.length ≤ l.length + o.length
  | 0, l, o => Nat.le_refl _
  | n + 1, l, o => by
    rw [peelN]
    cases e : lastFree s l with
    | none => exact Nat.le_refl _
    | some c =>
      have := drop_lt (lf_mem e).1
      have := peel_len n (dropS c l) (c :: o)
      rw [List.length_cons] at this
      show (peelN s n (dropS c l) (c :: o)).1.length + (peelN s n (dropS c l) (c :: o)).2.length ≤ _
      omega
theorem peelR_len (k : s.Ok) : (peelR s).1.length ≤ 12 ∧ (peelR s).2.length ≤ 12 := by
  have h1 := peel_len (s := s) s.names.length s.names []
  have h2 := k.nl
  rw [List.length_nil] at h1
  unfold peelR
  omega
def dueD (s : Sn) : D := .lst [ordD (peelR s), seqS true (lefts s)]
theorem fld_order {r : List Str × List Str} : fldK "Peel" "order" (.ok (.sh (plO r))) = .ok (.sh (ordD r)) := x_fld_ok rfl
theorem fld_left {r : List Str × List Str} : fldK "Peel" "left" (.ok (.sh (plO r))) = .ok (.sh (seqS true r.1)) := x_fld_ok rfl
theorem isN_ord {r : List Str × List Str} : nonK false (.ok (.sh (ordD r))) = .ok (.sh (.bl (decide (r.1 ≠ [])))) := by
  unfold ordD
  by_cases e : r.1 = []
  · rw [if_pos e, decide_eq_false (by simpa using e)]
    rfl
  · rw [if_neg e, decide_eq_true e]
    rfl
theorem notN_ord {r : List Str × List Str} : nonK true (.ok (.sh (ordD r))) = .ok (.sh (.bl (decide (r.1 = [])))) := by
  unfold ordD
  by_cases e : r.1 = []
  · rw [if_pos e, decide_eq_true e]
    rfl
  · rw [if_neg e, decide_eq_false e]
    rfl
def rC1 : Dl.Env → Res Bool := dOrT (dNotT (dT tTru (dCall 2 (F_l_same 5) [] (aCons (dFld "Peel" "order" (dVar 2)) (aCons (d2 gIx (dVar 3) (dC (.int 0))) aNil))))) (dNotT (dT tTru (dCall 2 (F_l_same 5) [] (aCons (dFld "Peel" "left" (dVar 2)) (aCons (d2 gIx (dVar 3) (dC (.int 1))) aNil)))))
def rC2 : Dl.Env → Res Bool := dOrT (dNotT (dT tTru (dC1 gIsi (aCons (dVar 4) (aCons (dC (.ty "bool")) aNil))))) (dT tBool (d2 gNe (dVar 4) (dIsN (dFld "Peel" "order" (dVar 2)))))
def rF : Stm := dRet (dC (.bl false))
def rE3 : Dl.Env → Res EV := dAnd (d2 gEq (dC1 gLen (aCons (dFld "Peel" "left" (dVar 2)) aNil)) (dC (.int 0))) (dCall 2 F_l_fits [] (aCons (dVar 1) (aCons (dFld "Peel" "order" (dVar 2)) aNil)))
def rL : Dl.Env → Res EV := dLc (iA (dCall 1 F_l_orders [] (aCons (d2 gIx (dVar 1) (dC (.int 0))) aNil))) (bName 5) (dT tTru (dCall 2 F_l_fits [] (aCons (dVar 1) (aCons (dVar 5) aNil)))) (dVar 5) [5]
theorem right_eq : g_l_right = dSeq (dSet 3 (dCall 1 F_l_peeled [] (aCons (dVar 1) aNil))) (dFrz 3 (dSeq (dIf rC1 rF dNext) (dSeq (dSet 4 (dCall 2 F_is_stuck [] (aCons (dVar 0) (aCons (dFld "Peel" "left" (dVar 2)) aNil)))) (dFrz 4 (dSeq (dIf rC2 rF dNext)
  (dSeq (dIf (dT tBool (dNotN (dFld "Peel" "order" (dVar 2)))) (dRet rE3) dNext) (dSeq (dIf (dNotT (dT tTru (dCall 2 F_l_stuck [] (aCons (dVar 1) (aCons (dFld "Peel" "left" (dVar 2)) aNil))))) rF dNext)
  (dSeq (dIf (dT tBool (d2 gGt (dC1 gLen (aCons (d2 gIx (dVar 1) (dC (.int 0))) aNil)) (dC (.int 6)))) (dRet (dC (.bl true))) dNext) (dRet (d2 gEq (dC1 gLen (aCons rL aNil)) (dC (.int 0)))))))))))) := rfl
theorem right_ok (k : s.Ok) : F_l_right [s.o, s.d, plO (peelR s)] = .ok (.sh (.bl true)) := by
  rw [F_l_right, x_run, right_eq]
  show runK (dSeq _ _ [.sh s.o, .sh s.d, .sh (plO (peelR s)), .no, .no, .no]) = _
  obtain ⟨l1, l2⟩ := peelR_len k
  have l3 : (lefts s).length ≤ 12 := l1
  have hls : ∀ n ∈ lefts s, PyData.strOk n = true := fun n hn => k.so n (lefts_in n hn)
  have hos : ∀ n ∈ (peelR s).2, PyData.strOk n = true := fun n hn => k.so n ((good_all (s := s)).2.1 n hn)
  have e1 : dCall 1 F_l_peeled [] (aCons (dVar 1) aNil) [.sh s.o, .sh s.d, .sh (plO (peelR s)), .no, .no, .no] = .ok (.fr [.leaf (ordD (peelR s)), .leaf (seqS true (peelR s).1)]) := by
    rw [x_call, x_cons, v_sh (d := s.d) rfl, x_nil, x_cons_ok, x_call_ok, callN_s, peeled_ok k]
  rw [st_fr (i := 3) (y := .no) e1 rfl rfl]
  show runK (dSeq _ _ [.sh s.o, .sh s.d, .sh (plO (peelR s)), .sh (dueD s), .no, .no]) = _
  have c1 : rC1 [.sh s.o, .sh s.d, .sh (plO (peelR s)), .sh (dueD s), .no, .no] = .ok false := by
    have a0 : d2 gIx (dVar 3) (dC (.int 0)) [.sh s.o, .sh s.d, .sh (plO (peelR s)), .sh (dueD s), .no, .no] = .ok (.sh (ordD (peelR s))) := by
      rw [x_d2, v_sh (d := dueD s) rfl, x_c, x_d2_ok]
      exact x_ixL (i := 0) rfl
    have a1 : d2 gIx (dVar 3) (dC (.int 1)) [.sh s.o, .sh s.d, .sh (plO (peelR s)), .sh (dueD s), .no, .no] = .ok (.sh (seqS true (peelR s).1)) := by
      rw [x_d2, v_sh (d := dueD s) rfl, x_c, x_d2_ok]
      exact x_ixL (i := 1) rfl
    rw [rC1, x_orT, x_notT, x_t, x_call, x_cons, x_cons, x_fld, v_sh (d := plO (peelR s)) rfl, fld_order, a0, x_nil, x_cons_ok, x_cons_ok, x_call_ok, callN_ss, same_ord (by omega) hos, x_t_ok, x_tTru, x_notT_ok]
    show orK _ _ (.ok false) = _
    rw [x_orT_f, x_notT, x_t, x_call, x_cons, x_cons, x_fld, v_sh (d := plO (peelR s)) rfl, fld_left, a1, x_nil, x_cons_ok, x_cons_ok, x_call_ok, callN_ss, same_seq (by omega) hls, x_t_ok, x_tTru, x_notT_ok]
    rfl
  have e2 : dCall 2 F_is_stuck [] (aCons (dVar 0) (aCons (dFld "Peel" "left" (dVar 2)) aNil)) [.sh s.o, .sh s.d, .sh (plO (peelR s)), .sh (dueD s), .no, .no] = .ok (.sh (.bl (decide (lefts s ≠ [])))) := by
    rw [x_call, x_cons, x_cons, v_sh (d := s.o) rfl, x_fld, v_sh (d := plO (peelR s)) rfl, fld_left, x_nil, x_cons_ok, x_cons_ok, x_call_ok, callN_ss, isk_ok k hls (by omega), lefts_stuck]
  rw [x_seq, x_if, c1, x_if_f, x_next, x_seq_nx, st_sh (i := 4) (y := .no) e2 rfl rfl]
  show runK (dSeq _ _ [.sh s.o, .sh s.d, .sh (plO (peelR s)), .sh (dueD s), .sh (.bl (decide (lefts s ≠ []))), .no]) = _
  generalize hρ : ([.sh s.o, .sh s.d, .sh (plO (peelR s)), .sh (dueD s), .sh (.bl (decide (lefts s ≠ []))), .no] : Dl.Env) = ρ
  have h0 : ρ[0]? = some (.sh s.o) := by rw [← hρ]; rfl
  have h1 : ρ[1]? = some (.sh s.d) := by rw [← hρ]; rfl
  have h2 : ρ[2]? = some (.sh (plO (peelR s))) := by rw [← hρ]; rfl
  have h4 : ρ[4]? = some (.sh (.bl (decide (lefts s ≠ [])))) := by rw [← hρ]; rfl
  have h5 : ρ[5]? = some .no := by rw [← hρ]; rfl
  have c2 : rC2 ρ = .ok false := by
    rw [rC2, x_orT, x_notT, x_t, x_c1, x_cons, x_cons, v_sh h4, x_c, x_nil, x_cons_ok, x_cons_ok, x_c1_ok, x_isi_bb, x_t_ok, x_tTru, x_notT_ok]
    show orK _ _ (.ok false) = _
    rw [x_orT_f, x_t, x_d2, v_sh h4, x_isN, x_fld, v_sh h2, fld_order, isN_ord, x_d2_ok, x_neBB, x_t_ok, x_tBool, bne_self_eq_false]
  have c3 : dT tBool (dNotN (dFld "Peel" "order" (dVar 2))) ρ = .ok (decide (lefts s = [])) := by
    rw [x_t, x_notN, x_fld, v_sh h2, fld_order, notN_ord, x_t_ok, x_tBool]
  rw [x_seq, x_if, c2, x_if_f, x_next, x_seq_nx, x_seq, x_if, c3]
  by_cases h : lefts s = []
  · have eo : ordD (peelR s) = seqS true (peelR s).2 := if_pos h
    have ho : ∀ n ∈ (peelR s).2, PyData.strOk n = true := fun n hn => k.so n ((good_all (s := s)).2.1 n hn)
    have e3 : rE3 ρ = .ok (.sh (.bl true)) := by
      rw [rE3, x_and, x_d2, x_c1, x_cons, x_fld, v_sh h2, fld_left, x_nil, x_cons_ok, x_c1_ok, len_seq, x_c, x_d2_ok, x_eqI, decide_eq_true (by rw [show (peelR s).1 = [] from h]; rfl), x_and_t, x_call, x_cons, x_cons, v_sh h1, x_fld, v_sh h2, fld_order, x_nil, x_cons_ok, x_cons_ok, x_call_ok, callN_ss, eo, fits_ok k (told_in h) ho, told_fits k h]
    rw [decide_eq_true h, x_if_t, x_ret, e3]
    rfl
  · have c4 : dNotT (dT tTru (dCall 2 F_l_stuck [] (aCons (dVar 1) (aCons (dFld "Peel" "left" (dVar 2)) aNil)))) ρ = .ok false := by
      rw [x_notT, x_t, x_call, x_cons, x_cons, v_sh h1, x_fld, v_sh h2, fld_left, x_nil, x_cons_ok, x_cons_ok, x_call_ok, callN_ss, lot_ok k hls, lefts_stuck, decide_eq_true h, x_t_ok, x_tTru, x_notT_ok]
      rfl
    have c5 : dT tBool (d2 gGt (dC1 gLen (aCons (d2 gIx (dVar 1) (dC (.int 0))) aNil)) (dC (.int 6))) ρ = .ok (decide (6 < (s.names.length : Int))) := by
      rw [x_t, x_d2, x_c1, x_cons, ix0 h1, x_nil, x_cons_ok, x_c1_ok, len_seq, x_c, x_d2_ok, x_gt, x_t_ok, x_tBool]
    rw [decide_eq_false h, x_if_f, x_next, x_seq_nx, x_seq, x_if, c4, x_if_f, x_next, x_seq_nx, x_seq, x_if, c5]
    by_cases h6 : 6 < (s.names.length : Int)
    · rw [decide_eq_true h6]
      rfl
    · rw [decide_eq_false h6, x_if_f, x_next, x_seq_nx]
      obtain ⟨rows, r1, r2, r3⟩ := orders_ok k.so (show s.names.length ≤ 6 by omega)
      have full : ∀ r ∈ rows, ∀ n ∈ s.names, n ∈ r := fun r hr n hn => by
        obtain ⟨q1, q2, q3⟩ := r1 r hr
        exact pig q2 q3 (by omega) n hn
      have el : rL ρ = .ok (.fr (((([] : List (List Str)).map (seqS true))).map T.leaf)) := by
        have i1 : iA (dCall 1 F_l_orders [] (aCons (d2 gIx (dVar 1) (dC (.int 0))) aNil)) ρ = .ok (rows.map (seqS true)) := by
          rw [x_iA, x_call, x_cons, ix0 h1, x_nil, x_cons_ok, x_call_ok, callN_s, r3, x_wK, x_walk_lst]
        rw [rL, x_lc, x_wipe1, i1, x_lc_of (p := fun r => fits s r) (k := seqS true) (by omega) fun r hr => ⟨_, bn h5, ?_, fun _ => v_sh (get_set h5)⟩]
        · rw [List.filter_eq_nil_iff.mpr fun r hr => by rw [none_fits k h (full r hr)]; simp]
        · have ro : ∀ n ∈ r, PyData.strOk n = true := fun n hn => k.so n ((r1 r hr).2.2 n hn)
          rw [x_t, x_call, x_cons, x_cons, v_sh (i := 1) (by rw [get_ne (by decide)]; exact h1), v_sh (get_set h5), x_nil, x_cons_ok, x_cons_ok, x_call_ok, callN_ss, fits_ok k (full r hr) ro, x_t_ok, x_tTru]
      rw [x_ret, x_d2, x_c1, x_cons, el, x_nil, x_cons_ok, x_c1_ok, x_len_fr, x_leaves, x_c, x_d2_ok, x_eqI]
      rfl
end
end K49
set_option Elab.async false
set_option linter.all false
set_option maxRecDepth 100000
namespace Dl
open PySem PySem.Spec PyProof.Rows L2
theorem cut_takeI {ss : List Int} {k : Nat} : cutL (ss.map D.int) none (some (k : Int)) = (ss.take k).map D.int := by
  have e1 : HT.sIx (ss.map D.int).length 0 none = 0 := by simp [HT.sIx]
  have e2 : HT.sIx (ss.map D.int).length (ss.map D.int).length (some (k : Int)) = min k (ss.map D.int).length := by simp [HT.sIx]; omega
  unfold cutL
  rw [e1, e2, List.drop_zero, Nat.sub_zero, ← List.take_eq_take_min, List.map_take]
theorem tup_own {ss : List Str} : gTuple [.bo ((ss.map D.str).map T.leaf)] = .ok (.sh (seqS true ss)) := by
  show (match leaves? ((ss.map D.str).map T.leaf) with | some ds => Res.ok (EV.sh (.tup ds)) | none => .stuck) = _
  rw [leavesQ_map]
  rfl
theorem tup_seq {k : Bool} {ss : List Str} : gTuple [.sh (seqS k ss)] = .ok (.sh (seqS true ss)) := by cases k <;> rfl
theorem ne_seq {k : Bool} {ss : List Str} (hs : ∀ s ∈ ss, PyData.strOk s = true) : gNe (.sh (seqS k ss)) (.sh (seqS k ss)) = .ok (.sh (.bl false)) := by
  refine x_ne_t rfl (seq_fine hs) ?_
  have := seq_dep (ss := ss)
  have e : (seqS k ss).dep = D.deps (ss.map D.str) + 1 := by cases k <;> simp [seqS, D.dep]
  omega
end Dl
namespace K49
open PySem PySem.Spec PyProof.Rows L2 Dl
section
variable {s : Sn} {left o lot : List Str} {c : Str} {t : Tk} {ρ : Dl.Env}
/-! ### any row of free cloaks -/
def lfB : Stm := dSeq (dSet 4 (dLend 2 (dLc (iA (dVar 2)) (bName 5) (dT tTru (dCall 3 F_l_free [] (aCons (dVar 0) (aCons (dVar 2) (aCons (dVar 5) aNil))))) (dVar 5) [5])))
  (dFrz 4 (dIf (dT tBool (d2 gGt (dC1 gLen (aCons (dVar 4) aNil)) (dC (.int 0))))
  (dRem 2 (d2 gIx (dVar 4) (d2 gMod (dC1 gInt (aCons (dVar 3) aNil)) (dC1 gLen (aCons (dVar 4) aNil)))))
  dNext))
theorem lfB_ok {a1 x4 : SV} {d : Int} (k : s.Ok) (hl : ∀ n ∈ left, PyData.strOk n = true) (nd : left.Nodup) (f4 : x4.free = true) (hn : left.length ≤ 1000) :
    ((∀ c ∈ left, may s left c = false) ∧ ∃ y4 : SV, y4.free = true ∧ lfB [.sh s.d, a1, .own ((left.map D.str).map T.leaf), .sh (.int d), x4, .no] = .ok (.nx [.sh s.d, a1, .own ((left.map D.str).map T.leaf), .sh (.int d), y4, .no])) ∨
    ∃ c ∈ left, may s left c = true ∧ ∃ y4 : SV, y4.free = true ∧ lfB [.sh s.d, a1, .own ((left.map D.str).map T.leaf), .sh (.int d), x4, .no] = .ok (.nx [.sh s.d, a1, .own (((dropS c left).map D.str).map T.leaf), .sh (.int d), y4, .no]) := by
  have e1 := frees_ok (ρ := [.sh s.d, a1, .own ((left.map D.str).map T.leaf), .sh (.int d), x4, .no]) (i := 2) (v := 5) (w := 0) (it := iA (dVar 1)) k hl hn rfl rfl rfl (by decide) (by decide) (by decide)
  have hf : ∀ c ∈ left.filter (may s left), c ∈ left ∧ may s left c = true := fun c hc => List.mem_filter.mp hc
  have h0 : left.filter (may s left) = [] → ∀ c ∈ left, may s left c = false := fun z c hc => by
    have := (List.filter_eq_nil_iff.mp z) c hc
    simpa using this
  have hfl : (left.filter (may s left)).length ≤ 1000 := Nat.le_trans (List.length_filter_le _ _) hn
  rw [lfB, st_fr (i := 4) (y := x4) e1 rfl f4, x_leaves]
  generalize left.filter (may s left) = fs at hf h0 hfl ⊢
  show (_ ∧ ∃ y4 : SV, _ ∧ dIf _ _ _ [.sh s.d, a1, .own ((left.map D.str).map T.leaf), .sh (.int d), .sh (seqS false fs), .no] = _) ∨ ∃ c ∈ left, _ ∧ ∃ y4 : SV, _ ∧ dIf _ _ _ [.sh s.d, a1, .own ((left.map D.str).map T.leaf), .sh (.int d), .sh (seqS false fs), .no] = _
  rw [x_if, x_t, x_d2, x_len0 (ss := fs) (k := false) rfl, x_c, x_d2_ok, x_gt, x_t_ok, x_tBool]
  by_cases e : fs = []
  · refine .inl ⟨h0 e, .sh (seqS false fs), rfl, ?_⟩
    rw [e]
    rfl
  · have hp : 0 < fs.length := List.length_pos_iff.mpr e
    have b1 : 0 ≤ d % (fs.length : Int) := Int.emod_nonneg _ (by omega)
    have b2 : d % (fs.length : Int) < fs.length := Int.emod_lt_of_pos _ (by omega)
    obtain ⟨j, hj⟩ : ∃ j : Nat, d % (fs.length : Int) = j := ⟨(d % (fs.length : Int)).toNat, by omega⟩
    have hjl : j < fs.length := by omega
    have ei : d2 gIx (dVar 4) (d2 gMod (dC1 gInt (aCons (dVar 3) aNil)) (dC1 gLen (aCons (dVar 4) aNil))) [.sh s.d, a1, .own ((left.map D.str).map T.leaf), .sh (.int d), .sh (seqS false fs), .no] = .ok (.sh (.str fs[j])) := by
      rw [x_d2, v_sh (d := seqS false fs) rfl, x_d2, x_c1, x_cons, v_sh (i := 3) (d := .int d) rfl, x_nil, x_cons_ok, x_c1_ok, x_int1, x_len0 (ss := fs) (k := false) rfl, x_d2_ok, x_mod (by omega), hj, x_d2_ok]
      exact x_ixL (by rw [List.getElem?_map, List.getElem?_eq_getElem hjl]; rfl)
    obtain ⟨hc, hm⟩ := hf fs[j] (List.getElem_mem hjl)
    refine .inr ⟨fs[j], hc, hm, .sh (seqS false fs), rfl, ?_⟩
    rw [decide_eq_true (show 0 < (fs.length : Int) by omega), x_if_t, x_rem (ss := left) rfl ei hc hl, drop_erase nd]
    rfl
theorem left_eq : g_l_left = dSeq (dSet 2 (dC1 gList (aCons (d2 gIx (dVar 0) (dC (.int 0))) aNil))) (dSeq (dFor (iA (dSl (dVar 1) none (some (dC1 gLen (aCons (d2 gIx (dVar 0) (dC (.int 0))) aNil))))) (bName 3) lfB) (dFrz 4 (dRet (dC1 gTuple (aCons (dVar 2) aNil))))) := rfl
theorem left_ok {row : List Int} (k : s.Ok) (hr : s.names.length ≤ row.length) : F_l_left [s.d, .lst (row.map D.int)] = .ok (.sh (seqS true (lefts s))) := by
  have nl := k.nl
  rw [F_l_left, x_run, left_eq]
  show runK (dSeq _ _ [.sh s.d, .sh (.lst (row.map D.int)), .no, .no, .no, .no]) = _
  have e1 : dC1 gList (aCons (d2 gIx (dVar 0) (dC (.int 0))) aNil) [.sh s.d, .sh (.lst (row.map D.int)), .no, .no, .no, .no] = .ok (.fr ((s.names.map D.str).map T.leaf)) := by
    rw [x_c1, x_cons, ix0 (s := s) rfl, x_nil, x_cons_ok, x_c1_ok, list_seq]
  rw [st_fr0 (i := 2) (y := .no) e1 rfl rfl]
  show runK (dSeq _ _ [.sh s.d, .sh (.lst (row.map D.int)), .own ((s.names.map D.str).map T.leaf), .no, .no, .no]) = _
  have i1 : iA (dSl (dVar 1) none (some (dC1 gLen (aCons (d2 gIx (dVar 0) (dC (.int 0))) aNil)))) [.sh s.d, .sh (.lst (row.map D.int)), .own ((s.names.map D.str).map T.leaf), .no, .no, .no] = .ok ((row.take s.names.length).map D.int) := by
    rw [x_iA, x_sl, v_sh (d := .lst (row.map D.int)) rfl, x_sl_hi (k := (s.names.length : Nat)) (by rw [x_c1, x_cons, ix0 (s := s) rfl, x_nil, x_cons_ok, x_c1_ok, len_seq]), x_sl_lst, cut_takeI, x_wK, x_walk_fr, x_leaves]
  obtain ⟨_, ⟨l, x3, x4, p, hp, h1, h2, f3, f4, rfl⟩, e⟩ := forD_idx (b := bName 3) (g := lfB) (c := D.int) (xs := row.take s.names.length)
    (P := fun j ρ => ∃ (l : List Str) (x3 x4 : SV) (p : Str → Bool), l = s.names.filter p ∧ (∀ x ∈ lefts s, x ∈ l) ∧ (l.length + j ≤ s.names.length ∨ ∀ c ∈ l, may s l c = false) ∧ x3.free = true ∧ x4.free = true ∧ ρ = [.sh s.d, .sh (.lst (row.map D.int)), .own ((l.map D.str).map T.leaf), x3, x4, .no]) (by
      rintro j d hj ρ ⟨l, x3, x4, p, hp, h1, h2, f3, f4, rfl⟩
      have hin : ∀ x ∈ l, x ∈ s.names := fun x hx => by
        rw [hp] at hx
        exact (List.mem_filter.mp hx).1
      have ll : l.length ≤ s.names.length := by
        rw [hp]
        exact List.length_filter_le _ _
      have nd : l.Nodup := by
        rw [hp]
        exact k.nd.filter _
      have b : bName 3 (.int d) [.sh s.d, .sh (.lst (row.map D.int)), .own ((l.map D.str).map T.leaf), x3, x4, .no] = some [.sh s.d, .sh (.lst (row.map D.int)), .own ((l.map D.str).map T.leaf), .sh (.int d), x4, .no] := by
        simp only [bName, putR, List.getElem?_cons_succ, List.getElem?_cons_zero, f3, if_true, List.set_cons_succ, List.set_cons_zero]
      rcases lfB_ok (a1 := .sh (.lst (row.map D.int))) (x4 := x4) (d := d) k (fun n hn => k.so n (hin n hn)) nd f4 (by omega) with ⟨w1, y4, g4, w2⟩ | ⟨c, hc, hm, y4, g4, w2⟩
      · exact ⟨_, _, b, w2, l, _, y4, p, hp, h1, .inr w1, rfl, g4, rfl⟩
      · refine ⟨_, _, b, w2, dropS c l, _, y4, fun x => !decide (x = c) && p x, ?_, ?_, ?_, rfl, g4, rfl⟩
        · rw [hp]
          unfold dropS
          rw [List.filter_filter]
        · intro x hx
          refine drop_sub.mpr ⟨h1 x hx, ?_⟩
          rintro rfl
          have := lefts_nf x hx
          rw [may_anti h1 hm] at this
          cases this
        · have := drop_len nd hc
          rcases h2 with z | z
          · exact .inl (by omega)
          · rw [z c hc] at hm
            cases hm) _ ⟨s.names, .no, .no, fun _ => true, filter_yes.symm, lefts_in, .inl (by omega), rfl, rfl, rfl⟩
  have hlen : (row.take s.names.length).length = s.names.length := by rw [List.length_take]; omega
  rw [hlen] at h2
  have hend : ∀ c ∈ l, may s l c = false := by
    rcases h2 with z | z
    · obtain rfl : l = [] := List.length_eq_zero_iff.mp (by omega)
      exact fun c hc => by cases hc
    · exact z
  have el := lefts_any ⟨p, hp⟩ hend h1
  obtain ⟨y4, _, e4⟩ := x_frz_any (i := 4) (g := dRet (dC1 gTuple (aCons (dVar 2) aNil))) (ρ := [.sh s.d, .sh (.lst (row.map D.int)), .own ((l.map D.str).map T.leaf), x3, x4, .no]) rfl f4
  rw [x_seq, x_for, i1, x_for_ok, e, x_seq_nx, e4]
  show runK (dRet _ [.sh s.d, .sh (.lst (row.map D.int)), .own ((l.map D.str).map T.leaf), x3, y4, .no]) = _
  rw [x_ret, x_c1, x_cons, v_own (i := 2) (ts := (l.map D.str).map T.leaf) rfl, x_nil, x_cons_ok, x_c1_ok, tup_own, el]
  rfl
/-! ### judged -/
def jC : Dl.Env → Res Bool := dOrT (dNotT (dT tTru (dC1 gIsi (aCons (dVar 8) (aCons (dC (.ty "bool")) aNil))))) (dOrT (dT tBool (d2 gNe (dVar 8) (dCall 2 F_l_stuck [] (aCons (dVar 1) (aCons (dVar 6) aNil))))) (dT tBool (d2 gNe (dC1 gTuple (aCons (dVar 7) aNil)) (dVar 6))))
def jF : Stm := dRet (dLst (aCons (dC (.bl false)) (aCons (dC (.bl false)) aNil)))
def jE : Dl.Env → Res EV := dLc (iA (dVar 6)) (bName 9) (dT tBool (d2 gNotIn (dVar 9) (dVar 3))) (dVar 9) [9]
def jB : Stm := dSeq (dSet 7 (dVar 6)) (dSeq (dIf (dT tTru (dVar 4)) (dSet 7 (dC1 gList (aCons (dVar 6) aNil))) dNext) (dFrz 7 (dSeq (dSet 8 (dCall 2 F_is_stuck [] (aCons (dVar 0) (aCons (dVar 7) aNil)))) (dFrz 8 (dSeq (dIf jC jF dNext)
  (dIf (dT tTru (dVar 8)) (dSeq (dSet 5 (dC (.bl true))) (dIf (dT tBool (d2 gGt (dC1 gLen (aCons jE aNil)) (dC (.int 0)))) jF dNext)) dNext))))))
/-- a lot that may be asked -/
def LotOk (s : Sn) (lot : List Str) : Prop := (∀ x ∈ lot, x ∈ s.names) ∧ lot.length ≤ 1000
theorem jB_ok {a2 x7 x8 : SV} {b h : Bool} (k : s.Ok) (hl : LotOk s lot) (f7 : x7.free = true) (f8 : x8.free = true) :
    ∃ y7 y8 : SV, y7.free = true ∧ y8.free = true ∧ jB [.sh s.o, .sh s.d, a2, .sh (seqS true (lefts s)), .sh (.bl b), .sh (.bl h), .sh (seqS true lot), x7, x8, .no] = .ok (.nx [.sh s.o, .sh s.d, a2, .sh (seqS true (lefts s)), .sh (.bl b), .sh (.bl (h || stuck s lot)), .sh (seqS true lot), y7, y8, .no]) := by
  have hs : ∀ n ∈ lot, PyData.strOk n = true := fun n hn => k.so n (hl.1 n hn)
  have hls : ∀ n ∈ lefts s, PyData.strOk n = true := fun n hn => k.so n (lefts_in n hn)
  rw [jB, st_sh0 (i := 7) (y := x7) (v_sh (d := seqS true lot) rfl) rfl f7]
  have step : ∃ k', dIf (dT tTru (dVar 4)) (dSet 7 (dC1 gList (aCons (dVar 6) aNil))) dNext [.sh s.o, .sh s.d, a2, .sh (seqS true (lefts s)), .sh (.bl b), .sh (.bl h), .sh (seqS true lot), .sh (seqS true lot), x8, .no] = .ok (.nx [.sh s.o, .sh s.d, a2, .sh (seqS true (lefts s)), .sh (.bl b), .sh (.bl h), .sh (seqS true lot), k', x8, .no]) ∧ (k' = .sh (seqS true lot) ∨ k' = .own ((lot.map D.str).map T.leaf)) := by
    cases b
    · exact ⟨_, rfl, .inl rfl⟩
    · exact ⟨_, rfl, .inr rfl⟩
  obtain ⟨k', e1, hk⟩ := step
  have e2 : ∃ b', ∀ g, dFrz 7 g [.sh s.o, .sh s.d, a2, .sh (seqS true (lefts s)), .sh (.bl b), .sh (.bl h), .sh (seqS true lot), k', x8, .no] = g [.sh s.o, .sh s.d, a2, .sh (seqS true (lefts s)), .sh (.bl b), .sh (.bl h), .sh (seqS true lot), .sh (seqS b' lot), x8, .no] := by
    rcases hk with rfl | rfl
    · exact ⟨true, fun g => rfl⟩
    · refine ⟨false, fun g => ?_⟩
      rw [x_frz]
      show frzK 7 g _ (some (.own ((lot.map D.str).map T.leaf))) = _
      rw [x_frz_own, x_leaves]
      rfl
  obtain ⟨b', e2⟩ := e2
  show ∃ y7 y8 : SV, _ ∧ _ ∧ dSeq _ _ [.sh s.o, .sh s.d, a2, .sh (seqS true (lefts s)), .sh (.bl b), .sh (.bl h), .sh (seqS true lot), .sh (seqS true lot), x8, .no] = _
  have e3 : dCall 2 F_is_stuck [] (aCons (dVar 0) (aCons (dVar 7) aNil)) [.sh s.o, .sh s.d, a2, .sh (seqS true (lefts s)), .sh (.bl b), .sh (.bl h), .sh (seqS true lot), .sh (seqS b' lot), x8, .no] = .ok (.sh (.bl (stuck s lot))) := by
    rw [x_call, x_cons, x_cons, v_sh (d := s.o) rfl, v_sh (d := seqS b' lot) rfl, x_nil, x_cons_ok, x_cons_ok, x_call_ok, callN_ss, isk_ok k hs hl.2]
  rw [x_seq, e1, x_seq_nx, e2, st_sh (i := 8) (y := x8) e3 rfl f8]
  show ∃ y7 y8 : SV, _ ∧ _ ∧ dSeq _ _ [.sh s.o, .sh s.d, a2, .sh (seqS true (lefts s)), .sh (.bl b), .sh (.bl h), .sh (seqS true lot), .sh (seqS b' lot), .sh (.bl (stuck s lot)), .no] = _
  have c1 : jC [.sh s.o, .sh s.d, a2, .sh (seqS true (lefts s)), .sh (.bl b), .sh (.bl h), .sh (seqS true lot), .sh (seqS b' lot), .sh (.bl (stuck s lot)), .no] = .ok false := by
    rw [jC, x_orT, x_notT, x_t, x_c1, x_cons, x_cons, v_sh (i := 8) (d := .bl (stuck s lot)) rfl, x_c, x_nil, x_cons_ok, x_cons_ok, x_c1_ok, x_isi_bb, x_t_ok, x_tTru, x_notT_ok]
    show orK _ _ (.ok false) = _
    rw [x_orT_f, x_orT, x_t, x_d2, v_sh (i := 8) (d := .bl (stuck s lot)) rfl, x_call, x_cons, x_cons, v_sh (i := 1) (d := s.d) rfl, v_sh (i := 6) (d := seqS true lot) rfl, x_nil, x_cons_ok, x_cons_ok, x_call_ok, callN_ss, lot_ok k hs, x_d2_ok, x_neBB, bne_self_eq_false, x_t_ok, x_tBool, x_orT_f, x_t, x_d2, x_c1, x_cons, v_sh (i := 7) (d := seqS b' lot) rfl, x_nil, x_cons_ok, x_c1_ok, tup_seq, v_sh (i := 6) (d := seqS true lot) rfl, x_d2_ok, ne_seq hs, x_t_ok, x_tBool]
  rw [x_seq, x_if, c1, x_if_f, x_next, x_seq_nx, x_if, x_t, v_sh (i := 8) (d := .bl (stuck s lot)) rfl, x_t_ok, x_tTru]
  cases e : stuck s lot with
  | false =>
    rw [Bool.or_false]
    exact ⟨_, _, rfl, rfl, rfl⟩
  | true =>
    rw [Bool.or_true, x_if_t, st_sh0 (i := 5) (y := .sh (.bl h)) (d := .bl true) x_c rfl rfl]
    refine ⟨.sh (seqS b' lot), .sh (.bl true), rfl, rfl, ?_⟩
    show dIf _ _ _ [.sh s.o, .sh s.d, a2, .sh (seqS true (lefts s)), .sh (.bl b), .sh (.bl true), .sh (seqS true lot), .sh (seqS b' lot), .sh (.bl true), .no] = _
    have ej : jE [.sh s.o, .sh s.d, a2, .sh (seqS true (lefts s)), .sh (.bl b), .sh (.bl true), .sh (seqS true lot), .sh (seqS b' lot), .sh (.bl true), .no] = .ok (.fr []) := by
      have i1 : iA (dVar 6) [.sh s.o, .sh s.d, a2, .sh (seqS true (lefts s)), .sh (.bl b), .sh (.bl true), .sh (seqS true lot), .sh (seqS b' lot), .sh (.bl true), .no] = .ok (lot.map D.str) := by rw [x_iA, v_sh (i := 6) (d := seqS true lot) rfl, x_wK, walk_seq]
      have hl2 := hl.2
      rw [jE, x_lc, x_wipe1, i1, x_lc_of (p := fun _ => false) (k := D.str) (by omega) fun x hx => ⟨[.sh s.o, .sh s.d, a2, .sh (seqS true (lefts s)), .sh (.bl b), .sh (.bl true), .sh (seqS true lot), .sh (seqS b' lot), .sh (.bl true), .sh (.str x)], rfl, ?_, fun z => by cases z⟩]
      · rw [List.filter_eq_nil_iff.mpr (fun _ _ => by simp)]
        rfl
      · rw [x_t, x_d2, v_sh (i := 9) (d := .str x) rfl, v_sh (i := 3) (d := seqS true (lefts s)) rfl, x_d2_ok, nin_seq (hs x hx) hls, decide_eq_true (stuck_in e hl.1 x hx), x_t_ok, x_tBool]
        rfl
    rw [x_if, x_t, x_d2, x_c1, x_cons, ej]
    rfl
theorem judged_eq : g_l_judged = dSeq (dSet 5 (dC (.bl false))) (dSeq (dFor (iA (dVar 2)) (bName 6) jB) (dFrz 7 (dFrz 8 (dRet (dLst (aCons (dC (.bl true)) (aCons (dVar 5) aNil))))))) := rfl
theorem judged_ok {lots : List (List Str)} {b : Bool} (k : s.Ok) (hl : ∀ l ∈ lots, LotOk s l) : F_l_judged [s.o, s.d, .lst (lots.map (seqS true)), seqS true (lefts s), .bl b] = .ok (.fr [.leaf (.bl true), .leaf (.bl (lots.any (stuck s)))]) := by
  rw [F_l_judged, x_run, judged_eq]
  show runK (dSeq _ _ [.sh s.o, .sh s.d, .sh (.lst (lots.map (seqS true))), .sh (seqS true (lefts s)), .sh (.bl b), .no, .no, .no, .no, .no]) = _
  rw [st_sh0 (i := 5) (y := .no) (d := .bl false) x_c rfl rfl]
  show runK (dSeq _ _ [.sh s.o, .sh s.d, .sh (.lst (lots.map (seqS true))), .sh (seqS true (lefts s)), .sh (.bl b), .sh (.bl false), .no, .no, .no, .no]) = _
  obtain ⟨_, ⟨x6, x7, x8, f6, f7, f8, rfl⟩, e⟩ := forD_fold (b := bName 6) (g := jB) (c := seqS true) (st := fun h l => h || stuck s l) (xs := lots)
    (P := fun h ρ => ∃ x6 x7 x8 : SV, x6.free = true ∧ x7.free = true ∧ x8.free = true ∧ ρ = [.sh s.o, .sh s.d, .sh (.lst (lots.map (seqS true))), .sh (seqS true (lefts s)), .sh (.bl b), .sh (.bl h), x6, x7, x8, .no]) (by
      rintro l hm h ρ ⟨x6, x7, x8, f6, f7, f8, rfl⟩
      obtain ⟨y7, y8, g7, g8, e⟩ := jB_ok (a2 := .sh (.lst (lots.map (seqS true)))) (b := b) (h := h) k (hl l hm) f7 f8
      exact ⟨[.sh s.o, .sh s.d, .sh (.lst (lots.map (seqS true))), .sh (seqS true (lefts s)), .sh (.bl b), .sh (.bl h), .sh (seqS true l), x7, x8, .no], _, by simp only [bName, putR, List.getElem?_cons_succ, List.getElem?_cons_zero, f6, if_true, List.set_cons_succ, List.set_cons_zero], e, _, y7, y8, rfl, g7, g8, rfl⟩) false _ ⟨.no, .no, .no, rfl, rfl, rfl, rfl⟩
  have i1 : iA (dVar 2) [.sh s.o, .sh s.d, .sh (.lst (lots.map (seqS true))), .sh (seqS true (lefts s)), .sh (.bl b), .sh (.bl false), .no, .no, .no, .no] = .ok (lots.map (seqS true)) := by rw [x_iA, v_sh (i := 2) (d := .lst (lots.map (seqS true))) rfl, x_wK, x_walk_lst]
  rw [x_seq, x_for, i1, x_for_ok, e, x_seq_nx, foldl_or, Bool.false_or]
  obtain ⟨y7, g7, e7⟩ := x_frz_any (i := 7) (g := dFrz 8 (dRet (dLst (aCons (dC (.bl true)) (aCons (dVar 5) aNil))))) (ρ := [.sh s.o, .sh s.d, .sh (.lst (lots.map (seqS true))), .sh (seqS true (lefts s)), .sh (.bl b), .sh (.bl (lots.any (stuck s))), x6, x7, x8, .no]) rfl f7
  rw [e7]
  obtain ⟨y8, g8, e8⟩ := x_frz_any (i := 8) (g := dRet (dLst (aCons (dC (.bl true)) (aCons (dVar 5) aNil)))) (ρ := [.sh s.o, .sh s.d, .sh (.lst (lots.map (seqS true))), .sh (seqS true (lefts s)), .sh (.bl b), .sh (.bl (lots.any (stuck s))), x6, y7, x8, .no]) rfl f8
  show runK (dFrz 8 _ [.sh s.o, .sh s.d, .sh (.lst (lots.map (seqS true))), .sh (seqS true (lefts s)), .sh (.bl b), .sh (.bl (lots.any (stuck s))), x6, y7, x8, .no]) = _
  rw [e8]
  rfl
/-! ### asked -/
def aC : Dl.Env → Res Bool := dOrT (dNotT (dT tTru (d2 gIx (dVar 5) (dC (.int 0))))) (dAndT (dT tTru (d2 gIx (dVar 5) (dC (.int 1)))) (dT tBool (dNotN (dFld "Peel" "order" (dVar 4)))))
theorem asked_eq : g_l_asked = dSeq (dSet 4 (dCall 1 F_peel [] (aCons (dVar 0) aNil))) (dFrz 4 (dSeq (dIf (dNotT (dT tTru (dCall 3 F_l_right [] (aCons (dVar 0) (aCons (dVar 1) (aCons (dVar 4) aNil)))))) (dRet (dC .non)) dNext)
  (dSeq (dSet 5 (dCall 5 F_l_judged [] (aCons (dVar 0) (aCons (dVar 1) (aCons (dVar 2) (aCons (dFld "Peel" "left" (dVar 4)) (aCons (dVar 3) aNil))))))) (dFrz 5 (dSeq (dIf aC (dRet (dC .non)) dNext) (dRetV 4)))))) := rfl
theorem any_left {lots : List (List Str)} (hl : ∀ l ∈ lots, LotOk s l) (h : lots.any (stuck s) = true) : lefts s ≠ [] := by
  obtain ⟨l, h1, h2⟩ := List.any_eq_true.mp h
  intro z
  have h3 := stuck_in h2 (hl l h1).1
  rw [z] at h3
  obtain ⟨x, hx⟩ := List.exists_mem_of_ne_nil _ (stuck_iff.mp h2).1
  cases h3 x hx
theorem asked_ok {lots : List (List Str)} {b : Bool} (k : s.Ok) (hl : ∀ l ∈ lots, LotOk s l) : F_l_asked [s.o, s.d, .lst (lots.map (seqS true)), .bl b] = .ok (.sh (plO (peelR s))) := by
  rw [F_l_asked, x_run, asked_eq]
  show runK (dSeq _ _ [.sh s.o, .sh s.d, .sh (.lst (lots.map (seqS true))), .sh (.bl b), .no, .no]) = _
  have e1 : dCall 1 F_peel [] (aCons (dVar 0) aNil) [.sh s.o, .sh s.d, .sh (.lst (lots.map (seqS true))), .sh (.bl b), .no, .no] = .ok (.sh (plO (peelR s))) := by
    rw [x_call, x_cons, v_sh (d := s.o) rfl, x_nil, x_cons_ok, x_call_ok, callN_s, peel_ok k]
  rw [st_sh (i := 4) (y := .no) e1 rfl rfl]
  show runK (dSeq _ _ [.sh s.o, .sh s.d, .sh (.lst (lots.map (seqS true))), .sh (.bl b), .sh (plO (peelR s)), .no]) = _
  have c1 : dNotT (dT tTru (dCall 3 F_l_right [] (aCons (dVar 0) (aCons (dVar 1) (aCons (dVar 4) aNil))))) [.sh s.o, .sh s.d, .sh (.lst (lots.map (seqS true))), .sh (.bl b), .sh (plO (peelR s)), .no] = .ok false := by
    rw [x_notT, x_t, x_call, x_cons, x_cons, x_cons, v_sh (i := 0) (d := s.o) rfl, v_sh (i := 1) (d := s.d) rfl, v_sh (i := 4) (d := plO (peelR s)) rfl, x_nil, x_cons_ok, x_cons_ok, x_cons_ok, x_call_ok, callN_sss, right_ok k, x_t_ok, x_tTru, x_notT_ok]
    rfl
  have e2 : dCall 5 F_l_judged [] (aCons (dVar 0) (aCons (dVar 1) (aCons (dVar 2) (aCons (dFld "Peel" "left" (dVar 4)) (aCons (dVar 3) aNil))))) [.sh s.o, .sh s.d, .sh (.lst (lots.map (seqS true))), .sh (.bl b), .sh (plO (peelR s)), .no] = .ok (.fr [.leaf (.bl true), .leaf (.bl (lots.any (stuck s)))]) := by
    rw [x_call, x_cons, x_cons, x_cons, x_cons, x_cons, v_sh (i := 0) (d := s.o) rfl, v_sh (i := 1) (d := s.d) rfl, v_sh (i := 2) (d := .lst (lots.map (seqS true))) rfl, v_sh (i := 3) (d := .bl b) rfl, x_fld, v_sh (i := 4) (d := plO (peelR s)) rfl, fld_left, x_nil, x_cons_ok, x_cons_ok, x_cons_ok, x_cons_ok, x_cons_ok, x_call_ok, callN_sssss, judged_ok k hl]
  rw [x_seq, x_if, c1, x_if_f, x_next, x_seq_nx, st_fr (i := 5) (y := .no) e2 rfl rfl]
  show runK (dSeq _ _ [.sh s.o, .sh s.d, .sh (.lst (lots.map (seqS true))), .sh (.bl b), .sh (plO (peelR s)), .sh (.lst [.bl true, .bl (lots.any (stuck s))])]) = _
  have c2 : aC [.sh s.o, .sh s.d, .sh (.lst (lots.map (seqS true))), .sh (.bl b), .sh (plO (peelR s)), .sh (.lst [.bl true, .bl (lots.any (stuck s))])] = .ok false := by
    have a0 : d2 gIx (dVar 5) (dC (.int 0)) [.sh s.o, .sh s.d, .sh (.lst (lots.map (seqS true))), .sh (.bl b), .sh (plO (peelR s)), .sh (.lst [.bl true, .bl (lots.any (stuck s))])] = .ok (.sh (.bl true)) := by
      rw [x_d2, v_sh (d := .lst [.bl true, .bl (lots.any (stuck s))]) rfl, x_c, x_d2_ok]
      exact x_ixL (i := 0) rfl
    have a1 : d2 gIx (dVar 5) (dC (.int 1)) [.sh s.o, .sh s.d, .sh (.lst (lots.map (seqS true))), .sh (.bl b), .sh (plO (peelR s)), .sh (.lst [.bl true, .bl (lots.any (stuck s))])] = .ok (.sh (.bl (lots.any (stuck s)))) := by
      rw [x_d2, v_sh (d := .lst [.bl true, .bl (lots.any (stuck s))]) rfl, x_c, x_d2_ok]
      exact x_ixL (i := 1) rfl
    rw [aC, x_orT, x_notT, x_t, a0, x_t_ok, x_tTru, x_notT_ok]
    show orK _ _ (.ok false) = _
    rw [x_orT_f, x_andT, x_t, a1, x_t_ok, x_tTru]
    cases e : lots.any (stuck s) with
    | false => rfl
    | true =>
      rw [x_andT_t, x_t, x_notN, x_fld, v_sh (d := plO (peelR s)) rfl, fld_order, notN_ord, decide_eq_false (any_left hl e), x_t_ok, x_tBool]
  rw [x_seq, x_if, c2]
  rfl
end
end K49
set_option Elab.async false
set_option linter.all false
set_option maxRecDepth 100000
namespace Dl
open PySem PySem.Spec PyProof.Rows L2
theorem x_appPop {ρ : Dl.Env} {i j m : Nat} {f : Dl.Env → Res EV} {ds es : List D} {d : D} (hij : i ≠ j) (hi : ρ[i]? = some (.own (ds.map T.leaf))) (hj : ρ[j]? = some (.own (es.map T.leaf))) (hf : f ρ = .ok (.sh (.int (m : Int)))) (hm : es[m]? = some d) (h1 : ds.length < 16777216) (h2 : es.length ≤ 16777216) :
    dAppPop i j f ρ = .ok (.nx ((ρ.set j (.own ((es.eraseIdx m).map T.leaf))).set i (.own ((ds ++ [d]).map T.leaf)))) := by
  have hl := (List.getElem?_eq_some_iff.mp hm).1
  have e : ixN es.length (m : Int) = some m := by
    unfold ixN
    rw [if_pos (by omega), if_pos (by omega), Int.toNat_natCast]
  unfold dAppPop
  rw [if_neg hij, hi, hj]
  show (match leaves? (ds.map T.leaf), leaves? (es.map T.leaf) with | some ds, some es => _ | _, _ => _) = _
  rw [leavesQ_map, leavesQ_map]
  show (f ρ).at ρ _ = _
  rw [hf]
  show (match ixN es.length (m : Int) with | some m => _ | none => _) = _
  rw [e]
  show (match es[m]? with | some d => _ | none => _) = _
  rw [hm]
  exact if_pos ⟨h1, h2⟩
theorem x_len_own {ds : List D} {ρ : Dl.Env} {i : Nat} (h : ρ[i]? = some (.own (ds.map T.leaf))) : dC1 gLen (aCons (dVar i) aNil) ρ = .ok (.sh (.int (ds.length : Nat))) := by
  rw [x_c1, x_cons, v_own h, x_nil, x_cons_ok, x_c1_ok, x_len_bo, x_leaves]
theorem x_len_sh {ds : List D} {ρ : Dl.Env} {i : Nat} (h : ρ[i]? = some (.sh (.lst ds))) : dC1 gLen (aCons (dVar i) aNil) ρ = .ok (.sh (.int (ds.length : Nat))) := by
  rw [x_c1, x_cons, v_sh h, x_nil, x_cons_ok, x_c1_ok, x_len_lst]
theorem x_ixv {ρ : Dl.Env} {i k : Nat} {j : Nat} {ds : List D} {d : D} (hi : ρ[i]? = some (.sh (.lst ds))) (hk : ρ[k]? = some (.sh (.int (j : Int)))) (hd : ds[j]? = some d) : d2 gIx (dVar i) (dVar k) ρ = .ok (.sh d) := by
  rw [x_d2, v_sh hi, v_sh hk, x_d2_ok]
  exact x_ixL hd
theorem x_modv {ρ : Dl.Env} {f g : Dl.Env → Res EV} {a n : Int} (hf : f ρ = .ok (.sh (.int a))) (hg : g ρ = .ok (.sh (.int n))) (hn : 0 < n) : d2 gMod (dC1 gInt (aCons f aNil)) g ρ = .ok (.sh (.int (a % n))) := by
  rw [x_d2, x_c1, x_cons, hf, x_nil, x_cons_ok, x_c1_ok, x_int1, hg, x_d2_ok, x_mod hn]
theorem modN {a : Int} {n : Nat} (h : 0 < n) : ∃ j : Nat, j < n ∧ a % (n : Int) = (j : Int) := by
  have b1 : 0 ≤ a % (n : Int) := Int.emod_nonneg _ (by omega)
  have b2 : a % (n : Int) < n := Int.emod_lt_of_pos _ (by omega)
  exact ⟨(a % (n : Int)).toNat, by omega, by omega⟩
theorem perm_out {α : Type} : ∀ {xs : List α} {j : Nat} (h : j < xs.length), (xs[j] :: xs.eraseIdx j).Perm xs
  | x :: xs, 0, _ => List.Perm.refl _
  | x :: xs, j + 1, h => by
    have ih := perm_out (xs := xs) (j := j) (by simpa using h)
    exact (List.Perm.swap _ _ _).trans (List.Perm.cons x ih)
theorem erase_map2 {α β : Type} {f : α → β} {xs : List α} {j : Nat} : (xs.map f).eraseIdx j = (xs.eraseIdx j).map f := erase_map
end Dl
namespace K49
open PySem PySem.Spec PyProof.Rows L2 Dl
section
variable {s : Sn} {left o lot : List Str} {c : Str} {t : Tk} {ρ : Dl.Env}
/-! ### a drawn order -/
def ixD (j : Nat) : D := .int (j : Int)
def odB : Stm := dAppPop 3 2 (d2 gMod (dC1 gInt (aCons (d2 gIx (dVar 0) (dVar 4)) aNil)) (dC1 gLen (aCons (dVar 2) aNil)))
theorem order_eq : g_l_order = dSeq (dSet 2 (dLstR (dVar 1))) (dSeq (dSet 3 (dLst aNil)) (dSeq (dFor (iR1 (dVar 1)) (bName 4) odB) (dRetV 3))) := rfl
theorem order_ok {row : List Int} {n : Nat} (hr : n ≤ row.length) (hn : n ≤ 1000) : ∃ ys : List Nat, ys.Perm (List.range n) ∧ F_l_order [.lst (row.map D.int), .int (n : Int)] = .ok (.fr ((ys.map ixD).map T.leaf)) := by
  rw [F_l_order, x_run, order_eq]
  show ∃ ys : List Nat, _ ∧ runK (dSeq _ _ [.sh (.lst (row.map D.int)), .sh (.int (n : Int)), .no, .no, .no]) = _
  have e1 : dLstR (dVar 1) [.sh (.lst (row.map D.int)), .sh (.int (n : Int)), .no, .no, .no] = .ok (.fr (((List.range n).map ixD).map T.leaf)) := by
    have v1 : dVar 1 [.sh (.lst (row.map D.int)), .sh (.int (n : Int)), .no, .no, .no] = .ok (.sh (.int (n : Int))) := rfl
    unfold dLstR
    rw [v1]
    show (if (n : Int) ≤ 16777216 ∧ -4611686018427387904 ≤ (n : Int) then Res.ok (EV.fr ((rangeD 0 (n : Int).toNat).map T.leaf)) else _) = _
    rw [if_pos ⟨by omega, by omega⟩, Int.toNat_natCast, Dl.range_map]
    rfl
  rw [st_fr0 (i := 2) (y := .no) e1 rfl rfl]
  show ∃ ys : List Nat, _ ∧ runK (dSeq _ _ [.sh (.lst (row.map D.int)), .sh (.int (n : Int)), .own (((List.range n).map ixD).map T.leaf), .no, .no]) = _
  rw [st_fr0 (i := 3) (y := .no) (f := dLst aNil) (ts := []) rfl rfl rfl]
  show ∃ ys : List Nat, _ ∧ runK (dSeq _ _ [.sh (.lst (row.map D.int)), .sh (.int (n : Int)), .own (((List.range n).map ixD).map T.leaf), .own ((([] : List Nat).map ixD).map T.leaf), .no]) = _
  have i1 : iR1 (dVar 1) [.sh (.lst (row.map D.int)), .sh (.int (n : Int)), .own (((List.range n).map ixD).map T.leaf), .own ((([] : List Nat).map ixD).map T.leaf), .no] = .ok (rangeD 0 n) := by
    rw [x_rng (n := (n : Int)) (by omega) (v_sh rfl), Int.toNat_natCast]
  obtain ⟨_, ⟨xs, ys, x4, h1, h2, h3, f4, rfl⟩, e⟩ := forD_range (b := bName 4) (g := odB) (n := n)
    (P := fun i ρ => ∃ (xs ys : List Nat) (x4 : SV), (ys ++ xs).Perm (List.range n) ∧ ys.length = i ∧ xs.length + i = n ∧ x4.free = true ∧ ρ = [.sh (.lst (row.map D.int)), .sh (.int (n : Int)), .own ((xs.map ixD).map T.leaf), .own ((ys.map ixD).map T.leaf), x4]) (by
      rintro i hi ρ ⟨xs, ys, x4, h1, h2, h3, f4, rfl⟩
      have hx : 0 < xs.length := by omega
      obtain ⟨j, hj, ej⟩ := modN (a := row[i]'(by omega)) hx
      refine ⟨[.sh (.lst (row.map D.int)), .sh (.int (n : Int)), .own ((xs.map ixD).map T.leaf), .own ((ys.map ixD).map T.leaf), .sh (.int (i : Int))], [.sh (.lst (row.map D.int)), .sh (.int (n : Int)), .own (((xs.eraseIdx j).map ixD).map T.leaf), .own (((ys ++ [xs[j]]).map ixD).map T.leaf), .sh (.int (i : Int))], by simp only [bName, putR, List.getElem?_cons_succ, List.getElem?_cons_zero, f4, if_true, List.set_cons_succ, List.set_cons_zero], ?_, ?_⟩
      · refine (x_appPop (m := j) (ds := ys.map ixD) (es := xs.map ixD) (d := ixD xs[j]) (by decide) rfl rfl ?_ ?_ ?_ ?_).trans ?_
        · have e0 : d2 gIx (dVar 0) (dVar 4) [.sh (.lst (row.map D.int)), .sh (.int (n : Int)), .own ((xs.map ixD).map T.leaf), .own ((ys.map ixD).map T.leaf), .sh (.int (i : Int))] = .ok (.sh (.int (row[i]'(by omega)))) := x_ixv rfl rfl (by rw [List.getElem?_map, List.getElem?_eq_getElem (by omega)]; rfl)
          have e5 := x_len_own (ρ := [.sh (.lst (row.map D.int)), .sh (.int (n : Int)), .own ((xs.map ixD).map T.leaf), .own ((ys.map ixD).map T.leaf), .sh (.int (i : Int))]) (i := 2) (ds := xs.map ixD) rfl
          rw [List.length_map] at e5
          rw [x_modv e0 e5 (by omega), ej]
        · rw [List.getElem?_map, List.getElem?_eq_getElem hj]
          rfl
        · rw [List.length_map]
          omega
        · rw [List.length_map]
          omega
        · simp only [List.set_cons_succ, List.set_cons_zero, erase_map2, List.map_append, List.map_cons, List.map_nil]
      · refine ⟨xs.eraseIdx j, ys ++ [xs[j]], .sh (.int (i : Int)), ?_, by simp [h2], ?_, rfl, rfl⟩
        · refine List.Perm.trans ?_ h1
          rw [List.append_assoc]
          exact List.Perm.append_left _ (perm_out hj)
        · rw [List.length_eraseIdx_of_lt hj]
          omega) _ ⟨List.range n, [], .no, List.Perm.refl _, rfl, by simp, rfl, rfl⟩
  have hx : xs = [] := List.length_eq_zero_iff.mp (by omega)
  subst hx
  rw [List.append_nil] at h1
  refine ⟨ys, h1, ?_⟩
  rw [x_seq, x_for, i1, x_for_ok, e]
  rfl
theorem perm_in {ys : List Nat} {n : Nat} (h : ys.Perm (List.range n)) : ∀ j ∈ ys, j < n := fun j hj => by
  have := (h.mem_iff (a := j)).mp hj
  exact List.mem_range.mp this
theorem perm_of {ys : List Nat} {n : Nat} (h : ys.Perm (List.range n)) : ∀ j, j < n → j ∈ ys := fun j hj => (h.mem_iff (a := j)).mpr (List.mem_range.mpr hj)
end
end K49
set_option Elab.async false
set_option linter.all false
set_option maxRecDepth 100000
namespace Dl
open PySem PySem.Spec PyProof.Rows L2
theorem x_sl_both {ρ : Dl.Env} {f1 f2 : Dl.Env → Res EV} {a : EV} {j k : Int} (h1 : f1 ρ = .ok (.sh (.int j))) (h2 : f2 ρ = .ok (.sh (.int k))) : slK (some f1) (some f2) ρ (.ok a) = gSl a (some j) (some k) := by simp [slK, dSl, h1, h2]
theorem cut_midI {ss : List Int} {a b : Nat} (h : a ≤ b) (hb : b ≤ ss.length) : cutL (ss.map D.int) (some (a : Int)) (some (b : Int)) = ((ss.drop a).take (b - a)).map D.int := by
  have e1 : HT.sIx (ss.map D.int).length 0 (some (a : Int)) = a := by rw [HT.sIx_nat, List.length_map]; omega
  have e2 : HT.sIx (ss.map D.int).length (ss.map D.int).length (some (b : Int)) = b := by rw [HT.sIx_nat, List.length_map]; omega
  unfold cutL
  rw [e1, e2, List.map_take, List.map_drop]
/-- an own list of rows gets one more -/
theorem app_row {ρ : Dl.Env} {i : Nat} {f : Dl.Env → Res EV} {lots : List (List Str)} {l : List Str} (hi : ρ[i]? = some (.own ((lots.map (seqS true)).map T.leaf))) (hf : f ρ = .ok (.sh (seqS true l))) (hl : lots.length < 16777216) : dApp i f ρ = .ok (.nx (ρ.set i (.own (((lots ++ [l]).map (seqS true)).map T.leaf)))) := by
  rw [x_app, hi, hf, x_app_sh (by rw [List.length_map, List.length_map]; exact hl), List.map_append, List.map_append]
  rfl
theorem rows_ll {lots : List (List Str)} : (EV.fr ((lots.map (seqS true)).map T.leaf)).ll = true := by
  show T.lls _ = true
  induction lots with
  | nil => rfl
  | cons l lots ih =>
    show (D.lls (l.map D.str) && T.lls ((lots.map (seqS true)).map T.leaf)) = true
    have e : D.lls (l.map D.str) = true := by
      induction l with
      | nil => rfl
      | cons a l ih => exact ih
    have ih' : T.lls ((lots.map (seqS true)).map T.leaf) = true := ih
    rw [e, ih']
    rfl
end Dl
namespace K49
open PySem PySem.Spec PyProof.Rows L2 Dl
section
variable {s : Sn} {left o lot : List Str} {c : Str} {t : Tk} {ρ : Dl.Env} {row : List Int} {lots : List (List Str)} {x4 x5 x6 x7 x8 x9 : SV}
abbrev LE (s : Sn) (row : List Int) (lots : List (List Str)) (x4 x5 x6 x7 x8 x9 : SV) : Dl.Env := [.sh s.d, .sh (.lst (row.map D.int)), .sh (seqS false s.names), .own ((lots.map (seqS true)).map T.leaf), x4, x5, x6, x7, x8, x9, .no, .no]
def OKL (s : Sn) (m : Nat) (lots : List (List Str)) : Prop := ∀ l ∈ lots, (∀ x ∈ l, x ∈ s.names) ∧ l.length ≤ m
def laB : Stm := dSet 3 (d2 gAdd (dVar 3) (dLend 3 (dLc (iA (dVar 3)) (bName 9) dYes (d2 gAdd (dVar 9) (dTup (aCons (dVar 4) aNil))) [9])))
theorem laB_ok {m : Nat} (hm : m ≤ 1000) (h : OKL s m lots) (hl : lots.length ≤ 1000) :
    laB (LE s row lots (.sh (.str c)) x5 x6 x7 x8 x9) = .ok (.nx (LE s row (lots ++ lots.map (· ++ [c])) (.sh (.str c)) x5 x6 x7 x8 x9)) := by
  have e1 : dLend 3 (dLc (iA (dVar 3)) (bName 9) dYes (d2 gAdd (dVar 9) (dTup (aCons (dVar 4) aNil))) [9]) (LE s row lots (.sh (.str c)) x5 x6 x7 x8 x9) = .ok (.fr (((lots.map (· ++ [c])).map (seqS true)).map T.leaf)) := by
    refine x_lend (ts := (lots.map (seqS true)).map T.leaf) rfl ?_ rows_ll
    rw [x_leaves]
    show dLc _ _ _ _ _ [.sh s.d, .sh (.lst (row.map D.int)), .sh (seqS false s.names), .sh (.lst (lots.map (seqS true))), .sh (.str c), x5, x6, x7, x8, x9, .no, .no] = _
    have i1 : iA (dVar 3) [.sh s.d, .sh (.lst (row.map D.int)), .sh (seqS false s.names), .sh (.lst (lots.map (seqS true))), .sh (.str c), x5, x6, x7, x8, x9, .no, .no] = .ok (lots.map (seqS true)) := by rw [x_iA, v_sh (i := 3) (d := .lst (lots.map (seqS true))) rfl, x_wK, x_walk_lst]
    rw [x_lc, x_wipe1, i1, x_lc_of (p := fun _ => true) (k := fun l => seqS true (l ++ [c])) (by omega) fun l hl => ⟨[.sh s.d, .sh (.lst (row.map D.int)), .sh (seqS false s.names), .sh (.lst (lots.map (seqS true))), .sh (.str c), x5, x6, x7, x8, .sh (seqS true l), .no, .no], rfl, rfl, fun _ => ?_⟩, filter_yes, List.map_map]
    · rw [List.map_map, List.map_map]
      rfl
    · rw [x_d2, v_sh (i := 9) (d := seqS true l) rfl, x_tup, x_cons, v_sh (i := 4) (d := .str c) rfl, x_nil, x_cons_ok, x_tup1, x_d2_ok]
      show gAdd (.sh (.tup (l.map D.str))) (.sh (.tup [.str c])) = _
      have := (h l hl).2
      rw [add_tups (by simp only [List.length_map, List.length_cons, List.length_nil]; omega)]
      show _ = Res.ok (EV.sh (D.tup ((l ++ [c]).map D.str)))
      rw [List.map_append]
      rfl
  have e2 : d2 gAdd (dVar 3) (dLend 3 (dLc (iA (dVar 3)) (bName 9) dYes (d2 gAdd (dVar 9) (dTup (aCons (dVar 4) aNil))) [9])) (LE s row lots (.sh (.str c)) x5 x6 x7 x8 x9) = .ok (.fr (((lots ++ lots.map (· ++ [c])).map (seqS true)).map T.leaf)) := by
    rw [x_d2, e1, v_own (i := 3) (ts := (lots.map (seqS true)).map T.leaf) rfl, x_d2_ok, add_own (by simp only [List.length_map]; omega), ← List.map_append]
  rw [laB, x_set, e2, x_set_fr]
  rfl
theorem lotsA (k : s.Ok) (h6 : s.names.length ≤ 6) (f4 : x4.free = true) : ∃ (lots : List (List Str)) (y4 : SV), y4.free = true ∧ OKL s 12 lots ∧ lots.length ≤ 64 ∧ (∃ l ∈ lots, l = lefts s) ∧
    dFor (iA (dVar 2)) (bName 4) laB (LE s row [[]] x4 x5 x6 x7 x8 x9) = .ok (.nx (LE s row lots y4 x5 x6 x7 x8 x9)) := by
  obtain ⟨_, ⟨lots, y4, h1, h2, h3, f4, rfl⟩, e⟩ := forD_idx (b := bName 4) (g := laB) (c := D.str) (xs := s.names)
    (P := fun j ρ => ∃ (lots : List (List Str)) (x4 : SV), OKL s j lots ∧ lots.length ≤ 2 ^ j ∧ (∀ p : Str → Bool, (s.names.take j).filter p ∈ lots) ∧ x4.free = true ∧ ρ = LE s row lots x4 x5 x6 x7 x8 x9) (by
      rintro j c hj ρ ⟨lots, x4, h1, h2, h3, f4, rfl⟩
      have hjl : j < s.names.length := (List.getElem?_eq_some_iff.mp hj).1
      have pj : 2 ^ (j + 1) ≤ 64 := by
        have : (2 : Nat) ^ (j + 1) ≤ 2 ^ 6 := Nat.pow_le_pow_right (by omega) (by omega)
        exact Nat.le_trans this (by decide)
      have pe : 2 ^ (j + 1) = 2 ^ j * 2 := Nat.pow_succ ..
      refine ⟨LE s row lots (.sh (.str c)) x5 x6 x7 x8 x9, _, by simp only [LE, bName, putR, List.getElem?_cons_succ, List.getElem?_cons_zero, f4, if_true, List.set_cons_succ, List.set_cons_zero], laB_ok (by omega) h1 (by omega), lots ++ lots.map (· ++ [c]), _, ?_, ?_, ?_, rfl, rfl⟩
      · intro l hl
        rcases List.mem_append.mp hl with hl | hl
        · exact ⟨(h1 l hl).1, by have := (h1 l hl).2; omega⟩
        · obtain ⟨l0, q1, rfl⟩ := List.mem_map.mp hl
          refine ⟨fun x hx => ?_, by rw [List.length_append]; have := (h1 l0 q1).2; simp; omega⟩
          rcases List.mem_append.mp hx with hx | hx
          · exact (h1 l0 q1).1 x hx
          · rw [List.mem_singleton.mp hx]
            exact List.mem_of_getElem? hj
      · rw [List.length_append, List.length_map]
        omega
      · intro p
        rw [List.take_add_one, hj, List.filter_append]
        show _ ++ List.filter p [c] ∈ _
        rw [List.filter_cons]
        by_cases q : p c = true
        · rw [if_pos q]
          exact List.mem_append_right _ (List.mem_map.mpr ⟨_, h3 p, rfl⟩)
        · rw [if_neg q]
          show _ ++ [] ∈ _
          rw [List.append_nil]
          exact List.mem_append_left _ (h3 p)) _ ⟨[[]], x4, (fun l hl => by
            rw [List.mem_singleton.mp hl]
            exact ⟨fun x hx => (by cases hx), Nat.le_refl _⟩), by simp, (fun p => by simp), f4, rfl⟩
  have i1 : iA (dVar 2) (LE s row [[]] x4 x5 x6 x7 x8 x9) = .ok (s.names.map D.str) := by rw [x_iA, v_sh (i := 2) (d := seqS false s.names) rfl, x_wK, walk_seq]
  have p6 : 2 ^ s.names.length ≤ 64 := by
    have : (2 : Nat) ^ s.names.length ≤ 2 ^ 6 := Nat.pow_le_pow_right (by omega) (by omega)
    exact Nat.le_trans this (by decide)
  refine ⟨lots, y4, f4, fun l hl => ⟨(h1 l hl).1, by have := (h1 l hl).2; omega⟩, by omega, ?_, by rw [x_for, i1, x_for_ok, e]⟩
  obtain ⟨q, hq⟩ := peel_sub (s := s) s.names.length s.names []
  have := h3 q
  rw [List.take_of_length_le (Nat.le_refl _)] at this
  exact ⟨_, this, hq.symm⟩
def lbB : Stm := dIf (dT tBool (d2 gIn (dVar 4) (dVar 5)))
  (dApp 3 (dC1 gTuple (aCons (dLc (iA (dVar 5)) (bName 10) (dT tBool (d2 gNe (dVar 10) (dVar 4))) (dVar 10) [10]) aNil)))
  (dApp 3 (d2 gAdd (dVar 5) (dTup (aCons (dVar 4) aNil))))
theorem lbB_ok (k : s.Ok) (h : OKL s 12 lots) (hl : lots.length ≤ 1000) (hc : c ∈ s.names) :
    ∃ l, ((∀ x ∈ l, x ∈ s.names) ∧ l.length ≤ 12) ∧ lbB (LE s row lots (.sh (.str c)) (.sh (seqS true (lefts s))) x6 x7 x8 x9) = .ok (.nx (LE s row (lots ++ [l]) (.sh (.str c)) (.sh (seqS true (lefts s))) x6 x7 x8 x9)) := by
  have hls : ∀ n ∈ lefts s, PyData.strOk n = true := fun n hn => k.so n (lefts_in n hn)
  have nl := k.nl
  have ll : (lefts s).length ≤ 12 := (peelR_len k).1
  rw [lbB, x_if, x_t, x_d2, v_sh (i := 4) (d := .str c) rfl, v_sh (i := 5) (d := seqS true (lefts s)) rfl, x_d2_ok, in_seq (k.so c hc) hls, x_t_ok, x_tBool]
  by_cases hm : c ∈ lefts s
  · refine ⟨dropS c (lefts s), ⟨fun x hx => lefts_in x (drop_sub.mp hx).1, Nat.le_trans drop_le ll⟩, ?_⟩
    have i1 : iA (dVar 5) (LE s row lots (.sh (.str c)) (.sh (seqS true (lefts s))) x6 x7 x8 x9) = .ok ((lefts s).map D.str) := by rw [x_iA, v_sh (i := 5) (d := seqS true (lefts s)) rfl, x_wK, walk_seq]
    have e1 : dC1 gTuple (aCons (dLc (iA (dVar 5)) (bName 10) (dT tBool (d2 gNe (dVar 10) (dVar 4))) (dVar 10) [10]) aNil) (LE s row lots (.sh (.str c)) (.sh (seqS true (lefts s))) x6 x7 x8 x9) = .ok (.sh (seqS true (dropS c (lefts s)))) := by
      rw [x_c1, x_cons, lc_drop (v := 10) (w := 4) (ss := lefts s) (c := c) (y := .no) i1 rfl rfl (by decide) hls (k.so c hc) (by omega), x_nil, x_cons_ok, x_c1_ok, x_tuple_fr, x_leaves]
      rfl
    rw [decide_eq_true hm, x_if_t, app_row (i := 3) rfl e1 (by omega)]
    rfl
  · refine ⟨lefts s ++ [c], ⟨fun x hx => ?_, ?_⟩, ?_⟩
    · rcases List.mem_append.mp hx with hx | hx
      · exact lefts_in x hx
      · rw [List.mem_singleton.mp hx]
        exact hc
    · obtain ⟨p, hp⟩ := peel_sub (s := s) s.names.length s.names []
      have hp' : lefts s = s.names.filter p := hp
      have : (lefts s).length < s.names.length := by
        rw [hp', List.length_filter_lt_length_iff_exists]
        refine ⟨c, hc, fun z => hm ?_⟩
        rw [hp']
        exact List.mem_filter.mpr ⟨hc, z⟩
      rw [List.length_append, List.length_singleton]
      omega
    · have e1 : d2 gAdd (dVar 5) (dTup (aCons (dVar 4) aNil)) (LE s row lots (.sh (.str c)) (.sh (seqS true (lefts s))) x6 x7 x8 x9) = .ok (.sh (seqS true (lefts s ++ [c]))) := by
        rw [x_d2, v_sh (i := 5) (d := seqS true (lefts s)) rfl, x_tup, x_cons, v_sh (i := 4) (d := .str c) rfl, x_nil, x_cons_ok, x_tup1, x_d2_ok]
        show gAdd (.sh (.tup ((lefts s).map D.str))) (.sh (.tup [.str c])) = _
        rw [add_tups (by simp only [List.length_map, List.length_cons, List.length_nil]; omega)]
        show _ = Res.ok (EV.sh (D.tup ((lefts s ++ [c]).map D.str)))
        rw [List.map_append]
        rfl
      rw [decide_eq_false hm, x_if_f, app_row (i := 3) rfl e1 (by omega)]
      rfl
def lcB : Stm := dSeq (dSet 7 (dSl (dVar 1) (some (d2 gMul (dC (.int 12)) (dVar 6))) (some (d2 gAdd (d2 gMul (dC (.int 12)) (dVar 6)) (dC (.int 12))))))
  (dFrz 7 (dApp 3 (dC1 gTuple (aCons (dLc (iR1 (dC1 gLen (aCons (dVar 2) aNil))) (bName 11) (dT tBool (d2 gGt (d2 gIx (dVar 7) (dVar 11)) (dC (.int 3)))) (d2 gIx (dVar 2) (dVar 11)) [11]) aNil))))
theorem lcB_ok {i : Nat} (k : s.Ok) (hi : i < 20) (hr : 240 ≤ row.length) (hl : lots.length ≤ 1000) (f7 : x7.free = true) :
    ∃ l y7, ((∀ x ∈ l, x ∈ s.names) ∧ l.length ≤ 12) ∧ SV.free y7 = true ∧ lcB (LE s row lots x4 x5 (.sh (.int (i : Int))) x7 x8 x9) = .ok (.nx (LE s row (lots ++ [l]) x4 x5 (.sh (.int (i : Int))) y7 x8 x9)) := by
  have nl := k.nl
  have m1 : d2 gMul (dC (.int 12)) (dVar 6) (LE s row lots x4 x5 (.sh (.int (i : Int))) x7 x8 x9) = .ok (.sh (.int ((12 * i : Nat) : Int))) := by
    rw [x_d2, x_c, v_sh (i := 6) (d := .int (i : Int)) rfl, x_d2_ok, x_mulL (by omega)]
    rfl
  have m2 : d2 gAdd (d2 gMul (dC (.int 12)) (dVar 6)) (dC (.int 12)) (LE s row lots x4 x5 (.sh (.int (i : Int))) x7 x8 x9) = .ok (.sh (.int ((12 * i + 12 : Nat) : Int))) := by
    rw [x_d2, m1, x_c, x_d2_ok, x_add]
    rfl
  have e1 : dSl (dVar 1) (some (d2 gMul (dC (.int 12)) (dVar 6))) (some (d2 gAdd (d2 gMul (dC (.int 12)) (dVar 6)) (dC (.int 12)))) (LE s row lots x4 x5 (.sh (.int (i : Int))) x7 x8 x9) = .ok (.fr ((((row.drop (12 * i)).take 12).map D.int).map T.leaf)) := by
    rw [x_sl, v_sh (i := 1) (d := .lst (row.map D.int)) rfl, x_sl_both m1 m2, x_sl_lst, cut_midI (by omega) (by omega), show 12 * i + 12 - 12 * i = 12 by omega]
  have hb : ((row.drop (12 * i)).take 12).length = 12 := by rw [List.length_take, List.length_drop]; omega
  generalize (row.drop (12 * i)).take 12 = bits at e1 hb
  rw [lcB, st_fr (i := 7) (y := x7) e1 rfl f7, x_leaves]
  have e2 : dC1 gTuple (aCons (dLc (iR1 (dC1 gLen (aCons (dVar 2) aNil))) (bName 11) (dT tBool (d2 gGt (d2 gIx (dVar 7) (dVar 11)) (dC (.int 3)))) (d2 gIx (dVar 2) (dVar 11)) [11]) aNil) (LE s row lots x4 x5 (.sh (.int (i : Int))) (.sh (.lst (bits.map D.int))) x8 x9) = .ok (.sh (seqS true (((List.range s.names.length).filter fun j => decide (3 < (bits[j]?).getD 0)).map fun j => (s.names[j]?).getD ""))) := by
    have i1 : iR1 (dC1 gLen (aCons (dVar 2) aNil)) (LE s row lots x4 x5 (.sh (.int (i : Int))) (.sh (.lst (bits.map D.int))) x8 x9) = .ok ((List.range s.names.length).map fun (j : Nat) => D.int j) := by
      rw [x_rng (n := (s.names.length : Nat)) (by omega) (x_len0 (k := false) rfl), Int.toNat_natCast, Dl.range_map]
    rw [x_c1, x_cons, x_lc, x_wipe1, i1, x_lc_of (c := fun (j : Nat) => D.int j) (p := fun (j : Nat) => decide (3 < (bits[j]?).getD 0)) (k := fun (j : Nat) => D.str ((s.names[j]?).getD "")) (by rw [List.length_range]; omega) fun j hj => ⟨[.sh s.d, .sh (.lst (row.map D.int)), .sh (seqS false s.names), .own ((lots.map (seqS true)).map T.leaf), x4, x5, .sh (.int (i : Int)), .sh (.lst (bits.map D.int)), x8, x9, .no, .sh (.int (j : Int))], rfl, ?_, fun _ => ?_⟩, x_nil, x_cons_ok, x_c1_ok, x_tuple_fr, x_leaves]
    · show _ = Res.ok (EV.sh (D.tup (List.map D.str (List.map _ _))))
      rw [List.map_map]
      rfl
    · have hj' := List.mem_range.mp hj
      have e3 : d2 gIx (dVar 7) (dVar 11) [.sh s.d, .sh (.lst (row.map D.int)), .sh (seqS false s.names), .own ((lots.map (seqS true)).map T.leaf), x4, x5, .sh (.int (i : Int)), .sh (.lst (bits.map D.int)), x8, x9, .no, .sh (.int (j : Int))] = .ok (.sh (.int ((bits[j]?).getD 0))) := x_ixv (i := 7) (k := 11) (j := j) (ds := bits.map D.int) rfl rfl (by rw [List.getElem?_map, List.getElem?_eq_getElem (by omega)]; rfl)
      rw [x_t, x_d2, e3, x_c, x_d2_ok, x_gt, x_t_ok, x_tBool]
    · have hj' := List.mem_range.mp hj
      exact x_ixv (i := 2) (k := 11) (j := j) (ds := s.names.map D.str) rfl rfl (by rw [List.getElem?_map, List.getElem?_eq_getElem hj']; rfl)
  refine ⟨_, .sh (.lst (bits.map D.int)), ⟨?_, ?_⟩, rfl, (app_row (i := 3) rfl e2 (by omega)).trans rfl⟩
  · intro x hx
    obtain ⟨j, hj, rfl⟩ := List.mem_map.mp hx
    have hj' := List.mem_range.mp (List.mem_filter.mp hj).1
    rw [List.getElem?_eq_getElem hj']
    exact List.getElem_mem hj'
  · rw [List.length_map]
    refine Nat.le_trans (List.length_filter_le _ _) ?_
    rw [List.length_range]
    exact nl
end
end K49
set_option Elab.async false
set_option linter.all false
set_option maxRecDepth 100000
namespace K49
open PySem PySem.Spec PyProof.Rows L2 Dl
section
variable {s : Sn} {left o lot : List Str} {c : Str} {t : Tk} {ρ : Dl.Env} {row : List Int} {lots : List (List Str)} {x4 x5 x6 x7 x8 x9 : SV}
def leB : Stm := dSeq (dSet 5 (d2 gIx (dCall 1 F_l_peeled [] (aCons (dVar 0) aNil)) (dC (.int 1))))
  (dFrz 5 (dSeq (dSet 3 (d2 gAdd (dVar 3) (dLst (aCons (dVar 5) (aCons (dC1 gTuple (aCons (dVar 2) aNil)) (aCons (dTup (aCons (d2 gIx (dVar 2) (dC (.int 0))) aNil)) (aCons (dTup (aCons (d2 gIx (dVar 2) (dNeg (dC (.int 1)))) aNil)) aNil)))))))
  (dSeq (dFor (iA (dVar 2)) (bName 4) lbB) (dFor (iR1 (dC (.int 20))) (bName 6) lcB))))
theorem lotsB (k : s.Ok) (hr : 240 ≤ row.length) (f4 : x4.free = true) (f5 : x5.free = true) (f6 : x6.free = true) (f7 : x7.free = true) : ∃ (lots : List (List Str)) (y4 y5 y6 y7 : SV), y4.free = true ∧ y5.free = true ∧ y6.free = true ∧ y7.free = true ∧ OKL s 12 lots ∧ lots.length ≤ 64 ∧ (∃ l ∈ lots, l = lefts s) ∧
    leB (LE s row [[]] x4 x5 x6 x7 x8 x9) = .ok (.nx (LE s row lots y4 y5 y6 y7 x8 x9)) := by
  have nl := k.nl
  have ll : (lefts s).length ≤ 12 := (peelR_len k).1
  have e1 : d2 gIx (dCall 1 F_l_peeled [] (aCons (dVar 0) aNil)) (dC (.int 1)) (LE s row [[]] x4 x5 x6 x7 x8 x9) = .ok (.sh (seqS true (lefts s))) := by
    rw [x_d2, x_call, x_cons, v_sh (i := 0) (d := s.d) rfl, x_nil, x_cons_ok, x_call_ok, callN_s, peeled_ok k, x_c, x_d2_ok]
    exact x_ixFr (ds := [ordD (peelR s), seqS true (lefts s)]) (i := 1) (by omega) rfl
  rw [leB, st_sh (i := 5) (y := x5) e1 rfl f5]
  obtain ⟨a, as, ha⟩ : ∃ a as, s.names = a :: as := by
    cases e : s.names with
    | nil => exact (k.ne e).elim
    | cons a as => exact ⟨a, as, rfl⟩
  obtain ⟨b, hb⟩ : ∃ b, s.names.getLast? = some b := by
    rw [ha]
    exact ⟨_, List.getLast?_eq_some_getLast (by simp)⟩
  have ain : a ∈ s.names := by rw [ha]; exact List.mem_cons_self
  have bin : b ∈ s.names := List.mem_of_getLast? hb
  have e2 : d2 gAdd (dVar 3) (dLst (aCons (dVar 5) (aCons (dC1 gTuple (aCons (dVar 2) aNil)) (aCons (dTup (aCons (d2 gIx (dVar 2) (dC (.int 0))) aNil)) (aCons (dTup (aCons (d2 gIx (dVar 2) (dNeg (dC (.int 1)))) aNil)) aNil))))) (LE s row [[]] x4 (.sh (seqS true (lefts s))) x6 x7 x8 x9) = .ok (.fr ((([[], lefts s, s.names, [a], [b]] : List (List Str)).map (seqS true)).map T.leaf)) := by
    have i0 : d2 gIx (dVar 2) (dC (.int 0)) (LE s row [[]] x4 (.sh (seqS true (lefts s))) x6 x7 x8 x9) = .ok (.sh (.str a)) := by
      rw [x_d2, v_sh (i := 2) (d := seqS false s.names) rfl, x_c, x_d2_ok]
      exact x_ixL (i := 0) (by rw [ha]; rfl)
    have i9 : d2 gIx (dVar 2) (dNeg (dC (.int 1))) (LE s row [[]] x4 (.sh (seqS true (lefts s))) x6 x7 x8 x9) = .ok (.sh (.str b)) := last_ix (ss := s.names) rfl hb
    have e3 : dLst (aCons (dVar 5) (aCons (dC1 gTuple (aCons (dVar 2) aNil)) (aCons (dTup (aCons (d2 gIx (dVar 2) (dC (.int 0))) aNil)) (aCons (dTup (aCons (d2 gIx (dVar 2) (dNeg (dC (.int 1)))) aNil)) aNil)))) (LE s row [[]] x4 (.sh (seqS true (lefts s))) x6 x7 x8 x9) = .ok (.fr ((([lefts s, s.names, [a], [b]] : List (List Str)).map (seqS true)).map T.leaf)) := by
      rw [x_lst, x_cons, x_cons, x_cons, x_cons, v_sh (i := 5) (d := seqS true (lefts s)) rfl, x_c1, x_cons, v_sh (i := 2) (d := seqS false s.names) rfl, x_tup, x_cons, i0, x_tup, x_cons, i9, x_nil, x_cons_ok, x_cons_ok, x_cons_ok, x_c1_ok, tup_seq, x_tup1, x_tup1]
      exact x_lst_sh (ds := [seqS true (lefts s), seqS true s.names, .tup [.str a], .tup [.str b]]) (by simp)
    rw [x_d2, e3, v_own (i := 3) (ts := (([[]] : List (List Str)).map (seqS true)).map T.leaf) rfl, x_d2_ok, add_own (by simp), ← List.map_append]
    rfl
  show ∃ (lots : List (List Str)) (y4 y5 y6 y7 : SV), _ ∧ _ ∧ _ ∧ _ ∧ _ ∧ _ ∧ _ ∧ dSeq _ _ (LE s row [[]] x4 (.sh (seqS true (lefts s))) x6 x7 x8 x9) = _
  rw [st_fr0 (i := 3) e2 rfl rfl]
  show ∃ (lots : List (List Str)) (y4 y5 y6 y7 : SV), _ ∧ _ ∧ _ ∧ _ ∧ _ ∧ _ ∧ _ ∧ dSeq _ _ (LE s row [[], lefts s, s.names, [a], [b]] x4 (.sh (seqS true (lefts s))) x6 x7 x8 x9) = _
  obtain ⟨_, ⟨lots, y4, h1, h2, h3, f4, rfl⟩, e⟩ := forD_idx (b := bName 4) (g := lbB) (c := D.str) (xs := s.names)
    (P := fun j ρ => ∃ (lots : List (List Str)) (x4 : SV), OKL s 12 lots ∧ lots.length ≤ 5 + j ∧ lefts s ∈ lots ∧ x4.free = true ∧ ρ = LE s row lots x4 (.sh (seqS true (lefts s))) x6 x7 x8 x9) (by
      rintro j c hj ρ ⟨lots, x4, h1, h2, h3, f4, rfl⟩
      have hjl : j < s.names.length := (List.getElem?_eq_some_iff.mp hj).1
      obtain ⟨l, q1, q2⟩ := lbB_ok (row := row) (x6 := x6) (x7 := x7) (x8 := x8) (x9 := x9) k h1 (by omega) (List.mem_of_getElem? hj)
      refine ⟨LE s row lots (.sh (.str c)) (.sh (seqS true (lefts s))) x6 x7 x8 x9, _, by simp only [LE, bName, putR, List.getElem?_cons_succ, List.getElem?_cons_zero, f4, if_true, List.set_cons_succ, List.set_cons_zero], q2, lots ++ [l], _, fun l' hl' => ?_, by rw [List.length_append, List.length_singleton]; omega, List.mem_append_left _ h3, rfl, rfl⟩
      rcases List.mem_append.mp hl' with z | z
      · exact h1 l' z
      · rw [List.mem_singleton.mp z]
        exact q1) _ ⟨[[], lefts s, s.names, [a], [b]], x4, (fun l hl => by
          simp only [List.mem_cons, List.not_mem_nil, or_false] at hl
          rcases hl with rfl | rfl | rfl | rfl | rfl
          · exact ⟨fun x hx => (by cases hx), by simp⟩
          · exact ⟨lefts_in, ll⟩
          · exact ⟨fun x hx => hx, nl⟩
          · exact ⟨fun x hx => by rw [List.mem_singleton.mp hx]; exact ain, by simp⟩
          · exact ⟨fun x hx => by rw [List.mem_singleton.mp hx]; exact bin, by simp⟩), by simp, by simp, f4, rfl⟩
  have i1 : iA (dVar 2) (LE s row [[], lefts s, s.names, [a], [b]] x4 (.sh (seqS true (lefts s))) x6 x7 x8 x9) = .ok (s.names.map D.str) := by rw [x_iA, v_sh (i := 2) (d := seqS false s.names) rfl, x_wK, walk_seq]
  rw [x_seq, x_for, i1, x_for_ok, e, x_seq_nx]
  obtain ⟨_, ⟨lots2, y6, y7, g1, g2, g3, f6, f7, rfl⟩, e5⟩ := forD_range (b := bName 6) (g := lcB) (n := 20)
    (P := fun j ρ => ∃ (lots : List (List Str)) (x6 x7 : SV), OKL s 12 lots ∧ lots.length ≤ 17 + j ∧ lefts s ∈ lots ∧ x6.free = true ∧ x7.free = true ∧ ρ = LE s row lots y4 (.sh (seqS true (lefts s))) x6 x7 x8 x9) (by
      rintro j hj ρ ⟨lots, x6, x7, h1, h2, h3, f6, f7, rfl⟩
      obtain ⟨l, y7, q1, g7, q2⟩ := lcB_ok (row := row) (lots := lots) (x4 := y4) (x5 := .sh (seqS true (lefts s))) (x7 := x7) (x8 := x8) (x9 := x9) k hj hr (by omega) f7
      refine ⟨LE s row lots y4 (.sh (seqS true (lefts s))) (.sh (.int (j : Int))) x7 x8 x9, _, by simp only [LE, bName, putR, List.getElem?_cons_succ, List.getElem?_cons_zero, f6, if_true, List.set_cons_succ, List.set_cons_zero], q2, lots ++ [l], _, y7, fun l' hl' => ?_, by rw [List.length_append, List.length_singleton]; omega, List.mem_append_left _ h3, rfl, g7, rfl⟩
      rcases List.mem_append.mp hl' with z | z
      · exact h1 l' z
      · rw [List.mem_singleton.mp z]
        exact q1) _ ⟨lots, x6, x7, h1, by omega, h3, f6, f7, rfl⟩
  have i2 : iR1 (dC (.int 20)) (LE s row lots y4 (.sh (seqS true (lefts s))) x6 x7 x8 x9) = .ok (rangeD 0 20) := x_rng (n := 20) (by omega) x_c
  refine ⟨lots2, y4, .sh (seqS true (lefts s)), y6, y7, f4, rfl, f6, f7, g1, by omega, ⟨_, g3, rfl⟩, ?_⟩
  rw [x_for, i2, x_for_ok, e5]
def ltB : Stm := dSeq (dSet 9 (d2 gIx (dVar 3) (dVar 6)))
  (dFrz 9 (dApp 8 (dC1 gTuple (aCons (dLc (iA (dCall 2 F_l_order [] (aCons (dSl (dVar 1) (some (dVar 6)) (some (d2 gAdd (dVar 6) (dC (.int 12))))) (aCons (dC1 gLen (aCons (dVar 9) aNil)) aNil)))) (bName 11) dYes (d2 gIx (dVar 9) (dVar 11)) [11]) aNil))))
theorem ltB_ok {i : Nat} {turned : List (List Str)} (h : OKL s 12 lots) (hi : i < lots.length) (hl : lots.length ≤ 64) (hr : 240 ≤ row.length) (ht : turned.length ≤ 1000) (f9 : x9.free = true) :
    ∃ l y9, ((∀ x, x ∈ l ↔ x ∈ lots[i]) ∧ l.length ≤ 12) ∧ SV.free y9 = true ∧ ltB (LE s row lots x4 x5 (.sh (.int (i : Int))) x7 (.own ((turned.map (seqS true)).map T.leaf)) x9) = .ok (.nx (LE s row lots x4 x5 (.sh (.int (i : Int))) x7 (.own (((turned ++ [l]).map (seqS true)).map T.leaf)) y9)) := by
  have e1 : d2 gIx (dVar 3) (dVar 6) (LE s row lots x4 x5 (.sh (.int (i : Int))) x7 (.own ((turned.map (seqS true)).map T.leaf)) x9) = .ok (.sh (seqS true lots[i])) := by
    rw [x_d2, v_own (i := 3) (ts := (lots.map (seqS true)).map T.leaf) rfl, v_sh (i := 6) (d := .int (i : Int)) rfl, x_d2_ok]
    exact x_ixBo (by omega) (by rw [Int.toNat_natCast, List.getElem?_map, List.getElem?_eq_getElem hi]; rfl)
  obtain ⟨_, hll⟩ := h lots[i] (List.getElem_mem hi)
  generalize lots[i] = lot at e1 hll ⊢
  rw [ltB, st_sh (i := 9) (y := x9) e1 rfl f9]
  show ∃ l y9, _ ∧ _ ∧ dApp 8 _ (LE s row lots x4 x5 (.sh (.int (i : Int))) x7 (.own ((turned.map (seqS true)).map T.leaf)) (.sh (seqS true lot))) = _
  obtain ⟨ys, hp, e2⟩ := order_ok (row := (row.drop i).take 12) (n := lot.length) (by rw [List.length_take, List.length_drop]; omega) (by omega)
  have e3 : dC1 gTuple (aCons (dLc (iA (dCall 2 F_l_order [] (aCons (dSl (dVar 1) (some (dVar 6)) (some (d2 gAdd (dVar 6) (dC (.int 12))))) (aCons (dC1 gLen (aCons (dVar 9) aNil)) aNil)))) (bName 11) dYes (d2 gIx (dVar 9) (dVar 11)) [11]) aNil) (LE s row lots x4 x5 (.sh (.int (i : Int))) x7 (.own ((turned.map (seqS true)).map T.leaf)) (.sh (seqS true lot))) = .ok (.sh (seqS true (ys.map fun j => (lot[j]?).getD ""))) := by
    have m1 : d2 gAdd (dVar 6) (dC (.int 12)) (LE s row lots x4 x5 (.sh (.int (i : Int))) x7 (.own ((turned.map (seqS true)).map T.leaf)) (.sh (seqS true lot))) = .ok (.sh (.int ((i + 12 : Nat) : Int))) := by
      rw [x_d2, v_sh (i := 6) (d := .int (i : Int)) rfl, x_c, x_d2_ok, x_add]
      rfl
    have e4 : dSl (dVar 1) (some (dVar 6)) (some (d2 gAdd (dVar 6) (dC (.int 12)))) (LE s row lots x4 x5 (.sh (.int (i : Int))) x7 (.own ((turned.map (seqS true)).map T.leaf)) (.sh (seqS true lot))) = .ok (.fr ((((row.drop i).take 12).map D.int).map T.leaf)) := by
      rw [x_sl, v_sh (i := 1) (d := .lst (row.map D.int)) rfl, x_sl_both (v_sh (i := 6) (d := .int (i : Int)) rfl) m1, x_sl_lst, cut_midI (by omega) (by omega), show i + 12 - i = 12 by omega]
    have i1 : iA (dCall 2 F_l_order [] (aCons (dSl (dVar 1) (some (dVar 6)) (some (d2 gAdd (dVar 6) (dC (.int 12))))) (aCons (dC1 gLen (aCons (dVar 9) aNil)) aNil))) (LE s row lots x4 x5 (.sh (.int (i : Int))) x7 (.own ((turned.map (seqS true)).map T.leaf)) (.sh (seqS true lot))) = .ok (ys.map ixD) := by
      rw [x_iA, x_call, x_cons, x_cons, e4, x_len0 (i := 9) (ss := lot) (k := true) rfl, x_nil, x_cons_ok, x_cons_ok, x_call_ok, callN_fs, x_leaves, e2, x_wK, x_walk_fr, x_leaves]
    have yl : ys.length ≤ 12 := by
      have := hp.length_eq
      rw [List.length_range] at this
      omega
    rw [x_c1, x_cons, x_lc, x_wipe1, i1, x_lc_of (c := ixD) (p := fun _ => true) (k := fun (j : Nat) => D.str ((lot[j]?).getD "")) (by omega) fun j hj => ⟨[.sh s.d, .sh (.lst (row.map D.int)), .sh (seqS false s.names), .own ((lots.map (seqS true)).map T.leaf), x4, x5, .sh (.int (i : Int)), x7, .own ((turned.map (seqS true)).map T.leaf), .sh (seqS true lot), .no, .sh (.int (j : Int))], rfl, rfl, fun _ => ?_⟩, filter_yes, x_nil, x_cons_ok, x_c1_ok, x_tuple_fr, x_leaves]
    · show _ = Res.ok (EV.sh (D.tup (List.map D.str (List.map _ _))))
      rw [List.map_map]
      rfl
    · have hj' := perm_in hp j hj
      rw [x_d2, v_sh (i := 9) (d := seqS true lot) rfl, v_sh (i := 11) (d := .int (j : Int)) rfl, x_d2_ok]
      exact x_ixT (by rw [List.getElem?_map, List.getElem?_eq_getElem hj']; rfl)
  refine ⟨ys.map fun j => (lot[j]?).getD "", .sh (seqS true lot), ⟨fun x => ⟨fun hx => ?_, fun hx => ?_⟩, ?_⟩, rfl, (app_row (i := 8) rfl e3 (by omega)).trans rfl⟩
  · obtain ⟨j, hj, rfl⟩ := List.mem_map.mp hx
    rw [List.getElem?_eq_getElem (perm_in hp j hj)]
    exact List.getElem_mem _
  · obtain ⟨j, hj, rfl⟩ := List.getElem_of_mem hx
    refine List.mem_map.mpr ⟨j, perm_of hp j hj, ?_⟩
    rw [List.getElem?_eq_getElem hj]
    rfl
  · have := hp.length_eq
    rw [List.length_range] at this
    rw [List.length_map]
    omega
theorem lots_eq : g_l_lots = dSeq (dSet 2 (d2 gIx (dVar 0) (dC (.int 0)))) (dFrz 2 (dSeq (dSet 3 (dLst (aCons (dTup aNil) aNil))) (dSeq (dIf (dT tBool (d2 gLe (dC1 gLen (aCons (dVar 2) aNil)) (dC (.int 6)))) (dFor (iA (dVar 2)) (bName 4) laB) leB)
  (dFrz 5 (dFrz 7 (dSeq (dSet 8 (dLst aNil)) (dSeq (dFor (iR1 (dC1 gLen (aCons (dVar 3) aNil))) (bName 6) ltB) (dFrz 9 (dRetV 8))))))))) := rfl
theorem lots_ok (k : s.Ok) (hr : 240 ≤ row.length) : ∃ lots : List (List Str), (∀ l ∈ lots, LotOk s l) ∧ (∃ l ∈ lots, ∀ x, x ∈ l ↔ x ∈ lefts s) ∧ F_l_lots [s.d, .lst (row.map D.int)] = .ok (.fr ((lots.map (seqS true)).map T.leaf)) := by
  rw [F_l_lots, x_run]
  generalize hG : g_l_lots = G
  show ∃ ls : List (List Str), _ ∧ _ ∧ runK (G [.sh s.d, .sh (.lst (row.map D.int)), .no, .no, .no, .no, .no, .no, .no, .no, .no, .no]) = _
  rw [← hG, lots_eq, st_sh (i := 2) (y := .no) (ix0 (s := s) rfl) rfl rfl]
  show ∃ ls : List (List Str), _ ∧ _ ∧ runK (dSeq _ _ [.sh s.d, .sh (.lst (row.map D.int)), .sh (seqS false s.names), .no, .no, .no, .no, .no, .no, .no, .no, .no]) = _
  rw [st_fr0 (i := 3) (y := .no) (f := dLst (aCons (dTup aNil) aNil)) (ts := [.leaf (.tup [])]) rfl rfl rfl]
  show ∃ ls : List (List Str), _ ∧ _ ∧ runK (dSeq _ _ (LE s row [[]] .no .no .no .no .no .no)) = _
  have nl := k.nl
  have br : ∃ (lots : List (List Str)) (y4 y5 y6 y7 : SV), y4.free = true ∧ y5.free = true ∧ y6.free = true ∧ y7.free = true ∧ OKL s 12 lots ∧ lots.length ≤ 64 ∧ (∃ l ∈ lots, l = lefts s) ∧ dIf (dT tBool (d2 gLe (dC1 gLen (aCons (dVar 2) aNil)) (dC (.int 6)))) (dFor (iA (dVar 2)) (bName 4) laB) leB (LE s row [[]] .no .no .no .no .no .no) = .ok (.nx (LE s row lots y4 y5 y6 y7 .no .no)) := by
    rw [x_if, x_t, x_d2, x_len0 (i := 2) (ss := s.names) (k := false) rfl, x_c, x_d2_ok, x_le, x_t_ok, x_tBool]
    by_cases h6 : (s.names.length : Int) ≤ 6
    · rw [decide_eq_true h6, x_if_t]
      obtain ⟨lots, y4, f4, h1, h2, h3, e⟩ := lotsA (row := row) (x4 := .no) (x5 := .no) (x6 := .no) (x7 := .no) (x8 := .no) (x9 := .no) k (by omega) rfl
      exact ⟨lots, y4, .no, .no, .no, f4, rfl, rfl, rfl, h1, h2, h3, e⟩
    · rw [decide_eq_false h6, x_if_f]
      exact lotsB k hr rfl rfl rfl rfl
  obtain ⟨lots, y4, y5, y6, y7, f4, f5, f6, f7, h1, h2, ⟨l0, h3, h3'⟩, e⟩ := br
  rw [x_seq, e, x_seq_nx]
  obtain ⟨z5, g5, q5⟩ := x_frz_any (i := 5) (g := dFrz 7 (dSeq (dSet 8 (dLst aNil)) (dSeq (dFor (iR1 (dC1 gLen (aCons (dVar 3) aNil))) (bName 6) ltB) (dFrz 9 (dRetV 8))))) (ρ := LE s row lots y4 y5 y6 y7 .no .no) rfl f5
  rw [q5]
  show ∃ ls : List (List Str), _ ∧ _ ∧ runK (dFrz 7 _ (LE s row lots y4 z5 y6 y7 .no .no)) = _
  obtain ⟨z7, g7, q7⟩ := x_frz_any (i := 7) (g := dSeq (dSet 8 (dLst aNil)) (dSeq (dFor (iR1 (dC1 gLen (aCons (dVar 3) aNil))) (bName 6) ltB) (dFrz 9 (dRetV 8)))) (ρ := LE s row lots y4 z5 y6 y7 .no .no) rfl f7
  rw [q7]
  show ∃ ls : List (List Str), _ ∧ _ ∧ runK (dSeq _ _ (LE s row lots y4 z5 y6 z7 .no .no)) = _
  rw [st_fr0 (i := 8) (y := .no) (f := dLst aNil) (ts := []) rfl rfl rfl]
  show ∃ ls : List (List Str), _ ∧ _ ∧ runK (dSeq _ _ (LE s row lots y4 z5 y6 z7 (.own ((([] : List (List Str)).map (seqS true)).map T.leaf)) .no)) = _
  have i1 : iR1 (dC1 gLen (aCons (dVar 3) aNil)) (LE s row lots y4 z5 y6 z7 (.own ((([] : List (List Str)).map (seqS true)).map T.leaf)) .no) = .ok (rangeD 0 lots.length) := by
    rw [x_rng (n := (lots.length : Nat)) (by omega) (by rw [x_len_own (ds := lots.map (seqS true)) rfl, List.length_map]), Int.toNat_natCast]
  obtain ⟨_, ⟨turned, u6, y9, w1, w2, w3, f6, f9, rfl⟩, e2⟩ := forD_range (b := bName 6) (g := ltB) (n := lots.length)
    (P := fun j ρ => ∃ (turned : List (List Str)) (x6 x9 : SV), (∀ l ∈ turned, LotOk s l) ∧ turned.length = j ∧ (∀ i, i < j → ∀ h : i < lots.length, ∃ l ∈ turned, ∀ x, x ∈ l ↔ x ∈ lots[i]) ∧ x6.free = true ∧ x9.free = true ∧ ρ = LE s row lots y4 z5 x6 z7 (.own ((turned.map (seqS true)).map T.leaf)) x9) (by
      rintro j hj ρ ⟨turned, x6, x9, w1, w2, w3, f6, f9, rfl⟩
      obtain ⟨l, y9, ⟨q1, q2⟩, g9, q3⟩ := ltB_ok (row := row) (x4 := y4) (x5 := z5) (x7 := z7) (x9 := x9) (turned := turned) h1 hj h2 hr (by omega) f9
      refine ⟨LE s row lots y4 z5 (.sh (.int (j : Int))) z7 (.own ((turned.map (seqS true)).map T.leaf)) x9, _, by simp only [LE, bName, putR, List.getElem?_cons_succ, List.getElem?_cons_zero, f6, if_true, List.set_cons_succ, List.set_cons_zero], q3, turned ++ [l], _, y9, fun l' hl' => ?_, by rw [List.length_append, List.length_singleton, w2], fun i hi hil => ?_, rfl, g9, rfl⟩
      · rcases List.mem_append.mp hl' with z | z
        · exact w1 l' z
        · rw [List.mem_singleton.mp z]
          exact ⟨fun x hx => (h1 _ (List.getElem_mem hj)).1 x ((q1 x).mp hx), by omega⟩
      · by_cases q : i < j
        · obtain ⟨l', a1, a2⟩ := w3 i q hil
          exact ⟨l', List.mem_append_left _ a1, a2⟩
        · have : i = j := by omega
          subst this
          exact ⟨l, by simp, q1⟩) _ ⟨[], y6, .no, (fun l hl => by cases hl), rfl, (fun i hi => by omega), f6, rfl, rfl⟩
  refine ⟨turned, w1, ?_, ?_⟩
  · obtain ⟨i, hi, rfl⟩ := List.getElem_of_mem h3
    obtain ⟨l, a1, a2⟩ := w3 i hi hi
    exact ⟨l, a1, fun x => by rw [a2, h3']⟩
  · rw [x_seq, x_for, i1, x_for_ok, e2, x_seq_nx]
    obtain ⟨z9, _, q9⟩ := x_frz_any (i := 9) (g := dRetV 8) (ρ := LE s row lots y4 z5 u6 z7 (.own ((turned.map (seqS true)).map T.leaf)) y9) rfl f9
    rw [q9]
    rfl
end
end K49
set_option Elab.async false
set_option linter.all false
set_option maxRecDepth 100000
namespace Dl
open PySem PySem.Spec PyProof.Rows L2
theorem enum_mem {ds : List D} {d : D} (h : d ∈ enumD 0 ds) : ∃ (i : Nat) (h : i < ds.length), d = .tup [.int (i : Int), ds[i]] := by
  obtain ⟨i, hi⟩ := List.getElem?_of_mem h
  rw [enumD_get, Nat.zero_add] at hi
  cases e : ds[i]? with
  | none => rw [e] at hi; cases hi
  | some x =>
    rw [e] at hi
    obtain ⟨hl, hx⟩ := List.getElem?_eq_some_iff.mp e
    exact ⟨i, hl, by rw [hx]; exact (Option.some.inj hi).symm⟩
end Dl
namespace K49
open PySem PySem.Spec PyProof.Rows L2 Dl
section
variable {s : Sn} {left o lot : List Str} {c : Str} {t : Tk} {ρ : Dl.Env} {x4 x5 x6 x7 x8 x9 : SV}
/-! ### Seen(..) raises nothing -/
def cg1 : Stm := dIf (dNotT (dT tTru (dCall 1 F_is_name [] (aCons (dVar 1) aNil)))) (dRaise "BadName" "name" (dVar 1)) dNext
def cg2 : Stm := dIf (dT tBool (d2 gIn (dVar 1) (dSl (dVar 0) none (some (dVar 2))))) (dRaise "TakenName" "name" (dVar 1)) dNext
theorem check_eq : g_check_guests = dSeq (dFor (iA (dVar 0)) (bName 1) cg1) (dFor (iEn (dVar 0)) (bTup 2 (bCons (bName 2) (bCons (bName 1) bNil))) cg2) := rfl
theorem check_ok (k : s.Ok) : F_check_guests [seqS true s.names] = .ok (.sh .non) := by
  rw [F_check_guests, x_run]
  generalize hG : g_check_guests = G
  show runK (G [.sh (seqS true s.names), .no, .no]) = _
  rw [← hG, check_eq]
  obtain ⟨_, ⟨x1, x2, f1, f2, rfl⟩, e⟩ := forD_idx (b := bName 1) (g := cg1) (c := D.str) (xs := s.names)
    (P := fun _ ρ => ∃ x1 x2 : SV, x1.free = true ∧ x2.free = true ∧ ρ = [.sh (seqS true s.names), x1, x2]) (by
      rintro j n hj ρ ⟨x1, x2, f1, f2, rfl⟩
      refine ⟨[.sh (seqS true s.names), .sh (.str n), x2], _, by simp only [bName, putR, List.getElem?_cons_succ, List.getElem?_cons_zero, f1, if_true, List.set_cons_succ, List.set_cons_zero], ?_, .sh (.str n), x2, rfl, f2, rfl⟩
      rw [cg1, x_if, x_notT, x_t, x_call, x_cons, v_sh (i := 1) (d := .str n) rfl, x_nil, x_cons_ok, x_call_ok, callN_s, k.nm n (List.mem_of_getElem? hj), x_t_ok, x_tTru, x_notT_ok]
      rfl) _ ⟨.no, .no, rfl, rfl, rfl⟩
  have i1 : iA (dVar 0) [.sh (seqS true s.names), .no, .no] = .ok (s.names.map D.str) := by rw [x_iA, v_sh (i := 0) (d := seqS true s.names) rfl, x_wK, walk_seq]
  rw [x_seq, x_for, i1, x_for_ok, e, x_seq_nx]
  obtain ⟨_, ⟨y1, y2, g1, g2, rfl⟩, e2⟩ := forD_keep (b := bTup 2 (bCons (bName 2) (bCons (bName 1) bNil))) (g := cg2) (ds := enumD 0 (s.names.map D.str))
    (P := fun ρ => ∃ x1 x2 : SV, x1.free = true ∧ x2.free = true ∧ ρ = [.sh (seqS true s.names), x1, x2]) (by
      rintro d hd ρ ⟨x1, x2, f1, f2, rfl⟩
      obtain ⟨i, hi, rfl⟩ := enum_mem hd
      rw [List.length_map] at hi
      refine ⟨[.sh (seqS true s.names), .sh (.str s.names[i]), .sh (.int (i : Int))], _, ?_, ?_, .sh (.str s.names[i]), .sh (.int (i : Int)), rfl, rfl, rfl⟩
      · simp [bTup, bCons, bNil, bName, putR, f1, f2]
      · have e3 : dSl (dVar 0) none (some (dVar 2)) [.sh (seqS true s.names), .sh (.str s.names[i]), .sh (.int (i : Int))] = .ok (.sh (seqS true (s.names.take i))) := by
          rw [x_sl, v_sh (i := 0) (d := seqS true s.names) rfl, x_sl_hi (v_sh (i := 2) (d := .int (i : Int)) rfl)]
          show gSl (.sh (.tup (s.names.map D.str))) _ _ = _
          rw [x_sl_bo, cut_takeS]
          rfl
        rw [cg2, x_if, x_t, x_d2, v_sh (i := 1) (d := .str s.names[i]) rfl, e3, x_d2_ok, in_seq (k.so _ (List.getElem_mem hi)) (fun n hn => k.so n (List.mem_of_mem_take hn)), decide_eq_false, x_t_ok, x_tBool]
        · rfl
        · intro hm
          obtain ⟨j, hj, ej⟩ := List.getElem_of_mem hm
          rw [List.length_take] at hj
          rw [List.getElem_take] at ej
          exact (List.pairwise_iff_getElem.mp k.nd) j i (by omega) hi (by omega) ej) _ ⟨x1, x2, f1, f2, rfl⟩
  have i2 : iEn (dVar 0) [.sh (seqS true s.names), x1, x2] = .ok (enumD 0 (s.names.map D.str)) := rfl
  rw [x_for, i2, x_for_ok, e2]
  rfl
theorem taking_eq : g_is_taking = dSeq (dAsg (dVar 1) (bTup 3 (bCons (bName 2) (bCons (bName 3) (bCons (bName 4) bNil)))))
  (dSeq (dIf (dOrT (dT tBool (d2 gNotIn (dVar 2) (dVar 0))) (dT tBool (d2 gNotIn (dVar 3) (dVar 4)))) (dRet (dC (.bl false))) dNext)
  (dRet (d2 gEq (dVar 4) (dC1 gTuple (aCons (dLc (iA (dVar 0)) (bName 5) (dT tBool (d2 gIn (dVar 5) (dVar 4))) (dVar 5) [5]) aNil))))) := rfl
theorem eq_seq {k : Bool} {ss : List Str} (hs : ∀ s ∈ ss, PyData.strOk s = true) : gEq (.sh (seqS k ss)) (.sh (seqS k ss)) = .ok (.sh (.bl true)) := by
  refine x_eq_t rfl (seq_fine hs) ?_
  have := seq_dep (ss := ss)
  have e : (seqS k ss).dep = D.deps (ss.map D.str) + 1 := by cases k <;> simp [seqS, D.dep]
  omega
theorem taking_ok (k : s.Ok) (ht : t ∈ s.tks) : F_is_taking [seqS true s.names, t.d] = .ok (.sh (.bl true)) := by
  rw [F_is_taking, x_run]
  generalize hG : g_is_taking = G
  show runK (G [.sh (seqS true s.names), .sh t.d, .no, .no, .no, .no]) = _
  rw [← hG, taking_eq]
  obtain ⟨hg, hch, hhs⟩ := k.tk t ht
  have hso := hs_so k ht
  have nl := k.nl
  have e1 : dAsg (dVar 1) (bTup 3 (bCons (bName 2) (bCons (bName 3) (bCons (bName 4) bNil)))) [.sh (seqS true s.names), .sh t.d, .no, .no, .no, .no] = .ok (.nx [.sh (seqS true s.names), .sh t.d, .sh (.str t.g), .sh (.str t.c), .sh (seqS true t.hs), .no]) := rfl
  rw [x_seq, e1, x_seq_nx, x_seq, x_if, x_orT, x_t, x_d2, v_sh (i := 2) (d := .str t.g) rfl, v_sh (i := 0) (d := seqS true s.names) rfl, x_d2_ok, nin_seq (k.so _ hg) k.so, decide_eq_true hg, x_t_ok, x_tBool]
  show runK (seqK _ (ifK _ _ _ (orK _ _ (.ok false)))) = _
  rw [x_orT_f, x_t, x_d2, v_sh (i := 3) (d := .str t.c) rfl, v_sh (i := 4) (d := seqS true t.hs) rfl, x_d2_ok, nin_seq (hso _ hch) hso, decide_eq_true hch, x_t_ok, x_tBool]
  have i1 : iA (dVar 0) [.sh (seqS true s.names), .sh t.d, .sh (.str t.g), .sh (.str t.c), .sh (seqS true t.hs), .no] = .ok (s.names.map D.str) := by rw [x_iA, v_sh (i := 0) (d := seqS true s.names) rfl, x_wK, walk_seq]
  show runK (seqK _ (ifK _ _ _ (.ok false))) = _
  rw [x_if_f, x_next, x_seq_nx, x_ret, x_d2, v_sh (i := 4) (d := seqS true t.hs) rfl, x_c1, x_cons, cnt_ok (v := 5) (l := 4) (hs := s.names) (ss := t.hs) (x := .sh (seqS true t.hs)) (y := .no) i1 rfl rfl (by decide) (.inl ⟨true, rfl⟩) k.so hso (by omega), ← hhs, x_nil, x_cons_ok, x_c1_ok, x_tuple_fr, x_leaves, x_d2_ok]
  have := eq_seq (k := true) hso
  rw [show (D.tup (t.hs.map D.str)) = seqS true t.hs from rfl, this]
  rfl
theorem tie_eq : g_is_tie = dSeq (dAsg (dVar 1) (bTup 2 (bCons (bName 2) (bCons (bName 3) bNil)))) (dRet (dAnd (d2 gIn (dVar 2) (dVar 0)) (dAnd (d2 gIn (dVar 3) (dVar 0)) (d2 gNe (dVar 2) (dVar 3))))) := rfl
theorem tie_ok {p : Str × Str} (k : s.Ok) (hp : p ∈ s.ties) : F_is_tie [seqS true s.names, tieD p] = .ok (.sh (.bl true)) := by
  rw [F_is_tie, x_run]
  generalize hG : g_is_tie = G
  show runK (G [.sh (seqS true s.names), .sh (tieD p), .no, .no]) = _
  rw [← hG, tie_eq]
  obtain ⟨h1, h2, h3⟩ := k.ti p hp
  have e1 : dAsg (dVar 1) (bTup 2 (bCons (bName 2) (bCons (bName 3) bNil))) [.sh (seqS true s.names), .sh (tieD p), .no, .no] = .ok (.nx [.sh (seqS true s.names), .sh (tieD p), .sh (.str p.1), .sh (.str p.2)]) := rfl
  rw [x_seq, e1, x_seq_nx, x_ret, x_and, x_d2, v_sh (i := 2) (d := .str p.1) rfl, v_sh (i := 0) (d := seqS true s.names) rfl, x_d2_ok, in_seq (k.so _ h1) k.so, decide_eq_true h1, x_and_t, x_and, x_d2, v_sh (i := 3) (d := .str p.2) rfl, v_sh (i := 0) (d := seqS true s.names) rfl, x_d2_ok, in_seq (k.so _ h2) k.so, decide_eq_true h2, x_and_t, x_d2, v_sh (i := 2) (d := .str p.1) rfl, v_sh (i := 3) (d := .str p.2) rfl, x_d2_ok, x_neS (k.so _ h1) (k.so _ h2), decide_eq_false h3]
  rfl
def siD : Stm := dIf (dT tBool (d2 gLt (dVar 5) (dC (.int 1)))) (dRaise "BadDepth" "depth" (dVar 5)) dNext
def siT : Stm := dIf (dNotT (dT tTru (dCall 2 F_is_taking [] (aCons (dFldMk 0 "Seen" "guests") (aCons (dVar 7) aNil))))) (dRaise "BadTaking" "index" (dVar 6)) dNext
def siP : Stm := dIf (dNotT (dT tTru (dCall 2 F_is_tie [] (aCons (dFldMk 0 "Seen" "guests") (aCons (dVar 8) aNil))))) (dRaise "BadTie" "index" (dVar 6)) dNext
def siR : Stm := dSeq (dDrop (dCall 1 F_check_guests [] (aCons (dFldMk 0 "Seen" "guests") aNil)))
  (dSeq (dFor (iA (dFldMk 0 "Seen" "depths")) (bName 5) siD)
  (dSeq (dFor (iEn (dFldMk 0 "Seen" "takings")) (bTup 2 (bCons (bName 6) (bCons (bName 7) bNil))) siT)
  (dFor (iEn (dFldMk 0 "Seen" "ties")) (bTup 2 (bCons (bName 6) (bCons (bName 8) bNil))) siP)))
theorem init_eq : g_Seen___init__ = dSeq (dFldSet 0 "Seen" "guests" (dCall 1 (F_frozen 6) [] (aCons (dVar 1) aNil))) (dSeq (dFldSet 0 "Seen" "takings" (dCall 1 (F_frozen 6) [] (aCons (dVar 2) aNil)))
  (dSeq (dFldSet 0 "Seen" "depths" (dCall 1 (F_frozen 6) [] (aCons (dVar 3) aNil))) (dSeq (dFldSet 0 "Seen" "ties" (dCall 1 (F_frozen 6) [] (aCons (dVar 4) aNil))) siR))) := rfl
def snF (s : Sn) : List (Str × D) := [("guests", .tup (s.names.map D.str)), ("takings", .tup (s.tks.map Tk.d)), ("depths", .tup (s.dep.map D.int)), ("ties", .tup (s.ties.map tieD))]
/-- d becomes e when frozen -/
def Fz (d e : D) : Prop := pl d = true ∧ d.dep < 6 ∧ frz d = e
theorem Fz.ok {d e : D} (h : Fz d e) : F_frozen 6 [d] = .ok (.sh e) := by
  obtain ⟨h1, h2, h3⟩ := h
  rw [← h3]
  exact frozen_ok d 6 h1 h2
theorem siR_ok {a1 a2 a3 a4 : SV} (k : s.Ok) : ∃ x5 x6 x7 x8 : SV, siR [.mk "Seen" (snF s), a1, a2, a3, a4, .no, .no, .no, .no] = .ok (.nx [.mk "Seen" (snF s), a1, a2, a3, a4, x5, x6, x7, x8]) := by
  have gf : ∀ x5 x6 x7 x8 : SV, dFldMk 0 "Seen" "guests" [.mk "Seen" (snF s), a1, a2, a3, a4, x5, x6, x7, x8] = .ok (.sh (seqS true s.names)) := fun _ _ _ _ => rfl
  have e0 : dDrop (dCall 1 F_check_guests [] (aCons (dFldMk 0 "Seen" "guests") aNil)) [.mk "Seen" (snF s), a1, a2, a3, a4, .no, .no, .no, .no] = .ok (.nx [.mk "Seen" (snF s), a1, a2, a3, a4, .no, .no, .no, .no]) := by
    have q : dCall 1 F_check_guests [] (aCons (dFldMk 0 "Seen" "guests") aNil) [.mk "Seen" (snF s), a1, a2, a3, a4, .no, .no, .no, .no] = .ok (.sh .non) := by
      rw [x_call, x_cons, gf, x_nil, x_cons_ok, x_call_ok, callN_s, check_ok k]
    unfold dDrop
    rw [q]
    rfl
  obtain ⟨_, ⟨x5, f5, rfl⟩, e1⟩ := forD_idx (b := bName 5) (g := siD) (c := D.int) (xs := s.dep)
    (P := fun _ ρ => ∃ x5 : SV, x5.free = true ∧ ρ = [.mk "Seen" (snF s), a1, a2, a3, a4, x5, .no, .no, .no]) (by
      rintro j d hj ρ ⟨x5, f5, rfl⟩
      have hd := k.dp d (List.mem_of_getElem? hj)
      refine ⟨[.mk "Seen" (snF s), a1, a2, a3, a4, .sh (.int d), .no, .no, .no], _, by simp only [bName, putR, List.getElem?_cons_succ, List.getElem?_cons_zero, f5, if_true, List.set_cons_succ, List.set_cons_zero], ?_, .sh (.int d), rfl, rfl⟩
      rw [siD, x_if, x_t, x_d2, v_sh (i := 5) (d := .int d) rfl, x_c, x_d2_ok, x_lt, decide_eq_false (by omega), x_t_ok, x_tBool]
      rfl) _ ⟨.no, rfl, rfl⟩
  obtain ⟨_, ⟨x6, x7, f6, f7, rfl⟩, e2⟩ := forD_keep (b := bTup 2 (bCons (bName 6) (bCons (bName 7) bNil))) (g := siT) (ds := enumD 0 (s.tks.map Tk.d))
    (P := fun ρ => ∃ x6 x7 : SV, x6.free = true ∧ x7.free = true ∧ ρ = [.mk "Seen" (snF s), a1, a2, a3, a4, x5, x6, x7, .no]) (by
      rintro d hd ρ ⟨x6, x7, f6, f7, rfl⟩
      obtain ⟨i, hi, rfl⟩ := enum_mem hd
      rw [List.length_map] at hi
      refine ⟨[.mk "Seen" (snF s), a1, a2, a3, a4, x5, .sh (.int (i : Int)), .sh s.tks[i].d, .no], _, ?_, ?_, .sh (.int (i : Int)), .sh s.tks[i].d, rfl, rfl, rfl⟩
      · simp [bTup, bCons, bNil, bName, putR, f6, f7]
      · rw [siT, x_if, x_notT, x_t, x_call, x_cons, x_cons, gf, v_sh (i := 7) (d := s.tks[i].d) rfl, x_nil, x_cons_ok, x_cons_ok, x_call_ok, callN_ss, taking_ok k (List.getElem_mem hi), x_t_ok, x_tTru, x_notT_ok]
        rfl) _ ⟨.no, .no, rfl, rfl, rfl⟩
  obtain ⟨_, ⟨y6, x8, g6, f8, rfl⟩, e3⟩ := forD_keep (b := bTup 2 (bCons (bName 6) (bCons (bName 8) bNil))) (g := siP) (ds := enumD 0 (s.ties.map tieD))
    (P := fun ρ => ∃ x6 x8 : SV, x6.free = true ∧ x8.free = true ∧ ρ = [.mk "Seen" (snF s), a1, a2, a3, a4, x5, x6, x7, x8]) (by
      rintro d hd ρ ⟨x6, x8, f6, f8, rfl⟩
      obtain ⟨i, hi, rfl⟩ := enum_mem hd
      rw [List.length_map] at hi
      refine ⟨[.mk "Seen" (snF s), a1, a2, a3, a4, x5, .sh (.int (i : Int)), x7, .sh (tieD s.ties[i])], _, ?_, ?_, .sh (.int (i : Int)), .sh (tieD s.ties[i]), rfl, rfl, rfl⟩
      · simp [bTup, bCons, bNil, bName, putR, f6, f8]
      · rw [siP, x_if, x_notT, x_t, x_call, x_cons, x_cons, gf, v_sh (i := 8) (d := tieD s.ties[i]) rfl, x_nil, x_cons_ok, x_cons_ok, x_call_ok, callN_ss, tie_ok k (List.getElem_mem hi), x_t_ok, x_tTru, x_notT_ok]
        rfl) _ ⟨x6, .no, f6, rfl, rfl⟩
  refine ⟨x5, y6, x7, x8, ?_⟩
  have i1 : iA (dFldMk 0 "Seen" "depths") [.mk "Seen" (snF s), a1, a2, a3, a4, .no, .no, .no, .no] = .ok (s.dep.map D.int) := rfl
  have i2 : iEn (dFldMk 0 "Seen" "takings") [.mk "Seen" (snF s), a1, a2, a3, a4, x5, .no, .no, .no] = .ok (enumD 0 (s.tks.map Tk.d)) := rfl
  have i3 : iEn (dFldMk 0 "Seen" "ties") [.mk "Seen" (snF s), a1, a2, a3, a4, x5, x6, x7, .no] = .ok (enumD 0 (s.ties.map tieD)) := rfl
  rw [siR, x_seq, e0, x_seq_nx, x_seq, x_for, i1, x_for_ok, e1, x_seq_nx, x_seq, x_for, i2, x_for_ok, e2, x_seq_nx, x_for, i3, x_for_ok, e3]
theorem fset {i : Nat} {C f : Str} {fv : Dl.Env → Res EV} {d : D} {fs : List (Str × D)} (hf : fv ρ = .ok (.sh d)) (hi : ρ[i]? = some (.mk C fs)) (hl : fs.length < 1000) : dFldSet i C f fv ρ = .ok (.nx (ρ.set i (.mk C (putFD f d fs)))) := by
  unfold dFldSet
  rw [hf]
  show (match ρ[i]?, EV.sh d with | some (.mk C' fs), .sh d => _ | _, _ => _) = _
  rw [hi]
  exact if_pos ⟨rfl, hl⟩
theorem seen_ok {a1 a2 a3 a4 : D} (k : s.Ok) (h1 : Fz a1 (.tup (s.names.map D.str))) (h2 : Fz a2 (.tup (s.tks.map Tk.d))) (h3 : Fz a3 (.tup (s.dep.map D.int))) (h4 : Fz a4 (.tup (s.ties.map tieD))) :
    mkF "Seen" F_Seen___init__ [a1, a2, a3, a4] = .ok (.sh s.o) := by
  have fc : ∀ (ρ : Dl.Env) (i : Nat) (d e : D), ρ[i]? = some (.sh d) → Fz d e → dCall 1 (F_frozen 6) [] (aCons (dVar i) aNil) ρ = .ok (.sh e) := fun ρ i d e hi h => by
    rw [x_call, x_cons, v_sh hi, x_nil, x_cons_ok, x_call_ok, callN_s, h.ok]
  obtain ⟨x5, x6, x7, x8, er⟩ := siR_ok (a1 := .sh a1) (a2 := .sh a2) (a3 := .sh a3) (a4 := .sh a4) k
  have run : g_Seen___init__ [.mk "Seen" [], .sh a1, .sh a2, .sh a3, .sh a4, .no, .no, .no, .no] = .ok (.nx [.mk "Seen" (snF s), .sh a1, .sh a2, .sh a3, .sh a4, x5, x6, x7, x8]) := by
    rw [init_eq, x_seq, fset (i := 0) (fs := []) (fc _ 1 a1 _ rfl h1) rfl (by simp), x_seq_nx]
    show dSeq _ _ [.mk "Seen" [("guests", .tup (s.names.map D.str))], .sh a1, .sh a2, .sh a3, .sh a4, .no, .no, .no, .no] = _
    rw [x_seq, fset (i := 0) (fc _ 2 a2 _ rfl h2) rfl (by simp), x_seq_nx]
    show dSeq _ _ [.mk "Seen" [("guests", .tup (s.names.map D.str)), ("takings", .tup (s.tks.map Tk.d))], .sh a1, .sh a2, .sh a3, .sh a4, .no, .no, .no, .no] = _
    rw [x_seq, fset (i := 0) (fc _ 3 a3 _ rfl h3) rfl (by simp), x_seq_nx]
    show dSeq _ _ [.mk "Seen" [("guests", .tup (s.names.map D.str)), ("takings", .tup (s.tks.map Tk.d)), ("depths", .tup (s.dep.map D.int))], .sh a1, .sh a2, .sh a3, .sh a4, .no, .no, .no, .no] = _
    rw [x_seq, fset (i := 0) (fc _ 4 a4 _ rfl h4) rfl (by simp), x_seq_nx]
    exact er
  unfold mkF
  have e : F_Seen___init__ [a1, a2, a3, a4] = .ok (snF s) := by
    rw [F_Seen___init__]
    generalize g_Seen___init__ = G at run
    unfold initD
    show (match G [.mk "Seen" [], .sh a1, .sh a2, .sh a3, .sh a4, .no, .no, .no, .no] with | .ok (.nx ρ) => _ | .ok (.ex z _) => _ | _ => _) = _
    rw [run]
    rfl
  rw [e]
  rfl
end
end K49
set_option Elab.async false
set_option linter.all false
set_option maxRecDepth 100000
namespace Dl
open PySem PySem.Spec PyProof.Rows L2
theorem callN_fsff {F : List D → Res EV} {a c d : List T} {b : D} : callN 4 F [] [.fr a, .sh b, .fr c, .fr d] = F [.lst (T.toDs a), b, .lst (T.toDs c), .lst (T.toDs d)] := callN_nb rfl rfl
theorem callN_ffff {F : List D → Res EV} {a b c d : List T} : callN 4 F [] [.fr a, .fr b, .fr c, .fr d] = F [.lst (T.toDs a), .lst (T.toDs b), .lst (T.toDs c), .lst (T.toDs d)] := callN_nb rfl rfl
end Dl
namespace K49
open PySem PySem.Spec PyProof.Rows L2 Dl
section
variable {s : Sn} {left o lot : List Str} {c : Str} {t : Tk} {ρ : Dl.Env} {x4 x5 x6 x7 x8 x9 : SV}
/-! ### what is handed to Seen -/
def Fn (n : Nat) (d e : D) : Prop := pl d = true ∧ d.dep < n ∧ frz d = e
theorem fn_str {n : Nat} {z : Str} : Fn (n + 1) (.str z) (.str z) := ⟨rfl, by simp [D.dep], rfl⟩
theorem fn_int {n : Nat} {z : Int} : Fn (n + 1) (.int z) (.int z) := ⟨rfl, by simp [D.dep], rfl⟩
theorem fns {n : Nat} {α : Type} {f g : α → D} : ∀ {xs : List α}, (∀ x ∈ xs, Fn (n + 1) (f x) (g x)) → pls (xs.map f) = true ∧ D.deps (xs.map f) < n + 1 ∧ frzs (xs.map f) = xs.map g
  | [], _ => ⟨rfl, by simp [D.deps], rfl⟩
  | x :: xs, h => by
    obtain ⟨a1, a2, a3⟩ := h x List.mem_cons_self
    obtain ⟨b1, b2, b3⟩ := fns (xs := xs) fun y hy => h y (List.mem_cons_of_mem _ hy)
    refine ⟨?_, ?_, ?_⟩
    · show (pl (f x) && pls (xs.map f)) = true
      rw [a1, b1]
      rfl
    · show max (f x).dep (D.deps (xs.map f)) < n + 1
      omega
    · show frz (f x) :: frzs (xs.map f) = _
      rw [a3, b3]
      rfl
theorem fn_tup {n : Nat} {α : Type} {f g : α → D} {xs : List α} (hl : xs.length ≤ 1000) (h : ∀ x ∈ xs, Fn (n + 1) (f x) (g x)) : Fn (n + 2) (.tup (xs.map f)) (.tup (xs.map g)) := by
  obtain ⟨h1, h2, h3⟩ := fns h
  refine ⟨?_, ?_, ?_⟩
  · show (decide ((xs.map f).length ≤ 1000) && pls (xs.map f)) = true
    rw [h1, Bool.and_true, List.length_map]
    exact decide_eq_true hl
  · show D.deps (xs.map f) + 1 < n + 2
    omega
  · show D.tup (frzs (xs.map f)) = _
    rw [h3]
theorem fn_lst {n : Nat} {α : Type} {f g : α → D} {xs : List α} (hl : xs.length ≤ 1000) (h : ∀ x ∈ xs, Fn (n + 1) (f x) (g x)) : Fn (n + 2) (.lst (xs.map f)) (.tup (xs.map g)) := by
  obtain ⟨h1, h2, h3⟩ := fns h
  refine ⟨?_, ?_, ?_⟩
  · show (decide ((xs.map f).length ≤ 1000) && pls (xs.map f)) = true
    rw [h1, Bool.and_true, List.length_map]
    exact decide_eq_true hl
  · show D.deps (xs.map f) + 1 < n + 2
    omega
  · show D.tup (frzs (xs.map f)) = _
    rw [h3]
theorem fn_tk (k : s.Ok) (ht : t ∈ s.tks) : Fn 5 t.d t.d := by
  have := fn_tup (n := 3) (f := id) (g := id) (xs := [.str t.g, .str t.c, .tup (t.hs.map D.str)]) (by simp) fun x hx => by
    simp only [List.mem_cons, List.not_mem_nil, or_false] at hx
    rcases hx with rfl | rfl | rfl
    · exact fn_str
    · exact fn_str
    · exact fn_tup (n := 2) (by have := hs_len k ht; omega) fun _ _ => fn_str
  exact this
def Tk.l (t : Tk) : D := .lst [.str t.g, .str t.c, .lst (t.hs.map D.str)]
theorem fn_tkl (k : s.Ok) (ht : t ∈ s.tks) : Fn 5 t.l t.d := by
  have := fn_lst (n := 3) (α := D × D) (f := (·.1)) (g := (·.2)) (xs := [(.str t.g, .str t.g), (.str t.c, .str t.c), (.lst (t.hs.map D.str), .tup (t.hs.map D.str))]) (by simp) fun x hx => by
    simp only [List.mem_cons, List.not_mem_nil, or_false] at hx
    rcases hx with rfl | rfl | rfl
    · exact fn_str
    · exact fn_str
    · exact fn_lst (n := 2) (by have := hs_len k ht; omega) fun _ _ => fn_str
  exact this
def tieL (p : Str × Str) : D := .lst [.str p.1, .str p.2]
theorem fn_tie {p : Str × Str} : Fn 5 (tieD p) (tieD p) := by
  have := fn_tup (n := 3) (f := D.str) (g := D.str) (xs := [p.1, p.2]) (by simp) fun _ _ => fn_str
  exact this
theorem fn_tiel {p : Str × Str} : Fn 5 (tieL p) (tieD p) := by
  have := fn_lst (n := 3) (f := D.str) (g := D.str) (xs := [p.1, p.2]) (by simp) fun _ _ => fn_str
  exact this
theorem fz_names (k : s.Ok) : Fz (.tup (s.names.map D.str)) (.tup (s.names.map D.str)) ∧ Fz (.lst (s.names.map D.str)) (.tup (s.names.map D.str)) := by
  have nl := k.nl
  exact ⟨fn_tup (n := 4) (by omega) fun _ _ => fn_str, fn_lst (n := 4) (by omega) fun _ _ => fn_str⟩
theorem fz_deps (k : s.Ok) : Fz (.tup (s.dep.map D.int)) (.tup (s.dep.map D.int)) ∧ Fz (.lst (s.dep.map D.int)) (.tup (s.dep.map D.int)) := by
  have nl := k.nl
  have dl := k.dl
  exact ⟨fn_tup (n := 4) (by omega) fun _ _ => fn_int, fn_lst (n := 4) (by omega) fun _ _ => fn_int⟩
theorem fz_tks (k : s.Ok) : Fz (.tup (s.tks.map Tk.d)) (.tup (s.tks.map Tk.d)) ∧ Fz (.lst (s.tks.map Tk.d)) (.tup (s.tks.map Tk.d)) ∧ Fz (.lst (s.tks.map Tk.l)) (.tup (s.tks.map Tk.d)) := by
  have tl := k.tl
  exact ⟨fn_tup (n := 4) (by omega) fun _ h => fn_tk k h, fn_lst (n := 4) (by omega) fun _ h => fn_tk k h, fn_lst (n := 4) (by omega) fun _ h => fn_tkl k h⟩
theorem fz_ties (k : s.Ok) : Fz (.tup (s.ties.map tieD)) (.tup (s.ties.map tieD)) ∧ Fz (.lst (s.ties.map tieD)) (.tup (s.ties.map tieD)) ∧ Fz (.lst (s.ties.map tieL)) (.tup (s.ties.map tieD)) := by
  have tl := k.til
  exact ⟨fn_tup (n := 4) (by omega) fun _ h => fn_tie, fn_lst (n := 4) (by omega) fun _ h => fn_tie, fn_lst (n := 4) (by omega) fun _ h => fn_tiel⟩
/-! ### made -/
def mdT (i : Int) : Dl.Env → Res EV := dC1 gTuple (aCons (d2 gIx (dVar 0) (dC (.int i))) aNil)
def mdL (i : Int) : Dl.Env → Res EV := dC1 gList (aCons (d2 gIx (dVar 0) (dC (.int i))) aNil)
def mdC : Dl.Env → Res EV := dLc (iA (d2 gIx (dVar 0) (dC (.int 1)))) (bName 3) dYes (dLst (aCons (d2 gIx (dVar 3) (dC (.int 0))) (aCons (d2 gIx (dVar 3) (dC (.int 1))) (aCons (dC1 gList (aCons (d2 gIx (dVar 3) (dC (.int 2))) aNil)) aNil)))) [3]
def mdP : Dl.Env → Res EV := dLc (iA (d2 gIx (dVar 0) (dC (.int 3)))) (bName 4) dYes (dC1 gList (aCons (dVar 4) aNil)) [4]
theorem made_eq : g_l_made = dSeq (dIf (dT tBool (d2 gEq (dVar 1) (dC (.int 0)))) (dRet (dCall 4 (mkF "Seen" F_Seen___init__) [] (aCons (mdT 0) (aCons (mdT 1) (aCons (mdT 2) (aCons (mdT 3) aNil)))))) dNext)
  (dSeq (dIf (dT tBool (d2 gEq (dVar 1) (dC (.int 1)))) (dSeq (dSet 2 mdC) (dFrz 2 (dRet (dCall 4 (mkF "Seen" F_Seen___init__) [] (aCons (mdL 0) (aCons (dVar 2) (aCons (mdL 2) (aCons mdP aNil)))))))) dNext)
  (dFrz 2 (dRet (dCall 4 (mkF "Seen" F_Seen___init__) [] (aCons (mdL 0) (aCons (mdL 1) (aCons (mdL 2) (aCons (mdL 3) aNil)))))))) := rfl
theorem md_L {i : Int} {ds : List D} (h : d2 gIx (dVar 0) (dC (.int i)) ρ = .ok (.sh (.lst ds))) : mdL i ρ = .ok (.fr (ds.map T.leaf)) := by
  rw [mdL, x_c1, x_cons, h, x_nil, x_cons_ok, x_c1_ok]
  rfl
theorem md_T {i : Int} {ds : List D} (h : d2 gIx (dVar 0) (dC (.int i)) ρ = .ok (.sh (.lst ds))) : mdT i ρ = .ok (.sh (.tup ds)) := by
  rw [mdT, x_c1, x_cons, h, x_nil, x_cons_ok, x_c1_ok]
  rfl
def tkT (t : Tk) : T := .node [.leaf (.str t.g), .leaf (.str t.c), .node ((t.hs.map D.str).map T.leaf)]
theorem tkT_l : ∀ ts : List Tk, T.toDs (ts.map tkT) = ts.map Tk.l
  | [] => rfl
  | t :: ts => by
    rw [List.map_cons, x_toDs_cons, tkT_l ts]
    show D.lst [.str t.g, .str t.c, .lst (T.toDs ((t.hs.map D.str).map T.leaf))] :: _ = _
    rw [x_leaves]
    rfl
def tieT (p : Str × Str) : T := .node [.leaf (.str p.1), .leaf (.str p.2)]
theorem tieT_l : ∀ ts : List (Str × Str), T.toDs (ts.map tieT) = ts.map tieL
  | [] => rfl
  | t :: ts => by
    rw [List.map_cons, x_toDs_cons, tieT_l ts]
    rfl
theorem mdC_ok (k : s.Ok) (h0 : ρ[0]? = some (.sh s.d)) (h3 : ρ[3]? = some x4) : mdC ρ = .ok (.fr (s.tks.map tkT)) := by
  have tl := k.tl
  have i1 : iA (d2 gIx (dVar 0) (dC (.int 1))) ρ = .ok (s.tks.map Tk.d) := by rw [x_iA, ix1 h0, x_wK, x_walk_lst]
  rw [mdC, x_lc, x_wipe1, i1, x_lcT_of (c := Tk.d) (k := tkT) (by omega) fun t ht => ⟨_, .fr [.leaf (.str t.g), .leaf (.str t.c), .node ((t.hs.map D.str).map T.leaf)], bn h3, rfl, ?_, rfl⟩]
  have g3 : (ρ.set 3 (.sh t.d))[3]? = some (.sh t.d) := get_set h3
  rw [x_lst, x_cons, x_cons, x_cons, tk0 g3, tk1 g3, x_c1, x_cons, tk2 g3, x_nil, x_cons_ok, x_c1_ok, x_list_tup]
  rfl
theorem mdP_ok (k : s.Ok) (h0 : ρ[0]? = some (.sh s.d)) (h4 : ρ[4]? = some x4) : mdP ρ = .ok (.fr (s.ties.map tieT)) := by
  have tl := k.til
  have i1 : iA (d2 gIx (dVar 0) (dC (.int 3))) ρ = .ok (s.ties.map tieD) := by rw [x_iA, ix3 h0, x_wK, x_walk_lst]
  rw [mdP, x_lc, x_wipe1, i1, x_lcT_of (c := tieD) (k := tieT) (by omega) fun p hp => ⟨_, .fr [.leaf (.str p.1), .leaf (.str p.2)], bn h4, rfl, ?_, rfl⟩]
  rw [x_c1, x_cons, v_sh (get_set h4), x_nil, x_cons_ok, x_c1_ok]
  rfl
theorem made_ok {i : Int} (k : s.Ok) : F_l_made [s.d, .int i] = .ok (.sh s.o) := by
  rw [F_l_made, x_run]
  generalize hG : g_l_made = G
  show runK (G [.sh s.d, .sh (.int i), .no, .no, .no]) = _
  rw [← hG, made_eq, x_seq, x_if, x_t, x_d2, v_sh (i := 1) (d := .int i) rfl, x_c, x_d2_ok, x_eqI, x_t_ok, x_tBool]
  by_cases h0 : i = 0
  · rw [decide_eq_true h0, x_if_t, x_ret, x_call, x_cons, x_cons, x_cons, x_cons, md_T (ix0 (s := s) rfl), md_T (ix1 (s := s) rfl), md_T (ix2 (s := s) rfl), md_T (ix3 (s := s) rfl), x_nil, x_cons_ok, x_cons_ok, x_cons_ok, x_cons_ok, x_call_ok, callN_ssss, seen_ok k (fz_names k).1 (fz_tks k).1 (fz_deps k).1 (fz_ties k).1]
    rfl
  · rw [decide_eq_false h0, x_if_f, x_next, x_seq_nx, x_seq, x_if, x_t, x_d2, v_sh (i := 1) (d := .int i) rfl, x_c, x_d2_ok, x_eqI, x_t_ok, x_tBool]
    by_cases h1 : i = 1
    · rw [decide_eq_true h1, x_if_t, st_fr (i := 2) (y := .no) (mdC_ok (s := s) (x4 := .no) k rfl rfl) rfl rfl, tkT_l]
      show runK (seqK _ (dRet _ [.sh s.d, .sh (.int i), .sh (.lst (s.tks.map Tk.l)), .no, .no])) = _
      rw [x_ret, x_call, x_cons, x_cons, x_cons, x_cons, md_L (ix0 (s := s) rfl), v_sh (i := 2) (d := .lst (s.tks.map Tk.l)) rfl, md_L (ix2 (s := s) rfl), mdP_ok (s := s) (x4 := .no) k rfl rfl, x_nil, x_cons_ok, x_cons_ok, x_cons_ok, x_cons_ok, x_call_ok, callN_fsff, x_leaves, x_leaves, tieT_l, seen_ok k (fz_names k).2 (fz_tks k).2.2 (fz_deps k).2 (fz_ties k).2.2]
      rfl
    · rw [decide_eq_false h1, x_if_f, x_next, x_seq_nx]
      show runK (dRet _ [.sh s.d, .sh (.int i), .no, .no, .no]) = _
      rw [x_ret, x_call, x_cons, x_cons, x_cons, x_cons, md_L (ix0 (s := s) rfl), md_L (ix1 (s := s) rfl), md_L (ix2 (s := s) rfl), md_L (ix3 (s := s) rfl), x_nil, x_cons_ok, x_cons_ok, x_cons_ok, x_cons_ok, x_call_ok, callN_ffff, x_leaves, x_leaves, x_leaves, x_leaves, seen_ok k (fz_names k).2 (fz_tks k).2.1 (fz_deps k).2 (fz_ties k).2.1]
      rfl
def Sn.more (s : Sn) (p : Str × Str) : Sn := { s with ties := s.ties ++ [p] }
theorem tied_ok {p : Str × Str} (k : (s.more p).Ok) : F_Seen_tied [s.o, .str p.1, .str p.2] = .ok (.sh (s.more p).o) := by
  rw [F_Seen_tied, x_run]
  show runK (dRet _ [.sh s.o, .sh (.str p.1), .sh (.str p.2)]) = _
  have tl := k.til
  have e : d2 gAdd (dFld "Seen" "ties" (dVar 0)) (dTup (aCons (dTup (aCons (dVar 1) (aCons (dVar 2) aNil))) aNil)) [.sh s.o, .sh (.str p.1), .sh (.str p.2)] = .ok (.sh (.tup ((s.more p).ties.map tieD))) := by
    rw [x_d2, x_fld, v_sh (i := 0) (d := s.o) rfl, fld_ties, x_tup, x_cons, x_tup, x_cons, x_cons, v_sh (i := 1) (d := .str p.1) rfl, v_sh (i := 2) (d := .str p.2) rfl, x_nil, x_cons_ok, x_cons_ok, x_tup2, x_cons_ok, x_tup1, x_d2_ok, add_tups]
    · show _ = Res.ok (EV.sh (D.tup ((s.ties ++ [p]).map tieD)))
      rw [List.map_append]
      rfl
    · have : (s.more p).ties.length = s.ties.length + 1 := by simp [Sn.more]
      rw [List.length_map, List.length_singleton]
      omega
  rw [x_ret, x_call, x_cons, x_cons, x_cons, x_cons, e, x_fld, x_fld, x_fld, v_sh (i := 0) (d := s.o) rfl, fld_guests, fld_takings, fld_depths, x_nil, x_cons_ok, x_cons_ok, x_cons_ok, x_cons_ok, x_call_ok, callN_ssss]
  have := seen_ok k (fz_names k).1 (fz_tks k).1 (fz_deps k).1 (fz_ties k).1
  have e2 : mkF "Seen" F_Seen___init__ [seqS true s.names, .tup (s.tks.map Tk.d), .tup (s.dep.map D.int), .tup ((s.more p).ties.map tieD)] = .ok (.sh (s.more p).o) := this
  rw [e2]
  rfl
end
end K49
set_option Elab.async false
set_option linter.all false
set_option maxRecDepth 100000
namespace K49
open PySem PySem.Spec PyProof.Rows L2 Dl
def isOk (r : Res EV) : Bool := match r with
  | .ok (.sh (.bl b)) => b
  | _ => false
theorem isOk_eq {r : Res EV} (h : isOk r = true) : r = .ok (.sh (.bl true)) := by
  unfold isOk at h
  split at h
  · rw [h]
  · cases h
def menu : List Str := [("ada" : Str), ("b2" : Str), ("cleo" : Str), ("z" : Str), ("eve9" : Str), ("in" : Str), ("gus4gus8" : Str), ("ann" : Str), ("out" : Str), ("mo" : Str), ("hal3" : Str), ("k" : Str)]
def signC : List Nat := ("tbxkwmzcehnf" : Str).cps.toList
def ins (p : Nat) (c : Str) : Str := cutS "anna" none (some (p : Int)) ++ c ++ cutS "anna" (some (p : Int)) none
def nameOf (d k : Nat) : Str := if d % 2 = 0 then (menu[(d / 2 * 7 + k * 5) % 12]?).getD "" else ins (d / 2 % 5) ⟨#[(signC[(d / 10 + k * 7) % 12]?).getD 0]⟩
theorem name_is : ∀ d < 120, ∀ k < 12, isOk (F_is_name [.str (nameOf d k)]) = true := by decide +kernel
theorem name_nd : ∀ d < 120, ((List.range 12).map (nameOf d)).Nodup := by decide +kernel
theorem name_so : ∀ d < 120, ∀ k < 12, PyData.strOk (nameOf d k) = true := by decide +kernel
section
variable {ρ : Dl.Env} {x4 x5 x6 : SV}
theorem lc_nat {it : Itf} {v n : Nat} {f : Dl.Env → Res EV} {k : Nat → D} {y : SV} (hit : it ρ = .ok ((List.range n).map fun (j : Nat) => D.int j)) (hn : n ≤ 1000) (hv : ρ[v]? = some y) (q : ∀ j, j < n → f (ρ.set v (.sh (.int (j : Int)))) = .ok (.sh (k j))) :
    dLc it (bName v) dYes f [v] ρ = .ok (.fr (((List.range n).map k).map T.leaf)) := by
  rw [x_lc, x_wipe1, hit, x_lc_of (c := fun (j : Nat) => D.int j) (p := fun _ => true) (k := k) (by rw [List.length_range]; omega) fun j hj => ⟨_, bn hv, rfl, fun _ => q j (List.mem_range.mp hj)⟩, filter_yes]
theorem rng_var {i n : Nat} (h : ρ[i]? = some (.sh (.int (n : Int)))) (hn : n < 1000) : iR1 (dVar i) ρ = .ok ((List.range n).map fun (j : Nat) => D.int j) := by
  rw [x_rng (n := (n : Int)) (by omega) (v_sh h), Int.toNat_natCast, Dl.range_map]
theorem names_eq : g_l_names = dSeq (dSet 2 (dLst (aCons (dC (.str "ada")) (aCons (dC (.str "b2")) (aCons (dC (.str "cleo")) (aCons (dC (.str "z")) (aCons (dC (.str "eve9")) (aCons (dC (.str "in")) (aCons (dC (.str "gus4gus8")) (aCons (dC (.str "ann")) (aCons (dC (.str "out")) (aCons (dC (.str "mo")) (aCons (dC (.str "hal3")) (aCons (dC (.str "k")) aNil))))))))))))))
  (dFrz 2 (dSeq (dIf (dT tBool (d2 gEq (d2 gMod (dC1 gInt (aCons (dVar 0) aNil)) (dC (.int 2))) (dC (.int 0))))
  (dRet (dLc (iR1 (dVar 1)) (bName 5) dYes (d2 gIx (dVar 2) (d2 gMod (dC1 gInt (aCons (d2 gAdd (d2 gMul (d2 gFdv (dVar 0) (dC (.int 2))) (dC (.int 7))) (d2 gMul (dVar 5) (dC (.int 5)))) aNil)) (dC (.int 12)))) [5]))
  dNext)
  (dSeq (dSet 3 (d2 gMod (d2 gFdv (dC1 gInt (aCons (dVar 0) aNil)) (dC (.int 2))) (dC (.int 5))))
  (dSeq (dSet 4 (dLc (iR1 (dVar 1)) (bName 5) dYes (d2 gIx (dC (.str "tbxkwmzcehnf")) (d2 gMod (dC1 gInt (aCons (d2 gAdd (d2 gFdv (dVar 0) (dC (.int 10))) (d2 gMul (dVar 5) (dC (.int 7)))) aNil)) (dC (.int 12)))) [5]))
  (dFrz 4 (dRet (dLc (iA (dVar 4)) (bName 6) dYes (d2 gAdd (d2 gAdd (dSl (dC (.str "anna")) none (some (dVar 3))) (dVar 6)) (dSl (dC (.str "anna")) (some (dVar 3)) none)) [6]))))))) := rfl
theorem ins_len : ∀ p < 5, (cutS "anna" none (some ((p : Nat) : Int))).length ≤ 4 ∧ (cutS "anna" (some ((p : Nat) : Int)) none).length ≤ 4 := by decide +kernel
theorem mm {d m : Nat} : (List.range m).map (fun j => D.str (nameOf d j)) = ((List.range m).map (nameOf d)).map D.str := by
  rw [List.map_map]
  rfl
theorem menu_len : menu.length = 12 := rfl
theorem sign_len : signC.length = 12 := by decide +kernel
theorem names_ok {d m : Nat} (hd : d < 120) (hm : m ≤ 12) : F_l_names [.int (d : Int), .int (m : Int)] = .ok (.fr ((((List.range m).map (nameOf d)).map D.str).map T.leaf)) := by
  rw [F_l_names, x_run]
  generalize hG : g_l_names = G
  show runK (G [.sh (.int (d : Int)), .sh (.int (m : Int)), .no, .no, .no, .no, .no]) = _
  rw [← hG, names_eq, st_fr (i := 2) (ts := (menu.map D.str).map T.leaf) (y := .no) rfl rfl rfl, x_leaves]
  show runK (dSeq _ _ [.sh (.int (d : Int)), .sh (.int (m : Int)), .sh (seqS false menu), .no, .no, .no, .no]) = _
  have tst : dT tBool (d2 gEq (d2 gMod (dC1 gInt (aCons (dVar 0) aNil)) (dC (.int 2))) (dC (.int 0))) [.sh (.int (d : Int)), .sh (.int (m : Int)), .sh (seqS false menu), .no, .no, .no, .no] = .ok (decide ((d : Int) % 2 = 0)) := by
    rw [x_t, x_d2, x_modv (a := (d : Int)) (n := 2) (v_sh rfl) x_c (by omega), x_c, x_d2_ok, x_eqI, x_t_ok, x_tBool]
  rw [x_seq, x_if, tst]
  by_cases h2 : d % 2 = 0
  · have e1 : dLc (iR1 (dVar 1)) (bName 5) dYes (d2 gIx (dVar 2) (d2 gMod (dC1 gInt (aCons (d2 gAdd (d2 gMul (d2 gFdv (dVar 0) (dC (.int 2))) (dC (.int 7))) (d2 gMul (dVar 5) (dC (.int 5)))) aNil)) (dC (.int 12)))) [5] [.sh (.int (d : Int)), .sh (.int (m : Int)), .sh (seqS false menu), .no, .no, .no, .no] = .ok (.fr (((List.range m).map fun j => D.str (nameOf d j)).map T.leaf)) := by
      refine lc_nat (v := 5) (rng_var rfl (by omega)) (by omega) rfl fun j hj => ?_
      show d2 _ _ _ [.sh (.int (d : Int)), .sh (.int (m : Int)), .sh (seqS false menu), .no, .no, .sh (.int (j : Int)), .no] = _
      have a1 : d2 gAdd (d2 gMul (d2 gFdv (dVar 0) (dC (.int 2))) (dC (.int 7))) (d2 gMul (dVar 5) (dC (.int 5))) [.sh (.int (d : Int)), .sh (.int (m : Int)), .sh (seqS false menu), .no, .no, .sh (.int (j : Int)), .no] = .ok (.sh (.int ((d : Int) / 2 * 7 + (j : Int) * 5))) := by
        rw [x_d2, x_d2, x_d2, v_sh (i := 0) (d := .int (d : Int)) rfl, x_c, x_d2_ok, x_fdv (by omega) (by omega), x_c, x_d2_ok, x_mulR (by omega), x_d2, v_sh (i := 5) (d := .int (j : Int)) rfl, x_c, x_d2_ok, x_mulR (by omega), x_d2_ok, x_add]
      rw [x_d2, v_sh (i := 2) (d := seqS false menu) rfl, x_modv a1 x_c (by omega), x_d2_ok, show ((d : Int) / 2 * 7 + (j : Int) * 5) % 12 = (((d / 2 * 7 + j * 5) % 12 : Nat) : Int) by omega]
      unfold nameOf
      rw [if_pos h2]
      have hl : (d / 2 * 7 + j * 5) % 12 < menu.length := by rw [menu_len]; omega
      exact x_ixL (by rw [List.getElem?_map, List.getElem?_eq_getElem hl]; rfl)
    rw [decide_eq_true (show (d : Int) % 2 = 0 by omega), x_if_t, x_ret, e1, mm]
    rfl
  · have e3 : d2 gMod (d2 gFdv (dC1 gInt (aCons (dVar 0) aNil)) (dC (.int 2))) (dC (.int 5)) [.sh (.int (d : Int)), .sh (.int (m : Int)), .sh (seqS false menu), .no, .no, .no, .no] = .ok (.sh (.int ((d / 2 % 5 : Nat) : Int))) := by
      rw [x_d2, x_d2, x_c1, x_cons, v_sh (i := 0) (d := .int (d : Int)) rfl, x_nil, x_cons_ok, x_c1_ok, x_int1, x_c, x_d2_ok, x_fdv (by omega) (by omega), x_c, x_d2_ok, x_mod (by omega)]
      rfl
    have hp : d / 2 % 5 < 5 := by omega
    rw [decide_eq_false (show ¬ (d : Int) % 2 = 0 by omega), x_if_f, x_next, x_seq_nx, st_sh0 (i := 3) (y := .no) e3 rfl rfl]
    show runK (dSeq _ _ [.sh (.int (d : Int)), .sh (.int (m : Int)), .sh (seqS false menu), .sh (.int ((d / 2 % 5 : Nat) : Int)), .no, .no, .no]) = _
    have e4 : dLc (iR1 (dVar 1)) (bName 5) dYes (d2 gIx (dC (.str "tbxkwmzcehnf")) (d2 gMod (dC1 gInt (aCons (d2 gAdd (d2 gFdv (dVar 0) (dC (.int 10))) (d2 gMul (dVar 5) (dC (.int 7)))) aNil)) (dC (.int 12)))) [5] [.sh (.int (d : Int)), .sh (.int (m : Int)), .sh (seqS false menu), .sh (.int ((d / 2 % 5 : Nat) : Int)), .no, .no, .no] = .ok (.fr (((List.range m).map fun j => D.str ⟨#[(signC[(d / 10 + j * 7) % 12]?).getD 0]⟩).map T.leaf)) := by
      refine lc_nat (v := 5) (rng_var rfl (by omega)) (by omega) rfl fun j hj => ?_
      show d2 _ _ _ [.sh (.int (d : Int)), .sh (.int (m : Int)), .sh (seqS false menu), .sh (.int ((d / 2 % 5 : Nat) : Int)), .no, .sh (.int (j : Int)), .no] = _
      have a1 : d2 gAdd (d2 gFdv (dVar 0) (dC (.int 10))) (d2 gMul (dVar 5) (dC (.int 7))) [.sh (.int (d : Int)), .sh (.int (m : Int)), .sh (seqS false menu), .sh (.int ((d / 2 % 5 : Nat) : Int)), .no, .sh (.int (j : Int)), .no] = .ok (.sh (.int ((d : Int) / 10 + (j : Int) * 7))) := by
        rw [x_d2, x_d2, v_sh (i := 0) (d := .int (d : Int)) rfl, x_c, x_d2_ok, x_fdv (by omega) (by omega), x_d2, v_sh (i := 5) (d := .int (j : Int)) rfl, x_c, x_d2_ok, x_mulR (by omega), x_d2_ok, x_add]
      have hl : (d / 10 + j * 7) % 12 < signC.length := by rw [sign_len]; omega
      rw [x_d2, x_c, x_modv a1 x_c (by omega), x_d2_ok, show ((d : Int) / 10 + (j : Int) * 7) % 12 = (((d / 10 + j * 7) % 12 : Nat) : Int) by omega, List.getElem?_eq_getElem hl]
      exact x_ixSz (by decide +kernel) (by omega) (by rw [Int.toNat_natCast]; exact List.getElem?_eq_getElem hl)
    rw [st_fr (i := 4) (y := .no) e4 rfl rfl, x_leaves]
    show runK (dRet _ [.sh (.int (d : Int)), .sh (.int (m : Int)), .sh (seqS false menu), .sh (.int ((d / 2 % 5 : Nat) : Int)), .sh (.lst ((List.range m).map fun j => D.str ⟨#[(signC[(d / 10 + j * 7) % 12]?).getD 0]⟩)), .no, .no]) = _
    generalize hp2 : d / 2 % 5 = p at hp
    have e5 : dLc (iA (dVar 4)) (bName 6) dYes (d2 gAdd (d2 gAdd (dSl (dC (.str "anna")) none (some (dVar 3))) (dVar 6)) (dSl (dC (.str "anna")) (some (dVar 3)) none)) [6] [.sh (.int (d : Int)), .sh (.int (m : Int)), .sh (seqS false menu), .sh (.int (p : Int)), .sh (.lst ((List.range m).map fun j => D.str ⟨#[(signC[(d / 10 + j * 7) % 12]?).getD 0]⟩)), .no, .no] = .ok (.fr (((List.range m).map fun j => D.str (nameOf d j)).map T.leaf)) := by
      have i1 : iA (dVar 4) [.sh (.int (d : Int)), .sh (.int (m : Int)), .sh (seqS false menu), .sh (.int (p : Int)), .sh (.lst ((List.range m).map fun j => D.str ⟨#[(signC[(d / 10 + j * 7) % 12]?).getD 0]⟩)), .no, .no] = .ok ((List.range m).map fun j => D.str ⟨#[(signC[(d / 10 + j * 7) % 12]?).getD 0]⟩) := by
        rw [x_iA, v_sh (i := 4) rfl, x_wK, x_walk_lst]
      rw [x_lc, x_wipe1, i1, x_lc_of (c := fun (j : Nat) => D.str ⟨#[(signC[(d / 10 + j * 7) % 12]?).getD 0]⟩) (p := fun _ => true) (k := fun (j : Nat) => D.str (nameOf d j)) (by rw [List.length_range]; omega) fun j hj => ⟨[.sh (.int (d : Int)), .sh (.int (m : Int)), .sh (seqS false menu), .sh (.int (p : Int)), .sh (.lst ((List.range m).map fun j => D.str ⟨#[(signC[(d / 10 + j * 7) % 12]?).getD 0]⟩)), .no, .sh (.str ⟨#[(signC[(d / 10 + j * 7) % 12]?).getD 0]⟩)], rfl, rfl, fun _ => ?_⟩, filter_yes]
      have b1 : dSl (dC (.str "anna")) none (some (dVar 3)) [.sh (.int (d : Int)), .sh (.int (m : Int)), .sh (seqS false menu), .sh (.int (p : Int)), .sh (.lst ((List.range m).map fun j => D.str ⟨#[(signC[(d / 10 + j * 7) % 12]?).getD 0]⟩)), .no, .sh (.str ⟨#[(signC[(d / 10 + j * 7) % 12]?).getD 0]⟩)] = .ok (.sh (.str (cutS "anna" none (some (p : Int))))) := by
        rw [x_sl, x_c, x_sl_hi (v_sh (i := 3) (d := .int (p : Int)) rfl), x_slS (by decide +kernel)]
      have b2 : dSl (dC (.str "anna")) (some (dVar 3)) none [.sh (.int (d : Int)), .sh (.int (m : Int)), .sh (seqS false menu), .sh (.int (p : Int)), .sh (.lst ((List.range m).map fun j => D.str ⟨#[(signC[(d / 10 + j * 7) % 12]?).getD 0]⟩)), .no, .sh (.str ⟨#[(signC[(d / 10 + j * 7) % 12]?).getD 0]⟩)] = .ok (.sh (.str (cutS "anna" (some (p : Int)) none))) := by
        rw [x_sl, x_c, x_sl_lo (v_sh (i := 3) (d := .int (p : Int)) rfl), x_slS (by decide +kernel)]
      obtain ⟨l1, l2⟩ := ins_len p hp
      have lz : ∀ z, (⟨#[z]⟩ : Str).length = 1 := fun _ => rfl
      rw [x_d2, x_d2, b1, b2, v_sh (i := 6) (d := .str ⟨#[(signC[(d / 10 + j * 7) % 12]?).getD 0]⟩) rfl, x_d2_ok, x_addS (by rw [lz]; omega), x_d2_ok, x_addS (by rw [len_app, lz]; omega)]
      unfold nameOf ins
      rw [if_neg h2, hp2]
    rw [x_ret, e5, mm]
    rfl
end
end K49
set_option Elab.async false
set_option linter.all false
set_option maxRecDepth 100000
namespace Dl
open PySem PySem.Spec PyProof.Rows L2
section
variable {ρ : Dl.Env}
theorem x_ixe {i j : Nat} {f : Dl.Env → Res EV} {ds : List D} {d : D} (hi : ρ[i]? = some (.sh (.lst ds))) (hf : f ρ = .ok (.sh (.int (j : Int)))) (hd : ds[j]? = some d) : d2 gIx (dVar i) f ρ = .ok (.sh d) := by
  rw [x_d2, v_sh hi, hf, x_d2_ok]
  exact x_ixL hd
theorem get_map {α : Type} {f : α → D} {xs : List α} {j : Nat} (h : j < xs.length) : (xs.map f)[j]? = some (f xs[j]) := by
  rw [List.getElem?_map, List.getElem?_eq_getElem h]
  rfl
theorem x_int0 {i : Nat} {n : Int} (h : ρ[i]? = some (.sh (.int n))) : dVar i ρ = .ok (.sh (.int n)) := v_sh h
theorem x_addE {f g : Dl.Env → Res EV} {a b : Int} {c : Nat} (hf : f ρ = .ok (.sh (.int a))) (hg : g ρ = .ok (.sh (.int b))) (hc : a + b = (c : Int)) : d2 gAdd f g ρ = .ok (.sh (.int (c : Int))) := by
  rw [x_d2, hf, hg, x_d2_ok, x_add, hc]
theorem x_mulE {f g : Dl.Env → Res EV} {a b : Int} {c : Nat} (hf : f ρ = .ok (.sh (.int a))) (hg : g ρ = .ok (.sh (.int b))) (ha : 0 ≤ a ∧ a < 1000000) (hc : a * b = (c : Int)) : d2 gMul f g ρ = .ok (.sh (.int (c : Int))) := by
  rw [x_d2, hf, hg, x_d2_ok, x_mulL (by omega), hc]
theorem x_gtT {f g : Dl.Env → Res EV} {a b : Int} (hf : f ρ = .ok (.sh (.int a))) (hg : g ρ = .ok (.sh (.int b))) : dT tBool (d2 gGt f g) ρ = .ok (decide (b < a)) := by
  rw [x_t, x_d2, hf, hg, x_d2_ok, x_gt, x_t_ok, x_tBool]
theorem x_ltT {f g : Dl.Env → Res EV} {a b : Int} (hf : f ρ = .ok (.sh (.int a))) (hg : g ρ = .ok (.sh (.int b))) : dT tBool (d2 gLt f g) ρ = .ok (decide (a < b)) := by
  rw [x_t, x_d2, hf, hg, x_d2_ok, x_lt, x_t_ok, x_tBool]
theorem x_geT {f g : Dl.Env → Res EV} {a b : Int} (hf : f ρ = .ok (.sh (.int a))) (hg : g ρ = .ok (.sh (.int b))) : dT tBool (d2 gGe f g) ρ = .ok (decide (b ≤ a)) := by
  rw [x_t, x_d2, hf, hg, x_d2_ok, x_ge, x_t_ok, x_tBool]
theorem x_eqT {f g : Dl.Env → Res EV} {a b : Int} (hf : f ρ = .ok (.sh (.int a))) (hg : g ρ = .ok (.sh (.int b))) : dT tBool (d2 gEq f g) ρ = .ok (decide (a = b)) := by
  rw [x_t, x_d2, hf, hg, x_d2_ok, x_eqI, x_t_ok, x_tBool]
/-- y[x % len(y)] of a list of texts -/
theorem pick {i : Nat} {f : Dl.Env → Res EV} {ss : List Str} {a : Int} (hi : ρ[i]? = some (.sh (.lst (ss.map D.str)))) (hf : f ρ = .ok (.sh (.int a))) (hs : ss ≠ []) : ∃ c ∈ ss, d2 gIx (dVar i) (d2 gMod (dC1 gInt (aCons f aNil)) (dC1 gLen (aCons (dVar i) aNil))) ρ = .ok (.sh (.str c)) := by
  have hp : 0 < ss.length := List.length_pos_iff.mpr hs
  obtain ⟨j, hj, ej⟩ := modN (a := a) hp
  have hl := x_len_sh hi
  rw [List.length_map] at hl
  refine ⟨ss[j], List.getElem_mem hj, x_ixe (j := j) hi ?_ (get_map hj)⟩
  rw [x_modv hf hl (by omega), ej]
end
theorem sub_filter {l l' : List Str} (h : l'.Sublist l) (nd : l.Nodup) : l' = l.filter fun x => decide (x ∈ l') := by
  induction h with
  | slnil => rfl
  | cons a h ih =>
    obtain ⟨n1, n2⟩ := List.nodup_cons.mp nd
    have := fun z => n1 (h.subset z)
    rw [List.filter_cons, if_neg (by simpa using this)]
    exact ih n2
  | cons_cons a h ih =>
    obtain ⟨n1, n2⟩ := List.nodup_cons.mp nd
    rw [List.filter_cons, if_pos (by simp)]
    congr 1
    refine (ih n2).trans (List.filter_congr fun x hx => ?_)
    have : x ≠ a := fun z => n1 (z ▸ hx)
    simp [this]
end Dl
namespace K49
open PySem PySem.Spec PyProof.Rows L2 Dl
section
variable {ρ : Dl.Env} {names ranked : List Str} {dep row : List Int} {w : Int}
def tkH : Dl.Env → Res EV := dLc (iR1 (dC1 gLen (aCons (dVar 0) aNil))) (bName 8) (dT tBool (d2 gGt (d2 gIx (dVar 4) (d2 gAdd (dC (.int 3)) (dVar 8))) (dC (.int 0)))) (d2 gIx (dVar 0) (dVar 8)) [8]
def tkK : Dl.Env → Res EV := dLc (iA (dVar 2)) (bName 9) (dT tBool (d2 gIn (dVar 9) (dVar 6))) (dVar 9) [9]
theorem mktaking_eq : g_l_taking = dSeq (dSet 5 (d2 gMod (dC1 gInt (aCons (d2 gIx (dVar 4) (dC (.int 0))) aNil)) (dC1 gLen (aCons (dVar 0) aNil))))
  (dSeq (dSet 6 tkH) (dFrz 6 (dSeq (dIf (dT tBool (d2 gEq (dC1 gLen (aCons (dVar 6) aNil)) (dC (.int 0))))
  (dSet 6 (dLst (aCons (d2 gIx (dVar 0) (d2 gMod (dC1 gInt (aCons (d2 gIx (dVar 4) (dC (.int 2))) aNil)) (dC1 gLen (aCons (dVar 0) aNil)))) aNil))) dNext)
  (dFrz 6 (dSeq (dSet 7 tkK) (dFrz 7 (dSeq (dIf (dT tBool (d2 gGe (d2 gIx (dVar 4) (dC (.int 1))) (dVar 3)))
  (dRet (dTup (aCons (d2 gIx (dVar 0) (dVar 5)) (aCons (d2 gIx (dVar 6) (d2 gMod (dC1 gInt (aCons (d2 gIx (dVar 4) (dC (.int 2))) aNil)) (dC1 gLen (aCons (dVar 6) aNil)))) (aCons (dC1 gTuple (aCons (dVar 6) aNil)) aNil))))) dNext)
  (dRet (dTup (aCons (d2 gIx (dVar 0) (dVar 5)) (aCons (d2 gIx (dVar 7) (d2 gMod (dC1 gInt (aCons (d2 gIx (dVar 4) (dC (.int 2))) aNil)) (dC1 gMin (aCons (dC1 gLen (aCons (dVar 7) aNil)) (aCons (d2 gIx (dVar 1) (dVar 5)) aNil))))) (aCons (dC1 gTuple (aCons (dVar 6) aNil)) aNil)))))))))))) := rfl
theorem min_ok {a b : Int} : gMin [.sh (.int a), .sh (.int b)] = .ok (.sh (.int (if b < a then b else a))) := rfl
theorem range_get (ss : List Str) : (List.range ss.length).map (fun j => (ss[j]?).getD ("" : Str)) = ss := by
  refine List.ext_getElem (by rw [List.length_map, List.length_range]) fun i h1 h2 => ?_
  rw [List.getElem_map, List.getElem_range, List.getElem?_eq_getElem h2]
  rfl
theorem taking_made (so : ∀ n ∈ names, PyData.strOk n = true) (nd : names.Nodup) (ne : names ≠ []) (nl : names.length ≤ 12) (hr : ∀ n ∈ names, n ∈ ranked) (hr2 : ∀ n ∈ ranked, n ∈ names) (rl : ranked.length ≤ 12) (dl : dep.length = names.length) (dp : ∀ d ∈ dep, 1 ≤ d) (hrow : 15 ≤ row.length) :
    ∃ t : Tk, (t.g ∈ names ∧ t.c ∈ t.hs ∧ t.hs = names.filter fun n => decide (n ∈ t.hs)) ∧ F_l_taking [seqS false names, .lst (dep.map D.int), seqS false ranked, .int w, .lst (row.map D.int)] = .ok (.sh t.d) := by
  rw [F_l_taking, x_run]
  generalize hG : g_l_taking = G
  show ∃ t : Tk, _ ∧ runK (G [.sh (seqS false names), .sh (.lst (dep.map D.int)), .sh (seqS false ranked), .sh (.int w), .sh (.lst (row.map D.int)), .no, .no, .no, .no, .no]) = _
  rw [← hG, mktaking_eq]
  have hp : 0 < names.length := List.length_pos_iff.mpr ne
  obtain ⟨g, hg, eg⟩ := modN (a := row[0]) hp
  have row_ix : ∀ {τ : Dl.Env} {i : Int} (j : Nat) (h : j < row.length), τ[4]? = some (.sh (.lst (row.map D.int))) → i = (j : Int) → d2 gIx (dVar 4) (dC (.int i)) τ = .ok (.sh (.int row[j])) := fun {τ i} j h h4 hi => by
    rw [hi]
    exact x_ixe h4 x_c (get_map h)
  have e1 : d2 gMod (dC1 gInt (aCons (d2 gIx (dVar 4) (dC (.int 0))) aNil)) (dC1 gLen (aCons (dVar 0) aNil)) [.sh (seqS false names), .sh (.lst (dep.map D.int)), .sh (seqS false ranked), .sh (.int w), .sh (.lst (row.map D.int)), .no, .no, .no, .no, .no] = .ok (.sh (.int (g : Int))) := by
    rw [x_modv (row_ix (i := 0) 0 (by omega) rfl rfl) (x_len0 (i := 0) (ss := names) (k := false) rfl) (by omega), eg]
  rw [st_sh0 (i := 5) (y := .no) e1 rfl rfl]
  show ∃ t : Tk, _ ∧ runK (dSeq _ _ [.sh (seqS false names), .sh (.lst (dep.map D.int)), .sh (seqS false ranked), .sh (.int w), .sh (.lst (row.map D.int)), .sh (.int (g : Int)), .no, .no, .no, .no]) = _
  have e2 : tkH [.sh (seqS false names), .sh (.lst (dep.map D.int)), .sh (seqS false ranked), .sh (.int w), .sh (.lst (row.map D.int)), .sh (.int (g : Int)), .no, .no, .no, .no] = .ok (.fr (((((List.range names.length).filter fun j => decide (0 < (row[3 + j]?).getD 0)).map fun j => (names[j]?).getD ("" : Str)).map D.str).map T.leaf)) := by
    have i1 : iR1 (dC1 gLen (aCons (dVar 0) aNil)) [.sh (seqS false names), .sh (.lst (dep.map D.int)), .sh (seqS false ranked), .sh (.int w), .sh (.lst (row.map D.int)), .sh (.int (g : Int)), .no, .no, .no, .no] = .ok ((List.range names.length).map fun (j : Nat) => D.int j) := by
      rw [x_rng (n := (names.length : Nat)) (by omega) (x_len0 (k := false) rfl), Int.toNat_natCast, Dl.range_map]
    rw [tkH, x_lc, x_wipe1, i1, x_lc_of (c := fun (j : Nat) => D.int j) (p := fun (j : Nat) => decide (0 < (row[3 + j]?).getD 0)) (k := fun (j : Nat) => D.str ((names[j]?).getD ("" : Str))) (by rw [List.length_range]; omega) fun j hj => ⟨[.sh (seqS false names), .sh (.lst (dep.map D.int)), .sh (seqS false ranked), .sh (.int w), .sh (.lst (row.map D.int)), .sh (.int (g : Int)), .no, .no, .sh (.int (j : Int)), .no], rfl, ?_, fun _ => ?_⟩]
    · rw [List.map_map, List.map_map, List.map_map]
      rfl
    · have hj' := List.mem_range.mp hj
      have hl : 3 + j < row.length := by omega
      rw [x_gtT (b := 0) (x_ixe (i := 4) (j := 3 + j) (ds := row.map D.int) rfl (x_addE (a := 3) (b := (j : Int)) x_c (v_sh rfl) (by omega)) (get_map hl)) x_c, List.getElem?_eq_getElem hl]
      rfl
    · have hj' := List.mem_range.mp hj
      rw [List.getElem?_eq_getElem hj']
      exact x_ixv (i := 0) (k := 8) (j := j) (ds := names.map D.str) rfl rfl (get_map hj')
  rw [st_fr (i := 6) (y := .no) e2 rfl rfl, x_leaves]
  have sub : (((List.range names.length).filter fun j => decide (0 < (row[3 + j]?).getD 0)).map fun j => (names[j]?).getD ("" : Str)).Sublist names := by
    have := (List.filter_sublist (l := List.range names.length) (p := fun j => decide (0 < (row[3 + j]?).getD 0))).map fun j => (names[j]?).getD ("" : Str)
    rwa [range_get] at this
  generalize ((List.range names.length).filter fun j => decide (0 < (row[3 + j]?).getD 0)).map (fun j => (names[j]?).getD ("" : Str)) = h0 at sub
  show ∃ t : Tk, _ ∧ runK (dSeq _ _ [.sh (seqS false names), .sh (.lst (dep.map D.int)), .sh (seqS false ranked), .sh (.int w), .sh (.lst (row.map D.int)), .sh (.int (g : Int)), .sh (seqS false h0), .no, .no, .no]) = _
  have step : ∃ (hs : List Str) (y : SV), hs ≠ [] ∧ hs.Sublist names ∧ dIf (dT tBool (d2 gEq (dC1 gLen (aCons (dVar 6) aNil)) (dC (.int 0)))) (dSet 6 (dLst (aCons (d2 gIx (dVar 0) (d2 gMod (dC1 gInt (aCons (d2 gIx (dVar 4) (dC (.int 2))) aNil)) (dC1 gLen (aCons (dVar 0) aNil)))) aNil))) dNext [.sh (seqS false names), .sh (.lst (dep.map D.int)), .sh (seqS false ranked), .sh (.int w), .sh (.lst (row.map D.int)), .sh (.int (g : Int)), .sh (seqS false h0), .no, .no, .no] = .ok (.nx [.sh (seqS false names), .sh (.lst (dep.map D.int)), .sh (seqS false ranked), .sh (.int w), .sh (.lst (row.map D.int)), .sh (.int (g : Int)), y, .no, .no, .no]) ∧
      ∀ K, dFrz 6 K [.sh (seqS false names), .sh (.lst (dep.map D.int)), .sh (seqS false ranked), .sh (.int w), .sh (.lst (row.map D.int)), .sh (.int (g : Int)), y, .no, .no, .no] = K [.sh (seqS false names), .sh (.lst (dep.map D.int)), .sh (seqS false ranked), .sh (.int w), .sh (.lst (row.map D.int)), .sh (.int (g : Int)), .sh (seqS false hs), .no, .no, .no] := by
    rw [x_if, x_eqT (x_len0 (i := 6) (ss := h0) (k := false) rfl) x_c]
    by_cases e : h0 = []
    · obtain ⟨c, hc, ec⟩ := pick (ρ := [.sh (seqS false names), .sh (.lst (dep.map D.int)), .sh (seqS false ranked), .sh (.int w), .sh (.lst (row.map D.int)), .sh (.int (g : Int)), .sh (seqS false h0), .no, .no, .no]) (i := 0) (ss := names) rfl (row_ix (i := 2) 2 (by omega) rfl rfl) ne
      refine ⟨[c], .own [.leaf (.str c)], by simp, List.singleton_sublist.mpr hc, ?_, fun K => rfl⟩
      rw [decide_eq_true (by rw [e]; rfl), x_if_t, x_set, x_lst, x_cons, ec, x_nil, x_cons_ok]
      rfl
    · have h1 : 0 < h0.length := List.length_pos_iff.mpr e
      refine ⟨h0, .sh (seqS false h0), e, sub, ?_, fun K => rfl⟩
      rw [decide_eq_false (by omega)]
      rfl
  obtain ⟨hs, y, hne, hsub, es, ef⟩ := step
  rw [x_seq, es, x_seq_nx, ef]
  have hso : ∀ n ∈ hs, PyData.strOk n = true := fun n hn => so n (hsub.subset hn)
  have e3 : tkK [.sh (seqS false names), .sh (.lst (dep.map D.int)), .sh (seqS false ranked), .sh (.int w), .sh (.lst (row.map D.int)), .sh (.int (g : Int)), .sh (seqS false hs), .no, .no, .no] = .ok (.fr (((held hs ranked).map D.str).map T.leaf)) := by
    have i1 : iA (dVar 2) [.sh (seqS false names), .sh (.lst (dep.map D.int)), .sh (seqS false ranked), .sh (.int w), .sh (.lst (row.map D.int)), .sh (.int (g : Int)), .sh (seqS false hs), .no, .no, .no] = .ok (ranked.map D.str) := by rw [x_iA, v_sh (i := 2) (d := seqS false ranked) rfl, x_wK, walk_seq]
    rw [tkK, cnt_ok (v := 9) (l := 6) (hs := ranked) (ss := hs) (x := .sh (seqS false hs)) (y := .no) i1 rfl rfl (by decide) (.inl ⟨false, rfl⟩) (fun n hn => so n (hr2 n hn)) hso (by omega)]
    rfl
  have kne : held hs ranked ≠ [] := by
    obtain ⟨x, hx⟩ := List.exists_mem_of_ne_nil _ hne
    intro z
    have : x ∈ held hs ranked := List.mem_filter.mpr ⟨hr x (hsub.subset hx), by simpa using hx⟩
    rw [z] at this
    cases this
  have kin : ∀ x ∈ held hs ranked, x ∈ hs := fun x hx => by simpa using (List.mem_filter.mp hx).2
  have hd : g < dep.length := by omega
  have dpos := dp dep[g] (List.getElem_mem hd)
  rw [st_fr (i := 7) (y := .no) e3 rfl rfl, x_leaves]
  generalize held hs ranked = liked at kne kin
  have hfil := sub_filter hsub nd
  show ∃ t : Tk, _ ∧ runK (dSeq _ _ [.sh (seqS false names), .sh (.lst (dep.map D.int)), .sh (seqS false ranked), .sh (.int w), .sh (.lst (row.map D.int)), .sh (.int (g : Int)), .sh (seqS false hs), .sh (seqS false liked), .no, .no]) = _
  generalize hρ : ([.sh (seqS false names), .sh (.lst (dep.map D.int)), .sh (seqS false ranked), .sh (.int w), .sh (.lst (row.map D.int)), .sh (.int (g : Int)), .sh (seqS false hs), .sh (seqS false liked), .no, .no] : Dl.Env) = ρ
  have r0 : ρ[0]? = some (.sh (.lst (names.map D.str))) := by rw [← hρ]; rfl
  have r1 : ρ[1]? = some (.sh (.lst (dep.map D.int))) := by rw [← hρ]; rfl
  have r3 : ρ[3]? = some (.sh (.int w)) := by rw [← hρ]; rfl
  have r4 : ρ[4]? = some (.sh (.lst (row.map D.int))) := by rw [← hρ]; rfl
  have r5 : ρ[5]? = some (.sh (.int (g : Int))) := by rw [← hρ]; rfl
  have r6 : ρ[6]? = some (.sh (.lst (hs.map D.str))) := by rw [← hρ]; rfl
  have r7 : ρ[7]? = some (.sh (.lst (liked.map D.str))) := by rw [← hρ]; rfl
  have eg2 : d2 gIx (dVar 0) (dVar 5) ρ = .ok (.sh (.str names[g])) := x_ixv r0 r5 (get_map hg)
  have et : dC1 gTuple (aCons (dVar 6) aNil) ρ = .ok (.sh (.tup (hs.map D.str))) := by
    rw [x_c1, x_cons, v_sh r6, x_nil, x_cons_ok, x_c1_ok, x_tuple_lst]
  have ec : dT tBool (d2 gGe (d2 gIx (dVar 4) (dC (.int 1))) (dVar 3)) ρ = .ok (decide (w ≤ row[1])) := x_geT (row_ix (i := 1) 1 (by omega) r4 rfl) (v_sh r3)
  obtain ⟨c1, hc1, e5⟩ := pick (ρ := ρ) (i := 6) (ss := hs) r6 (row_ix (i := 2) 2 (by omega) r4 rfl) hne
  rw [x_seq, x_if, ec]
  by_cases hw : w ≤ row[1]
  · refine ⟨⟨names[g], c1, hs⟩, ⟨List.getElem_mem hg, hc1, hfil⟩, ?_⟩
    rw [decide_eq_true hw, x_if_t, x_ret, x_tup, x_cons, x_cons, x_cons, eg2, e5, et, x_nil, x_cons_ok, x_cons_ok, x_cons_ok, x_tup3]
    rfl
  · have hk : 0 < liked.length := List.length_pos_iff.mpr kne
    have em : dC1 gMin (aCons (dC1 gLen (aCons (dVar 7) aNil)) (aCons (d2 gIx (dVar 1) (dVar 5)) aNil)) ρ = .ok (.sh (.int (if dep[g] < (liked.length : Int) then dep[g] else (liked.length : Int)))) := by
      have hl := x_len_sh r7
      rw [List.length_map] at hl
      rw [x_c1, x_cons, x_cons, hl, x_ixv r1 r5 (get_map hd), x_nil, x_cons_ok, x_cons_ok, x_c1_ok, min_ok]
    obtain ⟨m, hm1, hm2, em2⟩ : ∃ m : Nat, 0 < m ∧ m ≤ liked.length ∧ (if dep[g] < (liked.length : Int) then dep[g] else (liked.length : Int)) = (m : Int) := by
      split
      · exact ⟨dep[g].toNat, by omega, by omega, by omega⟩
      · exact ⟨liked.length, hk, Nat.le_refl _, rfl⟩
    rw [em2] at em
    obtain ⟨j, hj, ej⟩ := modN (a := row[2]) hm1
    have hjl : j < liked.length := by omega
    have e6 : d2 gIx (dVar 7) (d2 gMod (dC1 gInt (aCons (d2 gIx (dVar 4) (dC (.int 2))) aNil)) (dC1 gMin (aCons (dC1 gLen (aCons (dVar 7) aNil)) (aCons (d2 gIx (dVar 1) (dVar 5)) aNil)))) ρ = .ok (.sh (.str liked[j])) := by
      refine x_ixe (j := j) r7 ?_ (get_map hjl)
      rw [x_modv (row_ix (i := 2) 2 (by omega) r4 rfl) em (by omega), ej]
    refine ⟨⟨names[g], liked[j], hs⟩, ⟨List.getElem_mem hg, kin _ (List.getElem_mem hjl), hfil⟩, ?_⟩
    rw [decide_eq_false hw, x_if_f, x_next, x_seq_nx, x_ret, x_tup, x_cons, x_cons, x_cons, eg2, e6, et, x_nil, x_cons_ok, x_cons_ok, x_cons_ok, x_tup3]
    rfl
end
end K49
set_option Elab.async false
set_option linter.all false
set_option maxRecDepth 100000
namespace K49
open PySem PySem.Spec PyProof.Rows L2 Dl
section
variable {ρ : Dl.Env} {names ranked : List Str} {dep row : List Int} {w : Int}
def tk3 (c : Int) : Dl.Env → Res EV := d2 gIx (dVar 3) (d2 gAdd (d2 gMul (dC (.int 3)) (dVar 5)) (dC (.int c)))
def tiC : Dl.Env → Res Bool := dAndT (dT tBool (d2 gGt (dC1 gLen (aCons (dVar 0) aNil)) (dC (.int 1)))) (dOrT (dT tBool (d2 gLt (d2 gIx (dVar 3) (dC (.int 0))) (dC (.int 7)))) (dT tBool (d2 gLt (tk3 3) (dC (.int 4)))))
def tiO : Dl.Env → Res EV := dLc (iA (dVar 0)) (bName 9) (dT tBool (d2 gNe (dVar 9) (dVar 6))) (dVar 9) [9]
def tiW : Dl.Env → Res Bool := dAndT (dT tBool (d2 gGt (dIdx (dVar 1) (dVar 6)) (dIdx (dVar 1) (dVar 8)))) (dT tBool (d2 gLt (tk3 3) (dVar 2)))
def tiB : Stm := dIf tiC
  (dSeq (dSet 6 (d2 gIx (dVar 0) (d2 gMod (dC1 gInt (aCons (tk3 1) aNil)) (dC1 gLen (aCons (dVar 0) aNil)))))
  (dFrz 6 (dSeq (dSet 7 tiO)
  (dFrz 7 (dSeq (dSet 8 (d2 gIx (dVar 7) (d2 gMod (dC1 gInt (aCons (tk3 2) aNil)) (dC1 gLen (aCons (dVar 7) aNil)))))
  (dFrz 8 (dIf tiW (dApp 4 (dTup (aCons (dVar 8) (aCons (dVar 6) aNil)))) (dApp 4 (dTup (aCons (dVar 6) (aCons (dVar 8) aNil)))))))))))
  dNext
theorem tk3_ok {k : Nat} {c : Int} {m : Nat} (h3 : ρ[3]? = some (.sh (.lst (row.map D.int)))) (h5 : ρ[5]? = some (.sh (.int (k : Int)))) (hm : 3 * (k : Int) + c = (m : Int)) (hl : m < row.length) : tk3 c ρ = .ok (.sh (.int row[m])) := by
  refine x_ixe h3 (x_addE (a := ((3 * k : Nat) : Int)) (b := c) (x_mulE (a := 3) (b := (k : Int)) x_c (v_sh h5) (by omega) (by omega)) x_c (by omega)) (get_map hl)
theorem app_tie {i : Nat} {f : Dl.Env → Res EV} {tis : List (Str × Str)} {p : Str × Str} (hi : ρ[i]? = some (.own ((tis.map tieD).map T.leaf))) (hf : f ρ = .ok (.sh (tieD p))) (hl : tis.length < 16777216) : dApp i f ρ = .ok (.nx (ρ.set i (.own (((tis ++ [p]).map tieD).map T.leaf)))) := by
  rw [x_app, hi, hf, x_app_sh (by rw [List.length_map, List.length_map]; exact hl), List.map_append, List.map_append]
  rfl
def okTie (names : List Str) (p : Str × Str) : Prop := p.1 ∈ names ∧ p.2 ∈ names ∧ p.1 ≠ p.2
theorem tiB_ok {k : Nat} {x6 x7 x8 : SV} {tis : List (Str × Str)} (so : ∀ n ∈ names, PyData.strOk n = true) (nd : names.Nodup) (nl : names.length ≤ 12) (hr : ∀ n ∈ names, n ∈ ranked) (hr2 : ∀ n ∈ ranked, n ∈ names) (hrow : 58 ≤ row.length) (hk : k < 19) (ht : ∀ p ∈ tis, okTie names p) (hl : tis.length ≤ 1000) (f6 : x6.free = true) (f7 : x7.free = true) (f8 : x8.free = true) :
    ∃ (tis' : List (Str × Str)) (y6 y7 y8 : SV), (∀ p ∈ tis', okTie names p) ∧ tis'.length ≤ tis.length + 1 ∧ y6.free = true ∧ y7.free = true ∧ y8.free = true ∧
      tiB [.sh (seqS false names), .sh (seqS false ranked), .sh (.int w), .sh (.lst (row.map D.int)), .own ((tis.map tieD).map T.leaf), .sh (.int (k : Int)), x6, x7, x8, .no] = .ok (.nx [.sh (seqS false names), .sh (seqS false ranked), .sh (.int w), .sh (.lst (row.map D.int)), .own ((tis'.map tieD).map T.leaf), .sh (.int (k : Int)), y6, y7, y8, .no]) := by
  have ro : ∀ n ∈ ranked, PyData.strOk n = true := fun n hn => so n (hr2 n hn)
  have ec : ∃ b, tiC [.sh (seqS false names), .sh (seqS false ranked), .sh (.int w), .sh (.lst (row.map D.int)), .own ((tis.map tieD).map T.leaf), .sh (.int (k : Int)), x6, x7, x8, .no] = .ok b ∧ (b = true → 1 < names.length) := by
    rw [tiC, x_andT, x_gtT (x_len0 (i := 0) (ss := names) (k := false) rfl) x_c]
    by_cases h : (1 : Int) < (names.length : Int)
    · have hr0 : d2 gIx (dVar 3) (dC (.int 0)) [.sh (seqS false names), .sh (seqS false ranked), .sh (.int w), .sh (.lst (row.map D.int)), .own ((tis.map tieD).map T.leaf), .sh (.int (k : Int)), x6, x7, x8, .no] = .ok (.sh (.int row[0])) := x_ixe (j := 0) rfl x_c (get_map (by omega))
      rw [decide_eq_true h, x_andT_t, x_orT, x_ltT hr0 x_c]
      by_cases h7 : row[0] < 7
      · exact ⟨true, by rw [decide_eq_true h7]; rfl, fun _ => by omega⟩
      · refine ⟨decide (row[3 * k + 3] < 4), ?_, fun _ => by omega⟩
        rw [decide_eq_false h7, x_orT_f, x_ltT (tk3_ok (m := 3 * k + 3) rfl rfl (by omega) (by omega)) x_c]
    · exact ⟨false, by rw [decide_eq_false h]; rfl, fun z => by cases z⟩
  obtain ⟨b, ec, hb⟩ := ec
  rw [tiB, x_if, ec]
  cases b with
  | false => exact ⟨tis, x6, x7, x8, ht, by omega, f6, f7, f8, rfl⟩
  | true =>
    have h1 := hb rfl
    have ne : names ≠ [] := by
      rintro rfl
      simp at h1
    rw [x_if_t]
    obtain ⟨one, h1in, e1⟩ := pick (ρ := [.sh (seqS false names), .sh (seqS false ranked), .sh (.int w), .sh (.lst (row.map D.int)), .own ((tis.map tieD).map T.leaf), .sh (.int (k : Int)), x6, x7, x8, .no]) (i := 0) (ss := names) rfl (tk3_ok (c := 1) (m := 3 * k + 1) rfl rfl (by omega) (by omega)) ne
    rw [st_sh (i := 6) (y := x6) e1 rfl f6]
    have e2 : tiO [.sh (seqS false names), .sh (seqS false ranked), .sh (.int w), .sh (.lst (row.map D.int)), .own ((tis.map tieD).map T.leaf), .sh (.int (k : Int)), .sh (.str one), x7, x8, .no] = .ok (.fr (((dropS one names).map D.str).map T.leaf)) := by
      have i1 : iA (dVar 0) [.sh (seqS false names), .sh (seqS false ranked), .sh (.int w), .sh (.lst (row.map D.int)), .own ((tis.map tieD).map T.leaf), .sh (.int (k : Int)), .sh (.str one), x7, x8, .no] = .ok (names.map D.str) := by rw [x_iA, v_sh (i := 0) (d := seqS false names) rfl, x_wK, walk_seq]
      exact lc_drop (v := 9) (w := 6) (ss := names) (c := one) (y := .no) i1 rfl rfl (by decide) so (so one h1in) (by omega)
    have e2' := st_fr (i := 7) (y := x7) (g := dSeq (dSet 8 (d2 gIx (dVar 7) (d2 gMod (dC1 gInt (aCons (tk3 2) aNil)) (dC1 gLen (aCons (dVar 7) aNil))))) (dFrz 8 (dIf tiW (dApp 4 (dTup (aCons (dVar 8) (aCons (dVar 6) aNil)))) (dApp 4 (dTup (aCons (dVar 6) (aCons (dVar 8) aNil))))))) e2 rfl f7
    rw [x_leaves] at e2'
    show ∃ (tis' : List (Str × Str)) (y6 y7 y8 : SV), _ ∧ _ ∧ _ ∧ _ ∧ _ ∧ dSeq (dSet 7 tiO) _ [.sh (seqS false names), .sh (seqS false ranked), .sh (.int w), .sh (.lst (row.map D.int)), .own ((tis.map tieD).map T.leaf), .sh (.int (k : Int)), .sh (.str one), x7, x8, .no] = _
    rw [e2']
    have one_ne : dropS one names ≠ [] := by
      have := drop_len nd h1in
      intro z
      rw [z, List.length_nil] at this
      omega
    show ∃ (tis' : List (Str × Str)) (y6 y7 y8 : SV), _ ∧ _ ∧ _ ∧ _ ∧ _ ∧ dSeq _ _ [.sh (seqS false names), .sh (seqS false ranked), .sh (.int w), .sh (.lst (row.map D.int)), .own ((tis.map tieD).map T.leaf), .sh (.int (k : Int)), .sh (.str one), .sh (.lst ((dropS one names).map D.str)), x8, .no] = _
    obtain ⟨two, h2in, e3⟩ := pick (ρ := [.sh (seqS false names), .sh (seqS false ranked), .sh (.int w), .sh (.lst (row.map D.int)), .own ((tis.map tieD).map T.leaf), .sh (.int (k : Int)), .sh (.str one), .sh (.lst ((dropS one names).map D.str)), x8, .no]) (i := 7) (ss := dropS one names) rfl (tk3_ok (c := 2) (m := 3 * k + 2) rfl rfl (by omega) (by omega)) one_ne
    obtain ⟨h2in, h2ne⟩ := drop_sub.mp h2in
    rw [st_sh (i := 8) (y := x8) e3 rfl f8]
    show ∃ (tis' : List (Str × Str)) (y6 y7 y8 : SV), _ ∧ _ ∧ _ ∧ _ ∧ _ ∧ dIf _ _ _ [.sh (seqS false names), .sh (seqS false ranked), .sh (.int w), .sh (.lst (row.map D.int)), .own ((tis.map tieD).map T.leaf), .sh (.int (k : Int)), .sh (.str one), .sh (.lst ((dropS one names).map D.str)), .sh (.str two), .no] = _
    generalize hρ : ([.sh (seqS false names), .sh (seqS false ranked), .sh (.int w), .sh (.lst (row.map D.int)), .own ((tis.map tieD).map T.leaf), .sh (.int (k : Int)), .sh (.str one), .sh (.lst ((dropS one names).map D.str)), .sh (.str two), .no] : Dl.Env) = ρ
    have r1 : ρ[1]? = some (.sh (seqS false ranked)) := by rw [← hρ]; rfl
    have r2 : ρ[2]? = some (.sh (.int w)) := by rw [← hρ]; rfl
    have r3 : ρ[3]? = some (.sh (.lst (row.map D.int))) := by rw [← hρ]; rfl
    have r4 : ρ[4]? = some (.own ((tis.map tieD).map T.leaf)) := by rw [← hρ]; rfl
    have r5 : ρ[5]? = some (.sh (.int (k : Int))) := by rw [← hρ]; rfl
    have r6 : ρ[6]? = some (.sh (.str one)) := by rw [← hρ]; rfl
    have r8 : ρ[8]? = some (.sh (.str two)) := by rw [← hρ]; rfl
    have ew : ∃ b, tiW ρ = .ok b := by
      have x1 : dIdx (dVar 1) (dVar 6) ρ = .ok (.sh (.int (ranked.idxOf one : Nat))) := by rw [x_idx, v_sh r1, idx_seq (v_sh r6) (hr _ h1in) ro]
      have x2 : dIdx (dVar 1) (dVar 8) ρ = .ok (.sh (.int (ranked.idxOf two : Nat))) := by rw [x_idx, v_sh r1, idx_seq (v_sh r8) (hr _ h2in) ro]
      rw [tiW, x_andT, x_gtT x1 x2]
      cases decide (((ranked.idxOf two : Nat) : Int) < ((ranked.idxOf one : Nat) : Int)) with
      | false => exact ⟨_, rfl⟩
      | true => exact ⟨_, by rw [x_andT_t, x_ltT (tk3_ok (c := 3) (m := 3 * k + 3) r3 r5 (by omega) (by omega)) (v_sh r2)]⟩
    obtain ⟨b, ew⟩ := ew
    have ta : ∀ p, okTie names p → ∀ q ∈ tis ++ [p], okTie names q := fun p hp q hq => by
      rcases List.mem_append.mp hq with z | z
      · exact ht q z
      · rw [List.mem_singleton.mp z]
        exact hp
    rw [x_if, ew]
    cases b with
    | true =>
      have et : dTup (aCons (dVar 8) (aCons (dVar 6) aNil)) ρ = .ok (.sh (tieD (two, one))) := by
        rw [x_tup, x_cons, x_cons, v_sh r8, v_sh r6, x_nil, x_cons_ok, x_cons_ok, x_tup2]
        rfl
      refine ⟨tis ++ [(two, one)], .sh (.str one), .sh (.lst ((dropS one names).map D.str)), .sh (.str two), ta _ ⟨h2in, h1in, h2ne⟩, by simp, rfl, rfl, rfl, ?_⟩
      rw [x_if_t, app_tie r4 et (by omega), ← hρ]
      rfl
    | false =>
      have et : dTup (aCons (dVar 6) (aCons (dVar 8) aNil)) ρ = .ok (.sh (tieD (one, two))) := by
        rw [x_tup, x_cons, x_cons, v_sh r8, v_sh r6, x_nil, x_cons_ok, x_cons_ok, x_tup2]
        rfl
      refine ⟨tis ++ [(one, two)], .sh (.str one), .sh (.lst ((dropS one names).map D.str)), .sh (.str two), ta _ ⟨h1in, h2in, Ne.symm h2ne⟩, by simp, rfl, rfl, rfl, ?_⟩
      rw [x_if_f, app_tie r4 et (by omega), ← hρ]
      rfl
theorem mkties_eq : g_l_ties = dSeq (dSet 4 (dLst aNil)) (dSeq (dFor (iR1 (d2 gIx (dLst (aCons (dC (.int 0)) (aCons (dC (.int 1)) (aCons (dC (.int 0)) (aCons (dC (.int 2)) (aCons (dC (.int 1)) (aCons (dC (.int 3)) (aCons (dC (.int 0)) (aCons (dC (.int 19)) aNil))))))))) (d2 gIx (dVar 3) (dC (.int 0))))) (bName 5) tiB) (dFrz 6 (dFrz 7 (dFrz 8 (dRetV 4))))) := rfl
theorem ties_made (so : ∀ n ∈ names, PyData.strOk n = true) (nd : names.Nodup) (nl : names.length ≤ 12) (hr : ∀ n ∈ names, n ∈ ranked) (hr2 : ∀ n ∈ ranked, n ∈ names) (hrow : 58 ≤ row.length) (h0 : ∀ h : 0 < row.length, 0 ≤ row[0] ∧ row[0] < 8) :
    ∃ tis : List (Str × Str), (∀ p ∈ tis, okTie names p) ∧ tis.length ≤ 19 ∧ F_l_ties [seqS false names, seqS false ranked, .int w, .lst (row.map D.int)] = .ok (.fr ((tis.map tieD).map T.leaf)) := by
  rw [F_l_ties, x_run]
  generalize hG : g_l_ties = G
  show ∃ tis : List (Str × Str), _ ∧ _ ∧ runK (G [.sh (seqS false names), .sh (seqS false ranked), .sh (.int w), .sh (.lst (row.map D.int)), .no, .no, .no, .no, .no, .no]) = _
  rw [← hG, mkties_eq, st_fr0 (i := 4) (y := .no) (f := dLst aNil) (ts := []) rfl rfl rfl]
  show ∃ tis : List (Str × Str), _ ∧ _ ∧ runK (dSeq _ _ [.sh (seqS false names), .sh (seqS false ranked), .sh (.int w), .sh (.lst (row.map D.int)), .own ((([] : List (Str × Str)).map tieD).map T.leaf), .no, .no, .no, .no, .no]) = _
  have hr0 := h0 (by omega)
  obtain ⟨v, hv, ev⟩ := lit_ix (ρ := [.sh (seqS false names), .sh (seqS false ranked), .sh (.int w), .sh (.lst (row.map D.int)), .own ((([] : List (Str × Str)).map tieD).map T.leaf), .no, .no, .no, .no, .no]) (L := [0, 1, 0, 2, 1, 3, 0, 19]) (e := dLst (aCons (dC (.int 0)) (aCons (dC (.int 1)) (aCons (dC (.int 0)) (aCons (dC (.int 2)) (aCons (dC (.int 1)) (aCons (dC (.int 3)) (aCons (dC (.int 0)) (aCons (dC (.int 19)) aNil))))))))) (f := d2 gIx (dVar 3) (dC (.int 0))) (q := row[0]) rfl (x_ixe (j := 0) rfl x_c (get_map (by omega))) ⟨hr0.1, by simpa using hr0.2⟩
  have hv2 : 0 ≤ v ∧ v ≤ 19 := by
    simp only [List.mem_cons, List.not_mem_nil, or_false] at hv
    omega
  obtain ⟨n, hn⟩ : ∃ n : Nat, v = (n : Int) := ⟨v.toNat, by omega⟩
  rw [hn] at ev
  have hn19 : n ≤ 19 := by omega
  have i1 := x_rng (n := (n : Int)) (by omega) ev
  rw [Int.toNat_natCast] at i1
  obtain ⟨_, ⟨tis, x5, x6, x7, x8, w1, w2, f5, f6, f7, f8, rfl⟩, e⟩ := forD_range (b := bName 5) (g := tiB) (n := n)
    (P := fun j ρ => ∃ (tis : List (Str × Str)) (x5 x6 x7 x8 : SV), (∀ p ∈ tis, okTie names p) ∧ tis.length ≤ j ∧ x5.free = true ∧ x6.free = true ∧ x7.free = true ∧ x8.free = true ∧ ρ = [.sh (seqS false names), .sh (seqS false ranked), .sh (.int w), .sh (.lst (row.map D.int)), .own ((tis.map tieD).map T.leaf), x5, x6, x7, x8, .no]) (by
      rintro j hj ρ ⟨tis, x5, x6, x7, x8, w1, w2, f5, f6, f7, f8, rfl⟩
      obtain ⟨tis', y6, y7, y8, q1, q2, g6, g7, g8, q3⟩ := tiB_ok (w := w) (k := j) so nd nl hr hr2 hrow (by omega) w1 (by omega) f6 f7 f8
      exact ⟨[.sh (seqS false names), .sh (seqS false ranked), .sh (.int w), .sh (.lst (row.map D.int)), .own ((tis.map tieD).map T.leaf), .sh (.int (j : Int)), x6, x7, x8, .no], _, by simp only [bName, putR, List.getElem?_cons_succ, List.getElem?_cons_zero, f5, if_true, List.set_cons_succ, List.set_cons_zero], q3, tis', .sh (.int (j : Int)), y6, y7, y8, q1, by omega, rfl, g6, g7, g8, rfl⟩) _ ⟨[], .no, .no, .no, .no, (fun p hp => by cases hp), by simp, rfl, rfl, rfl, rfl, rfl⟩
  refine ⟨tis, w1, by omega, ?_⟩
  rw [x_seq, x_for, i1, x_for_ok, e, x_seq_nx]
  obtain ⟨y6, _, e6⟩ := x_frz_any (i := 6) (g := dFrz 7 (dFrz 8 (dRetV 4))) (ρ := [.sh (seqS false names), .sh (seqS false ranked), .sh (.int w), .sh (.lst (row.map D.int)), .own ((tis.map tieD).map T.leaf), x5, x6, x7, x8, .no]) rfl f6
  rw [e6]
  obtain ⟨y7, _, e7⟩ := x_frz_any (i := 7) (g := dFrz 8 (dRetV 4)) (ρ := [.sh (seqS false names), .sh (seqS false ranked), .sh (.int w), .sh (.lst (row.map D.int)), .own ((tis.map tieD).map T.leaf), x5, y6, x7, x8, .no]) rfl f7
  show runK (dFrz 7 _ [.sh (seqS false names), .sh (seqS false ranked), .sh (.int w), .sh (.lst (row.map D.int)), .own ((tis.map tieD).map T.leaf), x5, y6, x7, x8, .no]) = _
  rw [e7]
  obtain ⟨y8, _, e8⟩ := x_frz_any (i := 8) (g := dRetV 4) (ρ := [.sh (seqS false names), .sh (seqS false ranked), .sh (.int w), .sh (.lst (row.map D.int)), .own ((tis.map tieD).map T.leaf), x5, y6, y7, x8, .no]) rfl f8
  show runK (dFrz 8 _ [.sh (seqS false names), .sh (seqS false ranked), .sh (.int w), .sh (.lst (row.map D.int)), .own ((tis.map tieD).map T.leaf), x5, y6, y7, x8, .no]) = _
  rw [e8]
  rfl
end
end K49
set_option Elab.async false
set_option linter.all false
set_option maxRecDepth 100000
namespace K49
open PySem PySem.Spec PyProof.Rows L2 Dl
def litA : List Int → Dl.Env → Res (List EV)
  | [] => aNil
  | n :: ns => aCons (dC (.int n)) (litA ns)
section
variable {ρ : Dl.Env} {names ranked : List Str} {dep row head ns : List Int} {w : Int}
theorem litA_ok : ∀ {L : List Int}, litA L ρ = .ok (L.map fun n => EV.sh (.int n))
  | [] => rfl
  | n :: L => by
    rw [litA, x_cons, x_c, litA_ok, x_cons_ok]
    rfl
theorem lit_ok {L : List Int} (h : L.length ≤ 1000) : dLst (litA L) ρ = .ok (.fr ((L.map D.int).map T.leaf)) := by
  have := x_lst_sh (ds := L.map D.int) (by rw [List.length_map]; omega)
  rw [x_lst, litA_ok, ← this, List.map_map]
  rfl
/-- one of given ints, by an int of a row -/
theorem lit_at {L : List Int} {f : Dl.Env → Res EV} {q : Int} (h : L.length ≤ 1000) (hf : f ρ = .ok (.sh (.int q))) (hq : 0 ≤ q ∧ q < L.length) : ∃ v ∈ L, d2 gIx (dLst (litA L)) f ρ = .ok (.sh (.int v)) := lit_ix (lit_ok h) hf hq
theorem pow20 : gPow (.sh (.int 10)) (.sh (.int 20)) = .ok (.sh (.int 100000000000000000000)) := by
  simp [gPow, gF, iI]
/-! ### the depths -/
def sdA : Dl.Env → Res EV := dLc (iA (dVar 7)) (bName 17) dYes (d2 gAdd (dC (.int 1)) (dC1 gInt (aCons (d2 gEq (d2 gIx (dVar 4) (dC (.int 3))) (dC (.int 5))) aNil))) [17]
def sdR : Dl.Env → Res EV := dLc (iA (dSl (dVar 5) (some (dC (.int 24))) (some (dC (.int 36))))) (bName 18) dYes (d2 gAdd (dC (.int 1)) (d2 gMod (dC1 gInt (aCons (dVar 18) aNil)) (dVar 6))) [18]
def sdB : Dl.Env → Res EV := dLc (iR1 (dVar 6)) (bName 14) dYes (d2 gIx (dLst (aCons (dC (.int 1)) (aCons (dC (.int 1)) (aCons (dC (.int 2)) (aCons (d2 gIx (dVar 10) (dVar 14)) (aCons (dC (.int 3)) (aCons (d2 gIx (dVar 10) (dVar 14)) (aCons (d2 gIx (dVar 10) (dVar 14)) (aCons (d2 gAdd (d2 gPow (dC (.int 10)) (dC (.int 20))) (dVar 14)) aNil))))))))) (d2 gIx (dVar 5) (d2 gAdd (dC (.int 12)) (dVar 14)))) [14]
theorem sdA_ok {y : SV} (h4 : ρ[4]? = some (.sh (.lst (head.map D.int)))) (hh : head.length = 5) (h7 : ρ[7]? = some (.sh (seqS false names))) (nl : names.length ≤ 12) (h17 : ρ[17]? = some y) :
    ∃ dep : List Int, dep.length = names.length ∧ (∀ d ∈ dep, 1 ≤ d) ∧ sdA ρ = .ok (.fr ((dep.map D.int).map T.leaf)) := by
  have i1 : iA (dVar 7) ρ = .ok (names.map D.str) := by rw [x_iA, v_sh h7, x_wK, walk_seq]
  refine ⟨names.map fun _ => 1 + (if head[3] = 5 then 1 else 0), by rw [List.length_map], fun d hd => ?_, ?_⟩
  · obtain ⟨_, _, rfl⟩ := List.mem_map.mp hd
    split <;> omega
  · rw [sdA, x_lc, x_wipe1, i1, x_lc_of (c := D.str) (p := fun _ => true) (k := fun _ => D.int (1 + (if head[3] = 5 then 1 else 0))) (by omega) fun n hn => ⟨_, bn h17, rfl, fun _ => ?_⟩, filter_yes, List.map_map, List.map_map, List.map_map]
    · rfl
    · have h4' : (ρ.set 17 (.sh (.str n)))[4]? = some (.sh (.lst (head.map D.int))) := by rw [get_ne (by decide)]; exact h4
      have e3 : d2 gIx (dVar 4) (dC (.int 3)) (ρ.set 17 (.sh (.str n))) = .ok (.sh (.int head[3])) := x_ixe (j := 3) h4' x_c (get_map (by omega))
      rw [x_d2, x_c, x_c1, x_cons, x_d2, e3, x_c, x_d2_ok, x_eqI, x_nil, x_cons_ok, x_c1_ok]
      have eg : gInt [.sh (.bl (decide (head[3] = 5)))] = .ok (.sh (.int (if decide (head[3] = 5) = true then 1 else 0))) := rfl
      rw [eg, x_d2_ok, x_add]
      by_cases e : head[3] = 5
      · rw [if_pos e, if_pos (decide_eq_true e)]
      · rw [if_neg e, if_neg (by simpa using e)]
theorem sdB_ok {m : Nat} {rg : List Int} {y : SV} (h5 : ρ[5]? = some (.sh (.lst (row.map D.int)))) (hr : okRow row (List.replicate 12 12 ++ List.replicate 12 8 ++ List.replicate 12 12)) (h6 : ρ[6]? = some (.sh (.int (m : Int)))) (hm : m ≤ 12) (h10 : ρ[10]? = some (.sh (.lst (rg.map D.int)))) (hrg : rg.length = 12) (hrp : ∀ d ∈ rg, 1 ≤ d) (h14 : ρ[14]? = some y) :
    ∃ dep : List Int, dep.length = m ∧ (∀ d ∈ dep, 1 ≤ d) ∧ sdB ρ = .ok (.fr ((dep.map D.int).map T.leaf)) := by
  have key : ∀ j, j < m → ∃ v : Int, 1 ≤ v ∧ d2 gIx (dLst (aCons (dC (.int 1)) (aCons (dC (.int 1)) (aCons (dC (.int 2)) (aCons (d2 gIx (dVar 10) (dVar 14)) (aCons (dC (.int 3)) (aCons (d2 gIx (dVar 10) (dVar 14)) (aCons (d2 gIx (dVar 10) (dVar 14)) (aCons (d2 gAdd (d2 gPow (dC (.int 10)) (dC (.int 20))) (dVar 14)) aNil))))))))) (d2 gIx (dVar 5) (d2 gAdd (dC (.int 12)) (dVar 14))) (ρ.set 14 (.sh (.int (j : Int)))) = .ok (.sh (.int v)) := by
    intro j hj
    have a5 : (ρ.set 14 (.sh (.int (j : Int))))[5]? = some (.sh (.lst (row.map D.int))) := by rw [get_ne (by decide)]; exact h5
    have a10 : (ρ.set 14 (.sh (.int (j : Int))))[10]? = some (.sh (.lst (rg.map D.int))) := by rw [get_ne (by decide)]; exact h10
    have a14 : (ρ.set 14 (.sh (.int (j : Int))))[14]? = some (.sh (.int (j : Int))) := get_set h14
    generalize ρ.set 14 (.sh (.int (j : Int))) = τ at a5 a10 a14 ⊢
    have hjr : j < rg.length := by omega
    have er : d2 gIx (dVar 10) (dVar 14) τ = .ok (.sh (.int rg[j])) := x_ixv a10 a14 (get_map hjr)
    have hrp' := hrp rg[j] (List.getElem_mem hjr)
    obtain ⟨d, hd, d1, d2'⟩ := hr.at (i := 12 + j) (s := 8) (by
      rw [List.append_assoc, List.getElem?_append_right (by rw [List.length_replicate]; omega), List.length_replicate, List.getElem?_append_left (by rw [List.length_replicate]; omega), List.getElem?_replicate, if_pos (by omega)])
    have ed : d2 gIx (dVar 5) (d2 gAdd (dC (.int 12)) (dVar 14)) τ = .ok (.sh (.int d)) := x_ixe (j := 12 + j) a5 (x_addE (a := 12) (b := (j : Int)) x_c (v_sh a14) (by omega)) (by rw [List.getElem?_map, hd]; rfl)
    have el : dLst (aCons (dC (.int 1)) (aCons (dC (.int 1)) (aCons (dC (.int 2)) (aCons (d2 gIx (dVar 10) (dVar 14)) (aCons (dC (.int 3)) (aCons (d2 gIx (dVar 10) (dVar 14)) (aCons (d2 gIx (dVar 10) (dVar 14)) (aCons (d2 gAdd (d2 gPow (dC (.int 10)) (dC (.int 20))) (dVar 14)) aNil)))))))) τ = .ok (.fr ((([1, 1, 2, rg[j], 3, rg[j], rg[j], 100000000000000000000 + (j : Int)] : List Int).map D.int).map T.leaf)) := by
      rw [x_lst, x_cons, x_cons, x_cons, x_cons, x_cons, x_cons, x_cons, x_cons, er, x_c, x_c, x_c, x_d2, x_d2, x_c, x_c, x_d2_ok, pow20, v_sh a14, x_d2_ok, x_add, x_nil, x_cons_ok, x_cons_ok, x_cons_ok, x_cons_ok, x_cons_ok, x_cons_ok, x_cons_ok, x_cons_ok]
      exact x_lst_sh (ds := ([1, 1, 2, rg[j], 3, rg[j], rg[j], 100000000000000000000 + (j : Int)] : List Int).map D.int) (by simp)
    obtain ⟨v, hv, ev⟩ := lit_ix el ed ⟨d1, by simpa using d2'⟩
    refine ⟨v, ?_, ev⟩
    simp only [List.mem_cons, List.not_mem_nil, or_false] at hv
    omega
  have ch : ∀ j : Nat, ∃ v : Int, j < m → 1 ≤ v ∧ d2 gIx (dLst (aCons (dC (.int 1)) (aCons (dC (.int 1)) (aCons (dC (.int 2)) (aCons (d2 gIx (dVar 10) (dVar 14)) (aCons (dC (.int 3)) (aCons (d2 gIx (dVar 10) (dVar 14)) (aCons (d2 gIx (dVar 10) (dVar 14)) (aCons (d2 gAdd (d2 gPow (dC (.int 10)) (dC (.int 20))) (dVar 14)) aNil))))))))) (d2 gIx (dVar 5) (d2 gAdd (dC (.int 12)) (dVar 14))) (ρ.set 14 (.sh (.int (j : Int)))) = .ok (.sh (.int v)) := fun j => by
    by_cases hj : j < m
    · obtain ⟨v, h⟩ := key j hj
      exact ⟨v, fun _ => h⟩
    · exact ⟨0, fun h => (hj h).elim⟩
  obtain ⟨F, hF⟩ := Classical.axiomOfChoice ch
  refine ⟨(List.range m).map F, by simp, fun d hd => ?_, ?_⟩
  · obtain ⟨j, hj, rfl⟩ := List.mem_map.mp hd
    exact (hF j (List.mem_range.mp hj)).1
  · have := lc_nat (v := 14) (k := fun j => D.int (F j)) (rng_var h6 (by omega)) (by omega) h14 fun j hj => (hF j hj).2
    have hm2 : (List.range m).map (fun j => D.int (F j)) = ((List.range m).map F).map D.int := by
      rw [List.map_map]
      rfl
    rw [hm2] at this
    exact this
theorem sdR_ok {m : Nat} {y : SV} (h5 : ρ[5]? = some (.sh (.lst (row.map D.int)))) (hr : row.length = 36) (h6 : ρ[6]? = some (.sh (.int (m : Int)))) (hm : 0 < m) (h18 : ρ[18]? = some y) :
    ∃ rg : List Int, rg.length = 12 ∧ (∀ d ∈ rg, 1 ≤ d) ∧ sdR ρ = .ok (.fr ((rg.map D.int).map T.leaf)) := by
  have i1 : iA (dSl (dVar 5) (some (dC (.int 24))) (some (dC (.int 36)))) ρ = .ok (((row.drop 24).take 12).map D.int) := by
    rw [x_iA, x_sl, v_sh h5, x_sl_both (j := 24) (k := 36) x_c x_c, x_sl_lst]
    show wK walkA (.ok (.fr ((cutL (row.map D.int) (some ((24 : Nat) : Int)) (some ((36 : Nat) : Int))).map T.leaf))) = _
    rw [cut_midI (by omega) (by omega), x_wK, x_walk_fr, x_leaves]
  have hl : ((row.drop 24).take 12).length = 12 := by rw [List.length_take, List.length_drop]; omega
  refine ⟨((row.drop 24).take 12).map fun d => 1 + d % (m : Int), by rw [List.length_map, hl], fun d hd => ?_, ?_⟩
  · obtain ⟨d0, _, rfl⟩ := List.mem_map.mp hd
    have : 0 ≤ d0 % (m : Int) := Int.emod_nonneg _ (by omega)
    omega
  · rw [sdR, x_lc, x_wipe1, i1, x_lc_of (c := D.int) (p := fun _ => true) (k := fun d => D.int (1 + d % (m : Int))) (by omega) fun d hd => ⟨_, bn h18, rfl, fun _ => ?_⟩, filter_yes, List.map_map, List.map_map, List.map_map]
    · rfl
    · have h6' : (ρ.set 18 (.sh (.int d)))[6]? = some (.sh (.int (m : Int))) := by rw [get_ne (by decide)]; exact h6
      rw [x_d2, x_c, x_modv (v_sh (get_set h18)) (v_sh h6') (by omega), x_d2_ok, x_add]
end
end K49
set_option Elab.async false
set_option linter.all false
set_option maxRecDepth 100000
namespace Dl
open PySem PySem.Spec PyProof.Rows L2
theorem callN_ssssf {F : List D → Res EV} {a b c d : D} {us : List T} : callN 5 F [] [.sh a, .sh b, .sh c, .sh d, .fr us] = F [a, b, c, d, .lst (T.toDs us)] := callN_nb rfl rfl
theorem callN_sssf {F : List D → Res EV} {a b c : D} {us : List T} : callN 4 F [] [.sh a, .sh b, .sh c, .fr us] = F [a, b, c, .lst (T.toDs us)] := callN_nb rfl rfl
theorem cut_dropI {ss : List Int} {k : Nat} (h : k ≤ ss.length) : cutL (ss.map D.int) (some (k : Int)) none = (ss.drop k).map D.int := by
  have e1 : HT.sIx (ss.map D.int).length 0 (some (k : Int)) = k := by rw [HT.sIx_nat, List.length_map]; omega
  have e2 : HT.sIx (ss.map D.int).length (ss.map D.int).length none = ss.length := by rw [HT.sIx_none, List.length_map]
  unfold cutL
  rw [e1, e2, ← List.map_drop, ← List.map_take, List.take_of_length_le (by rw [List.length_drop]; omega)]
end Dl
namespace K49
open PySem PySem.Spec PyProof.Rows L2 Dl
section
variable {ρ : Dl.Env} {names ranked : List Str} {dep row head ns : List Int} {w : Int}
abbrev SE (ns : List Int) (u r : Int) (x4 x5 x6 x7 x8 x9 x10 x11 x12 x13 x14 x15 x16 : SV) : Dl.Env := [.sh (.scr ns), .sh (.int 3), .sh (.int u), .sh (.int r), x4, x5, x6, x7, x8, x9, x10, x11, x12, x13, x14, x15, x16, .no, .no]
def L1 : Dl.Env → Res (List EV) := litA [3, 4, 2, 5, 3, 4, 6, 1, 5, 4, 3, 6]
def L2' : Dl.Env → Res (List EV) := litA [7, 12, 9, 8, 6, 12, 10, 7, 11, 8, 9, 12]
def L3 : Dl.Env → Res (List EV) := litA [8, 8, 8, 7, 7, 6, 4, 1]
def L4 : Dl.Env → Res (List EV) := litA [3, 4, 2, 5, 6, 0, 8, 4, 5, 1, 3, 7, 10, 6, 12, 9]
def L5 : Dl.Env → Res (List EV) := litA [20, 60, 30, 15, 45, 13, 60, 25, 17, 50, 24, 36, 15, 59, 40, 21]
def hd (i : Int) : Dl.Env → Res EV := d2 gIx (dVar 4) (dC (.int i))
def seMin (j : Nat) (L : Dl.Env → Res (List EV)) (i : Int) : Dl.Env → Res EV := dC1 gMin (aCons (dVar j) (aCons (d2 gIx (dLst L) (hd i)) aNil))
def seK : Stm := dSeq (dSet 15 (dgc 0 (d2 gAdd (d2 gAdd (dVar 1) (dC (.int 3))) (d2 gMod (dC1 gInt (aCons (dVar 14) aNil)) (dC (.int 50)))) (d2 gMul (d2 gAdd (dLst (litA [12, 8, 12])) (d2 gMul (dLst (litA [3])) (dC (.int 12)))) (dC (.int 2)))))
  (dFrz 15 (dApp 12 (dCall 5 F_l_taking [] (aCons (dVar 7) (aCons (dVar 9) (aCons (dVar 8) (aCons (dVar 11) (aCons (dSl (dVar 15) (some (d2 gMul (d2 gFdv (dVar 14) (dC (.int 50))) (dC (.int 15)))) none) aNil))))))))
def seZ : Stm := dSeq (dFor (iR1 (dVar 13)) (bName 14) seK)
  (dFrz 15 (dSeq (dSet 16 (dCall 4 F_l_ties [] (aCons (dVar 7) (aCons (dVar 8) (aCons (dVar 11) (aCons (dgc 0 (d2 gAdd (dVar 1) (dC (.int 2))) (d2 gAdd (dLst (litA [8])) (d2 gMul (dLst (litA [12, 11, 8])) (dC (.int 19))))) aNil))))))
  (dFrz 16 (dFrz 12 (dRet (dLst (aCons (dVar 7) (aCons (dVar 12) (aCons (dVar 9) (aCons (dVar 16) aNil))))))))))
def seY : Stm := dSeq (dSet 11 (d2 gIx (dLst L3) (hd 4))) (dFrz 11 (dSeq (dSet 12 (dLst aNil)) (dSeq (dSet 13 (seMin 3 L4 2)) (dFrz 13 (dSeq (dIf (dT tBool (d2 gGt (dVar 3) (dC (.int 12)))) (dSet 13 (d2 gIx (dLst L5) (hd 2))) dNext) (dFrz 13 seZ))))))
def seD : Stm := dIf (dAndT (dT tBool (d2 gGe (hd 3) (dC (.int 3)))) (dT tBool (d2 gNe (hd 3) (dC (.int 5))))) (dSeq (dSet 10 sdR) (dFrz 10 (dSet 9 sdB))) dNext
def seX : Stm := dSeq (dSet 7 (dCall 2 F_l_names [] (aCons (hd 0) (aCons (dVar 6) aNil)))) (dFrz 7 (dSeq (dSet 8 (dLc (iA (dCall 2 F_l_order [] (aCons (dVar 5) (aCons (dVar 6) aNil)))) (bName 14) dYes (d2 gIx (dVar 7) (dVar 14)) [14]))
  (dFrz 8 (dSeq (dSet 9 sdA) (dFrz 9 (dSeq seD (dFrz 10 (dFrz 9 seY))))))))
theorem seen_eq : g_l_seen = dSeq (dSet 4 (dgc 0 (dVar 1) (dLst (litA [120, 12, 16, 6, 8])))) (dFrz 4 (dSeq (dSet 5 (dgc 0 (d2 gAdd (dVar 1) (dC (.int 1))) (d2 gAdd (d2 gAdd (d2 gMul (dLst (litA [12])) (dC (.int 12))) (d2 gMul (dLst (litA [8])) (dC (.int 12)))) (d2 gMul (dLst (litA [12])) (dC (.int 12))))))
  (dFrz 5 (dSeq (dSet 6 (seMin 2 L1 1)) (dFrz 6 (dSeq (dIf (dT tBool (d2 gGt (dVar 2) (dC (.int 6)))) (dSet 6 (seMin 2 L2' 1)) dNext) (dFrz 6 seX))))))) := rfl
structure Bs (names ranked : List Str) (dep : List Int) : Prop where
  so : ∀ n ∈ names, PyData.strOk n = true
  nm : ∀ n ∈ names, F_is_name [.str n] = .ok (.sh (.bl true))
  nd : names.Nodup
  ne : names ≠ []
  nl : names.length ≤ 12
  hr : ∀ n ∈ names, n ∈ ranked
  hr2 : ∀ n ∈ ranked, n ∈ names
  rl : ranked.length ≤ 12
  dl : dep.length = names.length
  dp : ∀ d ∈ dep, 1 ≤ d
def okTk (names : List Str) (t : Tk) : Prop := t.g ∈ names ∧ t.c ∈ t.hs ∧ t.hs = names.filter fun n => decide (n ∈ t.hs)
def s15 : List Int := [12, 8, 12] ++ List.replicate 12 3
def s30 : List Int := s15 ++ s15
def s58 : List Int := 8 :: (List.replicate 19 [12, 11, 8]).flatten
variable {u r : Int} {x4 x5 x6 x7 x8 x9 x10 x11 x12 x13 x14 x15 x16 : SV} {tks : List Tk}
theorem seK_ok {j : Nat} (B : Bs names ranked dep) (hj : j < 60) (ht : ∀ t ∈ tks, okTk names t) (hl : tks.length ≤ 1000) (f15 : x15.free = true) :
    ∃ t y15, okTk names t ∧ SV.free y15 = true ∧ seK (SE ns u r x4 x5 x6 (.sh (seqS false names)) (.sh (seqS false ranked)) (.sh (.lst (dep.map D.int))) x10 (.sh (.int w)) (.own ((tks.map Tk.d).map T.leaf)) x13 (.sh (.int (j : Int))) x15 x16) = .ok (.nx (SE ns u r x4 x5 x6 (.sh (seqS false names)) (.sh (seqS false ranked)) (.sh (.lst (dep.map D.int))) x10 (.sh (.int w)) (.own (((tks ++ [t]).map Tk.d).map T.leaf)) x13 (.sh (.int (j : Int))) y15 x16)) := by
  have ek : d2 gAdd (d2 gAdd (dVar 1) (dC (.int 3))) (d2 gMod (dC1 gInt (aCons (dVar 14) aNil)) (dC (.int 50))) (SE ns u r x4 x5 x6 (.sh (seqS false names)) (.sh (seqS false ranked)) (.sh (.lst (dep.map D.int))) x10 (.sh (.int w)) (.own ((tks.map Tk.d).map T.leaf)) x13 (.sh (.int (j : Int))) x15 x16) = .ok (.sh (.int (6 + (j : Int) % 50))) := by
    rw [x_d2, x_d2, v_sh (i := 1) (d := .int 3) rfl, x_c, x_d2_ok, x_add, x_modv (a := (j : Int)) (n := 50) (v_sh rfl) x_c (by omega), x_d2_ok, x_add]
    rfl
  obtain ⟨row, hrow, er⟩ := dgc_ok (ns := ns) (sizes := s30) (i := 0) (ρ := SE ns u r x4 x5 x6 (.sh (seqS false names)) (.sh (seqS false ranked)) (.sh (.lst (dep.map D.int))) x10 (.sh (.int w)) (.own ((tks.map Tk.d).map T.leaf)) x13 (.sh (.int (j : Int))) x15 x16) (L := d2 gMul (d2 gAdd (dLst (litA [12, 8, 12])) (d2 gMul (dLst (litA [3])) (dC (.int 12)))) (dC (.int 2))) (by omega) rfl ek rfl (by decide +kernel) (by decide +kernel)
  have hlen : row.length = 30 := hrow.1
  rw [seK, st_fr (i := 15) (y := x15) er rfl f15, x_leaves]
  show ∃ t y15, _ ∧ _ ∧ dApp 12 _ (SE ns u r x4 x5 x6 (.sh (seqS false names)) (.sh (seqS false ranked)) (.sh (.lst (dep.map D.int))) x10 (.sh (.int w)) (.own ((tks.map Tk.d).map T.leaf)) x13 (.sh (.int (j : Int))) (.sh (.lst (row.map D.int))) x16) = _
  have em : d2 gMul (d2 gFdv (dVar 14) (dC (.int 50))) (dC (.int 15)) (SE ns u r x4 x5 x6 (.sh (seqS false names)) (.sh (seqS false ranked)) (.sh (.lst (dep.map D.int))) x10 (.sh (.int w)) (.own ((tks.map Tk.d).map T.leaf)) x13 (.sh (.int (j : Int))) (.sh (.lst (row.map D.int))) x16) = .ok (.sh (.int ((j / 50 * 15 : Nat) : Int))) := by
    rw [x_d2, x_d2, v_sh (i := 14) (d := .int (j : Int)) rfl, x_c, x_d2_ok, x_fdv (by omega) (by omega), x_c, x_d2_ok, x_mulR (by omega)]
    rfl
  have es : dSl (dVar 15) (some (d2 gMul (d2 gFdv (dVar 14) (dC (.int 50))) (dC (.int 15)))) none (SE ns u r x4 x5 x6 (.sh (seqS false names)) (.sh (seqS false ranked)) (.sh (.lst (dep.map D.int))) x10 (.sh (.int w)) (.own ((tks.map Tk.d).map T.leaf)) x13 (.sh (.int (j : Int))) (.sh (.lst (row.map D.int))) x16) = .ok (.fr (((row.drop (j / 50 * 15)).map D.int).map T.leaf)) := by
    rw [x_sl, v_sh (i := 15) (d := .lst (row.map D.int)) rfl, x_sl_lo em, x_sl_lst, cut_dropI (by omega)]
  obtain ⟨t, ht', et⟩ := taking_made (w := w) (row := row.drop (j / 50 * 15)) B.so B.nd B.ne B.nl B.hr B.hr2 B.rl B.dl B.dp (by rw [List.length_drop]; omega)
  have ec : dCall 5 F_l_taking [] (aCons (dVar 7) (aCons (dVar 9) (aCons (dVar 8) (aCons (dVar 11) (aCons (dSl (dVar 15) (some (d2 gMul (d2 gFdv (dVar 14) (dC (.int 50))) (dC (.int 15)))) none) aNil))))) (SE ns u r x4 x5 x6 (.sh (seqS false names)) (.sh (seqS false ranked)) (.sh (.lst (dep.map D.int))) x10 (.sh (.int w)) (.own ((tks.map Tk.d).map T.leaf)) x13 (.sh (.int (j : Int))) (.sh (.lst (row.map D.int))) x16) = .ok (.sh t.d) := by
    rw [x_call, x_cons, x_cons, x_cons, x_cons, x_cons, es, v_sh (i := 7) (d := seqS false names) rfl, v_sh (i := 9) (d := .lst (dep.map D.int)) rfl, v_sh (i := 8) (d := seqS false ranked) rfl, v_sh (i := 11) (d := .int w) rfl, x_nil, x_cons_ok, x_cons_ok, x_cons_ok, x_cons_ok, x_cons_ok, x_call_ok, callN_ssssf, x_leaves, et]
  refine ⟨t, .sh (.lst (row.map D.int)), ht', rfl, ?_⟩
  rw [x_app, ec]
  show appK 12 _ (some (.own ((tks.map Tk.d).map T.leaf))) _ = _
  rw [x_app_sh (by rw [List.length_map, List.length_map]; omega), List.map_append, List.map_append]
  rfl
theorem seZ_ok {m : Nat} (B : Bs names ranked dep) (hm : m ≤ 60) (f14 : x14.free = true) (f15 : x15.free = true) (f16 : x16.free = true) :
    ∃ s : Sn, (s.Ok ∧ s.ties.length ≤ 19) ∧ runK (seZ (SE ns u r x4 x5 x6 (.sh (seqS false names)) (.sh (seqS false ranked)) (.sh (.lst (dep.map D.int))) x10 (.sh (.int w)) (.own []) (.sh (.int (m : Int))) x14 x15 x16)) = .ok (.fr [.leaf (.lst (s.names.map D.str)), .leaf (.lst (s.tks.map Tk.d)), .leaf (.lst (s.dep.map D.int)), .leaf (.lst (s.ties.map tieD))]) := by
  obtain ⟨_, ⟨tks, y14, y15, h1, h2, g14, g15, rfl⟩, e⟩ := forD_range (b := bName 14) (g := seK) (n := m)
    (P := fun j ρ => ∃ (tks : List Tk) (x14 x15 : SV), (∀ t ∈ tks, okTk names t) ∧ tks.length = j ∧ x14.free = true ∧ x15.free = true ∧ ρ = SE ns u r x4 x5 x6 (.sh (seqS false names)) (.sh (seqS false ranked)) (.sh (.lst (dep.map D.int))) x10 (.sh (.int w)) (.own ((tks.map Tk.d).map T.leaf)) (.sh (.int (m : Int))) x14 x15 x16) (by
      rintro j hj ρ ⟨tks, x14, x15, h1, h2, f14, f15, rfl⟩
      obtain ⟨t, y15, q1, g15, q2⟩ := seK_ok (ns := ns) (u := u) (r := r) (x4 := x4) (x5 := x5) (x6 := x6) (x10 := x10) (w := w) (x13 := .sh (.int (m : Int))) (x16 := x16) B (show j < 60 by omega) h1 (by omega) f15
      refine ⟨SE ns u r x4 x5 x6 (.sh (seqS false names)) (.sh (seqS false ranked)) (.sh (.lst (dep.map D.int))) x10 (.sh (.int w)) (.own ((tks.map Tk.d).map T.leaf)) (.sh (.int (m : Int))) (.sh (.int (j : Int))) x15 x16, _, by simp only [SE, bName, putR, List.getElem?_cons_succ, List.getElem?_cons_zero, f14, if_true, List.set_cons_succ, List.set_cons_zero], q2, tks ++ [t], .sh (.int (j : Int)), y15, fun t' ht' => ?_, by rw [List.length_append, List.length_singleton, h2], rfl, g15, rfl⟩
      rcases List.mem_append.mp ht' with z | z
      · exact h1 t' z
      · rw [List.mem_singleton.mp z]
        exact q1) _ ⟨[], x14, x15, (fun t ht => by cases ht), rfl, f14, f15, rfl⟩
  have i1 : iR1 (dVar 13) (SE ns u r x4 x5 x6 (.sh (seqS false names)) (.sh (seqS false ranked)) (.sh (.lst (dep.map D.int))) x10 (.sh (.int w)) (.own []) (.sh (.int (m : Int))) x14 x15 x16) = .ok (rangeD 0 m) := by
    rw [x_rng (n := (m : Int)) (by omega) (v_sh rfl), Int.toNat_natCast]
  have e' : forD (bName 14) seK (rangeD 0 m) (SE ns u r x4 x5 x6 (.sh (seqS false names)) (.sh (seqS false ranked)) (.sh (.lst (dep.map D.int))) x10 (.sh (.int w)) (.own []) (.sh (.int (m : Int))) x14 x15 x16) = _ := e
  rw [seZ, x_seq, x_for, i1, x_for_ok, e', x_seq_nx]
  obtain ⟨z15, k15, q15⟩ := x_frz_any (i := 15) (g := dSeq (dSet 16 (dCall 4 F_l_ties [] (aCons (dVar 7) (aCons (dVar 8) (aCons (dVar 11) (aCons (dgc 0 (d2 gAdd (dVar 1) (dC (.int 2))) (d2 gAdd (dLst (litA [8])) (d2 gMul (dLst (litA [12, 11, 8])) (dC (.int 19))))) aNil))))))
    (dFrz 16 (dFrz 12 (dRet (dLst (aCons (dVar 7) (aCons (dVar 12) (aCons (dVar 9) (aCons (dVar 16) aNil))))))))) (ρ := SE ns u r x4 x5 x6 (.sh (seqS false names)) (.sh (seqS false ranked)) (.sh (.lst (dep.map D.int))) x10 (.sh (.int w)) (.own ((tks.map Tk.d).map T.leaf)) (.sh (.int (m : Int))) y14 y15 x16) rfl g15
  rw [q15]
  show ∃ s : Sn, _ ∧ runK (dSeq _ _ (SE ns u r x4 x5 x6 (.sh (seqS false names)) (.sh (seqS false ranked)) (.sh (.lst (dep.map D.int))) x10 (.sh (.int w)) (.own ((tks.map Tk.d).map T.leaf)) (.sh (.int (m : Int))) y14 z15 x16)) = _
  obtain ⟨row, hrow, er⟩ := dgc_ok (ns := ns) (sizes := s58) (k := 5) (i := 0) (f := d2 gAdd (dVar 1) (dC (.int 2))) (ρ := SE ns u r x4 x5 x6 (.sh (seqS false names)) (.sh (seqS false ranked)) (.sh (.lst (dep.map D.int))) x10 (.sh (.int w)) (.own ((tks.map Tk.d).map T.leaf)) (.sh (.int (m : Int))) y14 z15 x16) (L := d2 gAdd (dLst (litA [8])) (d2 gMul (dLst (litA [12, 11, 8])) (dC (.int 19)))) (by omega) rfl rfl rfl (by decide +kernel) (by decide +kernel)
  have hlen : row.length = 58 := hrow.1
  obtain ⟨tis, w1, w2, et⟩ := ties_made (w := w) (row := row) B.so B.nd B.nl B.hr B.hr2 (by omega) (fun h => by
    obtain ⟨d, hd, d1⟩ := hrow.at (i := 0) (s := 8) rfl
    rw [List.getElem?_eq_getElem h] at hd
    rw [Option.some.inj hd]
    exact d1)
  have ec : dCall 4 F_l_ties [] (aCons (dVar 7) (aCons (dVar 8) (aCons (dVar 11) (aCons (dgc 0 (d2 gAdd (dVar 1) (dC (.int 2))) (d2 gAdd (dLst (litA [8])) (d2 gMul (dLst (litA [12, 11, 8])) (dC (.int 19))))) aNil)))) (SE ns u r x4 x5 x6 (.sh (seqS false names)) (.sh (seqS false ranked)) (.sh (.lst (dep.map D.int))) x10 (.sh (.int w)) (.own ((tks.map Tk.d).map T.leaf)) (.sh (.int (m : Int))) y14 z15 x16) = .ok (.fr ((tis.map tieD).map T.leaf)) := by
    rw [x_call, x_cons, x_cons, x_cons, x_cons, er, v_sh (i := 7) (d := seqS false names) rfl, v_sh (i := 8) (d := seqS false ranked) rfl, v_sh (i := 11) (d := .int w) rfl, x_nil, x_cons_ok, x_cons_ok, x_cons_ok, x_cons_ok, x_call_ok, callN_sssf, x_leaves, et]
  refine ⟨⟨names, tks, dep, tis⟩, ⟨⟨B.so, B.nm, B.nd, B.ne, B.nl, h1, by show tks.length ≤ 100; omega, B.dl, B.dp, w1, by show tis.length ≤ 100; omega⟩, w2⟩, ?_⟩
  rw [st_fr (i := 16) (y := x16) ec rfl f16, x_leaves]
  show runK (dFrz 12 _ (SE ns u r x4 x5 x6 (.sh (seqS false names)) (.sh (seqS false ranked)) (.sh (.lst (dep.map D.int))) x10 (.sh (.int w)) (.own ((tks.map Tk.d).map T.leaf)) (.sh (.int (m : Int))) y14 z15 (.sh (.lst (tis.map tieD))))) = _
  rw [x_frz]
  show runK (frzK 12 _ _ (some (.own ((tks.map Tk.d).map T.leaf)))) = _
  rw [x_frz_own, x_leaves]
  rfl
end
end K49
set_option Elab.async false
set_option linter.all false
set_option maxRecDepth 100000
namespace K49
open PySem PySem.Spec PyProof.Rows L2 Dl
section
variable {ρ : Dl.Env} {names ranked : List Str} {dep row head ns : List Int} {w : Int} {u r : Int} {x4 x5 x6 x7 x8 x9 x10 x11 x12 x13 x14 x15 x16 : SV} {tks : List Tk}
def sH : List Int := [120, 12, 16, 6, 8]
theorem hd_ok {i : Int} {j : Nat} {s : Int} (h4 : ρ[4]? = some (.sh (.lst (head.map D.int)))) (hh : okRow head sH) (hi : i = (j : Int)) (hs : sH[j]? = some s) : ∃ d : Int, 0 ≤ d ∧ d < s ∧ head[j]? = some d ∧ hd i ρ = .ok (.sh (.int d)) := by
  obtain ⟨d, hd', d1, d2'⟩ := hh.at hs
  refine ⟨d, d1, d2', hd', ?_⟩
  rw [hi]
  exact x_ixe h4 x_c (by rw [List.getElem?_map, hd']; rfl)
theorem min_at {j : Nat} {L : List Int} {i : Int} {a q : Int} (hL : L.length ≤ 1000) (ha : ρ[j]? = some (.sh (.int a))) (hq : hd i ρ = .ok (.sh (.int q))) (hq2 : 0 ≤ q ∧ q < L.length) : ∃ v ∈ L, seMin j (litA L) i ρ = .ok (.sh (.int (if v < a then v else a))) := by
  obtain ⟨v, hv, ev⟩ := lit_at (ρ := ρ) hL hq hq2
  refine ⟨v, hv, ?_⟩
  rw [seMin, x_c1, x_cons, x_cons, v_sh ha, ev, x_nil, x_cons_ok, x_cons_ok, x_c1_ok, min_ok]
theorem seY_ok (B : Bs names ranked dep) (hh : okRow head sH) (hr : r = 10 ∨ r = 60) :
    ∃ s : Sn, (s.Ok ∧ s.ties.length ≤ 19) ∧ runK (seY (SE ns u r (.sh (.lst (head.map D.int))) x5 x6 (.sh (seqS false names)) (.sh (seqS false ranked)) (.sh (.lst (dep.map D.int))) x10 .no .no .no .no .no .no)) = .ok (.fr [.leaf (.lst (s.names.map D.str)), .leaf (.lst (s.tks.map Tk.d)), .leaf (.lst (s.dep.map D.int)), .leaf (.lst (s.ties.map tieD))]) := by
  obtain ⟨d, d1, d2', _, e4⟩ := hd_ok (ρ := SE ns u r (.sh (.lst (head.map D.int))) x5 x6 (.sh (seqS false names)) (.sh (seqS false ranked)) (.sh (.lst (dep.map D.int))) x10 .no .no .no .no .no .no) (i := 4) (j := 4) rfl hh rfl rfl
  obtain ⟨w, _, ew⟩ := lit_at (L := [8, 8, 8, 7, 7, 6, 4, 1]) (by decide) e4 ⟨d1, by simpa using d2'⟩
  rw [seY, st_sh (i := 11) (y := .no) (f := d2 gIx (dLst L3) (hd 4)) ew rfl rfl]
  show ∃ s : Sn, _ ∧ runK (dSeq _ _ (SE ns u r (.sh (.lst (head.map D.int))) x5 x6 (.sh (seqS false names)) (.sh (seqS false ranked)) (.sh (.lst (dep.map D.int))) x10 (.sh (.int w)) .no .no .no .no .no)) = _
  rw [st_fr0 (i := 12) (y := .no) (f := dLst aNil) (ts := []) rfl rfl rfl]
  show ∃ s : Sn, _ ∧ runK (dSeq _ _ (SE ns u r (.sh (.lst (head.map D.int))) x5 x6 (.sh (seqS false names)) (.sh (seqS false ranked)) (.sh (.lst (dep.map D.int))) x10 (.sh (.int w)) (.own []) .no .no .no .no)) = _
  obtain ⟨q, q1, q2, _, e2⟩ := hd_ok (ρ := SE ns u r (.sh (.lst (head.map D.int))) x5 x6 (.sh (seqS false names)) (.sh (seqS false ranked)) (.sh (.lst (dep.map D.int))) x10 (.sh (.int w)) (.own []) .no .no .no .no) (i := 2) (j := 2) rfl hh rfl rfl
  obtain ⟨v, hv, ev⟩ := min_at (j := 3) (a := r) (L := [3, 4, 2, 5, 6, 0, 8, 4, 5, 1, 3, 7, 10, 6, 12, 9]) (by decide) rfl e2 ⟨q1, by simpa using q2⟩
  rw [st_sh (i := 13) (y := .no) (f := seMin 3 L4 2) ev rfl rfl]
  have hv2 : 0 ≤ v ∧ v ≤ 12 := by
    simp only [List.mem_cons, List.not_mem_nil, or_false] at hv
    omega
  obtain ⟨m0, hm0, em0⟩ : ∃ m : Nat, m ≤ 60 ∧ (if v < r then v else r) = (m : Int) := by
    split
    · exact ⟨v.toNat, by omega, by omega⟩
    · exact ⟨r.toNat, by omega, by omega⟩
  rw [em0]
  show ∃ s : Sn, _ ∧ runK (dSeq _ _ (SE ns u r (.sh (.lst (head.map D.int))) x5 x6 (.sh (seqS false names)) (.sh (seqS false ranked)) (.sh (.lst (dep.map D.int))) x10 (.sh (.int w)) (.own []) (.sh (.int (m0 : Int))) .no .no .no)) = _
  have step : ∃ m : Nat, m ≤ 60 ∧ dIf (dT tBool (d2 gGt (dVar 3) (dC (.int 12)))) (dSet 13 (d2 gIx (dLst L5) (hd 2))) dNext (SE ns u r (.sh (.lst (head.map D.int))) x5 x6 (.sh (seqS false names)) (.sh (seqS false ranked)) (.sh (.lst (dep.map D.int))) x10 (.sh (.int w)) (.own []) (.sh (.int (m0 : Int))) .no .no .no) = .ok (.nx (SE ns u r (.sh (.lst (head.map D.int))) x5 x6 (.sh (seqS false names)) (.sh (seqS false ranked)) (.sh (.lst (dep.map D.int))) x10 (.sh (.int w)) (.own []) (.sh (.int (m : Int))) .no .no .no)) := by
    rw [x_if, x_gtT (a := r) (b := 12) (v_sh rfl) x_c]
    by_cases h : (12 : Int) < r
    · obtain ⟨q, q1, q2, _, e2⟩ := hd_ok (ρ := SE ns u r (.sh (.lst (head.map D.int))) x5 x6 (.sh (seqS false names)) (.sh (seqS false ranked)) (.sh (.lst (dep.map D.int))) x10 (.sh (.int w)) (.own []) (.sh (.int (m0 : Int))) .no .no .no) (i := 2) (j := 2) rfl hh rfl rfl
      obtain ⟨v, hv, ev⟩ := lit_at (L := [20, 60, 30, 15, 45, 13, 60, 25, 17, 50, 24, 36, 15, 59, 40, 21]) (by decide) e2 ⟨q1, by simpa using q2⟩
      have hv2 : 0 ≤ v ∧ v ≤ 60 := by
        simp only [List.mem_cons, List.not_mem_nil, or_false] at hv
        omega
      obtain ⟨m, hm⟩ : ∃ m : Nat, v = (m : Int) := ⟨v.toNat, by omega⟩
      rw [hm] at ev
      refine ⟨m, by omega, ?_⟩
      have ev' : d2 gIx (dLst L5) (hd 2) (SE ns u r (.sh (.lst (head.map D.int))) x5 x6 (.sh (seqS false names)) (.sh (seqS false ranked)) (.sh (.lst (dep.map D.int))) x10 (.sh (.int w)) (.own []) (.sh (.int (m0 : Int))) .no .no .no) = .ok (.sh (.int (m : Int))) := ev
      rw [decide_eq_true h, x_if_t, x_set, ev']
      rfl
    · exact ⟨m0, hm0, by rw [decide_eq_false h]; rfl⟩
  obtain ⟨m, hm, em⟩ := step
  rw [x_seq, em, x_seq_nx]
  exact seZ_ok B hm rfl rfl rfl
theorem seD_ok {m : Nat} (hh : okRow head sH) (hr : okRow row (List.replicate 12 12 ++ List.replicate 12 8 ++ List.replicate 12 12)) (hm : m ≤ 12) (hm0 : 0 < m) (hd0 : dep.length = m) (hdp : ∀ d ∈ dep, 1 ≤ d) :
    ∃ (dep' : List Int) (y9 y10 : SV), dep'.length = m ∧ (∀ d ∈ dep', 1 ≤ d) ∧ y10.free = true ∧ (y9 = .sh (.lst (dep'.map D.int)) ∨ y9 = .own ((dep'.map D.int).map T.leaf)) ∧
      seD (SE ns u r (.sh (.lst (head.map D.int))) (.sh (.lst (row.map D.int))) (.sh (.int (m : Int))) x7 x8 (.sh (.lst (dep.map D.int))) .no .no .no .no .no .no .no) = .ok (.nx (SE ns u r (.sh (.lst (head.map D.int))) (.sh (.lst (row.map D.int))) (.sh (.int (m : Int))) x7 x8 y9 y10 .no .no .no .no .no .no)) := by
  obtain ⟨d, d1, d2', hd3, e3⟩ := hd_ok (ρ := SE ns u r (.sh (.lst (head.map D.int))) (.sh (.lst (row.map D.int))) (.sh (.int (m : Int))) x7 x8 (.sh (.lst (dep.map D.int))) .no .no .no .no .no .no .no) (i := 3) (j := 3) rfl hh rfl rfl
  have hlen : row.length = 36 := hr.1
  obtain ⟨b, eb⟩ : ∃ b, dAndT (dT tBool (d2 gGe (hd 3) (dC (.int 3)))) (dT tBool (d2 gNe (hd 3) (dC (.int 5)))) (SE ns u r (.sh (.lst (head.map D.int))) (.sh (.lst (row.map D.int))) (.sh (.int (m : Int))) x7 x8 (.sh (.lst (dep.map D.int))) .no .no .no .no .no .no .no) = .ok b := by
    rw [x_andT, x_geT e3 x_c]
    by_cases h : (3 : Int) ≤ d
    · exact ⟨!decide (d = 5), by rw [decide_eq_true h, x_andT_t, x_t, x_d2, e3, x_c, x_d2_ok, x_neI, x_t_ok, x_tBool]⟩
    · exact ⟨false, by rw [decide_eq_false h]; rfl⟩
  rw [seD, x_if, eb]
  cases b with
  | false => exact ⟨dep, _, .no, hd0, hdp, rfl, .inl rfl, rfl⟩
  | true =>
    obtain ⟨rg, g1, g2, eg⟩ := sdR_ok (m := m) (row := row) (y := .no) (ρ := SE ns u r (.sh (.lst (head.map D.int))) (.sh (.lst (row.map D.int))) (.sh (.int (m : Int))) x7 x8 (.sh (.lst (dep.map D.int))) .no .no .no .no .no .no .no) rfl hlen rfl hm0 rfl
    rw [x_if_t, st_fr (i := 10) (y := .no) eg rfl rfl, x_leaves]
    show ∃ (dep' : List Int) (y9 y10 : SV), _ ∧ _ ∧ _ ∧ _ ∧ dSet 9 sdB (SE ns u r (.sh (.lst (head.map D.int))) (.sh (.lst (row.map D.int))) (.sh (.int (m : Int))) x7 x8 (.sh (.lst (dep.map D.int))) (.sh (.lst (rg.map D.int))) .no .no .no .no .no .no) = _
    obtain ⟨dep', k1, k2, ek⟩ := sdB_ok (m := m) (row := row) (rg := rg) (y := .no) (ρ := SE ns u r (.sh (.lst (head.map D.int))) (.sh (.lst (row.map D.int))) (.sh (.int (m : Int))) x7 x8 (.sh (.lst (dep.map D.int))) (.sh (.lst (rg.map D.int))) .no .no .no .no .no .no) rfl hr rfl hm rfl g1 g2 rfl
    refine ⟨dep', .own ((dep'.map D.int).map T.leaf), .sh (.lst (rg.map D.int)), k1, k2, rfl, .inr rfl, ?_⟩
    rw [x_set, ek]
    rfl
theorem seX_ok {m : Nat} (hh : okRow head sH) (hr : okRow row (List.replicate 12 12 ++ List.replicate 12 8 ++ List.replicate 12 12)) (hm : m ≤ 12) (hm0 : 0 < m) (hr' : r = 10 ∨ r = 60) :
    ∃ s : Sn, (s.Ok ∧ s.ties.length ≤ 19) ∧ runK (seX (SE ns u r (.sh (.lst (head.map D.int))) (.sh (.lst (row.map D.int))) (.sh (.int (m : Int))) .no .no .no .no .no .no .no .no .no .no)) = .ok (.fr [.leaf (.lst (s.names.map D.str)), .leaf (.lst (s.tks.map Tk.d)), .leaf (.lst (s.dep.map D.int)), .leaf (.lst (s.ties.map tieD))]) := by
  have hlen : row.length = 36 := hr.1
  obtain ⟨d, d1, d2', _, e0⟩ := hd_ok (ρ := SE ns u r (.sh (.lst (head.map D.int))) (.sh (.lst (row.map D.int))) (.sh (.int (m : Int))) .no .no .no .no .no .no .no .no .no .no) (i := 0) (j := 0) rfl hh rfl rfl
  obtain ⟨dn, hdn⟩ : ∃ n : Nat, d = (n : Int) := ⟨d.toNat, by omega⟩
  have hdn120 : dn < 120 := by omega
  have en : dCall 2 F_l_names [] (aCons (hd 0) (aCons (dVar 6) aNil)) (SE ns u r (.sh (.lst (head.map D.int))) (.sh (.lst (row.map D.int))) (.sh (.int (m : Int))) .no .no .no .no .no .no .no .no .no .no) = .ok (.fr ((((List.range m).map (nameOf dn)).map D.str).map T.leaf)) := by
    rw [x_call, x_cons, x_cons, e0, v_sh (i := 6) (d := .int (m : Int)) rfl, x_nil, x_cons_ok, x_cons_ok, x_call_ok, callN_ss, hdn, names_ok hdn120 hm]
  have B1 : (∀ n ∈ (List.range m).map (nameOf dn), PyData.strOk n = true) ∧ (∀ n ∈ (List.range m).map (nameOf dn), F_is_name [.str n] = .ok (.sh (.bl true))) := by
    refine ⟨fun n hn => ?_, fun n hn => ?_⟩
    · obtain ⟨j, hj, rfl⟩ := List.mem_map.mp hn
      exact name_so dn hdn120 j (by have := List.mem_range.mp hj; omega)
    · obtain ⟨j, hj, rfl⟩ := List.mem_map.mp hn
      exact isOk_eq (name_is dn hdn120 j (by have := List.mem_range.mp hj; omega))
  have B2 : ((List.range m).map (nameOf dn)).Nodup := ((List.range_sublist.mpr hm).map (nameOf dn)).nodup (name_nd dn hdn120)
  have B3 : ((List.range m).map (nameOf dn)).length = m := by rw [List.length_map, List.length_range]
  rw [seX, st_fr (i := 7) (y := .no) en rfl rfl, x_leaves]
  generalize (List.range m).map (nameOf dn) = names at B1 B2 B3
  show ∃ s : Sn, _ ∧ runK (dSeq _ _ (SE ns u r (.sh (.lst (head.map D.int))) (.sh (.lst (row.map D.int))) (.sh (.int (m : Int))) (.sh (seqS false names)) .no .no .no .no .no .no .no .no .no)) = _
  obtain ⟨ys, hp, ey⟩ := order_ok (row := row) (n := m) (by omega) (by omega)
  have yl : ys.length ≤ 12 := by
    have := hp.length_eq
    rw [List.length_range] at this
    omega
  have er : dLc (iA (dCall 2 F_l_order [] (aCons (dVar 5) (aCons (dVar 6) aNil)))) (bName 14) dYes (d2 gIx (dVar 7) (dVar 14)) [14] (SE ns u r (.sh (.lst (head.map D.int))) (.sh (.lst (row.map D.int))) (.sh (.int (m : Int))) (.sh (seqS false names)) .no .no .no .no .no .no .no .no .no) = .ok (.fr (((ys.map fun j => (names[j]?).getD ("" : Str)).map D.str).map T.leaf)) := by
    have i1 : iA (dCall 2 F_l_order [] (aCons (dVar 5) (aCons (dVar 6) aNil))) (SE ns u r (.sh (.lst (head.map D.int))) (.sh (.lst (row.map D.int))) (.sh (.int (m : Int))) (.sh (seqS false names)) .no .no .no .no .no .no .no .no .no) = .ok (ys.map ixD) := by
      rw [x_iA, x_call, x_cons, x_cons, v_sh (i := 5) (d := .lst (row.map D.int)) rfl, v_sh (i := 6) (d := .int (m : Int)) rfl, x_nil, x_cons_ok, x_cons_ok, x_call_ok, callN_ss, ey, x_wK, x_walk_fr, x_leaves]
    rw [x_lc, x_wipe1, i1, x_lc_of (c := ixD) (p := fun _ => true) (k := fun (j : Nat) => D.str ((names[j]?).getD ("" : Str))) (by omega) fun j hj => ⟨SE ns u r (.sh (.lst (head.map D.int))) (.sh (.lst (row.map D.int))) (.sh (.int (m : Int))) (.sh (seqS false names)) .no .no .no .no .no .no (.sh (.int (j : Int))) .no .no, rfl, rfl, fun _ => ?_⟩, filter_yes]
    · rw [List.map_map, List.map_map, List.map_map]
      rfl
    · have hj' : j < names.length := by rw [B3]; exact perm_in hp j hj
      exact x_ixv (i := 7) (k := 14) (j := j) (ds := names.map D.str) rfl rfl (by rw [get_map hj', List.getElem?_eq_getElem hj']; rfl)
  have R1 : ∀ n ∈ names, n ∈ ys.map fun j => (names[j]?).getD ("" : Str) := fun n hn => by
    obtain ⟨j, hj, rfl⟩ := List.getElem_of_mem hn
    refine List.mem_map.mpr ⟨j, perm_of hp j (by omega), ?_⟩
    rw [List.getElem?_eq_getElem hj]
    rfl
  have R2 : ∀ n ∈ ys.map (fun j => (names[j]?).getD ("" : Str)), n ∈ names := fun n hn => by
    obtain ⟨j, hj, rfl⟩ := List.mem_map.mp hn
    have hj' : j < names.length := by rw [B3]; exact perm_in hp j hj
    rw [List.getElem?_eq_getElem hj']
    exact List.getElem_mem hj'
  have R3 : (ys.map fun j => (names[j]?).getD ("" : Str)).length ≤ 12 := by rw [List.length_map]; exact yl
  rw [st_fr (i := 8) (y := .no) er rfl rfl, x_leaves]
  generalize ys.map (fun j => (names[j]?).getD ("" : Str)) = ranked at R1 R2 R3
  show ∃ s : Sn, _ ∧ runK (dSeq _ _ (SE ns u r (.sh (.lst (head.map D.int))) (.sh (.lst (row.map D.int))) (.sh (.int (m : Int))) (.sh (seqS false names)) (.sh (seqS false ranked)) .no .no .no .no .no .no .no .no)) = _
  obtain ⟨dep0, k1, k2, ek⟩ := sdA_ok (head := head) (names := names) (y := .no) (ρ := SE ns u r (.sh (.lst (head.map D.int))) (.sh (.lst (row.map D.int))) (.sh (.int (m : Int))) (.sh (seqS false names)) (.sh (seqS false ranked)) .no .no .no .no .no .no .no .no) rfl hh.1 rfl (by omega) rfl
  rw [st_fr (i := 9) (y := .no) ek rfl rfl, x_leaves]
  show ∃ s : Sn, _ ∧ runK (dSeq _ _ (SE ns u r (.sh (.lst (head.map D.int))) (.sh (.lst (row.map D.int))) (.sh (.int (m : Int))) (.sh (seqS false names)) (.sh (seqS false ranked)) (.sh (.lst (dep0.map D.int))) .no .no .no .no .no .no .no)) = _
  obtain ⟨dep, y9, y10, j1, j2, f10, h9, ed⟩ := seD_ok (ns := ns) (u := u) (r := r) (x7 := .sh (seqS false names)) (x8 := .sh (seqS false ranked)) hh hr hm hm0 (by omega) k2
  rw [x_seq, ed, x_seq_nx]
  obtain ⟨z10, g10, q10⟩ := x_frz_any (i := 10) (g := dFrz 9 seY) (ρ := SE ns u r (.sh (.lst (head.map D.int))) (.sh (.lst (row.map D.int))) (.sh (.int (m : Int))) (.sh (seqS false names)) (.sh (seqS false ranked)) y9 y10 .no .no .no .no .no .no) rfl f10
  rw [q10]
  show ∃ s : Sn, _ ∧ runK (dFrz 9 _ (SE ns u r (.sh (.lst (head.map D.int))) (.sh (.lst (row.map D.int))) (.sh (.int (m : Int))) (.sh (seqS false names)) (.sh (seqS false ranked)) y9 z10 .no .no .no .no .no .no)) = _
  have e9 : dFrz 9 seY (SE ns u r (.sh (.lst (head.map D.int))) (.sh (.lst (row.map D.int))) (.sh (.int (m : Int))) (.sh (seqS false names)) (.sh (seqS false ranked)) y9 z10 .no .no .no .no .no .no) = seY (SE ns u r (.sh (.lst (head.map D.int))) (.sh (.lst (row.map D.int))) (.sh (.int (m : Int))) (.sh (seqS false names)) (.sh (seqS false ranked)) (.sh (.lst (dep.map D.int))) z10 .no .no .no .no .no .no) := by
    rcases h9 with rfl | rfl
    · rfl
    · rw [x_frz]
      show frzK 9 seY _ (some (.own ((dep.map D.int).map T.leaf))) = _
      rw [x_frz_own, x_leaves]
      rfl
  rw [e9]
  refine seY_ok ⟨B1.1, B1.2, B2, ?_, by omega, R1, R2, R3, by omega, j2⟩ hh hr'
  rintro rfl
  rw [List.length_nil] at B3
  omega
theorem seen_drawn (hu : u = 6 ∨ u = 12) (hr' : r = 10 ∨ r = 60) : ∃ s : Sn, (s.Ok ∧ s.ties.length ≤ 19) ∧ F_l_seen [.scr ns, .int 3, .int u, .int r] = .ok (.fr [.leaf (.lst (s.names.map D.str)), .leaf (.lst (s.tks.map Tk.d)), .leaf (.lst (s.dep.map D.int)), .leaf (.lst (s.ties.map tieD))]) := by
  rw [F_l_seen, x_run]
  generalize hG : g_l_seen = G
  show ∃ s : Sn, _ ∧ runK (G (SE ns u r .no .no .no .no .no .no .no .no .no .no .no .no .no)) = _
  rw [← hG, seen_eq]
  obtain ⟨head, hh, eh⟩ := dgc_ok (ns := ns) (sizes := sH) (k := 3) (i := 0) (f := dVar 1) (ρ := SE ns u r .no .no .no .no .no .no .no .no .no .no .no .no .no) (L := dLst (litA [120, 12, 16, 6, 8])) (by omega) rfl rfl rfl (by decide +kernel) (by decide +kernel)
  rw [st_fr (i := 4) (y := .no) eh rfl rfl, x_leaves]
  show ∃ s : Sn, _ ∧ runK (dSeq _ _ (SE ns u r (.sh (.lst (head.map D.int))) .no .no .no .no .no .no .no .no .no .no .no .no)) = _
  obtain ⟨row, hr, er⟩ := dgc_ok (ns := ns) (sizes := List.replicate 12 12 ++ List.replicate 12 8 ++ List.replicate 12 12) (k := 4) (i := 0) (f := d2 gAdd (dVar 1) (dC (.int 1))) (ρ := SE ns u r (.sh (.lst (head.map D.int))) .no .no .no .no .no .no .no .no .no .no .no .no) (L := d2 gAdd (d2 gAdd (d2 gMul (dLst (litA [12])) (dC (.int 12))) (d2 gMul (dLst (litA [8])) (dC (.int 12)))) (d2 gMul (dLst (litA [12])) (dC (.int 12)))) (by omega) rfl rfl rfl (by decide +kernel) (by decide +kernel)
  rw [st_fr (i := 5) (y := .no) er rfl rfl, x_leaves]
  show ∃ s : Sn, _ ∧ runK (dSeq _ _ (SE ns u r (.sh (.lst (head.map D.int))) (.sh (.lst (row.map D.int))) .no .no .no .no .no .no .no .no .no .no .no)) = _
  obtain ⟨q, q1, q2, _, e1⟩ := hd_ok (ρ := SE ns u r (.sh (.lst (head.map D.int))) (.sh (.lst (row.map D.int))) .no .no .no .no .no .no .no .no .no .no .no) (i := 1) (j := 1) rfl hh rfl rfl
  obtain ⟨v, hv, ev⟩ := min_at (j := 2) (a := u) (L := [3, 4, 2, 5, 3, 4, 6, 1, 5, 4, 3, 6]) (by decide) rfl e1 ⟨q1, by simpa using q2⟩
  have hv2 : 1 ≤ v ∧ v ≤ 12 := by
    simp only [List.mem_cons, List.not_mem_nil, or_false] at hv
    omega
  obtain ⟨m0, hm0, hm0', em0⟩ : ∃ m : Nat, m ≤ 12 ∧ 0 < m ∧ (if v < u then v else u) = (m : Int) := by
    split
    · exact ⟨v.toNat, by omega, by omega, by omega⟩
    · exact ⟨u.toNat, by omega, by omega, by omega⟩
  rw [em0] at ev
  rw [st_sh (i := 6) (y := .no) (f := seMin 2 L1 1) ev rfl rfl]
  show ∃ s : Sn, _ ∧ runK (dSeq _ _ (SE ns u r (.sh (.lst (head.map D.int))) (.sh (.lst (row.map D.int))) (.sh (.int (m0 : Int))) .no .no .no .no .no .no .no .no .no .no)) = _
  have step : ∃ m : Nat, m ≤ 12 ∧ 0 < m ∧ dIf (dT tBool (d2 gGt (dVar 2) (dC (.int 6)))) (dSet 6 (seMin 2 L2' 1)) dNext (SE ns u r (.sh (.lst (head.map D.int))) (.sh (.lst (row.map D.int))) (.sh (.int (m0 : Int))) .no .no .no .no .no .no .no .no .no .no) = .ok (.nx (SE ns u r (.sh (.lst (head.map D.int))) (.sh (.lst (row.map D.int))) (.sh (.int (m : Int))) .no .no .no .no .no .no .no .no .no .no)) := by
    rw [x_if, x_gtT (a := u) (b := 6) (v_sh rfl) x_c]
    by_cases h : (6 : Int) < u
    · obtain ⟨q, q1, q2, _, e1⟩ := hd_ok (ρ := SE ns u r (.sh (.lst (head.map D.int))) (.sh (.lst (row.map D.int))) (.sh (.int (m0 : Int))) .no .no .no .no .no .no .no .no .no .no) (i := 1) (j := 1) rfl hh rfl rfl
      obtain ⟨v, hv, ev⟩ := min_at (j := 2) (a := u) (L := [7, 12, 9, 8, 6, 12, 10, 7, 11, 8, 9, 12]) (by decide) rfl e1 ⟨q1, by simpa using q2⟩
      have hv2 : 1 ≤ v ∧ v ≤ 12 := by
        simp only [List.mem_cons, List.not_mem_nil, or_false] at hv
        omega
      obtain ⟨m, hm, hm', em⟩ : ∃ m : Nat, m ≤ 12 ∧ 0 < m ∧ (if v < u then v else u) = (m : Int) := by
        split
        · exact ⟨v.toNat, by omega, by omega, by omega⟩
        · exact ⟨u.toNat, by omega, by omega, by omega⟩
      rw [em] at ev
      have ev' : seMin 2 L2' 1 (SE ns u r (.sh (.lst (head.map D.int))) (.sh (.lst (row.map D.int))) (.sh (.int (m0 : Int))) .no .no .no .no .no .no .no .no .no .no) = .ok (.sh (.int (m : Int))) := ev
      refine ⟨m, hm, hm', ?_⟩
      rw [decide_eq_true h, x_if_t, x_set, ev']
      rfl
    · exact ⟨m0, hm0, hm0', by rw [decide_eq_false h]; rfl⟩
  obtain ⟨m, hm, hm', em⟩ := step
  rw [x_seq, em, x_seq_nx]
  exact seX_ok hh hr hm hm' hr'
end
end K49
set_option Elab.async false
set_option linter.all false
set_option maxRecDepth 100000
namespace Dl
open PySem PySem.Spec PyProof.Rows L2
theorem x_ixc {ρ : Dl.Env} {i j : Nat} {k : Int} {ds : List D} {d : D} (hi : ρ[i]? = some (.sh (.lst ds))) (hk : k = (j : Int)) (hd : ds[j]? = some d) : d2 gIx (dVar i) (dC (.int k)) ρ = .ok (.sh d) := by
  rw [hk]
  exact x_ixe hi x_c hd
end Dl
namespace K49
open PySem PySem.Spec PyProof.Rows L2 Dl
section
variable {ρ : Dl.Env} {s : Sn} {head turns ns : List Int} {lots : List (List Str)} {x8 x9 x10 x11 x12 x13 x14 x15 x16 x17 x18 : SV}
/-- the law's slots behind the lots -/
abbrev LW (ns head turns : List Int) (s : Sn) (lots : List (List Str)) (x7 x8 x9 x10 x11 x12 x13 x14 x15 x16 : SV) : Dl.Env := [.sh (.scr ns), .sh (.lst (head.map D.int)), .sh s.d, .sh s.o, .sh (plO (peelR s)), .sh (.lst (turns.map D.int)), .sh (.lst (lots.map (seqS true))), x7, x8, x9, x10, x11, x12, x13, x14, x15, x16, .no, .no]
theorem ix_s {v : Nat} {i : Nat} {k : Int} {d : D} (h : ρ[v]? = some (.sh s.d)) (hk : k = (i : Int)) (hd : ([.lst (s.names.map D.str), .lst (s.tks.map Tk.d), .lst (s.dep.map D.int), .lst (s.ties.map tieD)] : List D)[i]? = some d) : d2 gIx (dVar v) (dC (.int k)) ρ = .ok (.sh d) := by
  rw [hk]
  exact x_ixe h x_c hd
theorem some_lots {i : Nat} (h : ρ[i]? = some (.sh (.lst (lots.map (seqS true))))) (hl : ∀ l ∈ lots, LotOk s l) : ∃ lots' : List (List Str), (∀ l ∈ lots', LotOk s l) ∧ dSl (dVar i) (some (dNeg (dC (.int 12)))) none ρ = .ok (.fr ((lots'.map (seqS true)).map T.leaf)) := by
  refine ⟨cutL lots (some (-12)) none, fun l h => hl l (cut_sub l h), ?_⟩
  rw [x_sl, v_sh h, x_sl_lo (k := -12) (by rw [x_neg, x_c]; rfl), x_sl_lst, cutL_map]
theorem head_eq {i : Nat} {k c : Int} {d : Int} (h : ρ[1]? = some (.sh (.lst (head.map D.int)))) (hk : k = (i : Int)) (hd : head[i]? = some d) : d2 gEq (d2 gIx (dVar 1) (dC (.int k))) (dC (.int c)) ρ = .ok (.sh (.bl (decide (d = c)))) := by
  rw [x_d2, hk, x_ixe (j := i) h x_c (by rw [List.getElem?_map, hd]; rfl), x_c, x_d2_ok, x_eqI]
theorem some_in {a b : List Str} {v i j : Nat} {f g : Dl.Env → Res EV} {y : SV} (hf : f ρ = .ok (.sh (seqS true a))) (hv : ρ[v]? = some y) (hg : ∀ z, g (ρ.set v z) = .ok (.sh (seqS true b))) (hs : ∀ x ∈ a, x ∈ b) (ha : a.length ≤ 1000) (so : ∀ n ∈ a, PyData.strOk n = true) (so2 : ∀ n ∈ b, PyData.strOk n = true) :
    dT tBool (d2 gGt (dC1 gLen (aCons (dLc (iA f) (bName v) (dT tBool (d2 gNotIn (dVar v) g)) (dVar v) [v]) aNil)) (dC (.int 0))) ρ = .ok false := by
  have i1 : iA f ρ = .ok (a.map D.str) := by rw [x_iA, hf, x_wK, walk_seq]
  have e : dLc (iA f) (bName v) (dT tBool (d2 gNotIn (dVar v) g)) (dVar v) [v] ρ = .ok (.fr []) := by
    rw [x_lc, x_wipe1, i1, x_lc_of (c := D.str) (p := fun _ => false) (k := D.str) (by omega) fun x hx => ⟨_, bn hv, ?_, fun z => by cases z⟩]
    · rw [List.filter_eq_nil_iff.mpr (fun _ _ => by simp)]
      rfl
    · rw [x_t, x_d2, v_sh (get_set hv), hg, x_d2_ok, nin_seq (so x hx) so2, decide_eq_true (hs x hx), x_t_ok, x_tBool]
      rfl
  rw [x_t, x_d2, x_c1, x_cons, e]
  rfl
def lwB : Stm := dSeq (dSet 9 (dLst (aCons (d2 gIx (dVar 2) (dC (.int 0))) (aCons (dSl (d2 gIx (dVar 2) (dC (.int 1))) none (some (dNeg (dC (.int 1))))) (aCons (d2 gIx (dVar 2) (dC (.int 2))) (aCons (dVar 8) aNil))))))
  (dFrz 9 (dSeq (dSet 10 (dCall 4 F_l_asked [] (aCons (dCall 2 F_l_made [] (aCons (dVar 9) (aCons (d2 gMod (dC1 gInt (aCons (d2 gAdd (d2 gIx (dVar 1) (dC (.int 2))) (dC (.int 1))) aNil)) (dC (.int 3))) aNil))) (aCons (dVar 9) (aCons (dSl (dVar 6) (some (dNeg (dC (.int 12)))) none) (aCons (d2 gEq (d2 gIx (dVar 1) (dC (.int 3))) (dC (.int 0))) aNil))))))
  (dFrz 10 (dIf (dOrT (dT tBool (dIsN (dVar 10))) (dT tBool (d2 gGt (dC1 gLen (aCons (dLc (iA (dFld "Peel" "left" (dVar 10))) (bName 17) (dT tBool (d2 gNotIn (dVar 17) (dFld "Peel" "left" (dVar 4)))) (dVar 17) [17]) aNil)) (dC (.int 0)))))
  (dRet (dC (.bl false)))
  dNext))))
theorem isN_plO {r : List Str × List Str} : nonK false (.ok (.sh (plO r))) = .ok (.sh (.bl false)) := rfl
theorem less_ok (k : s.Ok) {tks : List Tk} {tis : List (Str × Str)} (h1 : ∀ t ∈ tks, t ∈ s.tks) (h2 : ∀ p ∈ tis, p ∈ s.ties) (l1 : tks.length ≤ s.tks.length) (l2 : tis.length ≤ s.ties.length) : Sn.Ok ⟨s.names, tks, s.dep, tis⟩ :=
  ⟨k.so, k.nm, k.nd, k.ne, k.nl, fun t ht => k.tk t (h1 t ht), Nat.le_trans l1 k.tl, k.dl, k.dp, fun p hp => k.ti p (h2 p hp), Nat.le_trans l2 k.til⟩
theorem lwB_ok {tis : List (Str × Str)} {x7 : SV} (k : s.Ok) (hh : head.length = 4) (hl : ∀ l ∈ lots, LotOk s l) (h2 : ∀ p ∈ tis, p ∈ s.ties) (l2 : tis.length ≤ s.ties.length) (f9 : x9.free = true) (f10 : x10.free = true) :
    ∃ y9 y10 : SV, y9.free = true ∧ y10.free = true ∧ lwB (LW ns head turns s lots x7 (.sh (.lst (tis.map tieD))) x9 x10 x11 x12 x13 x14 x15 x16) = .ok (.nx (LW ns head turns s lots x7 (.sh (.lst (tis.map tieD))) y9 y10 x11 x12 x13 x14 x15 x16)) := by
  have kf : Sn.Ok ⟨s.names, s.tks.dropLast, s.dep, tis⟩ := less_ok k (fun t ht => List.dropLast_subset _ ht) h2 (by rw [List.length_dropLast]; omega) l2
  generalize hsf : (⟨s.names, s.tks.dropLast, s.dep, tis⟩ : Sn) = sf at kf
  have e1 : dLst (aCons (d2 gIx (dVar 2) (dC (.int 0))) (aCons (dSl (d2 gIx (dVar 2) (dC (.int 1))) none (some (dNeg (dC (.int 1))))) (aCons (d2 gIx (dVar 2) (dC (.int 2))) (aCons (dVar 8) aNil)))) (LW ns head turns s lots x7 (.sh (.lst (tis.map tieD))) x9 x10 x11 x12 x13 x14 x15 x16) = .ok (.fr [.leaf (.lst (s.names.map D.str)), .node ((s.tks.dropLast.map Tk.d).map T.leaf), .leaf (.lst (s.dep.map D.int)), .leaf (.lst (tis.map tieD))]) := by
    have e0 : dSl (d2 gIx (dVar 2) (dC (.int 1))) none (some (dNeg (dC (.int 1)))) (LW ns head turns s lots x7 (.sh (.lst (tis.map tieD))) x9 x10 x11 x12 x13 x14 x15 x16) = .ok (.fr ((s.tks.dropLast.map Tk.d).map T.leaf)) := by
      rw [x_sl, ix1 (s := s) rfl, x_sl_hi (k := -1) (by rw [x_neg, x_c]; rfl), x_sl_lst, cutL_map, cut_dropLast]
    rw [x_lst, x_cons, x_cons, x_cons, x_cons, ix0 (s := s) rfl, e0, ix2 (s := s) rfl, v_sh (i := 8) (d := .lst (tis.map tieD)) rfl, x_nil, x_cons_ok, x_cons_ok, x_cons_ok, x_cons_ok]
    rfl
  rw [lwB, st_fr (i := 9) (y := x9) e1 rfl f9]
  have ed : D.lst (T.toDs [.leaf (.lst (s.names.map D.str)), .node ((s.tks.dropLast.map Tk.d).map T.leaf), .leaf (.lst (s.dep.map D.int)), .leaf (.lst (tis.map tieD))]) = sf.d := by
    rw [← hsf]
    show D.lst [_, .lst (T.toDs ((s.tks.dropLast.map Tk.d).map T.leaf)), _, _] = _
    rw [x_leaves]
    rfl
  rw [ed]
  show ∃ y9 y10 : SV, _ ∧ _ ∧ dSeq _ _ (LW ns head turns s lots x7 (.sh (.lst (tis.map tieD))) (.sh sf.d) x10 x11 x12 x13 x14 x15 x16) = _
  obtain ⟨lots', q1, q2⟩ := some_lots (s := s) (ρ := LW ns head turns s lots x7 (.sh (.lst (tis.map tieD))) (.sh sf.d) x10 x11 x12 x13 x14 x15 x16) (i := 6) rfl hl
  have q1' : ∀ l ∈ lots', LotOk sf l := fun l h => by
    rw [← hsf]
    exact q1 l h
  have em : dCall 2 F_l_made [] (aCons (dVar 9) (aCons (d2 gMod (dC1 gInt (aCons (d2 gAdd (d2 gIx (dVar 1) (dC (.int 2))) (dC (.int 1))) aNil)) (dC (.int 3))) aNil)) (LW ns head turns s lots x7 (.sh (.lst (tis.map tieD))) (.sh sf.d) x10 x11 x12 x13 x14 x15 x16) = .ok (.sh sf.o) := by
    have ei : d2 gAdd (d2 gIx (dVar 1) (dC (.int 2))) (dC (.int 1)) (LW ns head turns s lots x7 (.sh (.lst (tis.map tieD))) (.sh sf.d) x10 x11 x12 x13 x14 x15 x16) = .ok (.sh (.int (head[2] + 1))) := by
      rw [x_d2, x_ixc (i := 1) (k := 2) (j := 2) (ds := head.map D.int) (d := .int head[2]) rfl rfl (get_map (by omega)), x_c, x_d2_ok, x_add]
    rw [x_call, x_cons, x_cons, v_sh (i := 9) (d := sf.d) rfl, x_modv ei x_c (by omega), x_nil, x_cons_ok, x_cons_ok, x_call_ok, callN_ss, made_ok kf]
  have ea : dCall 4 F_l_asked [] (aCons (dCall 2 F_l_made [] (aCons (dVar 9) (aCons (d2 gMod (dC1 gInt (aCons (d2 gAdd (d2 gIx (dVar 1) (dC (.int 2))) (dC (.int 1))) aNil)) (dC (.int 3))) aNil))) (aCons (dVar 9) (aCons (dSl (dVar 6) (some (dNeg (dC (.int 12)))) none) (aCons (d2 gEq (d2 gIx (dVar 1) (dC (.int 3))) (dC (.int 0))) aNil)))) (LW ns head turns s lots x7 (.sh (.lst (tis.map tieD))) (.sh sf.d) x10 x11 x12 x13 x14 x15 x16) = .ok (.sh (plO (peelR sf))) := by
    rw [x_call, x_cons, x_cons, x_cons, x_cons, em, q2, v_sh (i := 9) (d := sf.d) rfl, head_eq (head := head) (k := 3) (c := 0) (i := 3) (d := head[3]) (ρ := LW ns head turns s lots x7 (.sh (.lst (tis.map tieD))) (.sh sf.d) x10 x11 x12 x13 x14 x15 x16) rfl rfl (List.getElem?_eq_getElem (by omega)), x_nil, x_cons_ok, x_cons_ok, x_cons_ok, x_cons_ok, x_call_ok]
    have : ∀ {F : List D → Res EV} {a b c : D} {us : List T}, callN 4 F [] [.sh a, .sh b, .fr us, .sh c] = F [a, b, .lst (T.toDs us), c] := callN_nb rfl rfl
    rw [this, x_leaves, asked_ok kf q1']
  rw [st_sh (i := 10) (y := x10) ea rfl f10]
  show ∃ y9 y10 : SV, _ ∧ _ ∧ dIf _ _ _ (LW ns head turns s lots x7 (.sh (.lst (tis.map tieD))) (.sh sf.d) (.sh (plO (peelR sf))) x11 x12 x13 x14 x15 x16) = _
  have sub : ∀ x ∈ lefts sf, x ∈ lefts s := lefts_le (by rw [← hsf]) fun l c z => by
    rw [← hsf]
    exact may_less (s := s) rfl rfl (fun t (ht : t ∈ s.tks.dropLast) => List.dropLast_subset s.tks ht) h2 z
  have ec : dOrT (dT tBool (dIsN (dVar 10))) (dT tBool (d2 gGt (dC1 gLen (aCons (dLc (iA (dFld "Peel" "left" (dVar 10))) (bName 17) (dT tBool (d2 gNotIn (dVar 17) (dFld "Peel" "left" (dVar 4)))) (dVar 17) [17]) aNil)) (dC (.int 0)))) (LW ns head turns s lots x7 (.sh (.lst (tis.map tieD))) (.sh sf.d) (.sh (plO (peelR sf))) x11 x12 x13 x14 x15 x16) = .ok false := by
    have lf := peelR_len kf
    rw [x_orT, x_t, x_isN, v_sh (i := 10) (d := plO (peelR sf)) rfl, isN_plO, x_t_ok, x_tBool, x_orT_f]
    refine some_in (a := lefts sf) (b := lefts s) (i := 0) (j := 0) (y := .no) ?_ rfl (fun z => ?_) sub (by have : (lefts sf).length ≤ 12 := lf.1; omega) (fun n hn => kf.so n (lefts_in n hn)) (fun n hn => k.so n (lefts_in n hn))
    · rw [x_fld, v_sh (i := 10) (d := plO (peelR sf)) rfl, fld_left]
    · rw [x_fld, v_sh (i := 4) (d := plO (peelR s)) (by rw [get_ne (by decide)]; rfl), fld_left]
  rw [x_if, ec]
  exact ⟨.sh sf.d, .sh (plO (peelR sf)), rfl, rfl, rfl⟩
/-! ### one more tie -/
def lwM : Stm := dSeq (dSet 13 (d2 gIx (dVar 12) (d2 gMod (dC1 gInt (aCons (d2 gIx (dVar 5) (dC (.int 13))) aNil)) (dC1 gLen (aCons (dVar 12) aNil)))))
  (dFrz 13 (dSeq (dSet 14 (dLst (aCons (d2 gIx (dVar 2) (dC (.int 0))) (aCons (d2 gIx (dVar 2) (dC (.int 1))) (aCons (d2 gIx (dVar 2) (dC (.int 2))) (aCons (d2 gAdd (dC1 gList (aCons (d2 gIx (dVar 2) (dC (.int 3))) aNil)) (dLst (aCons (dTup (aCons (dVar 11) (aCons (dVar 13) aNil))) aNil))) aNil))))))
  (dFrz 14 (dSeq (dSet 15 (dCall 4 F_l_asked [] (aCons (dMeth "Seen" "tied" 3 F_Seen_tied [] (dVar 3) (aCons (dVar 11) (aCons (dVar 13) aNil))) (aCons (dVar 14) (aCons (dSl (dVar 6) (some (dNeg (dC (.int 12)))) none) (aCons (d2 gEq (d2 gIx (dVar 1) (dC (.int 3))) (dC (.int 1))) aNil))))))
  (dFrz 15 (dIf (dOrT (dT tBool (dIsN (dVar 15))) (dT tBool (d2 gGt (dC1 gLen (aCons (dLc (iA (dFld "Peel" "left" (dVar 4))) (bName 17) (dT tBool (d2 gNotIn (dVar 17) (dFld "Peel" "left" (dVar 15)))) (dVar 17) [17]) aNil)) (dC (.int 0)))))
  (dRet (dC (.bl false)))
  dNext))))))
theorem more_ok (k : s.Ok) {p : Str × Str} (h1 : p.1 ∈ s.names) (h2 : p.2 ∈ s.names) (h3 : p.1 ≠ p.2) (hl : s.ties.length < 100) : (s.more p).Ok :=
  ⟨k.so, k.nm, k.nd, k.ne, k.nl, k.tk, k.tl, k.dl, k.dp, fun q hq => by
    have hq' : q ∈ s.ties ++ [p] := hq
    rcases List.mem_append.mp hq' with z | z
    · exact k.ti q z
    · rw [List.mem_singleton.mp z]
      exact ⟨h1, h2, h3⟩, by show (s.ties ++ [p]).length ≤ 100; rw [List.length_append, List.length_singleton]; omega⟩
theorem lwM_ok {one : Str} {x7 : SV} (k : s.Ok) (hh : head.length = 4) (ht : turns.length = 14) (hl : ∀ l ∈ lots, LotOk s l) (hti : s.ties.length < 100) (h1 : one ∈ s.names) (hne : dropS one s.names ≠ []) (f13 : x13.free = true) (f14 : x14.free = true) (f15 : x15.free = true) :
    ∃ y13 y14 y15 : SV, y13.free = true ∧ y14.free = true ∧ y15.free = true ∧ lwM (LW ns head turns s lots x7 x8 x9 x10 (.sh (.str one)) (.sh (.lst ((dropS one s.names).map D.str))) x13 x14 x15 x16) = .ok (.nx (LW ns head turns s lots x7 x8 x9 x10 (.sh (.str one)) (.sh (.lst ((dropS one s.names).map D.str))) y13 y14 y15 x16)) := by
  obtain ⟨two, h2, e1⟩ := pick (i := 12) (ρ := LW ns head turns s lots x7 x8 x9 x10 (.sh (.str one)) (.sh (.lst ((dropS one s.names).map D.str))) x13 x14 x15 x16) (f := d2 gIx (dVar 5) (dC (.int 13))) (ss := dropS one s.names) (a := turns[13]) rfl (x_ixc (i := 5) (k := 13) (j := 13) (ds := turns.map D.int) rfl rfl (get_map (by omega))) hne
  obtain ⟨h2, h2ne⟩ := drop_sub.mp h2
  have km : (s.more (one, two)).Ok := more_ok k h1 h2 (Ne.symm h2ne) hti
  rw [lwM, st_sh (i := 13) (y := x13) e1 rfl f13]
  show ∃ y13 y14 y15 : SV, _ ∧ _ ∧ _ ∧ dSeq _ _ (LW ns head turns s lots x7 x8 x9 x10 (.sh (.str one)) (.sh (.lst ((dropS one s.names).map D.str))) (.sh (.str two)) x14 x15 x16) = _
  have e2 : dLst (aCons (d2 gIx (dVar 2) (dC (.int 0))) (aCons (d2 gIx (dVar 2) (dC (.int 1))) (aCons (d2 gIx (dVar 2) (dC (.int 2))) (aCons (d2 gAdd (dC1 gList (aCons (d2 gIx (dVar 2) (dC (.int 3))) aNil)) (dLst (aCons (dTup (aCons (dVar 11) (aCons (dVar 13) aNil))) aNil))) aNil)))) (LW ns head turns s lots x7 x8 x9 x10 (.sh (.str one)) (.sh (.lst ((dropS one s.names).map D.str))) (.sh (.str two)) x14 x15 x16) = .ok (.fr [.leaf (.lst (s.names.map D.str)), .leaf (.lst (s.tks.map Tk.d)), .leaf (.lst (s.dep.map D.int)), .node (((s.more (one, two)).ties.map tieD).map T.leaf)]) := by
    have e0 : d2 gAdd (dC1 gList (aCons (d2 gIx (dVar 2) (dC (.int 3))) aNil)) (dLst (aCons (dTup (aCons (dVar 11) (aCons (dVar 13) aNil))) aNil)) (LW ns head turns s lots x7 x8 x9 x10 (.sh (.str one)) (.sh (.lst ((dropS one s.names).map D.str))) (.sh (.str two)) x14 x15 x16) = .ok (.fr (((s.more (one, two)).ties.map tieD).map T.leaf)) := by
      rw [x_d2, x_c1, x_cons, ix3 (s := s) rfl, x_nil, x_cons_ok, x_c1_ok, x_list_lst, x_lst, x_cons, x_tup, x_cons, x_cons, v_sh (i := 11) (d := .str one) rfl, v_sh (i := 13) (d := .str two) rfl, x_nil, x_cons_ok, x_cons_ok, x_tup2, x_cons_ok, x_lst1, x_d2_ok]
      show gAdd (.fr ((s.ties.map tieD).map T.leaf)) (.fr (([tieD (one, two)] : List D).map T.leaf)) = _
      rw [add_fr (by simp; omega)]
      show _ = Res.ok (EV.fr (((s.ties ++ [(one, two)]).map tieD).map T.leaf))
      rw [List.map_append (f := tieD)]
      rfl
    rw [x_lst, x_cons, x_cons, x_cons, x_cons, ix0 (s := s) rfl, ix1 (s := s) rfl, ix2 (s := s) rfl, e0, x_nil, x_cons_ok, x_cons_ok, x_cons_ok, x_cons_ok]
    rfl
  rw [st_fr (i := 14) (y := x14) e2 rfl f14]
  have ed : D.lst (T.toDs [.leaf (.lst (s.names.map D.str)), .leaf (.lst (s.tks.map Tk.d)), .leaf (.lst (s.dep.map D.int)), .node (((s.more (one, two)).ties.map tieD).map T.leaf)]) = (s.more (one, two)).d := by
    show D.lst [_, _, _, .lst (T.toDs (((s.more (one, two)).ties.map tieD).map T.leaf))] = _
    rw [x_leaves]
    rfl
  rw [ed]
  show ∃ y13 y14 y15 : SV, _ ∧ _ ∧ _ ∧ dSeq _ _ (LW ns head turns s lots x7 x8 x9 x10 (.sh (.str one)) (.sh (.lst ((dropS one s.names).map D.str))) (.sh (.str two)) (.sh (s.more (one, two)).d) x15 x16) = _
  obtain ⟨lots', q1, q2⟩ := some_lots (s := s) (ρ := LW ns head turns s lots x7 x8 x9 x10 (.sh (.str one)) (.sh (.lst ((dropS one s.names).map D.str))) (.sh (.str two)) (.sh (s.more (one, two)).d) x15 x16) (i := 6) rfl hl
  have q1' : ∀ l ∈ lots', LotOk (s.more (one, two)) l := q1
  have em : dMeth "Seen" "tied" 3 F_Seen_tied [] (dVar 3) (aCons (dVar 11) (aCons (dVar 13) aNil)) (LW ns head turns s lots x7 x8 x9 x10 (.sh (.str one)) (.sh (.lst ((dropS one s.names).map D.str))) (.sh (.str two)) (.sh (s.more (one, two)).d) x15 x16) = .ok (.sh (s.more (one, two)).o) := by
    rw [x_meth, x_cons, x_cons, v_sh (i := 3) (d := s.o) rfl, v_sh (i := 11) (d := .str one) rfl, v_sh (i := 13) (d := .str two) rfl, x_nil, x_cons_ok, x_cons_ok]
    show methK _ _ _ _ _ _ (.ok (.sh (.obj "Seen" (snF s)))) = _
    rw [x_meth_ok rfl, callN_sss]
    exact tied_ok (p := (one, two)) km
  have ea : dCall 4 F_l_asked [] (aCons (dMeth "Seen" "tied" 3 F_Seen_tied [] (dVar 3) (aCons (dVar 11) (aCons (dVar 13) aNil))) (aCons (dVar 14) (aCons (dSl (dVar 6) (some (dNeg (dC (.int 12)))) none) (aCons (d2 gEq (d2 gIx (dVar 1) (dC (.int 3))) (dC (.int 1))) aNil)))) (LW ns head turns s lots x7 x8 x9 x10 (.sh (.str one)) (.sh (.lst ((dropS one s.names).map D.str))) (.sh (.str two)) (.sh (s.more (one, two)).d) x15 x16) = .ok (.sh (plO (peelR (s.more (one, two))))) := by
    rw [x_call, x_cons, x_cons, x_cons, x_cons, em, q2, v_sh (i := 14) (d := (s.more (one, two)).d) rfl, head_eq (head := head) (k := 3) (c := 1) (i := 3) (d := head[3]) (ρ := LW ns head turns s lots x7 x8 x9 x10 (.sh (.str one)) (.sh (.lst ((dropS one s.names).map D.str))) (.sh (.str two)) (.sh (s.more (one, two)).d) x15 x16) rfl rfl (List.getElem?_eq_getElem (by omega)), x_nil, x_cons_ok, x_cons_ok, x_cons_ok, x_cons_ok, x_call_ok]
    have : ∀ {F : List D → Res EV} {a b c : D} {us : List T}, callN 4 F [] [.sh a, .sh b, .fr us, .sh c] = F [a, b, .lst (T.toDs us), c] := callN_nb rfl rfl
    rw [this, x_leaves, asked_ok km q1']
  rw [st_sh (i := 15) (y := x15) ea rfl f15]
  show ∃ y13 y14 y15 : SV, _ ∧ _ ∧ _ ∧ dIf _ _ _ (LW ns head turns s lots x7 x8 x9 x10 (.sh (.str one)) (.sh (.lst ((dropS one s.names).map D.str))) (.sh (.str two)) (.sh (s.more (one, two)).d) (.sh (plO (peelR (s.more (one, two))))) x16) = _
  have sub : ∀ x ∈ lefts s, x ∈ lefts (s.more (one, two)) := lefts_le rfl fun l c z => may_less (s := s.more (one, two)) (s' := s) rfl rfl (fun t ht => ht) (fun p hp => List.mem_append_left _ hp) z
  have ec : dOrT (dT tBool (dIsN (dVar 15))) (dT tBool (d2 gGt (dC1 gLen (aCons (dLc (iA (dFld "Peel" "left" (dVar 4))) (bName 17) (dT tBool (d2 gNotIn (dVar 17) (dFld "Peel" "left" (dVar 15)))) (dVar 17) [17]) aNil)) (dC (.int 0)))) (LW ns head turns s lots x7 x8 x9 x10 (.sh (.str one)) (.sh (.lst ((dropS one s.names).map D.str))) (.sh (.str two)) (.sh (s.more (one, two)).d) (.sh (plO (peelR (s.more (one, two))))) x16) = .ok false := by
    have lf := peelR_len k
    rw [x_orT, x_t, x_isN, v_sh (i := 15) (d := plO (peelR (s.more (one, two)))) rfl, isN_plO, x_t_ok, x_tBool, x_orT_f]
    refine some_in (a := lefts s) (b := lefts (s.more (one, two))) (i := 0) (j := 0) (y := .no) ?_ rfl (fun z => ?_) sub (by have : (lefts s).length ≤ 12 := lf.1; omega) (fun n hn => k.so n (lefts_in n hn)) (fun n hn => km.so n (lefts_in n hn))
    · rw [x_fld, v_sh (i := 4) (d := plO (peelR s)) rfl, fld_left]
    · rw [x_fld, v_sh (i := 15) (d := plO (peelR (s.more (one, two)))) (by rw [get_ne (by decide)]; rfl), fld_left]
  rw [x_if, ec]
  exact ⟨.sh (.str two), .sh (s.more (one, two)).d, .sh (plO (peelR (s.more (one, two)))), rfl, rfl, rfl, rfl⟩
end
end K49
set_option Elab.async false
set_option linter.all false
set_option maxRecDepth 100000
namespace K49
open PySem PySem.Spec PyProof.Rows L2 Dl
section
variable {ρ : Dl.Env} {s : Sn} {head turns ns : List Int} {lots : List (List Str)} {x8 x9 x10 x11 x12 x13 x14 x15 x16 x17 x18 : SV}
/-! ### the fields stay -/
theorem sm_tup {α : Type} {f : α → D} {xs : List α} (hl : xs.length ≤ 1000) (h : ∀ x ∈ xs, sm (f x) = true) : sm (.tup (xs.map f)) = true := by
  show (decide ((xs.map f).length ≤ 1000) && sms (xs.map f)) = true
  rw [sms_map h, Bool.and_true, List.length_map]
  exact decide_eq_true hl
theorem dep_tup {n : Nat} {α : Type} {f : α → D} {xs : List α} (h : ∀ x ∈ xs, (f x).dep ≤ n) : (D.tup (xs.map f)).dep ≤ n + 1 := by
  have := deps_map h
  show D.deps (xs.map f) + 1 ≤ n + 1
  omega
theorem dep_str {z : Str} {n : Nat} : (D.str z).dep ≤ n := by simp [D.dep]
theorem dep_int {z : Int} {n : Nat} : (D.int z).dep ≤ n := by simp [D.dep]
theorem same_tks (k : s.Ok) : F_l_same 5 [.tup (s.tks.map Tk.d), .tup (s.tks.map Tk.d)] = .ok (.sh (.bl true)) := by
  have tl := k.tl
  have hd : (D.tup (s.tks.map Tk.d)).dep ≤ 2 + 1 := dep_tup fun t ht => by
    have : (D.tup ([.str t.g, .str t.c, .tup (t.hs.map D.str)] |>.map id)).dep ≤ 1 + 1 := dep_tup fun x hx => by
      simp only [List.mem_cons, List.not_mem_nil, or_false] at hx
      rcases hx with rfl | rfl | rfl
      · exact dep_str
      · exact dep_str
      · exact dep_tup (n := 0) fun _ _ => dep_str
    exact this
  refine same_refl 5 _ (sm_tup (by omega) fun t ht => ?_) (by omega)
  have := sm_tup (f := id) (xs := [.str t.g, .str t.c, .tup (t.hs.map D.str)]) (by simp) fun x hx => by
    simp only [List.mem_cons, List.not_mem_nil, or_false] at hx
    obtain ⟨h1, h2, _⟩ := k.tk t ht
    rcases hx with rfl | rfl | rfl
    · exact k.so _ h1
    · exact hs_so k ht _ h2
    · exact sm_tup (by have := hs_len k ht; omega) fun x hx => hs_so k ht x hx
  exact this
theorem same_deps (k : s.Ok) : F_l_same 5 [.tup (s.dep.map D.int), .tup (s.dep.map D.int)] = .ok (.sh (.bl true)) := by
  have nl := k.nl
  have dl := k.dl
  have hd : (D.tup (s.dep.map D.int)).dep ≤ 0 + 1 := dep_tup fun _ _ => dep_int
  exact same_refl 5 _ (sm_tup (by omega) fun _ _ => rfl) (by omega)
theorem same_ties (k : s.Ok) : F_l_same 5 [.tup (s.ties.map tieD), .tup (s.ties.map tieD)] = .ok (.sh (.bl true)) := by
  have tl := k.til
  have hd : (D.tup (s.ties.map tieD)).dep ≤ 1 + 1 := dep_tup fun p hp => by
    have : (D.tup ([p.1, p.2].map D.str)).dep ≤ 0 + 1 := dep_tup fun _ _ => dep_str
    exact this
  refine same_refl 5 _ (sm_tup (by omega) fun p hp => ?_) (by omega)
  obtain ⟨h1, h2, _⟩ := k.ti p hp
  have := sm_tup (f := D.str) (xs := [p.1, p.2]) (by simp) fun x hx => by
    simp only [List.mem_cons, List.not_mem_nil, or_false] at hx
    rcases hx with rfl | rfl
    · exact k.so _ h1
    · exact k.so _ h2
  exact this
def lwC1 : Dl.Env → Res Bool := dNotT (dT tTru (dCall 3 F_l_right [] (aCons (dVar 3) (aCons (dVar 2) (aCons (dVar 4) aNil)))))
def lwC2 : Dl.Env → Res Bool := dT tBool (d2 gNe (dCall 2 F_l_left [] (aCons (dVar 2) (aCons (dVar 5) aNil))) (dFld "Peel" "left" (dVar 4)))
def lwC3 : Dl.Env → Res Bool := dOrT (dNotT (dT tTru (d2 gIx (dVar 7) (dC (.int 0))))) (dT tBool (d2 gNe (d2 gIx (dVar 7) (dC (.int 1))) (dIsN (dFld "Peel" "order" (dVar 4)))))
def lwC5 : Dl.Env → Res Bool := dT tBool (dIsN (dCall 4 F_l_asked [] (aCons (dVar 3) (aCons (dVar 2) (aCons (dSl (dVar 6) (some (dNeg (dC (.int 12)))) none) (aCons (d2 gEq (d2 gIx (dVar 1) (dC (.int 3))) (dC (.int 0))) aNil))))))
def lwK1 : Dl.Env → Res EV := dAnd (dCall 2 (F_l_same 5) [] (aCons (dFld "Seen" "guests" (dVar 3)) (aCons (dC1 gTuple (aCons (d2 gIx (dVar 2) (dC (.int 0))) aNil)) aNil))) (dCall 2 (F_l_same 5) [] (aCons (dFld "Seen" "takings" (dVar 3)) (aCons (dC1 gTuple (aCons (d2 gIx (dVar 2) (dC (.int 1))) aNil)) aNil)))
def lwK2 : Dl.Env → Res EV := dAnd (dVar 16) (dAnd (dCall 2 (F_l_same 5) [] (aCons (dFld "Seen" "depths" (dVar 3)) (aCons (dC1 gTuple (aCons (d2 gIx (dVar 2) (dC (.int 2))) aNil)) aNil))) (dCall 2 (F_l_same 5) [] (aCons (dFld "Seen" "ties" (dVar 3)) (aCons (dC1 gTuple (aCons (d2 gIx (dVar 2) (dC (.int 3))) aNil)) aNil))))
def lwK3 : Dl.Env → Res EV := dAnd (dVar 16) (dCall 3 F_l_right [] (aCons (dVar 3) (aCons (dVar 2) (aCons (dVar 4) aNil))))
def lwS : Dl.Env → Res EV := dCall 4 F_l_seen [] (aCons (dVar 0) (aCons (dC (.int 3)) (aCons (d2 gIx (dLst (litA [6, 12])) (dC1 gInt (aCons (d2 gEq (d2 gIx (dVar 1) (dC (.int 0))) (dC (.int 0))) aNil))) (aCons (d2 gIx (dLst (litA [10, 60])) (dC1 gInt (aCons (d2 gEq (d2 gIx (dVar 1) (dC (.int 1))) (dC (.int 0))) aNil))) aNil))))
def lwE : Stm := dSeq (dIf lwC5 rF dNext) (dSeq (dSet 16 lwK1) (dSeq (dSet 16 lwK2) (dRet lwK3)))
def lwT : Stm := dSeq (dSet 11 (d2 gIx (d2 gIx (dVar 2) (dC (.int 0))) (d2 gMod (dC1 gInt (aCons (d2 gIx (dVar 5) (dC (.int 12))) aNil)) (dC1 gLen (aCons (d2 gIx (dVar 2) (dC (.int 0))) aNil)))))
  (dFrz 11 (dSeq (dSet 12 (dLc (iA (d2 gIx (dVar 2) (dC (.int 0)))) (bName 18) (dT tBool (d2 gNe (dVar 18) (dVar 11))) (dVar 18) [18])) (dFrz 12 (dSeq (dIf (dT tBool (d2 gGt (dC1 gLen (aCons (dVar 12) aNil)) (dC (.int 0)))) lwM dNext) (dFrz 13 (dFrz 14 (dFrz 15 lwE)))))))
def lwX : Stm := dSeq (dFor (iA (dLst (aCons (d2 gIx (dVar 2) (dC (.int 3))) (aCons (dSl (d2 gIx (dVar 2) (dC (.int 3))) none (some (dNeg (dC (.int 1))))) aNil)))) (bName 8) lwB) (dFrz 9 (dFrz 10 lwT))
def lwJ : Dl.Env → Res EV := dCall 5 F_l_judged [] (aCons (dVar 3) (aCons (dVar 2) (aCons (dVar 6) (aCons (dFld "Peel" "left" (dVar 4)) (aCons (d2 gEq (d2 gIx (dVar 1) (dC (.int 3))) (dC (.int 1))) aNil)))))
def lwL : Dl.Env → Res EV := dCall 2 F_l_lots [] (aCons (dVar 2) (aCons (dgc 0 (dC (.int 2)) (d2 gMul (dLst (litA [12])) (dC (.int 240)))) aNil))
def lwG : Stm := dSeq (dIf lwC1 rF dNext) (dSeq (dSet 5 (dgc 0 (dC (.int 1)) (d2 gAdd (d2 gMul (dLst (litA [12])) (dC (.int 13))) (dLst (litA [11]))))) (dFrz 5 (dSeq (dIf lwC2 rF dNext) (dSeq (dSet 6 lwL) (dFrz 6 (dSeq (dSet 7 lwJ) (dFrz 7 (dSeq (dIf lwC3 rF dNext) lwX))))))))
theorem law_eq : g_law = dSeq (dSet 1 (dgc 0 (dC (.int 0)) (dLst (litA [12, 12, 3, 2])))) (dFrz 1 (dSeq (dSet 2 lwS) (dFrz 2 (dSeq (dSet 3 (dCall 2 F_l_made [] (aCons (dVar 2) (aCons (d2 gIx (dVar 1) (dC (.int 2))) aNil)))) (dFrz 3 (dSeq (dSet 4 (dCall 1 F_peel [] (aCons (dVar 3) aNil))) (dFrz 4 lwG))))))) := rfl
theorem right_at (k : s.Ok) (h2 : ρ[2]? = some (.sh s.d)) (h3 : ρ[3]? = some (.sh s.o)) (h4 : ρ[4]? = some (.sh (plO (peelR s)))) : dCall 3 F_l_right [] (aCons (dVar 3) (aCons (dVar 2) (aCons (dVar 4) aNil))) ρ = .ok (.sh (.bl true)) := by
  rw [x_call, x_cons, x_cons, x_cons, v_sh h3, v_sh h2, v_sh h4, x_nil, x_cons_ok, x_cons_ok, x_cons_ok, x_call_ok, callN_sss, right_ok k]
theorem lwE_ok {x7 : SV} (k : s.Ok) (hh : head.length = 4) (hl : ∀ l ∈ lots, LotOk s l) : runK (lwE (LW ns head turns s lots x7 x8 x9 x10 x11 x12 x13 x14 x15 .no)) = .ok (.sh (.bl true)) := by
  obtain ⟨lots', q1, q2⟩ := some_lots (s := s) (ρ := LW ns head turns s lots x7 x8 x9 x10 x11 x12 x13 x14 x15 .no) (i := 6) rfl hl
  have c5 : lwC5 (LW ns head turns s lots x7 x8 x9 x10 x11 x12 x13 x14 x15 .no) = .ok false := by
    have : ∀ {F : List D → Res EV} {a b c : D} {us : List T}, callN 4 F [] [.sh a, .sh b, .fr us, .sh c] = F [a, b, .lst (T.toDs us), c] := callN_nb rfl rfl
    rw [lwC5, x_t, x_isN, x_call, x_cons, x_cons, x_cons, x_cons, q2, v_sh (i := 3) (d := s.o) rfl, v_sh (i := 2) (d := s.d) rfl, head_eq (head := head) (k := 3) (c := 0) (i := 3) (d := head[3]) (ρ := LW ns head turns s lots x7 x8 x9 x10 x11 x12 x13 x14 x15 .no) rfl rfl (List.getElem?_eq_getElem (by omega)), x_nil, x_cons_ok, x_cons_ok, x_cons_ok, x_cons_ok, x_call_ok, this, x_leaves, asked_ok k q1, isN_plO, x_t_ok, x_tBool]
  have nl := k.nl
  have tp : ∀ (τ : Dl.Env) (e : Dl.Env → Res EV) (ds : List D), e τ = .ok (.sh (.lst ds)) → dC1 gTuple (aCons e aNil) τ = .ok (.sh (.tup ds)) := fun τ e ds h => by
    rw [x_c1, x_cons, h, x_nil, x_cons_ok, x_c1_ok, x_tuple_lst]
  have k1 : lwK1 (LW ns head turns s lots x7 x8 x9 x10 x11 x12 x13 x14 x15 .no) = .ok (.sh (.bl true)) := by
    rw [lwK1, x_and, x_call, x_cons, x_cons, tp _ _ _ (ix0 (s := s) rfl), x_fld, v_sh (i := 3) (d := s.o) rfl, fld_guests, x_nil, x_cons_ok, x_cons_ok, x_call_ok, callN_ss]
    have := same_seq (ss := s.names) (by omega) k.so
    have e : F_l_same 5 [seqS true s.names, .tup (s.names.map D.str)] = .ok (.sh (.bl true)) := this
    rw [e, x_and_t, x_call, x_cons, x_cons, tp _ _ _ (ix1 (s := s) rfl), x_fld, v_sh (i := 3) (d := s.o) rfl, fld_takings, x_nil, x_cons_ok, x_cons_ok, x_call_ok, callN_ss, same_tks k]
  rw [lwE, x_seq, x_if, c5, x_if_f, x_next, x_seq_nx, st_sh0 (i := 16) (y := .no) k1 rfl rfl]
  show runK (dSeq _ _ (LW ns head turns s lots x7 x8 x9 x10 x11 x12 x13 x14 x15 (.sh (.bl true)))) = _
  have k2 : lwK2 (LW ns head turns s lots x7 x8 x9 x10 x11 x12 x13 x14 x15 (.sh (.bl true))) = .ok (.sh (.bl true)) := by
    rw [lwK2, x_and, v_sh (i := 16) (d := .bl true) rfl, x_and_t, x_and, x_call, x_cons, x_cons, tp _ _ _ (ix2 (s := s) rfl), x_fld, v_sh (i := 3) (d := s.o) rfl, fld_depths, x_nil, x_cons_ok, x_cons_ok, x_call_ok, callN_ss, same_deps k, x_and_t, x_call, x_cons, x_cons, tp _ _ _ (ix3 (s := s) rfl), x_fld, v_sh (i := 3) (d := s.o) rfl, fld_ties, x_nil, x_cons_ok, x_cons_ok, x_call_ok, callN_ss, same_ties k]
  rw [st_sh0 (i := 16) (y := .sh (.bl true)) k2 rfl rfl]
  show runK (dRet _ (LW ns head turns s lots x7 x8 x9 x10 x11 x12 x13 x14 x15 (.sh (.bl true)))) = _
  rw [x_ret, lwK3, x_and, v_sh (i := 16) (d := .bl true) rfl, x_and_t, right_at k rfl rfl rfl]
  rfl
theorem lwT_ok {x7 : SV} (k : s.Ok) (hti : s.ties.length ≤ 19) (hh : head.length = 4) (ht : turns.length = 14) (hl : ∀ l ∈ lots, LotOk s l) : runK (lwT (LW ns head turns s lots x7 x8 x9 x10 .no .no .no .no .no .no)) = .ok (.sh (.bl true)) := by
  have nl := k.nl
  have hp : 0 < s.names.length := List.length_pos_iff.mpr k.ne
  obtain ⟨j, hj, ej⟩ := modN (a := turns[12]) hp
  have e1 : d2 gIx (d2 gIx (dVar 2) (dC (.int 0))) (d2 gMod (dC1 gInt (aCons (d2 gIx (dVar 5) (dC (.int 12))) aNil)) (dC1 gLen (aCons (d2 gIx (dVar 2) (dC (.int 0))) aNil))) (LW ns head turns s lots x7 x8 x9 x10 .no .no .no .no .no .no) = .ok (.sh (.str s.names[j])) := by
    have el : dC1 gLen (aCons (d2 gIx (dVar 2) (dC (.int 0))) aNil) (LW ns head turns s lots x7 x8 x9 x10 .no .no .no .no .no .no) = .ok (.sh (.int (s.names.length : Nat))) := by
      rw [x_c1, x_cons, ix0 (s := s) rfl, x_nil, x_cons_ok, x_c1_ok, len_seq]
    rw [x_d2, x_modv (x_ixc (i := 5) (k := 12) (j := 12) (ds := turns.map D.int) rfl rfl (get_map (by omega))) el (by omega), ej, ix0 (s := s) rfl, x_d2_ok]
    exact x_ixL (get_map hj)
  have hin := List.getElem_mem hj
  generalize s.names[j] = one at e1 hin
  rw [lwT, st_sh (i := 11) (y := .no) e1 rfl rfl]
  show runK (dSeq _ _ (LW ns head turns s lots x7 x8 x9 x10 (.sh (.str one)) .no .no .no .no .no)) = _
  have e2 : dLc (iA (d2 gIx (dVar 2) (dC (.int 0)))) (bName 18) (dT tBool (d2 gNe (dVar 18) (dVar 11))) (dVar 18) [18] (LW ns head turns s lots x7 x8 x9 x10 (.sh (.str one)) .no .no .no .no .no) = .ok (.fr (((dropS one s.names).map D.str).map T.leaf)) :=
    lc_drop (ss := s.names) (y := .no) (by rw [x_iA, ix0 (s := s) rfl, x_wK, walk_seq]) rfl rfl (by decide) k.so (k.so _ hin) (by omega)
  rw [st_fr (i := 12) (y := .no) e2 rfl rfl, x_leaves]
  show runK (dSeq _ _ (LW ns head turns s lots x7 x8 x9 x10 (.sh (.str one)) (.sh (.lst ((dropS one s.names).map D.str))) .no .no .no .no)) = _
  have step : ∃ y13 y14 y15 : SV, y13.free = true ∧ y14.free = true ∧ y15.free = true ∧ dIf (dT tBool (d2 gGt (dC1 gLen (aCons (dVar 12) aNil)) (dC (.int 0)))) lwM dNext (LW ns head turns s lots x7 x8 x9 x10 (.sh (.str one)) (.sh (.lst ((dropS one s.names).map D.str))) .no .no .no .no) = .ok (.nx (LW ns head turns s lots x7 x8 x9 x10 (.sh (.str one)) (.sh (.lst ((dropS one s.names).map D.str))) y13 y14 y15 .no)) := by
    rw [x_if, x_gtT (a := ((dropS one s.names).length : Nat)) (b := 0) (x_len0 (i := 12) (ss := dropS one s.names) (k := false) rfl) x_c]
    by_cases e : dropS one s.names = []
    · exact ⟨.no, .no, .no, rfl, rfl, rfl, by rw [e]; rfl⟩
    · have hp : 0 < (dropS one s.names).length := List.length_pos_iff.mpr e
      rw [decide_eq_true (by omega), x_if_t]
      exact lwM_ok k hh ht hl (by omega) hin e rfl rfl rfl
  obtain ⟨y13, y14, y15, f13, f14, f15, es⟩ := step
  rw [x_seq, es, x_seq_nx]
  obtain ⟨z13, _, q13⟩ := x_frz_any (i := 13) (g := dFrz 14 (dFrz 15 lwE)) (ρ := LW ns head turns s lots x7 x8 x9 x10 (.sh (.str one)) (.sh (.lst ((dropS one s.names).map D.str))) y13 y14 y15 .no) rfl f13
  rw [q13]
  obtain ⟨z14, _, q14⟩ := x_frz_any (i := 14) (g := dFrz 15 lwE) (ρ := LW ns head turns s lots x7 x8 x9 x10 (.sh (.str one)) (.sh (.lst ((dropS one s.names).map D.str))) z13 y14 y15 .no) rfl f14
  show runK (dFrz 14 _ (LW ns head turns s lots x7 x8 x9 x10 (.sh (.str one)) (.sh (.lst ((dropS one s.names).map D.str))) z13 y14 y15 .no)) = _
  rw [q14]
  obtain ⟨z15, _, q15⟩ := x_frz_any (i := 15) (g := lwE) (ρ := LW ns head turns s lots x7 x8 x9 x10 (.sh (.str one)) (.sh (.lst ((dropS one s.names).map D.str))) z13 z14 y15 .no) rfl f15
  show runK (dFrz 15 _ (LW ns head turns s lots x7 x8 x9 x10 (.sh (.str one)) (.sh (.lst ((dropS one s.names).map D.str))) z13 z14 y15 .no)) = _
  rw [q15]
  exact lwE_ok k hh hl
theorem lwX_ok {x7 : SV} (k : s.Ok) (hti : s.ties.length ≤ 19) (hh : head.length = 4) (ht : turns.length = 14) (hl : ∀ l ∈ lots, LotOk s l) : runK (lwX (LW ns head turns s lots x7 .no .no .no .no .no .no .no .no .no)) = .ok (.sh (.bl true)) := by
  have i1 : iA (dLst (aCons (d2 gIx (dVar 2) (dC (.int 3))) (aCons (dSl (d2 gIx (dVar 2) (dC (.int 3))) none (some (dNeg (dC (.int 1))))) aNil))) (LW ns head turns s lots x7 .no .no .no .no .no .no .no .no .no) = .ok (([s.ties, s.ties.dropLast] : List (List (Str × Str))).map fun tis => D.lst (tis.map tieD)) := by
    have e0 : dSl (d2 gIx (dVar 2) (dC (.int 3))) none (some (dNeg (dC (.int 1)))) (LW ns head turns s lots x7 .no .no .no .no .no .no .no .no .no) = .ok (.fr ((s.ties.dropLast.map tieD).map T.leaf)) := by
      rw [x_sl, ix3 (s := s) rfl, x_sl_hi (k := -1) (by rw [x_neg, x_c]; rfl), x_sl_lst, cutL_map, cut_dropLast]
    rw [x_iA, x_lst, x_cons, x_cons, e0, ix3 (s := s) rfl, x_nil, x_cons_ok, x_cons_ok]
    show Res.ok [_, D.lst (T.toDs ((s.ties.dropLast.map tieD).map T.leaf))] = _
    rw [x_leaves]
    rfl
  obtain ⟨_, ⟨x8, x9, x10, f8, f9, f10, rfl⟩, e⟩ := forD_idx (b := bName 8) (g := lwB) (c := fun tis : List (Str × Str) => D.lst (tis.map tieD)) (xs := [s.ties, s.ties.dropLast])
    (P := fun _ ρ => ∃ x8 x9 x10 : SV, x8.free = true ∧ x9.free = true ∧ x10.free = true ∧ ρ = LW ns head turns s lots x7 x8 x9 x10 .no .no .no .no .no .no) (by
      rintro j tis hj ρ ⟨x8, x9, x10, f8, f9, f10, rfl⟩
      have hm := List.mem_of_getElem? hj
      have hs : (∀ p ∈ tis, p ∈ s.ties) ∧ tis.length ≤ s.ties.length := by
        simp only [List.mem_cons, List.not_mem_nil, or_false] at hm
        rcases hm with rfl | rfl
        · exact ⟨fun p hp => hp, Nat.le_refl _⟩
        · exact ⟨fun p hp => List.dropLast_subset _ hp, by rw [List.length_dropLast]; omega⟩
      obtain ⟨y9, y10, g9, g10, e⟩ := lwB_ok (ns := ns) (head := head) (turns := turns) (x7 := x7) (x11 := .no) (x12 := .no) (x13 := .no) (x14 := .no) (x15 := .no) (x16 := .no) k hh hl hs.1 hs.2 f9 f10
      exact ⟨LW ns head turns s lots x7 (.sh (.lst (tis.map tieD))) x9 x10 .no .no .no .no .no .no, _, by simp only [LW, bName, putR, List.getElem?_cons_succ, List.getElem?_cons_zero, f8, if_true, List.set_cons_succ, List.set_cons_zero], e, .sh (.lst (tis.map tieD)), y9, y10, rfl, g9, g10, rfl⟩) _ ⟨.no, .no, .no, rfl, rfl, rfl, rfl⟩
  rw [lwX, x_seq, x_for, i1, x_for_ok, e, x_seq_nx]
  obtain ⟨z9, _, q9⟩ := x_frz_any (i := 9) (g := dFrz 10 lwT) (ρ := LW ns head turns s lots x7 x8 x9 x10 .no .no .no .no .no .no) rfl f9
  rw [q9]
  obtain ⟨z10, _, q10⟩ := x_frz_any (i := 10) (g := lwT) (ρ := LW ns head turns s lots x7 x8 z9 x10 .no .no .no .no .no .no) rfl f10
  show runK (dFrz 10 _ (LW ns head turns s lots x7 x8 z9 x10 .no .no .no .no .no .no)) = _
  rw [q10]
  exact lwT_ok k hti hh ht hl
theorem lwG_ok (k : s.Ok) (hti : s.ties.length ≤ 19) (hh : head.length = 4) : runK (lwG [.sh (.scr ns), .sh (.lst (head.map D.int)), .sh s.d, .sh s.o, .sh (plO (peelR s)), .no, .no, .no, .no, .no, .no, .no, .no, .no, .no, .no, .no, .no, .no]) = .ok (.sh (.bl true)) := by
  have nl := k.nl
  have hls : ∀ n ∈ lefts s, PyData.strOk n = true := fun n hn => k.so n (lefts_in n hn)
  have c1 : lwC1 [.sh (.scr ns), .sh (.lst (head.map D.int)), .sh s.d, .sh s.o, .sh (plO (peelR s)), .no, .no, .no, .no, .no, .no, .no, .no, .no, .no, .no, .no, .no, .no] = .ok false := by
    rw [lwC1, x_notT, x_t, right_at k rfl rfl rfl, x_t_ok, x_tTru, x_notT_ok]
    rfl
  obtain ⟨turns, ht, et⟩ := dgc_ok (ns := ns) (sizes := List.replicate 13 12 ++ [11]) (k := 1) (i := 0) (f := dC (.int 1)) (ρ := [.sh (.scr ns), .sh (.lst (head.map D.int)), .sh s.d, .sh s.o, .sh (plO (peelR s)), .no, .no, .no, .no, .no, .no, .no, .no, .no, .no, .no, .no, .no, .no]) (L := d2 gAdd (d2 gMul (dLst (litA [12])) (dC (.int 13))) (dLst (litA [11]))) (by omega) rfl x_c rfl (by decide +kernel) (by decide +kernel)
  have htl : turns.length = 14 := ht.1
  rw [lwG, x_seq, x_if, c1, x_if_f, x_next, x_seq_nx, st_fr (i := 5) (y := .no) et rfl rfl, x_leaves]
  show runK (dSeq _ _ [.sh (.scr ns), .sh (.lst (head.map D.int)), .sh s.d, .sh s.o, .sh (plO (peelR s)), .sh (.lst (turns.map D.int)), .no, .no, .no, .no, .no, .no, .no, .no, .no, .no, .no, .no, .no]) = _
  have c2 : lwC2 [.sh (.scr ns), .sh (.lst (head.map D.int)), .sh s.d, .sh s.o, .sh (plO (peelR s)), .sh (.lst (turns.map D.int)), .no, .no, .no, .no, .no, .no, .no, .no, .no, .no, .no, .no, .no] = .ok false := by
    rw [lwC2, x_t, x_d2, x_call, x_cons, x_cons, v_sh (i := 2) (d := s.d) rfl, v_sh (i := 5) (d := .lst (turns.map D.int)) rfl, x_nil, x_cons_ok, x_cons_ok, x_call_ok, callN_ss, left_ok k (by omega), x_fld, v_sh (i := 4) (d := plO (peelR s)) rfl, fld_left, x_d2_ok, ne_seq hls, x_t_ok, x_tBool]
  obtain ⟨row, hr, er⟩ := dgc_ok (ns := ns) (sizes := List.replicate 240 12) (k := 2) (i := 0) (f := dC (.int 2)) (ρ := [.sh (.scr ns), .sh (.lst (head.map D.int)), .sh s.d, .sh s.o, .sh (plO (peelR s)), .sh (.lst (turns.map D.int)), .no, .no, .no, .no, .no, .no, .no, .no, .no, .no, .no, .no, .no]) (L := d2 gMul (dLst (litA [12])) (dC (.int 240))) (by omega) rfl x_c rfl (by decide +kernel) (by decide +kernel)
  have hrl : row.length = 240 := by
    rw [hr.1, List.length_replicate]
  obtain ⟨lots, l1, ⟨l, hl1, hl2⟩, el⟩ := lots_ok (row := row) k (by omega)
  have e6 : lwL [.sh (.scr ns), .sh (.lst (head.map D.int)), .sh s.d, .sh s.o, .sh (plO (peelR s)), .sh (.lst (turns.map D.int)), .no, .no, .no, .no, .no, .no, .no, .no, .no, .no, .no, .no, .no] = .ok (.fr ((lots.map (seqS true)).map T.leaf)) := by
    rw [lwL, x_call, x_cons, x_cons, er, v_sh (i := 2) (d := s.d) rfl, x_nil, x_cons_ok, x_cons_ok, x_call_ok, callN_sf, x_leaves, el]
  rw [x_seq, x_if, c2, x_if_f, x_next, x_seq_nx, st_fr (i := 6) (y := .no) e6 rfl rfl, x_leaves]
  show runK (dSeq _ _ (LW ns head turns s lots .no .no .no .no .no .no .no .no .no .no)) = _
  have hany : lots.any (stuck s) = decide (lefts s ≠ []) := by
    by_cases e : lefts s = []
    · rw [e, decide_eq_false (by simp)]
      cases ea : lots.any (stuck s) with
      | false => rfl
      | true => exact (any_left l1 ea e).elim
    · rw [decide_eq_true e, List.any_eq_true]
      refine ⟨l, hl1, ?_⟩
      rw [stuck_congr (fun x hx => (hl2 x).mp hx) (fun x hx => (hl2 x).mpr hx), lefts_stuck]
      exact decide_eq_true e
  have ej : lwJ (LW ns head turns s lots .no .no .no .no .no .no .no .no .no .no) = .ok (.fr [.leaf (.bl true), .leaf (.bl (decide (lefts s ≠ [])))]) := by
    rw [lwJ, x_call, x_cons, x_cons, x_cons, x_cons, x_cons, v_sh (i := 3) (d := s.o) rfl, v_sh (i := 2) (d := s.d) rfl, v_sh (i := 6) (d := .lst (lots.map (seqS true))) rfl, x_fld, v_sh (i := 4) (d := plO (peelR s)) rfl, fld_left, head_eq (head := head) (k := 3) (c := 1) (i := 3) (d := head[3]) (ρ := LW ns head turns s lots .no .no .no .no .no .no .no .no .no .no) rfl rfl (List.getElem?_eq_getElem (by omega)), x_nil, x_cons_ok, x_cons_ok, x_cons_ok, x_cons_ok, x_cons_ok, x_call_ok, callN_sssss, judged_ok k l1, hany]
  rw [st_fr (i := 7) (y := .no) ej rfl rfl]
  show runK (dSeq _ _ (LW ns head turns s lots (.sh (.lst [.bl true, .bl (decide (lefts s ≠ []))])) .no .no .no .no .no .no .no .no .no)) = _
  have c3 : lwC3 (LW ns head turns s lots (.sh (.lst [.bl true, .bl (decide (lefts s ≠ []))])) .no .no .no .no .no .no .no .no .no) = .ok false := by
    have a0 := x_ixc (ρ := LW ns head turns s lots (.sh (.lst [.bl true, .bl (decide (lefts s ≠ []))])) .no .no .no .no .no .no .no .no .no) (i := 7) (k := 0) (j := 0) (ds := [.bl true, .bl (decide (lefts s ≠ []))]) (d := .bl true) rfl rfl rfl
    have a1 := x_ixc (ρ := LW ns head turns s lots (.sh (.lst [.bl true, .bl (decide (lefts s ≠ []))])) .no .no .no .no .no .no .no .no .no) (i := 7) (k := 1) (j := 1) (ds := [.bl true, .bl (decide (lefts s ≠ []))]) (d := .bl (decide (lefts s ≠ []))) rfl rfl rfl
    rw [lwC3, x_orT, x_notT, x_t, a0, x_t_ok, x_tTru, x_notT_ok]
    show orK _ _ (.ok false) = _
    rw [x_orT_f, x_t, x_d2, a1, x_isN, x_fld, v_sh (i := 4) (d := plO (peelR s)) rfl, fld_order, isN_ord, x_d2_ok, x_neBB, bne_self_eq_false, x_t_ok, x_tBool]
  rw [x_seq, x_if, c3, x_if_f, x_next, x_seq_nx]
  exact lwX_ok k hti hh htl l1
theorem law_pure (ns : List Int) : F_law [.scr ns] = .ok (.sh (.bl true)) := by
  rw [F_law, x_run]
  generalize hG : g_law = G
  show runK (G [.sh (.scr ns), .no, .no, .no, .no, .no, .no, .no, .no, .no, .no, .no, .no, .no, .no, .no, .no, .no, .no]) = _
  rw [← hG, law_eq]
  obtain ⟨head, hh, eh⟩ := dgc_ok (ns := ns) (sizes := [12, 12, 3, 2]) (k := 0) (i := 0) (f := dC (.int 0)) (ρ := [.sh (.scr ns), .no, .no, .no, .no, .no, .no, .no, .no, .no, .no, .no, .no, .no, .no, .no, .no, .no, .no]) (L := dLst (litA [12, 12, 3, 2])) (by omega) rfl x_c rfl (by decide +kernel) (by decide +kernel)
  have hhl : head.length = 4 := hh.1
  rw [st_fr (i := 1) (y := .no) eh rfl rfl, x_leaves]
  show runK (dSeq _ _ [.sh (.scr ns), .sh (.lst (head.map D.int)), .no, .no, .no, .no, .no, .no, .no, .no, .no, .no, .no, .no, .no, .no, .no, .no, .no]) = _
  have pk : ∀ (i : Nat) (k : Int) (L : List Int), k = (i : Int) → (h : i < head.length) → L.length = 2 → ∃ v ∈ L, d2 gIx (dLst (litA L)) (dC1 gInt (aCons (d2 gEq (d2 gIx (dVar 1) (dC (.int k))) (dC (.int 0))) aNil)) [.sh (.scr ns), .sh (.lst (head.map D.int)), .no, .no, .no, .no, .no, .no, .no, .no, .no, .no, .no, .no, .no, .no, .no, .no, .no] = .ok (.sh (.int v)) := fun i k L hk h hL => by
    refine lit_at (q := if decide (head[i] = 0) = true then 1 else 0) (by omega) ?_ (by rw [hL]; split <;> omega)
    rw [x_c1, x_cons, head_eq (head := head) (k := k) (c := 0) (i := i) (d := head[i]) rfl hk (List.getElem?_eq_getElem h), x_nil, x_cons_ok, x_c1_ok]
    rfl
  obtain ⟨u, hu, eu⟩ := pk 0 0 [6, 12] rfl (by omega) rfl
  obtain ⟨r, hr, er⟩ := pk 1 1 [10, 60] rfl (by omega) rfl
  simp only [List.mem_cons, List.not_mem_nil, or_false] at hu hr
  obtain ⟨s, ⟨k, hti⟩, es⟩ := seen_drawn (ns := ns) (u := u) (r := r) hu hr
  have e2 : lwS [.sh (.scr ns), .sh (.lst (head.map D.int)), .no, .no, .no, .no, .no, .no, .no, .no, .no, .no, .no, .no, .no, .no, .no, .no, .no] = .ok (.fr [.leaf (.lst (s.names.map D.str)), .leaf (.lst (s.tks.map Tk.d)), .leaf (.lst (s.dep.map D.int)), .leaf (.lst (s.ties.map tieD))]) := by
    rw [lwS, x_call, x_cons, x_cons, x_cons, x_cons, eu, er, v_sh (i := 0) (d := .scr ns) rfl, x_c, x_nil, x_cons_ok, x_cons_ok, x_cons_ok, x_cons_ok, x_call_ok, callN_ssss, es]
  rw [st_fr (i := 2) (y := .no) e2 rfl rfl]
  show runK (dSeq _ _ [.sh (.scr ns), .sh (.lst (head.map D.int)), .sh s.d, .no, .no, .no, .no, .no, .no, .no, .no, .no, .no, .no, .no, .no, .no, .no, .no]) = _
  have e3 : dCall 2 F_l_made [] (aCons (dVar 2) (aCons (d2 gIx (dVar 1) (dC (.int 2))) aNil)) [.sh (.scr ns), .sh (.lst (head.map D.int)), .sh s.d, .no, .no, .no, .no, .no, .no, .no, .no, .no, .no, .no, .no, .no, .no, .no, .no] = .ok (.sh s.o) := by
    rw [x_call, x_cons, x_cons, v_sh (i := 2) (d := s.d) rfl, x_ixc (i := 1) (k := 2) (j := 2) (ds := head.map D.int) (d := .int head[2]) rfl rfl (get_map (by omega)), x_nil, x_cons_ok, x_cons_ok, x_call_ok, callN_ss, made_ok k]
  rw [st_sh (i := 3) (y := .no) e3 rfl rfl]
  show runK (dSeq _ _ [.sh (.scr ns), .sh (.lst (head.map D.int)), .sh s.d, .sh s.o, .no, .no, .no, .no, .no, .no, .no, .no, .no, .no, .no, .no, .no, .no, .no]) = _
  have e4 : dCall 1 F_peel [] (aCons (dVar 3) aNil) [.sh (.scr ns), .sh (.lst (head.map D.int)), .sh s.d, .sh s.o, .no, .no, .no, .no, .no, .no, .no, .no, .no, .no, .no, .no, .no, .no, .no] = .ok (.sh (plO (peelR s))) := by
    rw [x_call, x_cons, v_sh (i := 3) (d := s.o) rfl, x_nil, x_cons_ok, x_call_ok, callN_s, peel_ok k]
  rw [st_sh (i := 4) (y := .no) e4 rfl rfl]
  exact lwG_ok k hti hhl
end
end K49
set_option Elab.async false
set_option linter.all false
set_option maxRecDepth 100000
set_option maxHeartbeats 0
namespace Dl
open PySem PySem.Spec PyProof.Rows L2
/-- a law's end: what may be let out may hang on the World -/
theorem walk_ofN {l : PySem.W.OpenLaw} {n k : Nat} {q : Program} {loose : List Str} {XP : (Str → Option Value) → Heap → Prop} {YP : World → Heap → Prop} {d : DefRec} {x : Str}
    (hn : l.most = some n) (hn2 : n ≤ sizeLine) (hdf : d.params.defaults = []) (hr : Room k callerA)
    (F : ∀ (w : World) (mg : Str → Option Value) (fa : Addr) (h : Heap), YP w h → h.Ns mainGlobals mg → mg d.name = some (.ref fa) →
      ∃ (K : PySem.W.Frag) (fd : FuncData) (sp : Sp), K.In h ∧ (∀ (s : Shared) (u : Value), BindsTo s fd ⟨[u], []⟩ [(x, u)]) ∧
        (∀ (H : Hp) (a : Addr) (ns : List Int), ns.length ≤ n → Only H → SqL K H a (ns.map V.int) → sp [.ref a] H (fun v _ => v = .bl true) fun _ _ _ => False) ∧
        ∀ base : Heap, K.In base → base.Ns mainGlobals mg → FnOk l.prog w K mg base (L2N.CX l.prog w) k fa fd [x] sp) :
    PySem.W.WalkO q loose XP YP l.row.toRowW d [] (fun f vs => PySem.call f vs) := by
  refine Att.attach_call hn hdf fun w s₀ s₁ mg mb fa o pm cd doc a vs ns G Y ho hd hcd hmg hobj hints hlen hg => ?_
  obtain ⟨K, fd, sp, KX, hb, hsp, hF⟩ := F w mg fa _ Y G.T.g hmg
  refine law_call KX G.T.g G.T.b G.T.builtins G.T.nolimit hg hobj hints (Nat.le_trans hlen hn2) hr hF hb (fun H hO hS => hsp H a ns hlen hO hS) fun H e s' c => ?_
  obtain ⟨_, _, _, _, _, _, _, _, _, _, _, _, z⟩ := c
  exact z
end Dl
namespace K49
open PySem PySem.Spec PyProof.Rows L2 Dl

end K49
open PySem PySem.W PySem.Calls PyProof.Rows
theorem PySem.Challenge.cw_leavetaking_k49_peeling_whole_holds : PySem.Challenge.rw_leavetaking_k49_peeling_whole.Holds := by
  w_on; o_law
  refine HandSHeadRun.head_any (r := OpenLaw.row PySem.Challenge.rw_leavetaking_k49_peeling_whole) (q := view (OpenLaw.row PySem.Challenge.rw_leavetaking_k49_peeling_whole).prog [47]) (H := K49.hk) (ob := K49.ob) (M := 4000) (loose := K49.names) (d := HandSHeadRun.topDef (OpenLaw.row PySem.Challenge.rw_leavetaking_k49_peeling_whole).prog 47) (kwd := []) K49.ob_eq
    (by kernel_rfl) (fun s => by kernel_rfl) K49.run (by kernel_rfl) (by kernel_rfl) (by kernel_rfl) (by rfl) (by first | assumption | decide +kernel) (by decide +kernel) ⟨rfl, rfl, rfl, rfl, rfl, by decide +kernel⟩ ?hw ?hc
  case hw => w_witness2
  case hc =>
    refine Dl.walk_ofN (l := PySem.Challenge.rw_leavetaking_k49_peeling_whole) (n := 63) (k := 10) (x := "_law_script") rfl (by decide) (by kernel_rfl) ⟨rfl, by decide, by decide⟩ ?F
    intro w mg fa h Y G hmg0
    obtain ⟨K, KX, c⟩ := Y
    have hmg : mg ("law" : PySem.Str) = some (.ref fa) := by
      have e : (HandSHeadRun.topDef (OpenLaw.row PySem.Challenge.rw_leavetaking_k49_peeling_whole).prog 47).name = ("law" : PySem.Str) := by kernel_rfl
      rw [← e]
      exact hmg0
    obtain ⟨fds, Z⟩ := K49.facts (P := (PySem.Challenge.rw_leavetaking_k49_peeling_whole).prog) (w := w) KX G c
    have efa : fa = He.ga K "law" := by
      have z := hmg.symm.trans (He.glo_ok KX G (c.fact 0 (f := fun K => (He.Fa.glo "law").ok K) rfl))
      cases z
      rfl
    subst efa
    refine ⟨K, fds.law, _, KX, fun s u => ?_, fun H a ns hl _ hS => ?_, fun base _ _ => K49.ok_law Z⟩
    · exact (Z.f_law.bindsA (ps := ["_law_script"]) fun _ _ _ _ _ _ us hl => match us, hl with | [_], _ => rfl) s [u] rfl
    · refine ⟨rfl, H, [.scr ns], L2.Same.refl _, .cons (.scr hS) .nil, ?_⟩
      rw [K49.law_pure ns]
      intro S' H' A v g r nd fr
      cases r with
      | sh r => cases r; rfl
