import PyProof.Rows.All
import Wide.All
import OpenK.AllK
import Wide.FinOn
import HandS.ForMost
import HandS.Wide
import HandS.WordsExc
import HandS.Deep
import HandS.TupAny
import KE.KDictKeyed
import KE.KeyNested
import HandS.IsInst
import HandS.ExcCtx
import HandS.HotCalls
import HandS.CallSlots
import HandS.ExcInitHot
import HandS.Defaults
import HandS.ExcIs
import HandS.ExcField
import HandS.Dict
import HandS.Spec
import KE.GoesEnum
import HandS.Iter
import HandS.Strs
import HandS.SetFor
import HandS.Star
import KE.KOpsOwn
import HandS.List
import KE.KStateDown
import HandS.Ends
import HandS.More
import HandS.Words
import HandS.Head0
import HandS.Head1
import HandS.Head2
import HandS.HeadEnd
import HandS.HeadHook1
import HandS.HeadHook2
import HandS.HeadHook3
import HandS.HeadHook4
import HandS.HeadNt
import PySem.Challenge.RW_leavetaking_k75_watches
set_option Elab.async false
set_option linter.all false
set_option maxRecDepth 100000
/-! DL1: plain data D, owned trees T, how they stand in the abstract heap; slots; growth. -/
namespace Dl
open PySem PySem.Spec PyProof.Rows L2

/-- what representation leans on -/
structure Ct where
  P : Program
  w : World
  K : PySem.W.Frag
  /-- the module's names -/
  mg : Str → Option Value
  /-- the exception that is handled: its object, its dict, its class -/
  xa : Addr
  xd : Option Addr
  xc : Value
/-- the same, another exception handled -/
def Ct.re (c : Ct) (a : Addr) (d : Option Addr) (x : Value) : Ct := ⟨c.P, c.w, c.K, c.mg, a, d, x⟩
def clOf (mg : Str → Option Value) (n : Str) : Addr := match mg n with
  | some (.ref a) => a
  | _ => 0
/-- a class by its name -/
def Ct.cl (c : Ct) (n : Str) : Addr := clOf c.mg n

/-- plain data -/
inductive D where
  | non | bl (b : Bool) | int (i : Int) | str (s : Str) | ty (n : String)
  | tup (ds : List D) | lst (ds : List D)
  | scr (ns : List Int)
  | obj (C : Str) (fs : List (Str × D))
  | dic (kvs : List (NestedKey × D))
mutual
/-- a key as data -/
def keyD : NestedKey → D
  | .none => .non
  | .num i => .int i
  | .text x => .str x
  | .tup ks => .tup (keyDs ks)
def keyDs : List NestedKey → List D
  | [] => []
  | k :: ks => keyD k :: keyDs ks
end
/-- a dict with tuple keys, as its object stands -/
def dcO (c : Ct) (d : Addr) (xs : List (NestedKey × Addr × Value)) : HO := .ext fun h => ∃ o es ep, h.get? d = some o ∧ o.ExactDict ∧ o.data = .dict es ep ∧ es.toList = xs.map (entryOfKey (nestedKind c.P c.w)) ∧ (xs.map (·.1)).Nodup ∧ xs.length ≤ sizeLine ∧ (d == sysModules) = false

/-- a tuple: tracked, or an object of the module -/
def TupAt (K : PySem.W.Frag) (H : Hp) (a : Addr) (xs : List V) : Prop :=
  H a = some (.tup xs) ∨ ∃ (o : Obj) (its : Array Value) (n : Nat), K.lookup a = some o ∧ o.cls = .type "tuple" ∧ o.data = .seq its n ∧ its.size ≤ sizeLine ∧ Vals xs its.toList
theorem TupAt.sq {K : PySem.W.Frag} {H : Hp} {a : Addr} {xs : List V} (h : TupAt K H a xs) : SqT K H a xs := h.imp (fun e => .inl e) id
theorem TupAt.mono {K : PySem.W.Frag} {H H' : Hp} {a : Addr} {xs : List V} (e : Same H H') (h : TupAt K H a xs) : TupAt K H' a xs := h.imp (fun q => e _ _ q) id
mutual
/-- v is the data d in H (shared: never written again) -/
inductive Rep (c : Ct) (H : Hp) : V → D → Prop
  | non : Rep c H .non .non
  | bl (b : Bool) : Rep c H (.bl b) (.bl b)
  | int (i : Int) : Rep c H (.int i) (.int i)
  | str (s : Str) : Rep c H (.str s) (.str s)
  | ty (n : String) : Rep c H (.ty n) (.ty n)
  | tup {a : Addr} {vs : List V} {ds : List D} : TupAt c.K H a vs → Reps c H vs ds → Rep c H (.ref a) (.tup ds)
  | lst {a : Addr} {vs : List V} {ds : List D} : H a = some (.lst vs) → Reps c H vs ds → Rep c H (.ref a) (.lst ds)
  | scr {a : Addr} {ns : List Int} : SqL c.K H a (ns.map V.int) → Rep c H (.ref a) (.scr ns)
  | obj {a dx : Addr} {C : Str} {vfs : List (Str × V)} {fs : List (Str × D)} : H a = some (.ins (c.cl C) dx vfs) → FReps c H vfs fs → Rep c H (.ref a) (.obj C fs)
  | dic {d : Addr} {xs : List (NestedKey × Addr × Value)} {kvs : List (NestedKey × D)} : H d = some (dcO c d xs) → KReps c H xs kvs → Rep c H (.ref d) (.dic kvs)
inductive Reps (c : Ct) (H : Hp) : List V → List D → Prop
  | nil : Reps c H [] []
  | cons {v : V} {d : D} {vs : List V} {ds : List D} : Rep c H v d → Reps c H vs ds → Reps c H (v :: vs) (d :: ds)
inductive FReps (c : Ct) (H : Hp) : List (Str × V) → List (Str × D) → Prop
  | nil : FReps c H [] []
  | cons {f : Str} {v : V} {d : D} {vs : List (Str × V)} {ds : List (Str × D)} : Rep c H v d → FReps c H vs ds → FReps c H ((f, v) :: vs) ((f, d) :: ds)
inductive KReps (c : Ct) (H : Hp) : List (NestedKey × Addr × Value) → List (NestedKey × D) → Prop
  | nil : KReps c H [] []
  | cons {k : NestedKey} {a : Addr} {v : V} {u : Value} {d : D} {xs : List (NestedKey × Addr × Value)} {kvs : List (NestedKey × D)} : Rep c H (.ref a) (keyD k) → k.depth ≤ 8 → RelV v u → Rep c H v d → KReps c H xs kvs → KReps c H ((k, a, u) :: xs) ((k, d) :: kvs)
end

section
variable {c : Ct} {H H' : Hp}
mutual
theorem Rep.mono (e : Same H H') : ∀ {v : V} {d : D}, Rep c H v d → Rep c H' v d
  | _, _, .non => .non
  | _, _, .bl b => .bl b
  | _, _, .int i => .int i
  | _, _, .str s => .str s
  | _, _, .ty n => .ty n
  | _, _, .tup h r => .tup (h.mono e) (Reps.mono e r)
  | _, _, .lst h r => .lst (e _ _ h) (Reps.mono e r)
  | _, _, .scr h => .scr (e.seq h)
  | _, _, .obj h r => .obj (e _ _ h) (FReps.mono e r)
  | _, _, .dic h r => .dic (e _ _ h) (KReps.mono e r)
theorem Reps.mono (e : Same H H') : ∀ {vs : List V} {ds : List D}, Reps c H vs ds → Reps c H' vs ds
  | _, _, .nil => .nil
  | _, _, .cons h r => .cons (Rep.mono e h) (Reps.mono e r)
theorem FReps.mono (e : Same H H') : ∀ {vs : List (Str × V)} {ds : List (Str × D)}, FReps c H vs ds → FReps c H' vs ds
  | _, _, .nil => .nil
  | _, _, .cons h r => .cons (Rep.mono e h) (FReps.mono e r)
theorem KReps.mono (e : Same H H') : ∀ {xs : List (NestedKey × Addr × Value)} {kvs : List (NestedKey × D)}, KReps c H xs kvs → KReps c H' xs kvs
  | _, _, .nil => .nil
  | _, _, .cons h l q r s => .cons (Rep.mono e h) l q (Rep.mono e r) (KReps.mono e s)
end
theorem Reps.length : ∀ {vs : List V} {ds : List D}, Reps c H vs ds → vs.length = ds.length
  | _, _, .nil => rfl
  | _, _, .cons _ r => congrArg (· + 1) (Reps.length r)
theorem Reps.get : ∀ {vs : List V} {ds : List D} {i : Nat} {d : D}, Reps c H vs ds → ds[i]? = some d → ∃ v, vs[i]? = some v ∧ Rep c H v d
  | _, _, _, _, .nil, h => by simp at h
  | _, _, 0, _, .cons h _, e => by
    simp at e
    subst e
    exact ⟨_, rfl, h⟩
  | _, _, i + 1, _, .cons _ r, e => by
    obtain ⟨v, h1, h2⟩ := Reps.get (i := i) r (by simpa using e)
    exact ⟨v, by simpa using h1, h2⟩
theorem Reps.get' : ∀ {vs : List V} {ds : List D} {i : Nat} {v : V}, Reps c H vs ds → vs[i]? = some v → ∃ d, ds[i]? = some d ∧ Rep c H v d
  | _, _, _, _, .nil, h => by simp at h
  | _, _, 0, _, .cons h _, e => by
    simp at e
    subst e
    exact ⟨_, rfl, h⟩
  | _, _, i + 1, _, .cons _ r, e => by
    obtain ⟨v, h1, h2⟩ := Reps.get' (i := i) r (by simpa using e)
    exact ⟨v, by simpa using h1, h2⟩
theorem Reps.append : ∀ {vs ws : List V} {ds es : List D}, Reps c H vs ds → Reps c H ws es → Reps c H (vs ++ ws) (ds ++ es)
  | _, _, _, _, .nil, s => s
  | _, _, _, _, .cons h r, s => .cons h (Reps.append r s)
theorem Reps.take : ∀ {vs : List V} {ds : List D} (n : Nat), Reps c H vs ds → Reps c H (vs.take n) (ds.take n)
  | _, _, 0, _ => .nil
  | _, _, _ + 1, .nil => .nil
  | _, _, n + 1, .cons h r => .cons h (Reps.take n r)
theorem Reps.drop : ∀ {vs : List V} {ds : List D} (n : Nat), Reps c H vs ds → Reps c H (vs.drop n) (ds.drop n)
  | _, _, 0, r => r
  | _, _, _ + 1, .nil => .nil
  | _, _, n + 1, .cons _ r => Reps.drop n r
theorem FReps.lookup {f : Str} {d : D} : ∀ {vs : List (Str × V)} {ds : List (Str × D)}, FReps c H vs ds → ds.lookup f = some d → ∃ v, vs.lookup f = some v ∧ Rep c H v d
  | _, _, .nil, h => by cases h
  | _, _, .cons (f := g) h r, e => by
    rw [List.lookup_cons] at e ⊢
    cases q : f == g with
    | true =>
      rw [q] at e
      cases e
      exact ⟨_, rfl, h⟩
    | false =>
      rw [q] at e
      exact FReps.lookup r e
theorem FReps.lookup_none {f : Str} : ∀ {vs : List (Str × V)} {ds : List (Str × D)}, FReps c H vs ds → ds.lookup f = none → vs.lookup f = none
  | _, _, .nil, _ => rfl
  | _, _, .cons (f := g) h r, e => by
    rw [List.lookup_cons] at e ⊢
    cases q : f == g with
    | true =>
      rw [q] at e
      cases e
    | false =>
      rw [q] at e
      exact FReps.lookup_none r e
end

/-! ### trees of lists that one slot (or one value at hand) owns -/
inductive T where
  | leaf (d : D)
  | node (ts : List T)
mutual
def T.toD : T → D
  | .leaf d => d
  | .node ts => .lst (T.toDs ts)
def T.toDs : List T → List D
  | [] => []
  | t :: ts => t.toD :: T.toDs ts
end
theorem T.toDs_eq : ∀ ts : List T, T.toDs ts = ts.map T.toD
  | [] => rfl
  | t :: ts => by rw [T.toDs, T.toDs_eq ts]; rfl
mutual
/-- the lists of the tree stand at A, in H, and are not shared (not in S) -/
inductive Own (c : Ct) (S H : Hp) : List Addr → V → T → Prop
  | leaf {v : V} {d : D} : Rep c S v d → Own c S H [] v (.leaf d)
  | node {a : Addr} {A : List Addr} {vs : List V} {ts : List T} : H a = some (.lst vs) → S a = none → Owns c S H A vs ts → Own c S H (a :: A) (.ref a) (.node ts)
inductive Owns (c : Ct) (S H : Hp) : List Addr → List V → List T → Prop
  | nil : Owns c S H [] [] []
  | cons {A B : List Addr} {v : V} {t : T} {vs : List V} {ts : List T} : Own c S H A v t → Owns c S H B vs ts → Owns c S H (A ++ B) (v :: vs) (t :: ts)
end
section
variable {c : Ct} {S S' H H' : Hp}
/-- the cells A stay -/
def Keeps (A : List Addr) (S' H H' : Hp) : Prop := ∀ a ∈ A, H' a = H a ∧ S' a = none
theorem Keeps.sub {A B : List Addr} (k : Keeps B S' H H') (h : ∀ a ∈ A, a ∈ B) : Keeps A S' H H' := fun a ha => k a (h a ha)
mutual
theorem Own.mono (e : Same S S') : ∀ {A : List Addr} {v : V} {t : T}, Keeps A S' H H' → Own c S H A v t → Own c S' H' A v t
  | _, _, _, _, .leaf r => .leaf (r.mono e)
  | _, _, _, k, .node h n r => .node ((k _ List.mem_cons_self).1.trans h) (k _ List.mem_cons_self).2 (Owns.mono e (fun a ha => k a (List.mem_cons_of_mem _ ha)) r)
theorem Owns.mono (e : Same S S') : ∀ {A : List Addr} {vs : List V} {ts : List T}, Keeps A S' H H' → Owns c S H A vs ts → Owns c S' H' A vs ts
  | _, _, _, _, .nil => .nil
  | _, _, _, k, .cons h r => .cons (Own.mono e (fun a ha => k a (List.mem_append_left _ ha)) h) (Owns.mono e (fun a ha => k a (List.mem_append_right _ ha)) r)
end
mutual
theorem Own.alive : ∀ {A : List Addr} {v : V} {t : T}, Own c S H A v t → ∀ a ∈ A, (∃ vs, H a = some (.lst vs)) ∧ S a = none
  | _, _, _, .leaf _, a, ha => by cases ha
  | _, _, _, .node h n r, a, ha => by
    rcases List.mem_cons.mp ha with e | ha
    · subst e
      exact ⟨⟨_, h⟩, n⟩
    · exact Owns.alive r a ha
theorem Owns.alive : ∀ {A : List Addr} {vs : List V} {ts : List T}, Owns c S H A vs ts → ∀ a ∈ A, (∃ vs, H a = some (.lst vs)) ∧ S a = none
  | _, _, _, .nil, a, ha => by cases ha
  | _, _, _, .cons h r, a, ha => by
    rcases List.mem_append.mp ha with ha | ha
    · exact Own.alive h a ha
    · exact Owns.alive r a ha
end
theorem Own.live {A : List Addr} {v : V} {t : T} (h : Own c S H A v t) : ∀ a ∈ A, (∃ ob, H a = some ob) ∧ S a = none := fun a ha => ⟨let ⟨_, e⟩ := (h.alive a ha).1; ⟨_, e⟩, (h.alive a ha).2⟩
mutual
/-- read as plain data, in the heap as it stands -/
theorem Own.rep (e : Same S H) : ∀ {A : List Addr} {v : V} {t : T}, Own c S H A v t → Rep c H v t.toD
  | _, _, _, .leaf r => r.mono e
  | _, _, _, .node h n r => by
    rw [T.toD]
    exact .lst h (Owns.rep e r)
theorem Owns.rep (e : Same S H) : ∀ {A : List Addr} {vs : List V} {ts : List T}, Owns c S H A vs ts → Reps c H vs (T.toDs ts)
  | _, _, _, .nil => by rw [T.toDs]; exact .nil
  | _, _, _, .cons h r => by rw [T.toDs]; exact .cons (Own.rep e h) (Owns.rep e r)
end
/-- S and the cells A of H besides -/
def grab (S H : Hp) (A : List Addr) : Hp := fun b => if b ∈ A then H b else S b
theorem grab_in {A : List Addr} {a : Addr} (h : a ∈ A) : grab S H A a = H a := if_pos h
theorem grab_out {A : List Addr} {a : Addr} (h : a ∉ A) : grab S H A a = S a := if_neg h
theorem same_grab {A : List Addr} (h : ∀ a ∈ A, S a = none) : Same S (grab S H A) := fun b o e => by
  by_cases hb : b ∈ A
  · rw [h b hb] at e
    cases e
  · rw [grab_out hb]
    exact e
theorem grab_same {A : List Addr} (e : Same S H) : Same (grab S H A) H := fun b o h => by
  by_cases hb : b ∈ A
  · rw [grab_in hb] at h
    exact h
  · rw [grab_out hb] at h
    exact e b o h
mutual
theorem Own.grabbed {G : Hp} (e : Same S G) : ∀ {A : List Addr} {v : V} {t : T}, (∀ a ∈ A, G a = H a) → Own c S H A v t → Rep c G v t.toD
  | _, _, _, _, .leaf r => r.mono e
  | _, _, _, k, .node h n r => by
    rw [T.toD]
    exact .lst ((k _ List.mem_cons_self).trans h) (Owns.grabbed e (fun a ha => k a (List.mem_cons_of_mem _ ha)) r)
theorem Owns.grabbed {G : Hp} (e : Same S G) : ∀ {A : List Addr} {vs : List V} {ts : List T}, (∀ a ∈ A, G a = H a) → Owns c S H A vs ts → Reps c G vs (T.toDs ts)
  | _, _, _, _, .nil => by rw [T.toDs]; exact .nil
  | _, _, _, k, .cons h r => by
    rw [T.toDs]
    exact .cons (Own.grabbed e (fun a ha => k a (List.mem_append_left _ ha)) h) (Owns.grabbed e (fun a ha => k a (List.mem_append_right _ ha)) r)
end
theorem Owns.length : ∀ {A : List Addr} {vs : List V} {ts : List T}, Owns c S H A vs ts → vs.length = ts.length
  | _, _, _, .nil => rfl
  | _, _, _, .cons _ r => congrArg (· + 1) (Owns.length r)
theorem Owns.append : ∀ {A B : List Addr} {vs ws : List V} {ts us : List T}, Owns c S H A vs ts → Owns c S H B ws us → Owns c S H (A ++ B) (vs ++ ws) (ts ++ us)
  | _, _, _, _, _, _, .nil, s => s
  | _, _, _, _, _, _, .cons h r, s => by
    rw [List.append_assoc]
    exact .cons h (Owns.append r s)
theorem Owns.get : ∀ {A : List Addr} {vs : List V} {ts : List T} {i : Nat} {t : T}, Owns c S H A vs ts → ts[i]? = some t → ∃ v B, vs[i]? = some v ∧ Own c S H B v t ∧ ∀ a ∈ B, a ∈ A
  | _, _, _, _, _, .nil, h => by simp at h
  | _, _, _, 0, _, .cons h _, e => by
    simp at e
    subst e
    exact ⟨_, _, rfl, h, fun a ha => List.mem_append_left _ ha⟩
  | _, _, _, i + 1, _, .cons _ r, e => by
    obtain ⟨v, B, h1, h2, h3⟩ := Owns.get (i := i) r (by simpa using e)
    exact ⟨v, B, by simpa using h1, h2, fun a ha => List.mem_append_right _ (h3 a ha)⟩
theorem Owns.leaves : ∀ {vs : List V} {ds : List D}, Reps c S vs ds → Owns c S H [] vs (ds.map T.leaf)
  | _, _, .nil => .nil
  | _, _, .cons h r => by
    have q : Owns c S H ([] ++ []) _ (T.leaf _ :: _) := Owns.cons (.leaf h) (Owns.leaves r)
    exact q
end

/-! ### exceptions -/
/-- an exception: its class, its fields -/
structure Xc where
  C : Str
  fs : List (Str × D)
/-- how an exception lies -/
def XRep (c : Ct) (S H : Hp) (e : Value) (dx : Option Addr) (x : Xc) : Prop :=
  e = .ref (c.cl x.C) ∧ match x.fs with
    | [] => dx = none
    | fs => ∃ d vfs, dx = some d ∧ H d = some (.xd vfs) ∧ FReps c S vfs fs
/-- its dict is new -/
def FrX (H : Hp) (dx : Option Addr) : Prop := ∀ d, dx = some d → H d = none
theorem XRep.mono {c : Ct} {S S' H H' : Hp} {e : Value} {dx : Option Addr} {x : Xc} (h : Same S S') (g : Same H H') (r : XRep c S H e dx x) : XRep c S' H' e dx x := by
  obtain ⟨C, fs⟩ := x
  obtain ⟨h1, h2⟩ := r
  refine ⟨h1, ?_⟩
  cases fs with
  | nil => exact h2
  | cons p fs =>
    obtain ⟨d, vfs, q1, q2, q3⟩ := h2
    exact ⟨d, vfs, q1, g _ _ q2, q3.mono h⟩

/-! ### slots -/
/-- what a slot holds: nothing known; shared data; an owned tree; an owned tree that a loop walks -/
inductive SV where
  | no | sh (d : D) | own (ts : List T) | lk (ts : List T) | mk (C : Str) (fs : List (Str × D)) | dic (kvs : List (NestedKey × D)) | xc (z : Xc)
abbrev Env := List SV
inductive SRep (c : Ct) (S H : Hp) : List Addr → Option V → SV → Prop
  | no {o : Option V} : SRep c S H [] o .no
  | sh {v : V} {d : D} : Rep c S v d → SRep c S H [] (some v) (.sh d)
  | own {A : List Addr} {v : V} {ts : List T} : Own c S H A v (.node ts) → SRep c S H A (some v) (.own ts)
  | lk {A : List Addr} {v : V} {ts : List T} : Own c S H A v (.node ts) → SRep c S H A (some v) (.lk ts)
  | mk {x dx : Addr} {C : Str} {vfs : List (Str × V)} {fs : List (Str × D)} : H x = some (.ins (c.cl C) dx vfs) → S x = none → FReps c S vfs fs → SRep c S H [x] (some (.ref x)) (.mk C fs)
  | dic {d : Addr} {xs : List (NestedKey × Addr × Value)} {kvs : List (NestedKey × D)} : H d = some (dcO c d xs) → S d = none → KReps c S xs kvs → SRep c S H [d] (some (.ref d)) (.dic kvs)
  | xc {z : Xc} : XRep c S S c.xc c.xd z → SRep c S H [] (some (.ref c.xa)) (.xc z)
inductive Slots (c : Ct) (S H : Hp) : L2.St → Dl.Env → List Addr → Prop
  | nil : Slots c S H [] [] []
  | cons {A O : List Addr} {o : Option V} {v : SV} {σ : L2.St} {ρ : Dl.Env} : SRep c S H A o v → Slots c S H σ ρ O → Slots c S H (o :: σ) (v :: ρ) (A ++ O)
section
variable {c : Ct} {S S' H H' : Hp}
theorem SRep.mono (e : Same S S') {A : List Addr} {o : Option V} {v : SV} (k : Keeps A S' H H') (h : SRep c S H A o v) : SRep c S' H' A o v := by
  cases h with
  | no => exact .no
  | sh r => exact .sh (r.mono e)
  | own r => exact .own (r.mono e k)
  | lk r => exact .lk (r.mono e k)
  | mk h n r => exact .mk ((k _ List.mem_cons_self).1.trans h) (k _ List.mem_cons_self).2 (r.mono e)
  | dic h n r => exact .dic ((k _ List.mem_cons_self).1.trans h) (k _ List.mem_cons_self).2 (r.mono e)
  | xc r => exact .xc (r.mono e e)
theorem SRep.alive {A : List Addr} {o : Option V} {v : SV} (h : SRep c S H A o v) : ∀ a ∈ A, (∃ ob, H a = some ob) ∧ S a = none := by
  cases h with
  | no => exact fun a ha => by cases ha
  | sh r => exact fun a ha => by cases ha
  | own r => exact r.live
  | lk r => exact r.live
  | mk h n r =>
    intro a ha
    rw [List.mem_singleton.mp ha]
    exact ⟨⟨_, h⟩, n⟩
  | dic h n r =>
    intro a ha
    rw [List.mem_singleton.mp ha]
    exact ⟨⟨_, h⟩, n⟩
  | xc r => exact fun a ha => by cases ha
theorem Slots.mono (e : Same S S') : ∀ {σ : L2.St} {ρ : Dl.Env} {O : List Addr}, Keeps O S' H H' → Slots c S H σ ρ O → Slots c S' H' σ ρ O
  | _, _, _, _, .nil => .nil
  | _, _, _, k, .cons h r => .cons (h.mono e fun a ha => k a (List.mem_append_left _ ha)) (Slots.mono e (fun a ha => k a (List.mem_append_right _ ha)) r)
theorem Slots.alive : ∀ {σ : L2.St} {ρ : Dl.Env} {O : List Addr}, Slots c S H σ ρ O → ∀ a ∈ O, (∃ ob, H a = some ob) ∧ S a = none
  | _, _, _, .nil, a, ha => by cases ha
  | _, _, _, .cons h r, a, ha => by
    rcases List.mem_append.mp ha with ha | ha
    · exact h.alive a ha
    · exact Slots.alive r a ha
theorem Slots.length : ∀ {σ : L2.St} {ρ : Dl.Env} {O : List Addr}, Slots c S H σ ρ O → σ.length = ρ.length
  | _, _, _, .nil => rfl
  | _, _, _, .cons _ r => congrArg (· + 1) (Slots.length r)
/-- slot i: what it holds, and how it may be replaced -/
theorem Slots.at_ : ∀ {σ : L2.St} {ρ : Dl.Env} {O : List Addr} {i : Nat} {x : SV}, Slots c S H σ ρ O → O.Nodup → ρ[i]? = some x →
    ∃ A o, σ[i]? = some o ∧ SRep c S H A o x ∧ A.Nodup ∧ (∀ a ∈ A, a ∈ O) ∧
      ∀ (S' H' : Hp) (A' : List Addr) (o' : Option V) (x' : SV), Same S S' → (∀ a ∈ O, a ∉ A → H' a = H a ∧ S' a = none) → SRep c S' H' A' o' x' → A'.Nodup → (∀ a ∈ A', a ∈ O → a ∈ A) →
        ∃ O', Slots c S' H' (σ.set i o') (ρ.set i x') O' ∧ O'.Nodup ∧ (∀ a ∈ O', a ∈ A' ∨ (a ∈ O ∧ a ∉ A))
  | _, _, _, _, _, .nil, _, h => by simp at h
  | _, _, _, 0, _, .cons (A := A) (O := O) (o := o) h r, nd, e => by
    simp at e
    subst e
    obtain ⟨n1, n2, n3⟩ := List.nodup_append.mp nd
    refine ⟨A, o, rfl, h, n1, fun a ha => List.mem_append_left _ ha, fun S' H' A' o' x' es k h' nd' di => ?_⟩
    have hO : ∀ a ∈ O, a ∉ A := fun a ha hA => n3 a hA a ha rfl
    refine ⟨A' ++ O, .cons h' (r.mono es fun a ha => k a (List.mem_append_right _ ha) (hO a ha)), List.nodup_append.mpr ⟨nd', n2, fun a ha b hb e => ?_⟩, fun a ha => ?_⟩
    · subst e
      exact hO a hb (di a ha (List.mem_append_right _ hb))
    · rcases List.mem_append.mp ha with ha | ha
      · exact .inl ha
      · exact .inr ⟨List.mem_append_right _ ha, hO a ha⟩
  | _, _, _, i + 1, _, .cons (A := B) (O := O) (o := ob) h r, nd, e => by
    obtain ⟨n1, n2, n3⟩ := List.nodup_append.mp nd
    obtain ⟨A, o, q1, q2, q3, q4, q5⟩ := Slots.at_ (i := i) r n2 (by simpa using e)
    have hB : ∀ a ∈ B, a ∉ A := fun a ha hA => n3 a ha a (q4 a hA) rfl
    refine ⟨A, o, by simpa using q1, q2, q3, fun a ha => List.mem_append_right _ (q4 a ha), fun S' H' A' o' x' es k h' nd' di => ?_⟩
    obtain ⟨O', p1, p2, p3⟩ := q5 S' H' A' o' x' es (fun a ha hn => k a (List.mem_append_right _ ha) hn) h' nd' (fun a ha ho => di a ha (List.mem_append_right _ ho))
    refine ⟨B ++ O', .cons (h.mono es fun a ha => k a (List.mem_append_left _ ha) (hB a ha)) p1, List.nodup_append.mpr ⟨n1, p2, fun a ha b hb e => ?_⟩, fun a ha => ?_⟩
    · subst e
      rcases p3 a hb with z | z
      · exact hB a ha (di a z (List.mem_append_left _ ha))
      · exact n3 a ha a z.1 rfl
    · rcases List.mem_append.mp ha with ha | ha
      · exact .inr ⟨List.mem_append_left _ ha, hB a ha⟩
      · rcases p3 a ha with z | z
        · exact .inl z
        · exact .inr ⟨List.mem_append_right _ z.1, z.2⟩
end

/-! ### another exception handled: data stand as they stood -/
section
variable {c : Ct} {S H : Hp} {xa : Addr} {xd : Option Addr} {xc : Value}
mutual
theorem Rep.re : ∀ {v : V} {d : D}, Rep c H v d → Rep (c.re xa xd xc) H v d
  | _, _, .non => .non
  | _, _, .bl b => .bl b
  | _, _, .int i => .int i
  | _, _, .str s => .str s
  | _, _, .ty n => .ty n
  | _, _, .tup h r => .tup h (Reps.re r)
  | _, _, .lst h r => .lst h (Reps.re r)
  | _, _, .scr h => .scr h
  | _, _, .obj h r => .obj h (FReps.re r)
  | _, _, .dic h r => .dic h (KReps.re r)
theorem Reps.re : ∀ {vs : List V} {ds : List D}, Reps c H vs ds → Reps (c.re xa xd xc) H vs ds
  | _, _, .nil => .nil
  | _, _, .cons h r => .cons (Rep.re h) (Reps.re r)
theorem FReps.re : ∀ {vs : List (Str × V)} {ds : List (Str × D)}, FReps c H vs ds → FReps (c.re xa xd xc) H vs ds
  | _, _, .nil => .nil
  | _, _, .cons h r => .cons (Rep.re h) (FReps.re r)
theorem KReps.re : ∀ {xs : List (NestedKey × Addr × Value)} {kvs : List (NestedKey × D)}, KReps c H xs kvs → KReps (c.re xa xd xc) H xs kvs
  | _, _, .nil => .nil
  | _, _, .cons h l q r s => .cons (Rep.re h) l q (Rep.re r) (KReps.re s)
end
mutual
theorem Own.re : ∀ {A : List Addr} {v : V} {t : T}, Own c S H A v t → Own (c.re xa xd xc) S H A v t
  | _, _, _, .leaf r => .leaf r.re
  | _, _, _, .node h n r => .node h n (Owns.re r)
theorem Owns.re : ∀ {A : List Addr} {vs : List V} {ts : List T}, Owns c S H A vs ts → Owns (c.re xa xd xc) S H A vs ts
  | _, _, _, .nil => .nil
  | _, _, _, .cons h r => .cons (Own.re h) (Owns.re r)
end
theorem XRep.re {e : Value} {dx : Option Addr} {x : Xc} (r : XRep c S H e dx x) : XRep (c.re xa xd xc) S H e dx x := by
  obtain ⟨C, fs⟩ := x
  obtain ⟨h1, h2⟩ := r
  refine ⟨h1, ?_⟩
  cases fs with
  | nil => exact h2
  | cons p fs =>
    obtain ⟨d, vfs, q1, q2, q3⟩ := h2
    exact ⟨d, vfs, q1, q2, q3.re⟩
def SV.noXc : SV → Bool
  | .xc _ => false
  | _ => true
theorem SRep.re {A : List Addr} {o : Option V} {v : SV} (h : SRep c S H A o v) (n : v.noXc = true) : SRep (c.re xa xd xc) S H A o v := by
  cases h with
  | no => exact .no
  | sh r => exact .sh r.re
  | own r => exact .own r.re
  | lk r => exact .lk r.re
  | mk h m r => exact .mk h m r.re
  | dic h m r => exact .dic h m r.re
  | xc r => cases n
theorem Slots.re : ∀ {σ : L2.St} {ρ : Dl.Env} {O : List Addr}, Slots c S H σ ρ O → ρ.all SV.noXc = true → Slots (c.re xa xd xc) S H σ ρ O
  | _, _, _, .nil, _ => .nil
  | _, _, _, .cons h r, n => by
    rw [List.all_cons, Bool.and_eq_true] at n
    exact .cons (h.re n.1) (Slots.re r n.2)
end

/-! ### growth -/
/-- from (S, H) to (S', H'): all is kept; what is newly shared was not there -/
structure Gr (S H S' H' : Hp) : Prop where
  hh : Same H H'
  ss : Same S S'
  sub : Same S' H'
  new : ∀ a o, H a = some o → S a = none → S' a = none
section
variable {c : Ct} {S H S1 H1 S2 H2 : Hp}
theorem Gr.refl (e : Same S H) : Gr S H S H := ⟨Same.refl _, Same.refl _, e, fun _ _ _ h => h⟩
theorem Gr.trans (a : Gr S H S1 H1) (b : Gr S1 H1 S2 H2) : Gr S H S2 H2 :=
  ⟨a.hh.trans b.hh, a.ss.trans b.ss, b.sub, fun x o e n => b.new x o (a.hh x o e) (a.new x o e n)⟩
theorem Gr.keeps (g : Gr S H S1 H1) {A : List Addr} (al : ∀ a ∈ A, (∃ ob, H a = some ob) ∧ S a = none) : Keeps A S1 H H1 := fun a ha => by
  obtain ⟨⟨vs, e⟩, n⟩ := al a ha
  exact ⟨by rw [e]; exact g.hh a _ e, g.new a _ e n⟩
theorem Gr.own (g : Gr S H S1 H1) {A : List Addr} {v : V} {t : T} (h : Own c S H A v t) : Own c S1 H1 A v t := h.mono g.ss (g.keeps h.live)
theorem Gr.owns (g : Gr S H S1 H1) {A : List Addr} {vs : List V} {ts : List T} (h : Owns c S H A vs ts) : Owns c S1 H1 A vs ts := h.mono g.ss (g.keeps fun a ha => ⟨let ⟨vs, e⟩ := (h.alive a ha).1; ⟨_, e⟩, (h.alive a ha).2⟩)
/-- a new object, shared -/
theorem Gr.push (e : Same S H) {p : Addr} {o : HO} (hp : H p = none) : Gr S H (upd S p o) (upd H p o) := by
  have hs : S p = none := by
    cases q : S p with
    | none => rfl
    | some u =>
      rw [e p u q] at hp
      cases hp
  refine ⟨fun b u h => ?_, fun b u h => ?_, fun b u h => ?_, fun a u h n => ?_⟩
  · rw [upd_ne (ne_of_none h hp)]
    exact h
  · rw [upd_ne (ne_of_none h hs)]
    exact h
  · by_cases q : b = p
    · subst q
      rw [upd_same] at h ⊢
      exact h
    · rw [upd_ne q] at h ⊢
      exact e b u h
  · rw [upd_ne (ne_of_none h hp)]
    exact n
/-- a new object, owned -/
theorem Gr.pushO (e : Same S H) {p : Addr} {o : HO} (hp : H p = none) : Gr S H S (upd H p o) := by
  refine ⟨fun b u h => ?_, Same.refl _, fun b u h => ?_, fun a u h n => n⟩
  · rw [upd_ne (ne_of_none h hp)]
    exact h
  · rw [upd_ne (ne_of_none (e b u h) hp)]
    exact e b u h
/-- owned cells become shared -/
theorem Gr.grab (g : Gr S H S1 H1) {A : List Addr} (hA : ∀ a ∈ A, H a = none) (nA : ∀ a ∈ A, S1 a = none) : Gr S H (Dl.grab S1 H1 A) H1 := by
  refine ⟨g.hh, g.ss.trans (same_grab nA), grab_same g.sub, fun a o e n => ?_⟩
  have h : a ∉ A := fun z => by
    rw [hA a z] at e
    cases e
  rw [grab_out h]
  exact g.new a o e n
end

/-- the slots as they stand: σ and ρ over S, H -/
structure View (c : Ct) (S H : Hp) (σ : L2.St) (ρ : Dl.Env) (O : List Addr) : Prop where
  sub : Same S H
  sl : Slots c S H σ ρ O
  nd : O.Nodup
theorem View.gr {c : Ct} {S H S1 H1 : Hp} {σ : L2.St} {ρ : Dl.Env} {O : List Addr} (h : View c S H σ ρ O) (g : Gr S H S1 H1) : View c S1 H1 σ ρ O :=
  ⟨g.sub, h.sl.mono g.ss (g.keeps h.sl.alive), h.nd⟩
end Dl
set_option Elab.async false
set_option linter.all false
set_option maxRecDepth 100000
/-! DL2: results, expression values, readings, judgements; expressions. -/
namespace Dl
open PySem PySem.Spec PyProof.Rows L2

inductive Res (α : Type) where
  | ok (a : α) | exc (x : Xc) | stuck
def Res.bind {α β : Type} (r : Res α) (k : α → Res β) : Res β := match r with
  | .ok a => k a
  | .exc x => .exc x
  | .stuck => .stuck
instance : Monad Res where
  pure := .ok
  bind := Res.bind
section
variable {α β : Type}
@[simp] theorem Res.ok_bind (a : α) (k : α → Res β) : ((Res.ok a) >>= k) = k a := rfl
@[simp] theorem Res.exc_bind (x : Xc) (k : α → Res β) : ((Res.exc x) >>= k) = .exc x := rfl
@[simp] theorem Res.stuck_bind (k : α → Res β) : ((Res.stuck) >>= k) = .stuck := rfl
@[simp] theorem Res.ok_bind' (a : α) (k : α → Res β) : (Res.ok a).bind k = k a := rfl
@[simp] theorem Res.exc_bind' (x : Xc) (k : α → Res β) : (Res.exc x).bind k = .exc x := rfl
@[simp] theorem Res.stuck_bind' (k : α → Res β) : (Res.stuck).bind k = .stuck := rfl
@[simp] theorem Res.pure_eq (a : α) : (pure a : Res α) = .ok a := rfl
end
def ofOpt {α : Type} : Option α → Res α
  | some a => .ok a
  | none => .stuck

/-- an expression's value: shared data; a new list (its tree owned by nobody else); a list that a slot owns -/
inductive EV where
  | sh (d : D) | fr (ts : List T) | bo (ts : List T)
/-- as plain data -/
def EV.d : EV → D
  | .sh d => d
  | .fr ts => .lst (T.toDs ts)
  | .bo ts => .lst (T.toDs ts)
inductive EvRep (c : Ct) (S H : Hp) : List Addr → V → EV → Prop
  | sh {v : V} {d : D} : Rep c S v d → EvRep c S H [] v (.sh d)
  | fr {A : List Addr} {v : V} {ts : List T} : Own c S H A v (.node ts) → EvRep c S H A v (.fr ts)
  | bo {A : List Addr} {v : V} {ts : List T} : Own c S H A v (.node ts) → EvRep c S H [] v (.bo ts)
inductive EvsRep (c : Ct) (S H : Hp) : List Addr → List V → List EV → Prop
  | nil : EvsRep c S H [] [] []
  | cons {A B : List Addr} {v : V} {e : EV} {vs : List V} {es : List EV} : EvRep c S H A v e → EvsRep c S H B vs es → EvsRep c S H (A ++ B) (v :: vs) (e :: es)

/-- wishes about exceptions: with the shared part; with the slots -/
abbrev XS := Hp → XK
abbrev WS := L2.St → XK
section
variable {c : Ct} {S H S1 H1 S2 H2 : Hp} {E : XS}
theorem EvRep.rep (e : Same S H) {A : List Addr} {v : V} {x : EV} (h : EvRep c S H A v x) : Rep c H v x.d := by
  cases h with
  | sh r => exact r.mono e
  | fr r => simpa [EV.d, T.toD] using r.rep e
  | bo r => simpa [EV.d, T.toD] using r.rep e
theorem EvRep.gr (g : Gr S H S1 H1) {A : List Addr} {v : V} {x : EV} (h : EvRep c S H A v x) : EvRep c S1 H1 A v x := by
  cases h with
  | sh r => exact .sh (r.mono g.ss)
  | fr r => exact .fr (g.own r)
  | bo r => exact .bo (g.own r)
theorem EvRep.alive {A : List Addr} {v : V} {x : EV} (h : EvRep c S H A v x) : ∀ a ∈ A, (∃ vs, H a = some (.lst vs)) ∧ S a = none := by
  cases h with
  | sh r => exact fun a ha => by cases ha
  | fr r => exact r.alive
  | bo r => exact fun a ha => by cases ha
theorem EvRep.re {xa : Addr} {xd : Option Addr} {xc : Value} {A : List Addr} {v : V} {x : EV} (h : EvRep c S H A v x) : EvRep (c.re xa xd xc) S H A v x := by
  cases h with
  | sh r => exact .sh r.re
  | fr r => exact .fr r.re
  | bo r => exact .bo r.re
theorem EvsRep.gr (g : Gr S H S1 H1) : ∀ {A : List Addr} {vs : List V} {xs : List EV}, EvsRep c S H A vs xs → EvsRep c S1 H1 A vs xs
  | _, _, _, .nil => .nil
  | _, _, _, .cons h r => .cons (h.gr g) (EvsRep.gr g r)
theorem EvsRep.alive : ∀ {A : List Addr} {vs : List V} {xs : List EV}, EvsRep c S H A vs xs → ∀ a ∈ A, (∃ vs, H a = some (.lst vs)) ∧ S a = none
  | _, _, _, .nil, a, ha => by cases ha
  | _, _, _, .cons h r, a, ha => by
    rcases List.mem_append.mp ha with ha | ha
    · exact h.alive a ha
    · exact EvsRep.alive r a ha
theorem EvsRep.reps (e : Same S H) : ∀ {A : List Addr} {vs : List V} {xs : List EV}, EvsRep c S H A vs xs → Reps c H vs (xs.map EV.d)
  | _, _, _, .nil => .nil
  | _, _, _, .cons h r => .cons (h.rep e) (EvsRep.reps e r)

/-! ### what is wanted of a result, from (S, H) on -/
def Post (c : Ct) (E : XS) (S H : Hp) (r : Res EV) (Q : VK) : Prop := match r with
  | .ok x => ∀ (S' H' : Hp) (A : List Addr) (v : V), Gr S H S' H' → EvRep c S' H' A v x → A.Nodup → (∀ a ∈ A, H a = none) → Q v H'
  | .exc x => ∀ (S' H' : Hp) (e : Value) (dx : Option Addr), Gr S H S' H' → XRep c S' H' e dx x → FrX H dx → E S' e dx H'
  | .stuck => False
def PostA (c : Ct) (E : XS) (S H : Hp) (r : Res (List EV)) (Q : List V → Hp → Prop) : Prop := match r with
  | .ok xs => ∀ (S' H' : Hp) (A : List Addr) (vs : List V), Gr S H S' H' → EvsRep c S' H' A vs xs → A.Nodup → (∀ a ∈ A, H a = none) → Q vs H'
  | .exc x => ∀ (S' H' : Hp) (e : Value) (dx : Option Addr), Gr S H S' H' → XRep c S' H' e dx x → FrX H dx → E S' e dx H'
  | .stuck => False
def PostT (c : Ct) (E : XS) (S H : Hp) (r : Res Bool) (Q : Bool → Hp → Prop) : Prop := match r with
  | .ok b => ∀ (S' H' : Hp), Gr S H S' H' → Q b H'
  | .exc x => ∀ (S' H' : Hp) (e : Value) (dx : Option Addr), Gr S H S' H' → XRep c S' H' e dx x → FrX H dx → E S' e dx H'
  | .stuck => False
/-- what is wished for where an expression raises: at all slots that are as told -/
def xs (c : Ct) (E : WS) (ρ : Dl.Env) (O : List Addr) : XS := fun S' e dx H' => ∀ σ', Slots c S' H' σ' ρ O → E σ' e dx H'
/-- the readings -/
def rE (c : Ct) (E : WS) (f : Dl.Env → Res EV) : TE := fun σ H Q => ∃ S ρ O, View c S H σ ρ O ∧ Post c (xs c E ρ O) S H (f ρ) Q
def rA (c : Ct) (E : WS) (f : Dl.Env → Res (List EV)) : TA := fun σ H Q => ∃ S ρ O, View c S H σ ρ O ∧ PostA c (xs c E ρ O) S H (f ρ) Q
def rT (c : Ct) (E : WS) (f : Dl.Env → Res Bool) : TT := fun σ H Q => ∃ S ρ O, View c S H σ ρ O ∧ PostT c (xs c E ρ O) S H (f ρ) Q
end
/-- what X's handled exception is -/
def hxOf (X : Cx) : Addr × Option Addr × Value := match X.calm, X.pn with
  | false, p :: _ => (p.1, p.2.dict, p.2.cls)
  | _, _ => (0, none, .none)
abbrev ct0 (X : Cx) : Ct := ⟨X.prog, X.w, X.K, X.mg, 0, none, .none⟩
abbrev ctOf (X : Cx) : Ct := (ct0 X).re (hxOf X).1 (hxOf X).2.1 (hxOf X).2.2
theorem hxOf_calm {X : Cx} (h : X.calm = true) : hxOf X = (0, none, .none) := by
  unfold hxOf
  rw [h]
theorem ctOf_calm {X : Cx} (h : X.calm = true) : ctOf X = ct0 X := by
  unfold ctOf
  rw [hxOf_calm h]
  rfl
def DE (X : Cx) (E : WS) (e : Expr) (f : Dl.Env → Res EV) : Prop := PE X e (rE (ctOf X) E f)
def DA (X : Cx) (E : WS) (es : List Expr) (f : Dl.Env → Res (List EV)) : Prop := PA X es (rA (ctOf X) E f)
def DT (X : Cx) (E : WS) (e : Expr) (f : Dl.Env → Res Bool) : Prop := PT X e (rT (ctOf X) E f)

theorem pe_imp {X : Cx} {e : Expr} {t t' : TE} (h : PE X e t) (i : ∀ σ H Q, t' σ H Q → t σ H Q) : PE X e t' := ⟨fun pins s σ H Q I z => h.run pins s σ H Q I (i σ H Q z)⟩
theorem pt_imp {X : Cx} {e : Expr} {t t' : TT} (h : PT X e t) (i : ∀ σ H Q, t' σ H Q → t σ H Q) : PT X e t' := ⟨fun pins s σ H Q I z => h.run pins s σ H Q I (i σ H Q z)⟩
theorem pw_imp {X : Cx} {e : Expr} {t t' : TT} (h : PW X e t) (i : ∀ σ H Q, t' σ H Q → t σ H Q) : PW X e t' := ⟨fun wh pins s σ H Q I z => h.run wh pins s σ H Q I (i σ H Q z)⟩
theorem pa_imp {X : Cx} {e : List Expr} {t t' : TA} (h : PA X e t) (i : ∀ σ H Q, t' σ H Q → t σ H Q) : PA X e t' := ⟨fun p pins s σ H Q I z => h.run p pins s σ H Q I (i σ H Q z)⟩

section
variable {c : Ct} {E : XS} {S H S1 H1 : Hp}
/-- an exception, a stuck result: whatever is wanted of the value -/
theorem Post.exc {x : Xc} {Q Q' : VK} (h : Post c E S H (.exc x) Q) : Post c E S H (.exc x) Q' := h
theorem Post.sh {d : D} {v : V} {Q : VK} (h : Post c E S H (.ok (.sh d)) Q) (g : Gr S H S1 H1) (r : Rep c S1 v d) : Q v H1 :=
  h S1 H1 [] v g (.sh r) List.nodup_nil fun _ z => by cases z
/-- first one expression, then what follows -/
theorem Post.fst {r : Res EV} {k : EV → Res EV} {Q Q1 : VK} (h : Post c E S H (r.bind k) Q)
    (go : ∀ x, r = .ok x → Post c E S H (k x) Q → ∀ S1 H1 A v, Gr S H S1 H1 → EvRep c S1 H1 A v x → A.Nodup → (∀ a ∈ A, H a = none) → Q1 v H1) : Post c E S H r Q1 := by
  cases r with
  | ok x => exact fun S1 H1 A v g re nd fr => go x rfl h S1 H1 A v g re nd fr
  | exc x => exact h
  | stuck => exact h
theorem Post.later {r : Res EV} {Q : VK} (h : Post c E S H r Q) (g : Gr S H S1 H1) : Post c E S1 H1 r Q := by
  cases r with
  | ok x => exact fun S2 H2 A v g2 re nd fr => h S2 H2 A v (g.trans g2) re nd fun a ha => g.hh.free (fr a ha)
  | exc x => exact fun S2 H2 e dx g2 z f => h S2 H2 e dx (g.trans g2) z fun d e => g.hh.free (f d e)
  | stuck => exact h
theorem PostA.later {r : Res (List EV)} {Q : List V → Hp → Prop} (h : PostA c E S H r Q) (g : Gr S H S1 H1) : PostA c E S1 H1 r Q := by
  cases r with
  | ok x => exact fun S2 H2 A v g2 re nd fr => h S2 H2 A v (g.trans g2) re nd fun a ha => g.hh.free (fr a ha)
  | exc x => exact fun S2 H2 e dx g2 z f => h S2 H2 e dx (g.trans g2) z fun d e => g.hh.free (f d e)
  | stuck => exact h
theorem PostT.later {r : Res Bool} {Q : Bool → Hp → Prop} (h : PostT c E S H r Q) (g : Gr S H S1 H1) : PostT c E S1 H1 r Q := by
  cases r with
  | ok x => exact fun S2 H2 g2 => h S2 H2 (g.trans g2)
  | exc x => exact fun S2 H2 e dx g2 z f => h S2 H2 e dx (g.trans g2) z fun d e => g.hh.free (f d e)
  | stuck => exact h
/-- a new tuple of shared things -/
theorem Post.tup {ds : List D} {vs : List V} {Q : VK} {p : Addr} (h : Post c E S H (.ok (.sh (.tup ds))) Q) (g : Gr S H S1 H1) (r : Reps c S1 vs ds) (hp : H1 p = none) : Q (.ref p) (upd H1 p (.tup vs)) := by
  have g1 : Gr S1 H1 (upd S1 p (.tup vs)) (upd H1 p (.tup vs)) := Gr.push g.sub hp
  exact h.sh (g.trans g1) (.tup (.inl upd_same) (r.mono g1.ss))
/-- a new list -/
theorem Post.lst {ts : List T} {A : List Addr} {vs : List V} {Q : VK} {p : Addr} (h : Post c E S H (.ok (.fr ts)) Q) (g : Gr S H S1 H1) (r : Owns c S1 H1 A vs ts) (nd : A.Nodup) (fr : ∀ a ∈ A, H a = none) (hp : H1 p = none) :
    Q (.ref p) (upd H1 p (.lst vs)) := by
  have g1 : Gr S1 H1 S1 (upd H1 p (.lst vs)) := Gr.pushO g.sub hp
  refine h S1 _ (p :: A) _ (g.trans g1) (.fr (.node upd_same (g.sub.free hp) (g1.owns r))) ?_ ?_
  · refine List.nodup_cons.mpr ⟨fun z => ?_, nd⟩
    obtain ⟨⟨_, e⟩, _⟩ := r.alive p z
    rw [hp] at e
    cases e
  · intro a ha
    rcases List.mem_cons.mp ha with e | ha
    · subst e
      exact g.hh.free hp
    · exact fr a ha
end

/-! ### names, constants -/
def dVar (i : Nat) : Dl.Env → Res EV := fun ρ => match ρ[i]? with
  | some (.sh d) => .ok (.sh d)
  | some (.own ts) => .ok (.bo ts)
  | some (.lk ts) => .ok (.bo ts)
  | _ => .stuck
def dC (d : D) : Dl.Env → Res EV := fun _ => .ok (.sh d)
section
variable {X : Cx} {E : WS} {pos : Pos}
theorem de_var (i : Nat) {x : Str} {pos : Pos} (hN : X.N[i]? = some x := by rfl) (hv : Vis X.env.scope x := by first | exact Or.inl rfl | exact Or.inr (Or.inl rfl) | exact Or.inr (Or.inr rfl)) (hd : (x == ("__debug__" : Str)) = false := by decide)
    (hcd : (x == ("__classdict__" : Str)) = false := by decide) : DE X E (.Name x pos) (dVar i) := by
  refine pe_imp (pe_var (i := i) hN hv hd hcd) fun σ H Q h => ?_
  obtain ⟨S, ρ, O, V, h⟩ := h
  unfold dVar at h
  cases e : ρ[i]? with
  | none =>
    rw [e] at h
    exact h.elim
  | some x =>
    obtain ⟨A, o, q1, q2, q3, q4, _⟩ := V.sl.at_ V.nd e
    rw [e] at h
    cases q2 with
    | no => exact h.elim
    | sh r => exact ⟨_, q1, h.sh (Gr.refl V.sub) r⟩
    | own r => exact ⟨_, q1, h S H [] _ (Gr.refl V.sub) (.bo r) List.nodup_nil fun _ z => by cases z⟩
    | lk r => exact ⟨_, q1, h S H [] _ (Gr.refl V.sub) (.bo r) List.nodup_nil fun _ z => by cases z⟩
    | mk _ _ _ => exact h.elim
    | dic _ _ _ => exact h.elim
    | xc _ => exact h.elim
theorem de_c {e : Expr} {v : V} {d : D} (h : PE X e (tC v)) (r : ∀ c H, Rep c H v d) : DE X E e (dC d) := by
  refine pe_imp h fun σ H Q h => ?_
  obtain ⟨S, ρ, O, V, h⟩ := h
  exact h.sh (Gr.refl V.sub) (r _ _)
theorem de_int {i j pos} : DE X E (.Constant (.int i) j pos) (dC (.int i)) := de_c pe_int fun _ _ => .int i
theorem de_bl {b j pos} : DE X E (.Constant (.bool b) j pos) (dC (.bl b)) := de_c pe_bl fun _ _ => .bl b
theorem de_non {j pos} : DE X E (.Constant .none j pos) (dC .non) := de_c pe_non fun _ _ => .non
theorem de_str {s j pos} : DE X E (.Constant (.str s) j pos) (dC (.str s)) := de_c pe_str fun _ _ => .str s
end

/-! ### two operands -/
/-- an operation's rule r does what g says -/
def OpS (c : Ct) (r : R2) (g : EV → EV → Res EV) : Prop := ∀ (E : XS) (S H S1 H1 : Hp) (A B : List Addr) (x y : V) (a b : EV) (Q : VK), Gr S H S1 H1 → EvRep c S1 H1 A x a → EvRep c S1 H1 B y b → (A ++ B).Nodup → (∀ u ∈ A ++ B, H u = none) →
  (∀ z, g a b ≠ .exc z) → Post c E S H (g a b) Q → r x y H1 Q
def d2 (g : EV → EV → Res EV) (f1 f2 : Dl.Env → Res EV) : Dl.Env → Res EV := fun ρ => (f1 ρ).bind fun a => (f2 ρ).bind fun b => g a b
section
variable {X : Cx} {E : WS} {pos : Pos} {a b : Expr} {f1 f2 : Dl.Env → Res EV} {g : EV → EV → Res EV} {r : R2}
theorem two {c : Ct} (hs : OpS c r g) (ne : ∀ a b z, g a b ≠ .exc z) {σ : L2.St} {H : Hp} {Q : VK} (h : rE c E (d2 g f1 f2) σ H Q) : tOp r (rE c E f1) (rE c E f2) σ H Q := by
  obtain ⟨S, ρ, O, V, h⟩ := h
  refine ⟨S, ρ, O, V, Post.fst h fun x e1 h1 S1 H1 A v g1 r1 n1 fr1 => ?_⟩
  refine ⟨S1, ρ, O, V.gr g1, Post.fst (h1.later g1) fun y e2 _ S2 H2 B w g2 r2 n2 fr2 => ?_⟩
  have h3 : Post c (xs c E ρ O) S H (g x y) Q := by
    have z := h1
    rw [e2] at z
    exact z
  have r1' := r1.gr g2
  refine hs _ S H S2 H2 A B v w x y Q (g1.trans g2) r1' r2 (List.nodup_append.mpr ⟨n1, n2, fun u hu t ht q => ?_⟩) (fun u hu => ?_) (ne x y) h3
  · subst q
    obtain ⟨⟨_, e⟩, _⟩ := r1.alive u hu
    rw [fr2 u ht] at e
    cases e
  · rcases List.mem_append.mp hu with hu | hu
    · exact fr1 u hu
    · exact g1.hh.free (fr2 u hu)
theorem de_op {op : Operator} (ho : OpR X (binaryOp op) r) (hs : OpS (ctOf X) r g) (ne : ∀ a b z, g a b ≠ .exc z) (ha : DE X E a f1) (hb : DE X E b f2) : DE X E (.BinOp a op b pos) (d2 g f1 f2) :=
  pe_imp (pe_op ho ha hb) fun _ _ _ h => two hs ne h
theorem de_cmp {op : CmpOp} (ho : OpR X (compareOp op) r) (hs : OpS (ctOf X) r g) (ne : ∀ a b z, g a b ≠ .exc z) (ha : DE X E a f1) (hb : DE X E b f2) (hm : behindInMarks op b = false) : DE X E (.Compare a [op] [b] pos) (d2 g f1 f2) :=
  pe_imp (pe_cmpR ho ha hb hm) fun _ _ _ h => two hs ne h
theorem de_ix (ho : IxR X r) (hs : OpS (ctOf X) r g) (ne : ∀ a b z, g a b ≠ .exc z) (ha : DE X E a f1) (hb : DE X E b f2) (hp : PlainIx b) : DE X E (.Subscript a b pos) (d2 g f1 f2) :=
  pe_imp (pe_ix ho ha hb hp) fun _ _ _ h => two hs ne h
end
theorem OpR.or {X : Cx} {f : Value → Value → Sem Value} {r r' : R2} (h : OpR X f r) (h' : OpR X f r') : OpR X f (fun x y H Q => r x y H Q ∨ r' x y H Q) := by
  intro pins s σ H x y v u Q I rx ry q
  rcases q with q | q
  · exact h pins s σ H x y v u Q I rx ry q
  · exact h' pins s σ H x y v u Q I rx ry q
end Dl
set_option Elab.async false
set_option linter.all false
set_option maxRecDepth 100000
/-! DL3: operators. -/
namespace Dl
open PySem PySem.Spec PyProof.Rows L2

/-! ### data as the library's data -/
mutual
def D.py : D → Option PyData
  | .non => some .none
  | .bl b => some (.bool b)
  | .int i => some (.int i)
  | .str s => some (.str s)
  | .tup ds => (D.pys ds).map .tuple
  | .lst ds => (D.pys ds).map .list
  | .scr ns => some (.list (ns.map .int))
  | .ty _ => none
  | .obj _ _ => none
  | .dic _ => none
def D.pys : List D → Option (List PyData)
  | [] => some []
  | d :: ds => match d.py, D.pys ds with
    | some p, some ps => some (p :: ps)
    | _, _ => none
end
section
variable {c : Ct} {H : Hp}
theorem dp_ints : ∀ ns : List Int, DpAll c.K H (ns.map V.int) (ns.map PyData.int)
  | [] => .nil
  | n :: ns => .cons (.int n) (dp_ints ns)
mutual
theorem Rep.dp : ∀ {v : V} {d : D} {p : PyData}, Rep c H v d → d.py = some p → Dp c.K H v p
  | _, _, _, .non, e => by cases e; exact .non
  | _, _, _, .bl b, e => by cases e; exact .bl b
  | _, _, _, .int i, e => by cases e; exact .int i
  | _, _, _, .str s, e => by cases e; exact .str s
  | _, _, _, .ty n, e => by cases e
  | _, _, _, .tup (ds := ds) h r, e => by
    rw [D.py] at e
    cases q : D.pys ds with
    | none => rw [q] at e; cases e
    | some ps =>
      rw [q] at e
      cases e
      exact .tup h.sq (Reps.dp r q)
  | _, _, _, .lst (ds := ds) h r, e => by
    rw [D.py] at e
    cases q : D.pys ds with
    | none => rw [q] at e; cases e
    | some ps =>
      rw [q] at e
      cases e
      exact .lst (SqL.of h) (Reps.dp r q)
  | _, _, _, .scr (ns := ns) h, e => by
    cases e
    exact .lst h (dp_ints ns)
  | _, _, _, .obj h r, e => by cases e
  | _, _, _, .dic h r, e => by cases e
theorem Reps.dp : ∀ {vs : List V} {ds : List D} {ps : List PyData}, Reps c H vs ds → D.pys ds = some ps → DpAll c.K H vs ps
  | _, _, _, .nil, e => by cases e; exact .nil
  | _, _, _, .cons (d := d) (ds := ds) h r, e => by
    rw [D.pys] at e
    cases q1 : d.py with
    | none => rw [q1] at e; cases e
    | some p =>
      cases q2 : D.pys ds with
      | none => rw [q1, q2] at e; cases e
      | some ps =>
        rw [q1, q2] at e
        cases e
        exact .cons (Rep.dp h q1) (Reps.dp r q2)
end
end

/-! ### results that are no objects -/
/-- the value of data that is no object -/
def D.at? : D → Option V
  | .non => some .non
  | .bl b => some (.bl b)
  | .int i => some (.int i)
  | .str s => some (.str s)
  | .ty n => some (.ty n)
  | _ => none
theorem D.at_rep {d : D} {v : V} (h : d.at? = some v) (c : Ct) (H : Hp) : Rep c H v d := by
  cases d <;> first | (cases h; constructor) | cases h
/-- g by the plain data of its operands, its result no object -/
def gF (g : D → D → Option D) (a b : EV) : Res EV := match g a.d b.d with
  | some z => .ok (.sh z)
  | none => .stuck
theorem gF_ne (g : D → D → Option D) (a b : EV) (z : Xc) : gF g a b ≠ .exc z := by
  unfold gF
  split <;> exact fun h => by cases h
theorem opS_flat {c : Ct} {r : R2} {g : D → D → Option D} (h : ∀ (H : Hp) (x y : V) (a b z : D) (Q : VK), Rep c H x a → Rep c H y b → g a b = some z → (∀ v, z.at? = some v → Q v H) → r x y H Q) : OpS c r (gF g) := by
  intro E S H S1 H1 A B x y a b Q g1 ra rb _ _ _ p
  unfold gF at p
  cases e : g a.d b.d with
  | none =>
    rw [e] at p
    exact p.elim
  | some z =>
    rw [e] at p
    exact h H1 x y a.d b.d z Q (ra.rep g1.sub) (rb.rep g1.sub) e fun v hv => p.sh g1 (D.at_rep hv c S1)

/-! ### ints -/
def iI (f : Int → Int → Option D) (a b : D) : Option D := match a, b with
  | .int i, .int j => f i j
  | _, _ => none
theorem opS_int {c : Ct} {r : R2} {f : Int → Int → Option D} (h : ∀ (H : Hp) (i j : Int) (z : D) (Q : VK), f i j = some z → (∀ v, z.at? = some v → Q v H) → r (.int i) (.int j) H Q) : OpS c r (gF (iI f)) := opS_flat fun H x y a b z Q ra rb e q => by
  cases ra with
  | int i =>
    cases rb with
    | int j => exact h H i j z Q e q
    | _ => cases e
  | _ => cases e
def gSub : EV → EV → Res EV := gF (iI fun i j => some (.int (i - j)))
theorem s_sub {c : Ct} : OpS c (rI0 fun i j => .int (i - j)) gSub := opS_int fun H i j z Q e q => by
  cases e
  exact ⟨i, j, rfl, rfl, q _ rfl⟩
def gMod : EV → EV → Res EV := gF (iI fun i j => if 0 < j then some (.int (i % j)) else none)
theorem s_mod {c : Ct} : OpS c (rI (fun _ j => 0 < j) fun i j => .int (i % j)) gMod := opS_int fun H i j z Q e q => by
  by_cases hj : 0 < j
  · simp only [if_pos hj] at e
    cases e
    exact ⟨i, j, rfl, rfl, hj, q _ rfl⟩
  · simp only [if_neg hj] at e
    cases e
def gFdv : EV → EV → Res EV := gF (iI fun i j => if 0 < j ∧ j < 1073741824 then some (.int (i / j)) else none)
theorem s_fdv {c : Ct} : OpS c (rI CDiv fun i j => .int (i / j)) gFdv := opS_int fun H i j z Q e q => by
  by_cases hj : 0 < j ∧ j < 1073741824
  · simp only [if_pos hj] at e
    cases e
    exact ⟨i, j, rfl, rfl, hj, q _ rfl⟩
  · simp only [if_neg hj] at e
    cases e
def gPow : EV → EV → Res EV := gF (iI fun i j => if 0 ≤ j ∧ j ≤ 1000000 ∧ i.natAbs < 18446744073709551616 then some (.int (i ^ j.toNat)) else none)
theorem s_pow {c : Ct} : OpS c (rI CPow fun i j => .int (i ^ j.toNat)) gPow := opS_int fun H i j z Q e q => by
  by_cases hj : 0 ≤ j ∧ j ≤ 1000000 ∧ i.natAbs < 18446744073709551616
  · simp only [if_pos hj] at e
    cases e
    exact ⟨i, j, rfl, rfl, hj, q _ rfl⟩
  · simp only [if_neg hj] at e
    cases e
def gLt : EV → EV → Res EV := gF (iI fun i j => some (.bl (decide (i < j))))
def gLe : EV → EV → Res EV := gF (iI fun i j => some (.bl (decide (i ≤ j))))
def gGt : EV → EV → Res EV := gF (iI fun i j => some (.bl (decide (j < i))))
def gGe : EV → EV → Res EV := gF (iI fun i j => some (.bl (decide (j ≤ i))))
theorem s_lt {c : Ct} : OpS c (rI0 fun i j => .bl (decide (i < j))) gLt := opS_int fun H i j z Q e q => by
  cases e
  exact ⟨i, j, rfl, rfl, q _ rfl⟩
theorem s_le {c : Ct} : OpS c (rI0 fun i j => .bl (decide (i ≤ j))) gLe := opS_int fun H i j z Q e q => by
  cases e
  exact ⟨i, j, rfl, rfl, q _ rfl⟩
theorem s_gt {c : Ct} : OpS c (rI0 fun i j => .bl (decide (j < i))) gGt := opS_int fun H i j z Q e q => by
  cases e
  exact ⟨i, j, rfl, rfl, q _ rfl⟩
theorem s_ge {c : Ct} : OpS c (rI0 fun i j => .bl (decide (j ≤ i))) gGe := opS_int fun H i j z Q e q => by
  cases e
  exact ⟨i, j, rfl, rfl, q _ rfl⟩
section
variable {X : Cx} {E : WS} {pos : Pos} {a b : Expr} {f1 f2 : Dl.Env → Res EV}
theorem de_sub (ha : DE X E a f1) (hb : DE X E b f2) : DE X E (.BinOp a .Sub b pos) (d2 gSub f1 f2) := de_op op_sub s_sub (fun _ _ => gF_ne _ _ _) ha hb
theorem de_mod (ha : DE X E a f1) (hb : DE X E b f2) : DE X E (.BinOp a .Mod b pos) (d2 gMod f1 f2) := de_op op_mod s_mod (fun _ _ => gF_ne _ _ _) ha hb
theorem de_fdv (ha : DE X E a f1) (hb : DE X E b f2) : DE X E (.BinOp a .FloorDiv b pos) (d2 gFdv f1 f2) := de_op op_fdiv s_fdv (fun _ _ => gF_ne _ _ _) ha hb
theorem de_pow (ha : DE X E a f1) (hb : DE X E b f2) : DE X E (.BinOp a .Pow b pos) (d2 gPow f1 f2) := de_op op_pow s_pow (fun _ _ => gF_ne _ _ _) ha hb
theorem de_lt (ha : DE X E a f1) (hb : DE X E b f2) : DE X E (.Compare a [.Lt] [b] pos) (d2 gLt f1 f2) := de_cmp op_lt s_lt (fun _ _ => gF_ne _ _ _) ha hb (nomark _)
theorem de_le (ha : DE X E a f1) (hb : DE X E b f2) : DE X E (.Compare a [.LtE] [b] pos) (d2 gLe f1 f2) := de_cmp op_le s_le (fun _ _ => gF_ne _ _ _) ha hb (nomark _)
theorem de_gt (ha : DE X E a f1) (hb : DE X E b f2) : DE X E (.Compare a [.Gt] [b] pos) (d2 gGt f1 f2) := de_cmp op_gt s_gt (fun _ _ => gF_ne _ _ _) ha hb (nomark _)
theorem de_ge (ha : DE X E a f1) (hb : DE X E b f2) : DE X E (.Compare a [.GtE] [b] pos) (d2 gGe f1 f2) := de_cmp op_ge s_ge (fun _ _ => gF_ne _ _ _) ha hb (nomark _)
end

/-! ### the items of a list as shared data -/
def T.leaf? : T → Option D
  | .leaf d => some d
  | .node _ => none
def leaves? : List T → Option (List D)
  | [] => some []
  | .leaf d :: ts => (leaves? ts).map (d :: ·)
  | .node _ :: _ => none
theorem leaves_map : ∀ ds : List D, leaves? (ds.map T.leaf) = some ds
  | [] => rfl
  | d :: ds => by rw [List.map_cons, leaves?, leaves_map ds]; rfl
/-- of a list -/
def EV.lvs : EV → Option (List D)
  | .sh (.lst ds) => some ds
  | .fr ts => some (T.toDs ts)
  | .bo ts => leaves? ts
  | _ => none
theorem toDs_leaves : ∀ ds : List D, T.toDs (ds.map T.leaf) = ds
  | [] => rfl
  | d :: ds => by rw [List.map_cons, T.toDs, toDs_leaves ds]; rfl
section
variable {c : Ct} {S H S1 H1 : Hp}
theorem leaves_reps : ∀ {A : List Addr} {vs : List V} {ts : List T} {ds : List D}, Owns c S H A vs ts → leaves? ts = some ds → Reps c S vs ds
  | _, _, _, _, .nil, e => by cases e; exact .nil
  | _, _, _, _, .cons (t := .node _) h r, e => by cases e
  | _, _, _, _, .cons (t := .leaf d) (ts := ts) h r, e => by
    rw [leaves?] at e
    cases q : leaves? ts with
    | none => rw [q] at e; cases e
    | some es =>
      rw [q] at e
      cases e
      cases h with
      | leaf z => exact .cons z (leaves_reps r q)
/-- a list's items, shared over a grown S; x's own lists are given away -/
theorem EvRep.items {A : List Addr} {v : V} {x : EV} {ds : List D} (h : EvRep c S1 H1 A v x) (g : Gr S H S1 H1) (fr : ∀ u ∈ A, H u = none) (e : x.lvs = some ds) :
    ∃ a vs, v = .ref a ∧ H1 a = some (.lst vs) ∧ Reps c (grab S1 H1 A) vs ds := by
  cases h with
  | sh r =>
    cases r with
    | lst ha r =>
      cases e
      exact ⟨_, _, rfl, g.sub _ _ ha, r.mono (same_grab fun a z => by cases z)⟩
    | _ => cases e
  | fr r =>
    cases e
    cases r with
    | node ha n r =>
      rename_i a B vs
      have z : Reps c (grab S1 H1 (a :: B)) vs (T.toDs _) := Owns.grabbed (same_grab fun u hu => by
        rcases List.mem_cons.mp hu with q | q
        · rw [q]; exact n
        · exact (r.alive u q).2) (fun u hu => grab_in (List.mem_cons_of_mem _ hu)) r
      exact ⟨_, _, rfl, ha, z⟩
  | bo r =>
    cases r with
    | node ha n r => exact ⟨_, _, rfl, ha, (leaves_reps r e).mono (same_grab fun a z => by cases z)⟩
theorem EvRep.gone {A : List Addr} {v : V} {x : EV} (h : EvRep c S1 H1 A v x) (g : Gr S H S1 H1) (fr : ∀ u ∈ A, H u = none) : Gr S H (grab S1 H1 A) H1 := g.grab fr fun a ha => (h.alive a ha).2
theorem grab_app {A B : List Addr} : grab (grab S H A) H B = grab S H (A ++ B) := by
  funext b
  by_cases h1 : b ∈ B
  · rw [grab_in h1, grab_in (List.mem_append_right _ h1)]
  · rw [grab_out h1]
    by_cases h2 : b ∈ A
    · rw [grab_in h2, grab_in (List.mem_append_left _ h2)]
    · rw [grab_out h2, grab_out (fun z => (List.mem_append.mp z).elim h2 h1)]
theorem same_grab_l {A B : List Addr} (nB : ∀ a ∈ B, S a = none) : Same (grab S H A) (grab S H (A ++ B)) := fun b o e => by
  by_cases h2 : b ∈ A
  · rw [grab_in (List.mem_append_left _ h2)]
    rw [grab_in h2] at e
    exact e
  · rw [grab_out h2] at e
    by_cases h1 : b ∈ B
    · rw [nB b h1] at e
      cases e
    · rw [grab_out (fun z => (List.mem_append.mp z).elim h2 h1)]
      exact e
theorem same_grab_r {A B : List Addr} (nA : ∀ a ∈ A, S a = none) : Same (grab S H B) (grab S H (A ++ B)) := fun b o e => by
  by_cases h2 : b ∈ B
  · rw [grab_in (List.mem_append_right _ h2)]
    rw [grab_in h2] at e
    exact e
  · rw [grab_out h2] at e
    by_cases h1 : b ∈ A
    · rw [nA b h1] at e
      cases e
    · rw [grab_out (fun z => (List.mem_append.mp z).elim h1 h2)]
      exact e
end

/-! ### + -/
def gAdd (a b : EV) : Res EV := match a, b with
  | .sh (.int i), .sh (.int j) => .ok (.sh (.int (i + j)))
  | .sh (.str s), .sh (.str t) => if s.length + t.length ≤ 16777216 then .ok (.sh (.str (s ++ t))) else .stuck
  | .sh (.tup ds), .sh (.tup es) => if ds.length + es.length ≤ 16777216 then .ok (.sh (.tup (ds ++ es))) else .stuck
  | a, b => match a.lvs, b.lvs with
    | some ds, some es => if ds.length + es.length ≤ 16777216 then .ok (.fr ((ds ++ es).map T.leaf)) else .stuck
    | _, _ => .stuck
theorem gAdd_ne (a b : EV) (z : Xc) : gAdd a b ≠ .exc z := by
  unfold gAdd
  split
  · exact fun h => by cases h
  · split <;> exact fun h => by cases h
  · split <;> exact fun h => by cases h
  · split
    · split <;> exact fun h => by cases h
    · exact fun h => by cases h
def rAddS : R2 := fun x y H Q => ∃ i j, x = .str i ∧ y = .str j ∧ i.length + j.length ≤ sizeLine ∧ Q (.str (i ++ j)) H
def rAddAll (K : PySem.W.Frag) : R2 := fun x y H Q => (rI0 (fun i j => .int (i + j))) x y H Q ∨ rAddS x y H Q ∨ rCatA K x y H Q ∨ rCat x y H Q
theorem op_addAll {X : Cx} : OpR X (binaryOp .Add) (rAddAll X.K) := OpR.or op_add (OpR.or op_add_str (OpR.or op_catA op_cat))
theorem lst_or {a b : EV} {Q : VK} {c : Ct} {E : XS} {S H : Hp} (h : Post c E S H (match a.lvs, b.lvs with
    | some ds, some es => if ds.length + es.length ≤ 16777216 then .ok (.fr ((ds ++ es).map T.leaf)) else .stuck
    | _, _ => .stuck) Q) : ∃ ds es, a.lvs = some ds ∧ b.lvs = some es ∧ ds.length + es.length ≤ 16777216 ∧ Post c E S H (.ok (.fr ((ds ++ es).map T.leaf))) Q := by
  cases e1 : a.lvs with
  | none =>
    rw [e1] at h
    exact h.elim
  | some ds =>
    cases e2 : b.lvs with
    | none =>
      rw [e1, e2] at h
      exact h.elim
    | some es =>
      rw [e1, e2] at h
      by_cases hl : ds.length + es.length ≤ 16777216
      · simp only [if_pos hl] at h
        exact ⟨ds, es, rfl, rfl, hl, h⟩
      · simp only [if_neg hl] at h
        exact h.elim
theorem s_add {c : Ct} : OpS c (rAddAll c.K) gAdd := by
  intro E S H S1 H1 A B x y a b Q g ra rb nd fr _ p
  have hs : sizeLine = 16777216 := sizeLine_eq
  unfold gAdd at p
  split at p
  · cases ra with
    | sh ra => cases rb with
      | sh rb =>
        cases ra with
        | int i => cases rb with
          | int j => exact .inl ⟨_, _, rfl, rfl, p.sh g (.int _)⟩
  · split at p
    · rename_i hl
      cases ra with
      | sh ra => cases rb with
        | sh rb =>
          cases ra with
          | str i => cases rb with
            | str j => exact .inr (.inl ⟨_, _, rfl, rfl, by omega, p.sh g (.str _)⟩)
    · exact p.elim
  · split at p
    · rename_i hl
      cases ra with
      | sh ra => cases rb with
        | sh rb =>
          cases ra with
          | tup ha ra => cases rb with
            | tup hb rb =>
              have la := ra.length
              have lb := rb.length
              refine .inr (.inr (.inl ⟨_, _, _, _, rfl, rfl, (ha.mono g.sub).sq, (hb.mono g.sub).sq, by omega, fun e => ?_, fun e1 e2 => ?_, fun e1 e2 q hq => ?_⟩))
              · subst e
                cases ra
                exact p.sh g (.tup hb rb)
              · subst e2
                cases rb
                rw [List.append_nil] at p
                exact p.sh g (.tup ha ra)
              · exact p.tup g (ra.append rb) hq
    · exact p.elim
  · obtain ⟨ds, es, e1, e2, hl, p⟩ := lst_or p
    have frA : ∀ u ∈ A, H u = none := fun u hu => fr u (List.mem_append_left _ hu)
    have frB : ∀ u ∈ B, H u = none := fun u hu => fr u (List.mem_append_right _ hu)
    obtain ⟨a1, vs1, q1, h1, r1⟩ := ra.items g frA e1
    obtain ⟨a2, vs2, q2, h2, r2⟩ := rb.items g frB e2
    have nA : ∀ u ∈ A, S1 u = none := fun u hu => (ra.alive u hu).2
    have nB : ∀ u ∈ B, S1 u = none := fun u hu => (rb.alive u hu).2
    have g2 : Gr S H (grab S1 H1 (A ++ B)) H1 := g.grab fr fun u hu => (List.mem_append.mp hu).elim (nA u) (nB u)
    have r3 := (r1.mono (same_grab_l nB)).append (r2.mono (same_grab_r nA))
    have l1 := r1.length
    have l2 := r2.length
    refine .inr (.inr (.inr ⟨a1, a2, vs1, vs2, q1, q2, h1, h2, by omega, fun q hq => ?_⟩))
    exact p.lst (A := []) g2 (Owns.leaves r3) List.nodup_nil (fun u z => by cases z) hq
theorem de_add {X : Cx} {E : WS} {pos : Pos} {a b : Expr} {f1 f2 : Dl.Env → Res EV} (ha : DE X E a f1) (hb : DE X E b f2) : DE X E (.BinOp a .Add b pos) (d2 gAdd f1 f2) := de_op op_addAll s_add gAdd_ne ha hb

/-! ### * -/
def strMul (s : Str) (n : Nat) : Str := ⟨((List.replicate n s.cps.toList).flatten).toArray⟩
def gMul (a b : EV) : Res EV := match a, b with
  | .sh (.int i), .sh (.int j) => if (-18446744073709551616 < i ∧ i < 18446744073709551616) ∨ (-18446744073709551616 < j ∧ j < 18446744073709551616) then .ok (.sh (.int (i * j))) else .stuck
  | .sh (.str z), .sh (.int k) => if 1 ≤ k ∧ k < 1000 ∧ z.length ≤ 1000 then .ok (.sh (.str (strMul z k.toNat))) else .stuck
  | a, .sh (.int k) => match a.lvs with
    | some ds => if -9223372036854775808 ≤ k ∧ k < 9223372036854775808 ∧ ds.length * k.toNat ≤ 16777216 then .ok (.fr (((List.replicate k.toNat ds).flatten).map T.leaf)) else .stuck
    | none => .stuck
  | _, _ => .stuck
theorem gMul_ne (a b : EV) (z : Xc) : gMul a b ≠ .exc z := by
  unfold gMul
  split
  · split <;> exact fun h => by cases h
  · split <;> exact fun h => by cases h
  · split
    · split <;> exact fun h => by cases h
    · exact fun h => by cases h
  · exact fun h => by cases h
theorem foldl_toList : ∀ (l : List (Array Nat)) (a : Array Nat), (l.foldl (· ++ ·) a).toList = a.toList ++ (l.map Array.toList).flatten
  | [], a => by simp
  | b :: l, a => by
    rw [List.foldl_cons, foldl_toList l]
    simp
def rMulS : R2 := fun x y H Q => ∃ z k, x = .str z ∧ y = .int k ∧ 1 ≤ k ∧ k < 1000 ∧ z.length ≤ 1000 ∧ Q (.str (strMul z k.toNat)) H
theorem op_mulS {X : Cx} : OpR X (binaryOp .Mult) rMulS := by
  intro pins s σ H x y v u Q I rx ry h
  obtain ⟨z, k, rfl, rfl, h1, h2, h3, q⟩ := h
  obtain ⟨t, rfl⟩ := rx
  obtain ⟨t', rfl⟩ := ry
  have hz : sizeLine = 16777216 := sizeLine_eq
  have hm : z.length * k.toNat ≤ 1000 * 1000 := Nat.mul_le_mul h3 (by omega)
  have hv : (⟨(List.replicate k.toNat z.cps).foldl (· ++ ·) #[]⟩ : Str) = strMul z k.toNat := by
    unfold strMul
    congr 1
    apply Array.toList_inj.mp
    rw [foldl_toList]
    simp
  refine P.mul_str ?_ (fun _ _ => ?_) (fun _ _ => ?_) ?_
  · rw [decide_eq_false (by omega), decide_eq_false (by omega)]
    rfl
  · have : (1000 : Int) ≤ (2 ^ 63 - 1) / k := by
      rw [Int.le_ediv_iff_mul_le (by omega)]
      omega
    omega
  · unfold Builtin.Str.tooLong
    exact decide_eq_false (by omega)
  · rw [if_neg (by omega)]
    split
    · rename_i e
      have ev : strMul z k.toNat = z := by
        rw [← hv]
        rcases Bool.or_eq_true_iff.mp e with e | e
        · have : k = 1 := by simpa using e
          subst this
          simp
        · have e : z.cps.size = 0 := by simpa [Str.length] using e
          have : z.cps = #[] := Array.eq_empty_of_size_eq_zero e
          obtain ⟨zc⟩ := z
          simp only at this
          subst this
          congr 1
          apply Array.toList_inj.mp
          rw [foldl_toList]
          simp
      rw [ev] at q
      exact ⟨.str z, H, I, ⟨_, rfl⟩, q⟩
    · rw [hv]
      have hlen : (strMul z k.toNat).length = k.toNat * z.length := by simp [strMul, Str.length]
      exact ⟨by rw [hlen, Nat.mul_comm]; omega, .str _, H, I.tok _, ⟨_, rfl⟩, q⟩
def rMulAll : R2 := fun x y H Q => (rI CMul fun i j => .int (i * j)) x y H Q ∨ rRep x y H Q ∨ rMulS x y H Q
theorem op_mulAll {X : Cx} : OpR X (binaryOp .Mult) rMulAll := OpR.or op_mul (OpR.or op_rep op_mulS)
theorem reps_rep {c : Ct} {H : Hp} {vs : List V} {ds : List D} (r : Reps c H vs ds) : ∀ n : Nat, Reps c H (List.replicate n vs).flatten (List.replicate n ds).flatten
  | 0 => .nil
  | n + 1 => by
    rw [List.replicate_succ, List.replicate_succ, List.flatten_cons, List.flatten_cons]
    exact r.append (reps_rep r n)
theorem s_mul {c : Ct} : OpS c rMulAll gMul := by
  intro E S H S1 H1 A B x y a b Q g ra rb nd fr _ p
  have hs : sizeLine = 16777216 := sizeLine_eq
  unfold gMul at p
  split at p
  · split at p
    · rename_i hl
      cases ra with
      | sh ra => cases rb with
        | sh rb =>
          cases ra with
          | int i => cases rb with
            | int j => exact .inl ⟨_, _, rfl, rfl, hl, p.sh g (.int _)⟩
    · exact p.elim
  · split at p
    · rename_i hl
      cases ra with
      | sh ra => cases rb with
        | sh rb =>
          cases ra with
          | str z => cases rb with
            | int j => exact .inr (.inr ⟨_, _, rfl, rfl, hl.1, hl.2.1, hl.2.2, p.sh g (.str _)⟩)
    · exact p.elim
  · rename_i k _ _ _
    cases e1 : a.lvs with
    | none =>
      rw [e1] at p
      exact p.elim
    | some ds =>
      rw [e1] at p
      by_cases hl : -9223372036854775808 ≤ k ∧ k < 9223372036854775808 ∧ ds.length * k.toNat ≤ 16777216
      · simp only [if_pos hl] at p
        have frA : ∀ u ∈ A, H u = none := fun u hu => fr u (List.mem_append_left _ hu)
        obtain ⟨a1, vs1, q1, h1, r1⟩ := ra.items g frA e1
        have l1 := r1.length
        cases rb with
        | sh rb => cases rb with
          | int k =>
            refine .inr (.inl ⟨a1, k, vs1, q1, rfl, h1, by omega, by omega, by rw [l1]; omega, fun q hq => ?_⟩)
            exact p.lst (A := []) (ra.gone g frA) (Owns.leaves (reps_rep r1 _)) List.nodup_nil (fun u z => by cases z) hq
      · simp only [if_neg hl] at p
        exact p.elim
  · exact p.elim
theorem de_mul {X : Cx} {E : WS} {pos : Pos} {a b : Expr} {f1 f2 : Dl.Env → Res EV} (ha : DE X E a f1) (hb : DE X E b f2) : DE X E (.BinOp a .Mult b pos) (d2 gMul f1 f2) := de_op op_mulAll s_mul gMul_ne ha hb

/-! ### ==, in -/
def eqD (a b : D) : Option Bool := match a.py, b.py with
  | some p, some q => if SeqAt.shaped p && SeqAt.shaped q then some (PyData.eqv p q) else none
  | _, _ => none
def gEq : EV → EV → Res EV := gF fun a b => (eqD a b).map .bl
def gNe : EV → EV → Res EV := gF fun a b => (eqD a b).map fun k => .bl (!k)
theorem eqD_ok {c : Ct} {H : Hp} {x y : V} {a b : D} {k : Bool} (ra : Rep c H x a) (rb : Rep c H y b) (e : eqD a b = some k) : ∃ d e, Dp c.K H x d ∧ Dp c.K H y e ∧ SeqAt.shaped d = true ∧ SeqAt.shaped e = true ∧ PyData.eqv d e = k := by
  unfold eqD at e
  cases q1 : a.py with
  | none => rw [q1] at e; cases e
  | some p =>
    cases q2 : b.py with
    | none => rw [q1, q2] at e; cases e
    | some q =>
      rw [q1, q2] at e
      by_cases hs : (SeqAt.shaped p && SeqAt.shaped q) = true
      · simp only [if_pos hs] at e
        cases e
        obtain ⟨h1, h2⟩ := Bool.and_eq_true_iff.mp hs
        exact ⟨p, q, ra.dp q1, rb.dp q2, h1, h2, rfl⟩
      · simp only [if_neg hs] at e
        cases e
theorem s_eq {c : Ct} : OpS c (rEqD c.K) gEq := opS_flat fun H x y a b z Q ra rb e q => by
  cases h : eqD a b with
  | none => rw [h] at e; cases e
  | some k =>
    rw [h] at e
    cases e
    obtain ⟨d1, d2, h1, h2, h3, h4, h5⟩ := eqD_ok ra rb h
    exact ⟨d1, d2, h1, h2, h3, h4, by rw [h5]; exact q _ rfl⟩
theorem s_ne {c : Ct} : OpS c (rNeD c.K) gNe := opS_flat fun H x y a b z Q ra rb e q => by
  cases h : eqD a b with
  | none => rw [h] at e; cases e
  | some k =>
    rw [h] at e
    cases e
    obtain ⟨d1, d2, h1, h2, h3, h4, h5⟩ := eqD_ok ra rb h
    exact ⟨d1, d2, h1, h2, h3, h4, by rw [h5]; exact q _ rfl⟩
def inD (a b : D) : Option Bool := match a.py, b.py with
  | some p, some (.list qs) => if SeqAt.shaped p && SeqAt.shaped (.list qs) then some (qs.any fun z => PyData.eqv z p) else none
  | some p, some (.tuple qs) => if SeqAt.shaped p && SeqAt.shaped (.tuple qs) then some (qs.any fun z => PyData.eqv z p) else none
  | _, _ => match a, b with
    | .str x, .str z => match x.cps.toList with
      | [c] => some (decide (c ∈ z.cps.toList))
      | _ => none
    | _, _ => none
def gIn : EV → EV → Res EV := gF fun a b => (inD a b).map .bl
def gNotIn : EV → EV → Res EV := gF fun a b => (inD a b).map fun k => .bl (!k)
def rInT (K : PySem.W.Frag) : R2 := fun x y H Q => ∃ d ds, Dp K H x d ∧ Dp K H y (.tuple ds) ∧ SeqAt.shaped d = true ∧ SeqAt.shaped (.tuple ds) = true ∧ Q (.bl (ds.any fun z => PyData.eqv z d)) H
def rNotInT (K : PySem.W.Frag) : R2 := fun x y H Q => ∃ d ds, Dp K H x d ∧ Dp K H y (.tuple ds) ∧ SeqAt.shaped d = true ∧ SeqAt.shaped (.tuple ds) = true ∧ Q (.bl (!ds.any fun z => PyData.eqv z d)) H
theorem room_tup {A : Around} {d : PyData} {ds : List PyData} (sd : SeqAt.shaped d = true) (hu : A.units + 65 < cLine) : A.units + 1 + min (PyData.depthAll ds) d.depth < cLine := by
  have h := SeqAt.depth_of_shaped sd
  have := Nat.min_le_right (PyData.depthAll ds) d.depth
  omega
theorem op_inT {X : Cx} (hu : X.A.units + 65 < cLine) : OpR X (compareOp .In) (rInT X.K) := by
  intro pins s σ H x y v u Q I rx ry h
  obtain ⟨d, ds, hd, he, sd, se, q⟩ := h
  obtain ⟨as, r1⟩ := Dp.reads I d x v hd rx
  obtain ⟨bs, r2⟩ := Dp.reads I (.tuple ds) y u he ry
  exact SeqAt.in_tuple_reads r2 r1 (SeqAt.canLay_of_shaped se) (SeqAt.canLay_of_shaped sd) (room_tup sd hu) ⟨.bl _, H, I, rfl, q⟩
theorem op_notInT {X : Cx} (hu : X.A.units + 65 < cLine) : OpR X (compareOp .NotIn) (rNotInT X.K) := by
  intro pins s σ H x y v u Q I rx ry h
  obtain ⟨d, ds, hd, he, sd, se, q⟩ := h
  obtain ⟨as, r1⟩ := Dp.reads I d x v hd rx
  obtain ⟨bs, r2⟩ := Dp.reads I (.tuple ds) y u he ry
  exact SeqAt.notIn_tuple_reads r2 r1 (SeqAt.canLay_of_shaped se) (SeqAt.canLay_of_shaped sd) (room_tup sd hu) ⟨.bl _, H, I, rfl, q⟩
def rInSg : R2 := fun x y H Q => ∃ (c : Nat) (z : Str), x = .str ⟨#[c]⟩ ∧ y = .str z ∧ Q (.bl (decide (c ∈ z.cps.toList))) H
def rNotInSg : R2 := fun x y H Q => ∃ (c : Nat) (z : Str), x = .str ⟨#[c]⟩ ∧ y = .str z ∧ Q (.bl (!decide (c ∈ z.cps.toList))) H
def rInAll (K : PySem.W.Frag) : R2 := fun x y H Q => rInD K x y H Q ∨ rInT K x y H Q ∨ rInSg x y H Q
def rNotInAll (K : PySem.W.Frag) : R2 := fun x y H Q => rNotInD K x y H Q ∨ rNotInT K x y H Q ∨ rNotInSg x y H Q
theorem op_inAll {X : Cx} (hu : X.A.units + 65 < cLine) : OpR X (compareOp .In) (rInAll X.K) := OpR.or (op_inD hu) (OpR.or (op_inT hu) op_in_sign)
theorem op_notInAll {X : Cx} (hu : X.A.units + 65 < cLine) : OpR X (compareOp .NotIn) (rNotInAll X.K) := OpR.or (op_notInD hu) (OpR.or (op_notInT hu) op_notIn_sign)
theorem inD_ok {c : Ct} {H : Hp} {x y : V} {a b : D} {k : Bool} (ra : Rep c H x a) (rb : Rep c H y b) (e : inD a b = some k) :
    (∃ d ds, Dp c.K H x d ∧ Dp c.K H y (.list ds) ∧ SeqAt.shaped d = true ∧ SeqAt.shaped (.list ds) = true ∧ (ds.any fun z => PyData.eqv z d) = k) ∨
    (∃ d ds, Dp c.K H x d ∧ Dp c.K H y (.tuple ds) ∧ SeqAt.shaped d = true ∧ SeqAt.shaped (.tuple ds) = true ∧ (ds.any fun z => PyData.eqv z d) = k) ∨
    (∃ (c : Nat) (z : Str), x = .str ⟨#[c]⟩ ∧ y = .str z ∧ decide (c ∈ z.cps.toList) = k) := by
  unfold inD at e
  split at e
  · rename_i p qs q1 q2
    split at e
    · rename_i hs
      cases e
      obtain ⟨h1, h2⟩ := Bool.and_eq_true_iff.mp hs
      exact .inl ⟨p, qs, ra.dp q1, rb.dp q2, h1, h2, rfl⟩
    · cases e
  · rename_i p qs q1 q2
    split at e
    · rename_i hs
      cases e
      obtain ⟨h1, h2⟩ := Bool.and_eq_true_iff.mp hs
      exact .inr (.inl ⟨p, qs, ra.dp q1, rb.dp q2, h1, h2, rfl⟩)
    · cases e
  · split at e
    · rename_i x' z' _ _
      split at e
      · rename_i c' hc
        cases e
        cases ra
        cases rb
        have ex : x' = (⟨#[c']⟩ : Str) := by
          obtain ⟨⟨l⟩⟩ := x'
          simp only at hc
          rw [hc]
        exact .inr (.inr ⟨c', z', by rw [ex], rfl, rfl⟩)
      · cases e
    · cases e
theorem s_in {c : Ct} : OpS c (rInAll c.K) gIn := opS_flat fun H x y a b z Q ra rb e q => by
  cases h : inD a b with
  | none => rw [h] at e; cases e
  | some k =>
    rw [h] at e
    cases e
    rcases inD_ok ra rb h with ⟨d, ds, h1, h2, h3, h4, h5⟩ | ⟨d, ds, h1, h2, h3, h4, h5⟩ | ⟨d, ds, h1, h2, h3⟩
    · exact .inl ⟨d, ds, h1, h2, h3, h4, by rw [h5]; exact q _ rfl⟩
    · exact .inr (.inl ⟨d, ds, h1, h2, h3, h4, by rw [h5]; exact q _ rfl⟩)
    · exact .inr (.inr ⟨d, ds, h1, h2, by rw [h3]; exact q _ rfl⟩)
theorem s_notIn {c : Ct} : OpS c (rNotInAll c.K) gNotIn := opS_flat fun H x y a b z Q ra rb e q => by
  cases h : inD a b with
  | none => rw [h] at e; cases e
  | some k =>
    rw [h] at e
    cases e
    rcases inD_ok ra rb h with ⟨d, ds, h1, h2, h3, h4, h5⟩ | ⟨d, ds, h1, h2, h3, h4, h5⟩ | ⟨d, ds, h1, h2, h3⟩
    · exact .inl ⟨d, ds, h1, h2, h3, h4, by rw [h5]; exact q _ rfl⟩
    · exact .inr (.inl ⟨d, ds, h1, h2, h3, h4, by rw [h5]; exact q _ rfl⟩)
    · exact .inr (.inr ⟨d, ds, h1, h2, by rw [h3]; exact q _ rfl⟩)
section
variable {X : Cx} {E : WS} {pos : Pos} {a b : Expr} {f1 f2 : Dl.Env → Res EV}
theorem de_eq (hu : X.A.units + 65 < cLine) (ha : DE X E a f1) (hb : DE X E b f2) : DE X E (.Compare a [.Eq] [b] pos) (d2 gEq f1 f2) := de_cmp (op_eqD (by omega)) s_eq (fun _ _ => gF_ne _ _ _) ha hb (nomark _)
theorem de_ne (hu : X.A.units + 65 < cLine) (ha : DE X E a f1) (hb : DE X E b f2) : DE X E (.Compare a [.NotEq] [b] pos) (d2 gNe f1 f2) := de_cmp (op_neD (by omega)) s_ne (fun _ _ => gF_ne _ _ _) ha hb (nomark _)
theorem de_in (hu : X.A.units + 65 < cLine) (ha : DE X E a f1) (hb : DE X E b f2) (hm : behindInMarks .In b = false := by rfl) : DE X E (.Compare a [.In] [b] pos) (d2 gIn f1 f2) := de_cmp (op_inAll hu) s_in (fun _ _ => gF_ne _ _ _) ha hb hm
theorem de_notIn (hu : X.A.units + 65 < cLine) (ha : DE X E a f1) (hb : DE X E b f2) (hm : behindInMarks .NotIn b = false := by rfl) : DE X E (.Compare a [.NotIn] [b] pos) (d2 gNotIn f1 f2) := de_cmp (op_notInAll hu) s_notIn (fun _ _ => gF_ne _ _ _) ha hb hm
end

/-! ### is None -/
def D.isNon : D → Bool
  | .non => true
  | _ => false
theorem Rep.isNon {c : Ct} {H : Hp} {v : V} {d : D} (r : Rep c H v d) : decide (v = .non) = d.isNon := by
  cases r <;> rfl
def dIsN (f : Dl.Env → Res EV) : Dl.Env → Res EV := fun ρ => (f ρ).bind fun a => .ok (.sh (.bl a.d.isNon))
def dNotN (f : Dl.Env → Res EV) : Dl.Env → Res EV := fun ρ => (f ρ).bind fun a => .ok (.sh (.bl (!a.d.isNon)))
section
variable {X : Cx} {E : WS} {pos : Pos} {a b : Expr} {f1 f2 : Dl.Env → Res EV}
theorem de_isN {j p2} (ha : DE X E a f1) : DE X E (.Compare a [.Is] [.Constant .none j p2] pos) (dIsN f1) := by
  refine pe_imp (pe_cmp (pc_isN ha)) fun σ H Q h => ?_
  obtain ⟨S, ρ, O, V, h⟩ := h
  refine ⟨S, ρ, O, V, Post.fst h fun x e1 h1 S1 H1 A v g1 r1 n1 fr1 => ?_⟩
  rw [(r1.rep g1.sub).isNon]
  exact h1.sh g1 (.bl _)
theorem de_notN {j p2} (ha : DE X E a f1) : DE X E (.Compare a [.IsNot] [.Constant .none j p2] pos) (dNotN f1) := by
  refine pe_imp (pe_cmp (pc_notN ha)) fun σ H Q h => ?_
  obtain ⟨S, ρ, O, V, h⟩ := h
  refine ⟨S, ρ, O, V, Post.fst h fun x e1 h1 S1 H1 A v g1 r1 n1 fr1 => ?_⟩
  rw [(r1.rep g1.sub).isNon]
  exact h1.sh g1 (.bl _)

/-! ### not, and, or, if as values (truths) -/
def dNot (f : Dl.Env → Res EV) : Dl.Env → Res EV := fun ρ => (f ρ).bind fun a => match a with
  | .sh (.bl k) => .ok (.sh (.bl (!k)))
  | _ => .stuck
def dAnd (f1 f2 : Dl.Env → Res EV) : Dl.Env → Res EV := fun ρ => (f1 ρ).bind fun a => match a with
  | .sh (.bl true) => f2 ρ
  | .sh (.bl false) => .ok (.sh (.bl false))
  | _ => .stuck
def dOr (f1 f2 : Dl.Env → Res EV) : Dl.Env → Res EV := fun ρ => (f1 ρ).bind fun a => match a with
  | .sh (.bl true) => .ok (.sh (.bl true))
  | .sh (.bl false) => f2 ρ
  | _ => .stuck
theorem de_not (ha : DE X E a f1) : DE X E (.UnaryOp .Not a pos) (dNot f1) := by
  refine pe_imp (pe_not ha) fun σ H Q h => ?_
  obtain ⟨S, ρ, O, V, h⟩ := h
  refine ⟨S, ρ, O, V, Post.fst h fun x e1 h1 S1 H1 A v g1 r1 n1 fr1 => ?_⟩
  split at h1
  · cases r1 with
    | sh r => cases r with
      | bl k => exact ⟨_, rfl, h1.sh g1 (.bl _)⟩
  · exact h1.elim
theorem de_one {op} (ha : DE X E a f1) : DE X E (.BoolOp op [a] pos) f1 := pe_one ha
theorem de_and {rest : List Expr} (ha : DE X E a f1) (hb : DE X E (.BoolOp .And (b :: rest) pos) f2) : DE X E (.BoolOp .And (a :: b :: rest) pos) (dAnd f1 f2) := by
  refine pe_imp (pe_and ha hb) fun σ H Q h => ?_
  obtain ⟨S, ρ, O, V, h⟩ := h
  refine ⟨S, ρ, O, V, Post.fst h fun x e1 h1 S1 H1 A v g1 r1 n1 fr1 => ?_⟩
  split at h1
  · cases r1 with
    | sh r => cases r with
      | bl k => exact ⟨true, rfl, iteT ⟨S1, ρ, O, V.gr g1, h1.later g1⟩⟩
  · cases r1 with
    | sh r => cases r with
      | bl k => exact ⟨false, rfl, iteF (h1.sh g1 (.bl _))⟩
  · exact h1.elim
theorem de_or {rest : List Expr} (ha : DE X E a f1) (hb : DE X E (.BoolOp .Or (b :: rest) pos) f2) : DE X E (.BoolOp .Or (a :: b :: rest) pos) (dOr f1 f2) := by
  refine pe_imp (pe_or ha hb) fun σ H Q h => ?_
  obtain ⟨S, ρ, O, V, h⟩ := h
  refine ⟨S, ρ, O, V, Post.fst h fun x e1 h1 S1 H1 A v g1 r1 n1 fr1 => ?_⟩
  split at h1
  · cases r1 with
    | sh r => cases r with
      | bl k => exact ⟨true, rfl, iteT (h1.sh g1 (.bl _))⟩
  · cases r1 with
    | sh r => cases r with
      | bl k => exact ⟨false, rfl, iteF ⟨S1, ρ, O, V.gr g1, h1.later g1⟩⟩
  · exact h1.elim

/-! ### tests -/
def tBool : EV → Res Bool
  | .sh (.bl k) => .ok k
  | _ => .stuck
def D.truth : D → Option Bool
  | .non => some false
  | .bl b => some b
  | .int i => some (i != 0)
  | .str s => if s.length ≤ 16777216 then some (decide (s.length ≠ 0)) else none
  | .tup ds => some (!ds.isEmpty)
  | .lst ds => some (!ds.isEmpty)
  | .scr ns => some (!ns.isEmpty)
  | _ => none
def tTru (x : EV) : Res Bool := match x.d.truth with
  | some k => .ok k
  | none => .stuck
def dT (t : EV → Res Bool) (f : Dl.Env → Res EV) : Dl.Env → Res Bool := fun ρ => (f ρ).bind t
theorem Post.fstT {c : Ct} {E : XS} {S H : Hp} {r : Res EV} {k : EV → Res Bool} {Q : Bool → Hp → Prop} {Q1 : VK} (h : PostT c E S H (r.bind k) Q)
    (go : ∀ x, r = .ok x → PostT c E S H (k x) Q → ∀ S1 H1 A v, Gr S H S1 H1 → EvRep c S1 H1 A v x → A.Nodup → (∀ a ∈ A, H a = none) → Q1 v H1) : Post c E S H r Q1 := by
  cases r with
  | ok x => exact fun S1 H1 A v g re nd fr => go x rfl h S1 H1 A v g re nd fr
  | exc x => exact h
  | stuck => exact h
theorem dt_cmp {op : CmpOp} {r : R2} {g : EV → EV → Res EV} (ho : OpR X (compareOp op) r) (hs : OpS (ctOf X) r g) (ne : ∀ a b z, g a b ≠ .exc z) (ha : DE X E a f1) (hb : DE X E b f2) (hm : behindInMarks op b = false) :
    DT X E (.Compare a [op] [b] pos) (dT tBool (d2 g f1 f2)) := by
  refine pt_imp (pt_cmpR ho ha hb hm) fun σ H Q h => ?_
  obtain ⟨S, ρ, O, V, h⟩ := h
  show tOp r (rE (ctOf X) E f1) (rE (ctOf X) E f2) σ H _
  refine two hs ne ⟨S, ρ, O, V, Post.fstT h fun x e1 h1 S1 H1 A v g1 r1 n1 fr1 => ?_⟩
  unfold tBool at h1
  split at h1
  · cases r1 with
    | sh r => cases r with
      | bl k => exact ⟨_, rfl, h1 S1 H1 g1⟩
  · exact h1.elim
theorem dt_lt (ha : DE X E a f1) (hb : DE X E b f2) : DT X E (.Compare a [.Lt] [b] pos) (dT tBool (d2 gLt f1 f2)) := dt_cmp op_lt s_lt (fun _ _ => gF_ne _ _ _) ha hb (nomark _)
theorem dt_le (ha : DE X E a f1) (hb : DE X E b f2) : DT X E (.Compare a [.LtE] [b] pos) (dT tBool (d2 gLe f1 f2)) := dt_cmp op_le s_le (fun _ _ => gF_ne _ _ _) ha hb (nomark _)
theorem dt_gt (ha : DE X E a f1) (hb : DE X E b f2) : DT X E (.Compare a [.Gt] [b] pos) (dT tBool (d2 gGt f1 f2)) := dt_cmp op_gt s_gt (fun _ _ => gF_ne _ _ _) ha hb (nomark _)
theorem dt_ge (ha : DE X E a f1) (hb : DE X E b f2) : DT X E (.Compare a [.GtE] [b] pos) (dT tBool (d2 gGe f1 f2)) := dt_cmp op_ge s_ge (fun _ _ => gF_ne _ _ _) ha hb (nomark _)
theorem dt_eq (hu : X.A.units + 65 < cLine) (ha : DE X E a f1) (hb : DE X E b f2) : DT X E (.Compare a [.Eq] [b] pos) (dT tBool (d2 gEq f1 f2)) := dt_cmp (op_eqD (by omega)) s_eq (fun _ _ => gF_ne _ _ _) ha hb (nomark _)
theorem dt_ne (hu : X.A.units + 65 < cLine) (ha : DE X E a f1) (hb : DE X E b f2) : DT X E (.Compare a [.NotEq] [b] pos) (dT tBool (d2 gNe f1 f2)) := dt_cmp (op_neD (by omega)) s_ne (fun _ _ => gF_ne _ _ _) ha hb (nomark _)
theorem dt_in (hu : X.A.units + 65 < cLine) (ha : DE X E a f1) (hb : DE X E b f2) (hm : behindInMarks .In b = false := by rfl) : DT X E (.Compare a [.In] [b] pos) (dT tBool (d2 gIn f1 f2)) := dt_cmp (op_inAll hu) s_in (fun _ _ => gF_ne _ _ _) ha hb hm
theorem dt_notIn (hu : X.A.units + 65 < cLine) (ha : DE X E a f1) (hb : DE X E b f2) (hm : behindInMarks .NotIn b = false := by rfl) : DT X E (.Compare a [.NotIn] [b] pos) (dT tBool (d2 gNotIn f1 f2)) := dt_cmp (op_notInAll hu) s_notIn (fun _ _ => gF_ne _ _ _) ha hb hm
theorem dt_isN {j p2} (ha : DE X E a f1) : DT X E (.Compare a [.Is] [.Constant .none j p2] pos) (dT tBool (dIsN f1)) := by
  refine pt_imp (pt_cmp (pc_isN ha)) fun σ H Q h => ?_
  obtain ⟨S, ρ, O, V, h⟩ := h
  refine ⟨S, ρ, O, V, ?_⟩
  unfold dT dIsN at h
  cases e : f1 ρ with
  | ok x =>
    rw [e] at h
    intro S1 H1 A v g1 r1 n1 fr1
    rw [(r1.rep g1.sub).isNon]
    exact ⟨_, rfl, h S1 H1 g1⟩
  | exc x =>
    rw [e] at h
    exact h
  | stuck =>
    rw [e] at h
    exact h
theorem dt_notN {j p2} (ha : DE X E a f1) : DT X E (.Compare a [.IsNot] [.Constant .none j p2] pos) (dT tBool (dNotN f1)) := by
  refine pt_imp (pt_cmp (pc_notN ha)) fun σ H Q h => ?_
  obtain ⟨S, ρ, O, V, h⟩ := h
  refine ⟨S, ρ, O, V, ?_⟩
  unfold dT dNotN at h
  cases e : f1 ρ with
  | ok x =>
    rw [e] at h
    intro S1 H1 A v g1 r1 n1 fr1
    rw [(r1.rep g1.sub).isNon]
    exact ⟨_, rfl, h S1 H1 g1⟩
  | exc x =>
    rw [e] at h
    exact h
  | stuck =>
    rw [e] at h
    exact h
theorem str_ne {s : Str} : decide (s.length ≠ 0) = ((s.length : Int) != 0) := by
  by_cases h : s.length = 0
  · rw [decide_eq_false (by simpa using h), h]
    rfl
  · rw [decide_eq_true h]
    exact (bne_iff_ne.mpr (by omega)).symm
theorem tru_of {c : Ct} {H : Hp} {v : V} {d : D} {k : Bool} (r : Rep c H v d) (e : d.truth = some k) : TruV c.K v H k := by
  have hs : sizeLine = 16777216 := sizeLine_eq
  cases r with
  | non => cases e; rfl
  | bl b => cases e; rfl
  | int i => cases e; rfl
  | str s =>
    simp only [D.truth] at e
    split at e
    · rename_i hl
      cases e
      exact ⟨by omega, str_ne⟩
    · cases e
  | ty n => cases e
  | tup h r =>
    cases e
    refine .inr (.inl ⟨_, h.sq, ?_⟩)
    cases r <;> rfl
  | lst h r =>
    cases e
    refine .inl ⟨_, SqL.of h, ?_⟩
    cases r <;> rfl
  | @scr _ ns h =>
    cases e
    refine .inl ⟨_, h, ?_⟩
    cases ns <;> rfl
  | obj h r => cases e
  | dic h r => cases e
/-- any other expression as a test -/
theorem dt_tru (ha : DE X E a f1) (he : ∀ whole, isTrue a X.env whole = (do let v ← whole; standAt a.pos; holding [v] (truthy v)) := by intro _; rfl) : DT X E a (dT tTru f1) := by
  refine pt_imp (pt_truth ha he) fun σ H Q h => ?_
  obtain ⟨S, ρ, O, V, h⟩ := h
  refine ⟨S, ρ, O, V, Post.fstT h fun x e1 h1 S1 H1 A v g1 r1 n1 fr1 => ?_⟩
  unfold tTru at h1
  cases e : x.d.truth with
  | none =>
    rw [e] at h1
    exact h1.elim
  | some k =>
    rw [e] at h1
    exact ⟨k, tru_of (r1.rep g1.sub) e, h1 S1 H1 g1⟩
def dNotT (f : Dl.Env → Res Bool) : Dl.Env → Res Bool := fun ρ => (f ρ).bind fun k => .ok (!k)
def dAndT (f g : Dl.Env → Res Bool) : Dl.Env → Res Bool := fun ρ => (f ρ).bind fun k => if k = true then g ρ else .ok false
def dOrT (f g : Dl.Env → Res Bool) : Dl.Env → Res Bool := fun ρ => (f ρ).bind fun k => if k = true then .ok true else g ρ
def DW (X : Cx) (E : WS) (e : Expr) (f : Dl.Env → Res Bool) : Prop := PW X e (rT (ctOf X) E f)
theorem PostT.fst {c : Ct} {E : XS} {S H : Hp} {r : Res Bool} {k : Bool → Res Bool} {Q Q1 : Bool → Hp → Prop} (h : PostT c E S H (r.bind k) Q)
    (go : ∀ x, r = .ok x → PostT c E S H (k x) Q → ∀ S1 H1, Gr S H S1 H1 → Q1 x H1) : PostT c E S H r Q1 := by
  cases r with
  | ok x => exact fun S1 H1 g => go x rfl h S1 H1 g
  | exc x => exact h
  | stuck => exact h
variable {t1 t2 : Dl.Env → Res Bool} {rest : List Expr}
theorem dt_not (ha : DT X E a t1) : DT X E (.UnaryOp .Not a pos) (dNotT t1) := by
  refine pt_imp (pt_not ha) fun σ H Q h => ?_
  obtain ⟨S, ρ, O, V, h⟩ := h
  exact ⟨S, ρ, O, V, PostT.fst h fun x e1 h1 S1 H1 g1 => h1 S1 H1 g1⟩
theorem dw_and1 (ha : DT X E a t1) : DW X E (.BoolOp .And [a] pos) t1 := pw_and1 ha
theorem dw_or1 (ha : DT X E a t1) : DW X E (.BoolOp .Or [a] pos) t1 := pw_or1 ha
theorem dw_and (ha : DT X E a t1) (hb : DW X E (.BoolOp .And (b :: rest) pos) t2) : DW X E (.BoolOp .And (a :: b :: rest) pos) (dAndT t1 t2) := by
  refine pw_imp (pw_and ha hb) fun σ H Q h => ?_
  obtain ⟨S, ρ, O, V, h⟩ := h
  refine ⟨S, ρ, O, V, PostT.fst h fun x e1 h1 S1 H1 g1 => ?_⟩
  cases x with
  | true => exact iteT ⟨S1, ρ, O, V.gr g1, PostT.later h1 g1⟩
  | false => exact iteF (h1 S1 H1 g1)
theorem dw_or (ha : DT X E a t1) (hb : DW X E (.BoolOp .Or (b :: rest) pos) t2) : DW X E (.BoolOp .Or (a :: b :: rest) pos) (dOrT t1 t2) := by
  refine pw_imp (pw_or ha hb) fun σ H Q h => ?_
  obtain ⟨S, ρ, O, V, h⟩ := h
  refine ⟨S, ρ, O, V, PostT.fst h fun x e1 h1 S1 H1 g1 => ?_⟩
  cases x with
  | true => exact iteT (h1 S1 H1 g1)
  | false => exact iteF ⟨S1, ρ, O, V.gr g1, PostT.later h1 g1⟩
theorem dw_t {e : Expr} (h : DW X E e t1) : DT X E e t1 := PW.pt h
/-- a if t else b -/
def dIfE (t : Dl.Env → Res Bool) (f1 f2 : Dl.Env → Res EV) : Dl.Env → Res EV := fun ρ => (t ρ).bind fun k => if k = true then f1 ρ else f2 ρ
theorem de_ifExp {e : Expr} (ht : DT X E e t1) (ha : DE X E a f1) (hb : DE X E b f2) : DE X E (.IfExp e a b pos) (dIfE t1 f1 f2) := by
  refine pe_imp (pe_ifExp ht ha hb) fun σ H Q h => ?_
  obtain ⟨S, ρ, O, V, h⟩ := h
  refine ⟨S, ρ, O, V, ?_⟩
  unfold dIfE at h
  cases e : t1 ρ with
  | ok k =>
    rw [e] at h
    intro S1 H1 g1
    cases k with
    | true => exact iteT ⟨S1, ρ, O, V.gr g1, Post.later (r := f1 ρ) h g1⟩
    | false => exact iteF ⟨S1, ρ, O, V.gr g1, Post.later (r := f2 ρ) h g1⟩
  | exc x =>
    rw [e] at h
    exact h
  | stuck =>
    rw [e] at h
    exact h
end
end Dl
set_option Elab.async false
set_option linter.all false
set_option maxRecDepth 100000
/-! DL4: subscripts, slices, displays, calls. -/
namespace Dl
open PySem PySem.Spec PyProof.Rows L2

/-! ### x[i] -/
def tAt (ts : List T) (i : Int) : Res EV := match atI ts i with
  | some (.leaf d) => .ok (.sh d)
  | some (.node us) => .ok (.bo us)
  | none => .stuck
def gIx (a b : EV) : Res EV := match b with
  | .sh (.int i) => match a with
    | .sh (.str z) => if z.length ≤ 16777216 then (match atI z.cps.toList i with
      | some c => .ok (.sh (.str ⟨#[c]⟩))
      | none => .stuck) else .stuck
    | .sh (.tup ds) => (match atI ds i with
      | some d => .ok (.sh d)
      | none => .stuck)
    | .sh (.lst ds) => (match atI ds i with
      | some d => .ok (.sh d)
      | none => .stuck)
    | .sh (.scr ns) => (match atI ns i with
      | some n => .ok (.sh (.int n))
      | none => .stuck)
    | .fr ts => tAt ts i
    | .bo ts => tAt ts i
    | _ => .stuck
  | _ => .stuck
theorem tAt_ne (ts : List T) (i : Int) (z : Xc) : tAt ts i ≠ .exc z := by
  unfold tAt
  split <;> exact fun h => by cases h
theorem gIx_ne (a b : EV) (z : Xc) : gIx a b ≠ .exc z := by
  unfold gIx
  split
  · split
    · split
      · split <;> exact fun h => by cases h
      · exact fun h => by cases h
    · split <;> exact fun h => by cases h
    · split <;> exact fun h => by cases h
    · split <;> exact fun h => by cases h
    · exact tAt_ne _ _ _
    · exact tAt_ne _ _ _
    · exact fun h => by cases h
  · exact fun h => by cases h
theorem atI_len {α β : Type} {xs : List α} {ys : List β} {i : Int} {y : β} (hl : xs.length = ys.length) (h : atI ys i = some y) : ∃ j : Nat, ys[j]? = some y ∧ ∀ x, xs[j]? = some x → atI xs i = some x := by
  unfold atI at h ⊢
  cases e : ixN ys.length i with
  | none => rw [e] at h; cases h
  | some j =>
    rw [e] at h
    exact ⟨j, h, fun x hx => by rw [hl, e]; exact hx⟩
theorem Reps.atI {c : Ct} {H : Hp} {vs : List V} {ds : List D} {i : Int} {d : D} (r : Reps c H vs ds) (h : L2.atI ds i = some d) : ∃ v, L2.atI vs i = some v ∧ Rep c H v d := by
  obtain ⟨j, h1, h2⟩ := atI_len r.length h
  obtain ⟨v, hv, rv⟩ := r.get h1
  exact ⟨v, h2 v hv, rv⟩
theorem Owns.atI {c : Ct} {S H : Hp} {A : List Addr} {vs : List V} {ts : List T} {i : Int} {t : T} (r : Owns c S H A vs ts) (h : L2.atI ts i = some t) : ∃ v B, L2.atI vs i = some v ∧ Own c S H B v t := by
  obtain ⟨j, h1, h2⟩ := atI_len r.length h
  obtain ⟨v, B, hv, rv, _⟩ := r.get h1
  exact ⟨v, B, h2 v hv, rv⟩
theorem atI_map {α β : Type} (f : α → β) {xs : List α} {i : Int} {x : α} (h : atI xs i = some x) : atI (xs.map f) i = some (f x) := by
  obtain ⟨j, h1, h2⟩ := atI_len (xs := xs.map f) (by simp) h
  exact h2 _ (by simp [h1])
theorem own_at {c : Ct} {E : XS} {S H S1 H1 : Hp} {A : List Addr} {x : V} {ts : List T} {i : Int} {Q : VK} (h : Post c E S H (tAt ts i) Q) (g : Gr S H S1 H1) (r : Own c S1 H1 A x (.node ts)) :
    ∃ p xs v, x = .ref p ∧ SqL c.K H1 p xs ∧ atI xs i = some v ∧ Q v H1 := by
  cases r with
  | node ha n r =>
    unfold tAt at h
    cases e : atI ts i with
    | none =>
      rw [e] at h
      exact h.elim
    | some t =>
      rw [e] at h
      obtain ⟨v, B, hv, rv⟩ := r.atI e
      refine ⟨_, _, v, rfl, SqL.of ha, hv, ?_⟩
      cases t with
      | leaf d => cases rv with
        | leaf q => exact h.sh g q
      | node us => exact h S1 H1 [] v g (.bo rv) List.nodup_nil fun _ z => by cases z
theorem s_ix {c : Ct} : OpS c (rIx c.K) gIx := by
  intro E S H S1 H1 A B x y a b Q g ra rb nd fr hne p
  clear hne
  have hs : sizeLine = 16777216 := sizeLine_eq
  unfold gIx at p
  split at p
  · rename_i i
    cases rb with
    | sh rb => cases rb with
      | int i =>
        split at p
        · rename_i z
          cases ra with
          | sh ra => cases ra with
            | str z =>
              split at p
              · rename_i hl
                split at p
                · rename_i c0 hc
                  exact .inr (.inr ⟨z, i, c0, rfl, rfl, by omega, hc, p.sh g (.str _)⟩)
                · exact p.elim
              · exact p.elim
        · cases ra with
          | sh ra => cases ra with
            | tup ha r =>
              split at p
              · rename_i d hd
                obtain ⟨v, hv, rv⟩ := r.atI hd
                exact .inr (.inl ⟨_, _, i, v, rfl, rfl, (ha.mono g.sub).sq, hv, p.sh g rv⟩)
              · exact p.elim
        · cases ra with
          | sh ra => cases ra with
            | lst ha r =>
              split at p
              · rename_i d hd
                obtain ⟨v, hv, rv⟩ := r.atI hd
                exact .inl ⟨_, _, i, v, rfl, rfl, SqL.of (g.sub _ _ ha), hv, p.sh g rv⟩
              · exact p.elim
        · cases ra with
          | sh ra => cases ra with
            | scr ha =>
              split at p
              · rename_i n hn
                exact .inl ⟨_, _, i, _, rfl, rfl, g.sub.seq ha, atI_map V.int hn, p.sh g (.int n)⟩
              · exact p.elim
        · cases ra with
          | fr r =>
            obtain ⟨q, xs, v, e1, e2, e3, e4⟩ := own_at p g r
            exact .inl ⟨q, xs, i, v, e1, rfl, e2, e3, e4⟩
        · cases ra with
          | bo r =>
            obtain ⟨q, xs, v, e1, e2, e3, e4⟩ := own_at p g r
            exact .inl ⟨q, xs, i, v, e1, rfl, e2, e3, e4⟩
        · exact p.elim
  · exact p.elim
theorem de_sub_ix {X : Cx} {E : WS} {pos : Pos} {a b : Expr} {f1 f2 : Dl.Env → Res EV} (ha : DE X E a f1) (hb : DE X E b f2) (hp : PlainIx b := by intro _ _; rfl) : DE X E (.Subscript a b pos) (d2 gIx f1 f2) := de_ix ix_seq s_ix gIx_ne ha hb hp

/-! ### x[i:j] -/
def cutL {α : Type} (xs : List α) (lo hi : Option Int) : List α := (xs.drop (HT.sIx xs.length 0 lo)).take (HT.sIx xs.length xs.length hi - HT.sIx xs.length 0 lo)
def gSl (a : EV) (lo hi : Option Int) : Res EV := match a with
  | .sh (.str z) => if z.length ≤ 16777216 then .ok (.sh (.str (cutS z lo hi))) else .stuck
  | .sh (.tup ds) => .ok (.sh (.tup (cutL ds lo hi)))
  | .sh (.scr ns) => .ok (.fr ((cutL ns lo hi).map fun n => .leaf (.int n)))
  | a => match a.lvs with
    | some ds => .ok (.fr ((cutL ds lo hi).map T.leaf))
    | none => .stuck
def rSlAll (K : PySem.W.Frag) : V → Option Int → Option Int → Hp → VK → Prop := fun x lo hi H Q => rSlL K x lo hi H Q ∨ rSlA K x lo hi H Q ∨ rSlS x lo hi H Q
theorem sl_all {X : Cx} : SlR X (rSlAll X.K) := SlR.or sl_list (SlR.or sl_tupA sl_str)
def dPart (f : Dl.Env → Res EV) : Dl.Env → Res EV := f
def dSl (f : Dl.Env → Res EV) (lo hi : Option (Dl.Env → Res EV)) : Dl.Env → Res EV := fun ρ => (f ρ).bind fun a => match lo, hi with
  | none, none => gSl a none none
  | some g, none => (g ρ).bind fun l => match l with
    | .sh (.int i) => gSl a (some i) none
    | _ => .stuck
  | none, some g => (g ρ).bind fun l => match l with
    | .sh (.int i) => gSl a none (some i)
    | _ => .stuck
  | some g, some h => (g ρ).bind fun l => match l with
    | .sh (.int i) => (h ρ).bind fun u => match u with
      | .sh (.int j) => gSl a (some i) (some j)
      | _ => .stuck
    | _ => .stuck
theorem reps_cut {c : Ct} {H : Hp} {vs : List V} {ds : List D} (r : Reps c H vs ds) (lo hi : Option Int) : Reps c H (cutV vs lo hi) (cutL ds lo hi) := by
  unfold cutV cutL
  rw [r.length]
  exact (r.drop _).take _
theorem cut_whole {α : Type} {xs : List α} {lo hi : Option Int} (h : HT.sIx xs.length 0 lo = 0 ∧ HT.sIx xs.length xs.length hi = xs.length) : cutL xs lo hi = xs := by
  unfold cutL
  rw [h.1, h.2]
  simp
theorem cut_map {α β : Type} (f : α → β) (xs : List α) (lo hi : Option Int) : cutL (xs.map f) lo hi = (cutL xs lo hi).map f := by
  unfold cutL
  simp
theorem reps_ints {c : Ct} {H : Hp} : ∀ ns : List Int, Reps c H (ns.map V.int) (ns.map D.int)
  | [] => .nil
  | n :: ns => .cons (.int n) (reps_ints ns)
theorem s_sl {c : Ct} {E : XS} {S H S1 H1 : Hp} {A : List Addr} {x : V} {a : EV} {lo hi : Option Int} {Q : VK} (p : Post c E S H (gSl a lo hi) Q) (g : Gr S H S1 H1) (ra : EvRep c S1 H1 A x a) (fr : ∀ u ∈ A, H u = none) : rSlAll c.K x lo hi H1 Q := by
  have hs : sizeLine = 16777216 := sizeLine_eq
  unfold gSl at p
  split at p
  · rename_i z
    cases ra with
    | sh ra => cases ra with
      | str z =>
        split at p
        · rename_i hl
          exact .inr (.inr ⟨z, rfl, by omega, p.sh g (.str _)⟩)
        · exact p.elim
  · cases ra with
    | sh ra => cases ra with
      | tup ha r =>
        refine .inr (.inl ⟨_, _, rfl, (ha.mono g.sub).sq, fun w => ?_, fun _ q hq => ?_⟩)
        · rw [r.length] at w
          rw [cut_whole w] at p
          exact p.sh g (.tup ha r)
        · exact p.tup g (reps_cut r lo hi) hq
  · rename_i ns
    cases ra with
    | sh ra => cases ra with
      | @scr _ ns ha =>
        refine .inl ⟨_, _, rfl, g.sub.seq ha, fun q hq => ?_⟩
        have e : ((cutL ns lo hi).map fun n => T.leaf (.int n)) = (cutL (ns.map D.int) lo hi).map T.leaf := by
          rw [cut_map, List.map_map]
          rfl
        rw [e] at p
        exact p.lst (A := []) g (Owns.leaves (reps_cut (reps_ints ns) lo hi)) List.nodup_nil (fun u z => by cases z) hq
  · cases e1 : a.lvs with
    | none =>
      rw [e1] at p
      exact p.elim
    | some ds =>
      rw [e1] at p
      obtain ⟨a1, vs1, q1, h1, r1⟩ := ra.items g fr e1
      exact .inl ⟨a1, vs1, q1, SqL.of h1, fun q hq => p.lst (A := []) (ra.gone g fr) (Owns.leaves (reps_cut r1 lo hi)) List.nodup_nil (fun u z => by cases z) hq⟩
section
variable {X : Cx} {E : WS} {pos p2 : Pos} {a b b2 : Expr} {f1 f2 f3 : Dl.Env → Res EV}
theorem de_sl00 (ha : DE X E a f1) : DE X E (.Subscript a (.Slice none none none p2) pos) (dSl f1 none none) := by
  refine pe_imp (pe_slice sl_all ha po_none po_none) fun σ H Q h => ?_
  obtain ⟨S, ρ, O, V, h⟩ := h
  exact ⟨S, ρ, O, V, Post.fst h fun x e1 h1 S1 H1 A v g1 r1 n1 fr1 => s_sl h1 g1 r1 fr1⟩
theorem int_of {c : Ct} {S H : Hp} {A : List Addr} {v : V} {i : Int} (r : EvRep c S H A v (.sh (.int i))) : v = .int i := by
  cases r with
  | sh r => cases r with
    | int i => rfl
theorem de_sl10 (ha : DE X E a f1) (hb : DE X E b f2) : DE X E (.Subscript a (.Slice (some b) none none p2) pos) (dSl f1 (some f2) none) := by
  refine pe_imp (pe_slice sl_all ha (po_some hb) po_none) fun σ H Q h => ?_
  obtain ⟨S, ρ, O, V, h⟩ := h
  refine ⟨S, ρ, O, V, Post.fst h fun x e1 h1 S1 H1 A v g1 r1 n1 fr1 => ?_⟩
  change Post _ _ _ _ ((f2 ρ).bind fun l => match l with | .sh (.int i) => gSl x (some i) none | _ => .stuck) Q at h1
  refine ⟨S1, ρ, O, V.gr g1, Post.fst (h1.later g1) fun y e2 _ S2 H2 B w g2 r2 n2 fr2 => ?_⟩
  rw [e2] at h1
  simp only [Res.ok_bind'] at h1
  split at h1
  · rename_i i _
    exact ⟨i, int_of r2, s_sl h1 (g1.trans g2) (r1.gr g2) fr1⟩
  · exact h1.elim
theorem de_sl01 (ha : DE X E a f1) (hb : DE X E b f2) : DE X E (.Subscript a (.Slice none (some b) none p2) pos) (dSl f1 none (some f2)) := by
  refine pe_imp (pe_slice sl_all ha po_none (po_some hb)) fun σ H Q h => ?_
  obtain ⟨S, ρ, O, V, h⟩ := h
  refine ⟨S, ρ, O, V, Post.fst h fun x e1 h1 S1 H1 A v g1 r1 n1 fr1 => ?_⟩
  change Post _ _ _ _ ((f2 ρ).bind fun l => match l with | .sh (.int i) => gSl x none (some i) | _ => .stuck) Q at h1
  refine ⟨S1, ρ, O, V.gr g1, Post.fst (h1.later g1) fun y e2 _ S2 H2 B w g2 r2 n2 fr2 => ?_⟩
  rw [e2] at h1
  simp only [Res.ok_bind'] at h1
  split at h1
  · rename_i i _
    exact ⟨i, int_of r2, s_sl h1 (g1.trans g2) (r1.gr g2) fr1⟩
  · exact h1.elim
theorem de_sl11 (ha : DE X E a f1) (hb : DE X E b f2) (hc : DE X E b2 f3) : DE X E (.Subscript a (.Slice (some b) (some b2) none p2) pos) (dSl f1 (some f2) (some f3)) := by
  refine pe_imp (pe_slice sl_all ha (po_some hb) (po_some hc)) fun σ H Q h => ?_
  obtain ⟨S, ρ, O, V, h⟩ := h
  refine ⟨S, ρ, O, V, Post.fst h fun x e1 h1 S1 H1 A v g1 r1 n1 fr1 => ?_⟩
  change Post _ _ _ _ ((f2 ρ).bind fun l => match l with | .sh (.int i) => (f3 ρ).bind fun u => (match u with | .sh (.int j) => gSl x (some i) (some j) | _ => .stuck) | _ => .stuck) Q at h1
  refine ⟨S1, ρ, O, V.gr g1, Post.fst (h1.later g1) fun y e2 h2 S2 H2 B w g2 r2 n2 fr2 => ?_⟩
  rw [e2] at h1
  simp only [Res.ok_bind'] at h1
  split at h1
  · rename_i i
    refine ⟨i, int_of r2, S2, ρ, O, (V.gr g1).gr g2, Post.fst (h1.later (g1.trans g2)) fun z e3 h3 S3 H3 C u g3 r3 n3 fr3 => ?_⟩
    rw [e3] at h1
    simp only [Res.ok_bind'] at h1
    split at h1
    · rename_i j
      exact ⟨j, int_of r3, s_sl h1 ((g1.trans g2).trans g3) ((r1.gr g2).gr g3) fr1⟩
    · exact h1.elim
  · exact h1.elim
end

/-! ### argument lists -/
def aNil : Dl.Env → Res (List EV) := fun _ => .ok []
def aCons (f : Dl.Env → Res EV) (g : Dl.Env → Res (List EV)) : Dl.Env → Res (List EV) := fun ρ => (f ρ).bind fun x => (g ρ).bind fun xs => .ok (x :: xs)
section
variable {X : Cx} {E : WS} {pos : Pos} {a : Expr} {es : List Expr} {f1 : Dl.Env → Res EV} {fs : Dl.Env → Res (List EV)}
theorem da_nil : DA X E [] aNil := by
  refine pa_imp pa_nil fun σ H Q h => ?_
  obtain ⟨S, ρ, O, V, h⟩ := h
  exact h S H [] [] (Gr.refl V.sub) .nil List.nodup_nil fun _ z => by cases z
theorem da_cons (ha : DE X E a f1) (hr : DA X E es fs) (hs : starEach (a :: es) X.env = (false, eval a X.env) :: starEach es X.env := by rfl) : DA X E (a :: es) (aCons f1 fs) := by
  refine pa_imp (pa_cons ha hr hs) fun σ H Q h => ?_
  obtain ⟨S, ρ, O, V, h⟩ := h
  refine ⟨S, ρ, O, V, ?_⟩
  unfold aCons at h
  cases e1 : f1 ρ with
  | exc x => rw [e1] at h; exact h
  | stuck => rw [e1] at h; exact h
  | ok x =>
    rw [e1] at h
    intro S1 H1 A v g1 r1 n1 fr1
    refine ⟨S1, ρ, O, V.gr g1, ?_⟩
    have h' := PostA.later h g1
    cases e2 : fs ρ with
    | exc x => rw [e2] at h'; exact h'
    | stuck => rw [e2] at h'; exact h'
    | ok xs =>
      rw [e2] at h
      intro S2 H2 B vs g2 r2 n2 fr2
      refine h S2 H2 (A ++ B) (v :: vs) (g1.trans g2) (.cons (r1.gr g2) r2) (List.nodup_append.mpr ⟨n1, n2, fun u hu t ht q => ?_⟩) fun u hu => ?_
      · subst q
        obtain ⟨⟨_, e⟩, _⟩ := r1.alive u hu
        rw [fr2 u ht] at e
        cases e
      · rcases List.mem_append.mp hu with hu | hu
        · exact fr1 u hu
        · exact g1.hh.free (fr2 u hu)
end
theorem PostA.fst {c : Ct} {E : XS} {S H : Hp} {r : Res (List EV)} {k : List EV → Res EV} {Q : VK} {Q1 : List V → Hp → Prop} (h : Post c E S H (r.bind k) Q)
    (go : ∀ x, r = .ok x → Post c E S H (k x) Q → ∀ S1 H1 A vs, Gr S H S1 H1 → EvsRep c S1 H1 A vs x → A.Nodup → (∀ a ∈ A, H a = none) → Q1 vs H1) : PostA c E S H r Q1 := by
  cases r with
  | ok x => exact fun S1 H1 A v g re nd fr => go x rfl h S1 H1 A v g re nd fr
  | exc x => exact h
  | stuck => exact h

/-! ### displays -/
def EV.t? : EV → Option T
  | .sh d => some (.leaf d)
  | .fr ts => some (.node ts)
  | .bo _ => none
def evTs : List EV → Option (List T)
  | [] => some []
  | x :: xs => match x.t?, evTs xs with
    | some t, some ts => some (t :: ts)
    | _, _ => none
theorem evs_owns {c : Ct} {S H : Hp} : ∀ {A : List Addr} {vs : List V} {xs : List EV} {ts : List T}, EvsRep c S H A vs xs → evTs xs = some ts → Owns c S H A vs ts
  | _, _, _, _, .nil, e => by cases e; exact .nil
  | _, _, _, _, .cons (e := x) (es := xs) h r, e => by
    rw [evTs] at e
    cases e1 : x.t? with
    | none => rw [e1] at e; cases e
    | some t =>
      cases e2 : evTs xs with
      | none => rw [e1, e2] at e; cases e
      | some ts =>
        rw [e1, e2] at e
        cases e
        refine .cons ?_ (evs_owns r e2)
        cases h with
        | sh q => cases e1; exact .leaf q
        | fr q => cases e1; exact q
        | bo q => cases e1
/-- [e, ..] -/
def dLst (fs : Dl.Env → Res (List EV)) : Dl.Env → Res EV := fun ρ => (fs ρ).bind fun xs => match evTs xs with
  | some ts => if ts.length ≤ 16777216 then .ok (.fr ts) else .stuck
  | none => .stuck
/-- (e, ..): new lists are given away -/
def dTup (fs : Dl.Env → Res (List EV)) : Dl.Env → Res EV := fun ρ => (fs ρ).bind fun xs => match evTs xs with
  | some ts => if ts.length ≤ 16777216 then .ok (.sh (.tup (T.toDs ts))) else .stuck
  | none => .stuck
section
variable {X : Cx} {E : WS} {pos : Pos} {es : List Expr} {fs : Dl.Env → Res (List EV)}
theorem de_lst (h : DA X E es fs) : DE X E (.List es pos) (dLst fs) := by
  refine pe_imp (pe_lst h) fun σ H Q h => ?_
  obtain ⟨S, ρ, O, V, h⟩ := h
  have hs : sizeLine = 16777216 := sizeLine_eq
  refine ⟨S, ρ, O, V, PostA.fst h fun xs e1 h1 S1 H1 A vs g1 r1 n1 fr1 => ?_⟩
  cases e2 : evTs xs with
  | none =>
    rw [e2] at h1
    exact h1.elim
  | some ts =>
    rw [e2] at h1
    by_cases hl : ts.length ≤ 16777216
    · simp only [if_pos hl] at h1
      have r := evs_owns r1 e2
      have l := r.length
      exact ⟨by omega, fun p hp => h1.lst g1 r n1 fr1 hp⟩
    · simp only [if_neg hl] at h1
      exact h1.elim
theorem de_tup {x1} (h : DA X E es fs) : DE X E (.Tuple es x1 pos) (dTup fs) := by
  refine pe_imp (pe_tup h) fun σ H Q h => ?_
  obtain ⟨S, ρ, O, V, h⟩ := h
  have hs : sizeLine = 16777216 := sizeLine_eq
  refine ⟨S, ρ, O, V, PostA.fst h fun xs e1 h1 S1 H1 A vs g1 r1 n1 fr1 => ?_⟩
  cases e2 : evTs xs with
  | none =>
    rw [e2] at h1
    exact h1.elim
  | some ts =>
    rw [e2] at h1
    by_cases hl : ts.length ≤ 16777216
    · simp only [if_pos hl] at h1
      have r := evs_owns r1 e2
      have l := r.length
      have nA : ∀ u ∈ A, S1 u = none := fun u hu => (r1.alive u hu).2
      have r2 : Reps _ (grab S1 H1 A) vs (T.toDs ts) := r.grabbed (same_grab nA) fun u hu => grab_in hu
      exact ⟨by omega, fun p hp => h1.tup (g1.grab fr1 nA) r2 hp⟩
    · simp only [if_neg hl] at h1
      exact h1.elim
end

/-! ### calls of built-ins -/
/-- a rule for a call by values does what g says -/
def CallS (c : Ct) (r : List V → Hp → VK → Prop) (g : List EV → Res EV) : Prop := ∀ (E : XS) (S H S1 H1 : Hp) (A : List Addr) (vs : List V) (xs : List EV) (Q : VK), Gr S H S1 H1 → EvsRep c S1 H1 A vs xs → A.Nodup → (∀ u ∈ A, H u = none) →
  Post c E S H (g xs) Q → r vs H1 Q
def dC1 (g : List EV → Res EV) (fs : Dl.Env → Res (List EV)) : Dl.Env → Res EV := fun ρ => (fs ρ).bind g
section
variable {X : Cx} {E : WS} {x : Str} {p pos : Pos} {e : Expr} {es : List Expr} {id T : String} {r : List V → Hp → VK → Prop} {g : List EV → Res EV} {fs : Dl.Env → Res (List EV)}
theorem cb_imp {c : Ct} (hs : CallS c r g) {σ : L2.St} {H : Hp} {Q : VK} (h : rE c E (dC1 g fs) σ H Q) : tCB r (rA c E fs) σ H Q := by
  obtain ⟨S, ρ, O, V, h⟩ := h
  exact ⟨S, ρ, O, V, PostA.fst h fun xs e1 h1 S1 H1 A vs g1 r1 n1 fr1 => hs _ S H S1 H1 A vs xs Q g1 r1 n1 fr1 h1⟩
theorem de_callB (hc : CallR X (.builtin id) r) (hs : CallS (ctOf X) r g) (hg : Gl X x) (hm : X.mg x = none) (hv : bootBuiltins x = some (.builtin id)) (ha : DA X E (e :: es) fs) (hn : x ≠ "__name__" := by decide) (hdb : (x == ("__debug__" : Str)) = false := by decide)
    (he : starEach (e :: es) X.env = (false, eval e X.env) :: starEach es X.env := by rfl) (hpl : (backTo pos (starEach es X.env)).any (·.1) = false := by rfl) : DE X E (.Call (.Name x p) (e :: es) [] pos) (dC1 g fs) :=
  pe_imp (pe_callB hc hg hm hv ha hn hdb he hpl) fun _ _ _ h => cb_imp hs h
theorem de_callTy (hc : CallR X (.type T) r) (hs : CallS (ctOf X) r g) (hg : Gl X x) (hm : X.mg x = none) (hv : bootBuiltins x = some (.type T)) (ha : DA X E (e :: es) fs) (hn : x ≠ "__name__" := by decide) (hdb : (x == ("__debug__" : Str)) = false := by decide)
    (he : starEach (e :: es) X.env = (false, eval e X.env) :: starEach es X.env := by rfl) (hpl : (backTo pos (starEach es X.env)).any (·.1) = false := by rfl) : DE X E (.Call (.Name x p) (e :: es) [] pos) (dC1 g fs) :=
  pe_imp (pe_callTy hc hg hm hv ha hn hdb he hpl) fun _ _ _ h => cb_imp hs h
/-- a built-in class as a value -/
theorem de_ty {n : String} (hg : Gl X x) (hm : X.mg x = none) (hv : bootBuiltins x = some (.type n)) (hn : x ≠ "__name__" := by decide) (hd : (x == ("__debug__" : Str)) = false := by decide) : DE X E (.Name x pos) (dC (.ty n)) :=
  de_c (pe_bltn (v := .ty n) hg hm hv rfl hn hd) fun _ _ => .ty n
end
section
variable {c : Ct}
theorem ev1 {S H : Hp} {A : List Addr} {vs : List V} {x : EV} (r : EvsRep c S H A vs [x]) : ∃ v, vs = [v] ∧ EvRep c S H A v x := by
  cases r with
  | cons h t =>
    cases t
    rw [List.append_nil]
    exact ⟨_, rfl, h⟩
theorem ev2 {S H : Hp} {A : List Addr} {vs : List V} {x y : EV} (r : EvsRep c S H A vs [x, y]) : ∃ v w B C, vs = [v, w] ∧ EvRep c S H B v x ∧ EvRep c S H C w y := by
  cases r with
  | cons h t =>
    cases t with
    | cons h2 t2 =>
      cases t2
      exact ⟨_, _, _, _, rfl, h, h2⟩
/-- one argument, read as it stands; a result that is no object -/
def g1F (g : D → Option D) : List EV → Res EV
  | [x] => match g x.d with
    | some z => .ok (.sh z)
    | none => .stuck
  | _ => .stuck
theorem callS_flat {r : List V → Hp → VK → Prop} {g : D → Option D} (h : ∀ (H : Hp) (v : V) (a z : D) (Q : VK), Rep c H v a → g a = some z → (∀ u, z.at? = some u → Q u H) → r [v] H Q) : CallS c r (g1F g) := by
  intro E S H S1 H1 A vs xs Q g1 ra _ _ p
  unfold g1F at p
  split at p
  · rename_i x
    obtain ⟨v, rfl, rv⟩ := ev1 ra
    cases e : g x.d with
    | none =>
      rw [e] at p
      exact p.elim
    | some z =>
      rw [e] at p
      exact h H1 v x.d z Q (rv.rep g1.sub) e fun u hu => p.sh g1 (D.at_rep hu c S1)
  · exact p.elim
/-- int(x) of an int, a truth -/
def gInt : List EV → Res EV := g1F fun a => match a with
  | .int i => some (.int i)
  | .bl k => some (.int (if k then 1 else 0))
  | _ => none
theorem s_int : CallS c (fun xs H Q => (∃ i, xs = [.int i] ∧ Q (.int i) H) ∨ ∃ k, xs = [.bl k] ∧ Q (.int (if k then 1 else 0)) H) gInt := callS_flat fun H v a z Q r e q => by
  cases r with
  | int i => cases e; exact .inl ⟨_, rfl, q _ rfl⟩
  | bl k => cases e; exact .inr ⟨_, rfl, q _ rfl⟩
  | _ => cases e
/-- len(x) -/
def D.len? : D → Option Nat
  | .str s => if s.length ≤ 16777216 then some s.length else none
  | .tup ds => some ds.length
  | .lst ds => some ds.length
  | .scr ns => some ns.length
  | _ => none
def gLen : List EV → Res EV := g1F fun a => a.len?.map fun (n : Nat) => .int n
theorem s_len : CallS c (fun xs H Q => ∃ x n, xs = [x] ∧ LenV c.K x H n ∧ Q (.int n) H) gLen := callS_flat fun H v a z Q r e q => by
  have hs : sizeLine = 16777216 := sizeLine_eq
  cases r with
  | str s =>
    simp only [D.len?] at e
    split at e
    · rename_i hl
      cases e
      exact ⟨_, _, rfl, ⟨by omega, rfl⟩, q _ rfl⟩
    · cases e
  | tup h r =>
    cases e
    exact ⟨_, _, rfl, .inr ⟨_, h.sq, r.length.symm⟩, q _ rfl⟩
  | lst h r =>
    cases e
    exact ⟨_, _, rfl, .inl ⟨_, SqL.of h, r.length.symm⟩, q _ rfl⟩
  | scr h =>
    cases e
    exact ⟨_, _, rfl, .inl ⟨_, h, (List.length_map _).symm⟩, q _ rfl⟩
  | _ => cases e
/-- list(x), tuple(x) of a list, a tuple -/
def gList : List EV → Res EV
  | [.sh (.tup ds)] => .ok (.fr (ds.map T.leaf))
  | [.sh (.scr ns)] => .ok (.fr (ns.map fun n => T.leaf (.int n)))
  | [x] => match x.lvs with
    | some ds => .ok (.fr (ds.map T.leaf))
    | none => .stuck
  | _ => .stuck
theorem s_list : CallS c (fun xs H Q => ∃ p ys, xs = [.ref p] ∧ (SqL c.K H p ys ∨ SqT c.K H p ys) ∧ ∀ l, H l = none → Q (.ref l) (upd H l (.lst ys))) gList := by
  intro E S H S1 H1 A vs xs Q g ra nd fr p
  unfold gList at p
  split at p
  · obtain ⟨v, rfl, rv⟩ := ev1 ra
    cases rv with
    | sh r => cases r with
      | tup h r => exact ⟨_, _, rfl, .inr (h.mono g.sub).sq, fun l hl => p.lst (A := []) g (Owns.leaves r) List.nodup_nil (fun u z => by cases z) hl⟩
  · rename_i ns
    obtain ⟨v, rfl, rv⟩ := ev1 ra
    cases rv with
    | sh r => cases r with
      | @scr _ ns h =>
        have e : (ns.map fun n => T.leaf (.int n)) = (ns.map D.int).map T.leaf := by rw [List.map_map]; rfl
        rw [e] at p
        exact ⟨_, _, rfl, .inl (g.sub.seq h), fun l hl => p.lst (A := []) g (Owns.leaves (reps_ints ns)) List.nodup_nil (fun u z => by cases z) hl⟩
  · rename_i x _ _
    obtain ⟨v, rfl, rv⟩ := ev1 ra
    cases e : x.lvs with
    | none =>
      rw [e] at p
      exact p.elim
    | some ds =>
      rw [e] at p
      obtain ⟨a1, vs1, q1, h1, r1⟩ := rv.items g fr e
      exact ⟨a1, vs1, by rw [q1], .inl (SqL.of h1), fun l hl => p.lst (A := []) (rv.gone g fr) (Owns.leaves r1) List.nodup_nil (fun u z => by cases z) hl⟩
  · exact p.elim
def gTuple : List EV → Res EV
  | [.sh (.tup ds)] => .ok (.sh (.tup ds))
  | [.sh (.scr ns)] => .ok (.sh (.tup (ns.map D.int)))
  | [x] => match x.lvs with
    | some ds => .ok (.sh (.tup ds))
    | none => .stuck
  | _ => .stuck
theorem s_tuple : CallS c (fun xs H Q => ∃ p ys, xs = [.ref p] ∧ ((SqL c.K H p ys ∧ ∀ l, H l = none → Q (.ref l) (upd H l (.tup ys))) ∨ (SqT c.K H p ys ∧ Q (.ref p) H))) gTuple := by
  intro E S H S1 H1 A vs xs Q g ra nd fr p
  unfold gTuple at p
  split at p
  · obtain ⟨v, rfl, rv⟩ := ev1 ra
    cases rv with
    | sh r => cases r with
      | tup h r => exact ⟨_, _, rfl, .inr ⟨(h.mono g.sub).sq, p.sh g (.tup h r)⟩⟩
  · rename_i ns
    obtain ⟨v, rfl, rv⟩ := ev1 ra
    cases rv with
    | sh r => cases r with
      | @scr _ ns h => exact ⟨_, _, rfl, .inl ⟨g.sub.seq h, fun l hl => p.tup g (reps_ints ns) hl⟩⟩
  · rename_i x _ _
    obtain ⟨v, rfl, rv⟩ := ev1 ra
    cases e : x.lvs with
    | none =>
      rw [e] at p
      exact p.elim
    | some ds =>
      rw [e] at p
      obtain ⟨a1, vs1, q1, h1, r1⟩ := rv.items g fr e
      exact ⟨a1, vs1, by rw [q1], .inl ⟨SqL.of h1, fun l hl => p.tup (rv.gone g fr) r1 hl⟩⟩
  · exact p.elim
end
end Dl
set_option Elab.async false
set_option linter.all false
set_option maxRecDepth 100000
/-! DL5: isinstance; own defs, methods, instances. -/
namespace Dl
open PySem PySem.Spec PyProof.Rows L2

/-! ### isinstance -/
def isaB (a b : String) : Bool := a == b || (a == "bool" && b == "int")
def tyNms : List String := ["NoneType", "bool", "int", "str", "tuple", "list"]
def clss : List String := ["bool", "int", "str", "tuple", "list"]
theorem kitB_all : (tyNms.all fun a => clss.all fun b => decide (kitB a b = some (isaB a b))) = true := by decide +kernel
theorem kitB_of {a b : String} (ha : a ∈ tyNms) (hb : b ∈ clss) : kitB a b = some (isaB a b) := of_decide_eq_true (List.all_eq_true.mp (List.all_eq_true.mp kitB_all a ha) b hb)
def D.tyn : D → Option String
  | .non => some "NoneType"
  | .bl _ => some "bool"
  | .int _ => some "int"
  | .str _ => some "str"
  | .tup _ => some "tuple"
  | .lst _ => some "list"
  | .scr _ => some "list"
  | _ => none
theorem tyn_in {d : D} {a : String} (h : d.tyn = some a) : a ∈ tyNms := by
  cases d <;> first | (cases h; decide) | cases h
theorem Rep.tyX {c : Ct} {H : Hp} {v : V} {d : D} {a : String} (r : Rep c H v d) (h : d.tyn = some a) : TyX c.K H v (.type a) := by
  cases r with
  | non => cases h; exact .base .non
  | bl b => cases h; exact .base (.bl b)
  | int i => cases h; exact .base (.int i)
  | str s => cases h; exact .base (.str s)
  | tup ha r =>
    cases h
    rcases ha with ha | ⟨o, its, n, e, hc, _⟩
    · exact .base (.tup ha)
    · exact .kTuple e hc
  | lst ha r => cases h; exact .base (.lst ha)
  | scr ha =>
    cases h
    rcases ha with (ha | ⟨o, ha⟩) | ⟨o, its, n, e, hc, _⟩
    · exact .base (.lst ha)
    · exact .base (.frz ha)
    · exact .kList e hc
  | _ => cases h
def tyNames : List D → Option (List String)
  | [] => some []
  | .ty n :: ds => if clss.contains n then (tyNames ds).map (n :: ·) else none
  | _ :: _ => none
def isaD (a b : D) : Option D := match a.tyn, b with
  | some t, .ty n => if clss.contains n then some (.bl (isaB t n)) else none
  | some t, .tup ds => (tyNames ds).map fun ns => .bl (ns.any (isaB t))
  | _, _ => none
def gIsi : List EV → Res EV
  | [x, y] => match isaD x.d y.d with
    | some z => .ok (.sh z)
    | none => .stuck
  | _ => .stuck
def rIsiAll (K : PySem.W.Frag) : List V → Hp → VK → Prop := fun xs H Q => rIsi K xs H Q ∨ rIsiT K xs H Q ∨ rIsiK K xs H Q
theorem call_isiAll {X : Cx} : CallR X (.builtin "isinstance") (rIsiAll X.K) := by
  intro pins s σ H xs us Q I r h
  rcases h with h | h | h
  · exact call_isi pins s σ H xs us Q I r h
  · exact call_isiT pins s σ H xs us Q I r h
  · exact call_isiK pins s σ H xs us Q I r h
theorem tyNames_vals {c : Ct} {H : Hp} {t : String} (ht : t ∈ tyNms) : ∀ {ds : List D} {ns : List String} {vs : List V}, tyNames ds = some ns → Reps c H vs ds → Paired ClsV vs (ns.map Value.type) ∧ PySem.W.kitAny c.K (.type t) (ns.map Value.type) = some (ns.any (isaB t))
  | [], _, _, e, r => by
    cases e
    cases r
    exact ⟨.nil, rfl⟩
  | .ty n :: ds, _, _, e, r => by
    rw [tyNames] at e
    split at e
    · rename_i hn
      cases q : tyNames ds with
      | none => rw [q] at e; cases e
      | some ns =>
        rw [q] at e
        cases e
        cases r with
        | cons h r =>
          cases h
          obtain ⟨p1, p2⟩ := tyNames_vals ht q r
          refine ⟨.cons (.ty n) p1, ?_⟩
          refine kitAny_cons (kit_ty (kitB_of ht (by simpa using hn))) (fun hb => ?_) fun hb => ?_
          · rw [List.any_cons, hb, Bool.false_or]
            exact p2
          · rw [List.any_cons, hb]
            rfl
    · cases e
  | .non :: _, _, _, e, _ => by cases e
  | .bl _ :: _, _, _, e, _ => by cases e
  | .int _ :: _, _, _, e, _ => by cases e
  | .str _ :: _, _, _, e, _ => by cases e
  | .tup _ :: _, _, _, e, _ => by cases e
  | .lst _ :: _, _, _, e, _ => by cases e
  | .scr _ :: _, _, _, e, _ => by cases e
  | .obj _ _ :: _, _, _, e, _ => by cases e
  | .dic _ :: _, _, _, e, _ => by cases e
theorem rel_types : ∀ {ns : List String} {vs : List V} {its : List Value}, Paired ClsV vs (ns.map Value.type) → Vals vs its → its = ns.map Value.type
  | _, _, _, k, r => ClsV.all k r
theorem s_isi {c : Ct} : CallS c (rIsiAll c.K) gIsi := by
  intro E S H S1 H1 A vs xs Q g ra nd fr p
  unfold gIsi at p
  split at p
  · rename_i x y
    obtain ⟨v, w, B, C, rfl, rx, ry⟩ := ev2 ra
    have rx := rx.rep g.sub
    have ry := ry.rep g.sub
    cases e : isaD x.d y.d with
    | none =>
      rw [e] at p
      exact p.elim
    | some z =>
      rw [e] at p
      generalize x.d = dx at rx e
      generalize y.d = dy at ry e
      unfold isaD at e
      split at e
      · rename_i t n ht
        split at e
        · rename_i hn
          cases e
          cases ry
          exact .inl ⟨v, _, _, _, _, rfl, .ty n, rx.tyX ht, kit_ty (kitB_of (tyn_in ht) (by simpa using hn)), p.sh g (.bl _)⟩
        · cases e
      · rename_i t ds ht
        cases q : tyNames ds with
        | none => rw [q] at e; cases e
        | some ns =>
          rw [q] at e
          cases e
          cases ry with
          | tup ha r =>
            obtain ⟨p1, p2⟩ := tyNames_vals (tyn_in ht) q r
            rcases ha with ha | ⟨o, its, n, ek, hc, hd, hz, rv⟩
            · exact .inr (.inl ⟨v, _, _, _, _, _, rfl, ha, p1, rx.tyX ht, p2, p.sh g (.bl _)⟩)
            · have e3 := ClsV.all p1 rv
              obtain ⟨oc, od, dt, sl⟩ := o
              simp only at hc hd
              subst hc hd
              refine .inr (.inr ⟨v, _, od, ns.map Value.type, n, sl, _, _, rfl, ?_, rx.tyX ht, p2, p.sh g (.bl _)⟩)
              rw [ek, ← e3]
      · cases e
  · exact p.elim

/-! ### data without lists -/
mutual
def D.ll : D → Bool
  | .tup ds => D.lls ds
  | .lst _ => false
  | .scr _ => false
  | .obj _ fs => D.llf fs
  | .dic kvs => D.llk kvs
  | _ => true
def D.lls : List D → Bool
  | [] => true
  | d :: ds => d.ll && D.lls ds
def D.llf : List (Str × D) → Bool
  | [] => true
  | (_, d) :: ds => d.ll && D.llf ds
def D.llk : List (NestedKey × D) → Bool
  | [] => true
  | (_, d) :: ds => d.ll && D.llk ds
end
mutual
theorem keyD_ll : ∀ k : NestedKey, (keyD k).ll = true
  | .none => rfl
  | .num _ => rfl
  | .text _ => rfl
  | .tup ks => by rw [keyD, D.ll]; exact keyDs_ll ks
theorem keyDs_ll : ∀ ks : List NestedKey, D.lls (keyDs ks) = true
  | [] => rfl
  | k :: ks => by rw [keyDs, D.lls, keyD_ll k, keyDs_ll ks]; rfl
end
mutual
def T.ll : T → Bool
  | .leaf d => d.ll
  | .node ts => T.lls ts
def T.lls : List T → Bool
  | [] => true
  | t :: ts => t.ll && T.lls ts
end
def EV.ll : EV → Bool
  | .sh d => d.ll
  | .fr ts => T.lls ts
  | .bo _ => false
def EV.noBo : EV → Bool
  | .bo _ => false
  | _ => true
def drop (S : Hp) (B : List Addr) : Hp := fun b => if b ∈ B then none else S b
section
variable {c : Ct} {S H S1 H1 S2 H2 S3 H3 : Hp} {B : List Addr}
theorem drop_out {b : Addr} (h : b ∉ B) : drop S B b = S b := if_neg h
theorem drop_in {b : Addr} (h : b ∈ B) : drop S B b = none := if_pos h
theorem drop_none {b : Addr} (h : S b = none) : drop S B b = none := by
  unfold drop
  split
  · rfl
  · exact h
mutual
theorem Rep.dropped (hB : ∀ b ∈ B, ∃ vs, S b = some (.lst vs)) : ∀ {v : V} {d : D}, Rep c S v d → d.ll = true → Rep c (drop S B) v d
  | _, _, .non, _ => .non
  | _, _, .bl b, _ => .bl b
  | _, _, .int i, _ => .int i
  | _, _, .str s, _ => .str s
  | _, _, .ty n, _ => .ty n
  | _, _, .tup h r, e => by
    rw [D.ll] at e
    refine .tup (h.imp (fun q => ?_) id) (Reps.dropped hB r e)
    rw [drop_out]
    · exact q
    · intro z
      obtain ⟨vs, y⟩ := hB _ z
      rw [q] at y
      cases y
  | _, _, .lst h r, e => by rw [D.ll] at e; cases e
  | _, _, .scr h, e => by rw [D.ll] at e; cases e
  | _, _, .obj h r, e => by
    rw [D.ll] at e
    refine .obj (Eq.trans (drop_out ?_) h) (FReps.dropped hB r e)
    intro z
    obtain ⟨vs, y⟩ := hB _ z
    rw [h] at y
    cases y
  | _, _, .dic h r, e => by
    rw [D.ll] at e
    refine .dic (Eq.trans (drop_out ?_) h) (KReps.dropped hB r e)
    intro z
    obtain ⟨vs, y⟩ := hB _ z
    rw [h] at y
    cases y
theorem Reps.dropped (hB : ∀ b ∈ B, ∃ vs, S b = some (.lst vs)) : ∀ {vs : List V} {ds : List D}, Reps c S vs ds → D.lls ds = true → Reps c (drop S B) vs ds
  | _, _, .nil, _ => .nil
  | _, _, .cons h r, e => by
    rw [D.lls, Bool.and_eq_true] at e
    exact .cons (Rep.dropped hB h e.1) (Reps.dropped hB r e.2)
theorem FReps.dropped (hB : ∀ b ∈ B, ∃ vs, S b = some (.lst vs)) : ∀ {vs : List (Str × V)} {ds : List (Str × D)}, FReps c S vs ds → D.llf ds = true → FReps c (drop S B) vs ds
  | _, _, .nil, _ => .nil
  | _, _, .cons h r, e => by
    rw [D.llf, Bool.and_eq_true] at e
    exact .cons (Rep.dropped hB h e.1) (FReps.dropped hB r e.2)
theorem KReps.dropped (hB : ∀ b ∈ B, ∃ vs, S b = some (.lst vs)) : ∀ {xs : List (NestedKey × Addr × Value)} {kvs : List (NestedKey × D)}, KReps c S xs kvs → D.llk kvs = true → KReps c (drop S B) xs kvs
  | _, _, .nil, _ => .nil
  | _, _, .cons h l q r s, e => by
    rw [D.llk, Bool.and_eq_true] at e
    exact .cons (Rep.dropped hB h (keyD_ll _)) l q (Rep.dropped hB r e.1) (KReps.dropped hB s e.2)
end
mutual
theorem Own.dropped (hB : ∀ b ∈ B, ∃ vs, S b = some (.lst vs)) : ∀ {A : List Addr} {v : V} {t : T}, Own c S H A v t → t.ll = true → Own c (drop S B) H A v t
  | _, _, _, .leaf r, e => .leaf (r.dropped hB (by rw [T.ll] at e; exact e))
  | _, _, _, .node h n r, e => .node h (drop_none n) (Owns.dropped hB r (by rw [T.ll] at e; exact e))
theorem Owns.dropped (hB : ∀ b ∈ B, ∃ vs, S b = some (.lst vs)) : ∀ {A : List Addr} {vs : List V} {ts : List T}, Owns c S H A vs ts → T.lls ts = true → Owns c (drop S B) H A vs ts
  | _, _, _, .nil, _ => .nil
  | _, _, _, .cons h r, e => by
    rw [T.lls, Bool.and_eq_true] at e
    exact .cons (Own.dropped hB h e.1) (Owns.dropped hB r e.2)
end
/-- the values as shared data, over S with the values' own lists (A) and those of slots (B) -/
theorem EvsRep.pool : ∀ {A : List Addr} {vs : List V} {xs : List EV}, EvsRep c S H A vs xs → ∃ B, (∀ b ∈ B, (∃ ws, H b = some (.lst ws)) ∧ S b = none) ∧ (xs.all EV.noBo = true → B = []) ∧
      ∀ G : List Addr, (∀ a ∈ A, a ∈ G) → (∀ a ∈ B, a ∈ G) → (∀ a ∈ G, S a = none) → Reps c (grab S H G) vs (xs.map EV.d)
  | _, _, _, .nil => ⟨[], (fun b z => by cases z), (fun _ => rfl), fun _ _ _ _ => Reps.nil⟩
  | _, _, _, .cons (A := A) (B := A2) h r => by
    obtain ⟨B, b1, b2, b3⟩ := EvsRep.pool r
    cases h with
    | sh q =>
      refine ⟨B, b1, fun z => b2 (by simpa [EV.noBo] using z), fun G g1 g2 g3 => .cons (q.mono (same_grab g3)) (b3 G (fun a ha => g1 a (List.mem_append_right _ ha)) g2 g3)⟩
    | fr q =>
      refine ⟨B, b1, fun z => b2 (by simpa [EV.noBo] using z), fun G g1 g2 g3 => .cons ?_ (b3 G (fun a ha => g1 a (List.mem_append_right _ ha)) g2 g3)⟩
      have := q.grabbed (same_grab g3) fun u hu => grab_in (g1 u (List.mem_append_left _ hu))
      simpa [EV.d, T.toD] using this
    | @bo C _ _ q =>
      refine ⟨C ++ B, fun b hb => ?_, fun z => by simp [EV.noBo] at z, fun G g1 g2 g3 => .cons ?_ (b3 G (fun a ha => g1 a (List.mem_append_right _ ha)) (fun a ha => g2 a (List.mem_append_right _ ha)) g3)⟩
      · rcases List.mem_append.mp hb with hb | hb
        · exact q.alive b hb
        · exact b1 b hb
      · have := q.grabbed (same_grab g3) fun u hu => grab_in (g2 u (List.mem_append_left _ hu))
        simpa [EV.d, T.toD] using this
/-- behind a call over the pool: the slots' lists are no longer shared -/
theorem Gr.back (g : Gr S H S1 H1) {A : List Addr} (fr : ∀ a ∈ A, H a = none) (nA : ∀ a ∈ A, S1 a = none) (nB : ∀ b ∈ B, S1 b = none) (g3 : Gr (Dl.grab S1 H1 (A ++ B)) H1 S3 H3) : Gr S H (drop S3 B) H3 := by
  refine ⟨g.hh.trans g3.hh, fun b o e => ?_, fun b o e => ?_, fun a o e n => ?_⟩
  · have e1 := g.ss b o e
    have h1 : b ∉ A ++ B := fun z => (List.mem_append.mp z).elim (fun z => by rw [nA b z] at e1; cases e1) fun z => by rw [nB b z] at e1; cases e1
    rw [drop_out (fun z => h1 (List.mem_append_right _ z))]
    exact g3.ss b o (by rw [grab_out h1]; exact e1)
  · by_cases hb : b ∈ B
    · rw [drop_in hb] at e
      cases e
    · rw [drop_out hb] at e
      exact g3.sub b o e
  · by_cases hb : a ∈ B
    · exact drop_in hb
    · rw [drop_out hb]
      have hA : a ∉ A := fun z => by
        rw [fr a z] at e
        cases e
      exact g3.new a o (g.hh a o e) (by rw [grab_out (fun z => (List.mem_append.mp z).elim hA hb)]; exact g.new a o e n)
end

/-! ### own defs -/
/-- F at the values: where a slot's own list is handed in, nothing with lists may come back -/
def callR (F : List D → Res EV) (xs : List EV) : Res EV := match F (xs.map EV.d) with
  | .ok x => if xs.all EV.noBo || x.ll then .ok x else .stuck
  | .exc x => if xs.all EV.noBo || D.llf x.fs then .exc x else .stuck
  | .stuck => .stuck
/-- THE PROMISE of a def that is the function F on data -/
def spD (c : Ct) (n : Nat) (F : List D → Res EV) : Sp := fun vs H Q E => vs.length = n ∧ ∃ S ds, Same S H ∧ Reps c S vs ds ∧ Post c (fun _ => E) S H (F ds) Q
/-- the same where the defaults dds fill up -/
def spF (c : Ct) (n : Nat) (F : List D → Res EV) (dds : List D) : Sp := fun vs H Q E => vs.length + dds.length = n ∧ ∃ S ds, Same S H ∧ Reps c S vs ds ∧ Post c (fun _ => E) S H (F (ds ++ dds)) Q
theorem XRep.dropped {c : Ct} {S H : Hp} {B : List Addr} {e : Value} {dx : Option Addr} {x : Xc} (hB : ∀ b ∈ B, ∃ vs, S b = some (.lst vs)) (h : XRep c S H e dx x) (l : D.llf x.fs = true) : XRep c (drop S B) H e dx x := by
  obtain ⟨C, fs⟩ := x
  obtain ⟨h1, h2⟩ := h
  refine ⟨h1, ?_⟩
  cases fs with
  | nil => exact h2
  | cons p fs =>
    obtain ⟨d, vfs, q1, q2, q3⟩ := h2
    exact ⟨d, vfs, q1, q2, q3.dropped hB l⟩
theorem call_post {c : Ct} {E : XS} {E0 : XK} {S H S1 H1 : Hp} {A : List Addr} {vs : List V} {xs : List EV} {F : List D → Res EV} {Q : VK} (g : Gr S H S1 H1) (r : EvsRep c S1 H1 A vs xs) (fr : ∀ a ∈ A, H a = none) (p : Post c E S H (callR F xs) Q)
    (hE : ∀ S' e dx H', Gr S H S' H' → E S' e dx H' → E0 e dx H') : ∃ S2, Same S2 H1 ∧ Reps (c.re 0 none .none) S2 vs (xs.map EV.d) ∧ Post (c.re 0 none .none) (fun _ => E0) S2 H1 (F (xs.map EV.d)) Q := by
  obtain ⟨B, b1, b2, b3⟩ := r.pool
  have nA : ∀ a ∈ A, S1 a = none := fun a ha => (r.alive a ha).2
  have nB : ∀ b ∈ B, S1 b = none := fun b hb => (b1 b hb).2
  have nG : ∀ a ∈ A ++ B, S1 a = none := fun a ha => (List.mem_append.mp ha).elim (nA a) (nB a)
  refine ⟨grab S1 H1 (A ++ B), grab_same g.sub, (b3 _ (fun a ha => List.mem_append_left _ ha) (fun a ha => List.mem_append_right _ ha) nG).re, ?_⟩
  unfold callR at p
  have lB : ∀ {S3 H3 : Hp}, Gr (grab S1 H1 (A ++ B)) H1 S3 H3 → ∀ b ∈ B, ∃ vs, S3 b = some (.lst vs) := fun {S3 H3} g3 b hb => by
    obtain ⟨⟨ws, e⟩, _⟩ := b1 b hb
    exact ⟨ws, g3.ss b _ (by rw [grab_in (List.mem_append_right _ hb)]; exact e)⟩
  cases e : F (xs.map EV.d) with
  | stuck =>
    rw [e] at p
    exact p.elim
  | ok x =>
    rw [e] at p
    intro S3 H3 C v g3 r3' n3 f3
    have r3 : EvRep c S3 H3 C v x := r3'.re (xa := c.xa) (xd := c.xd) (xc := c.xc)
    by_cases hb : xs.all EV.noBo = true
    · rw [b2 hb, List.append_nil] at g3
      simp only [hb, Bool.true_or, if_true] at p
      exact p S3 H3 C v ((g.grab fr nA).trans g3) r3 n3 fun a ha => g.hh.free (f3 a ha)
    · simp only [hb, Bool.false_or] at p
      by_cases hl : x.ll = true
      · simp only [if_pos hl] at p
        refine p (drop S3 B) H3 C v (g.back fr nA nB g3) ?_ n3 fun a ha => g.hh.free (f3 a ha)
        cases r3 with
        | sh q => exact .sh (q.dropped (lB g3) hl)
        | fr q => exact .fr (q.dropped (lB g3) (by rw [T.ll]; exact hl))
        | bo q => cases hl
      · simp only [if_neg hl] at p
        exact p.elim
  | exc x =>
    rw [e] at p
    intro S3 H3 z dx g3 r3' f3
    have r3 : XRep c S3 H3 z dx x := r3'.re (xa := c.xa) (xd := c.xd) (xc := c.xc)
    have f3 : FrX H dx := fun d e => g.hh.free (f3 d e)
    by_cases hb : xs.all EV.noBo = true
    · rw [b2 hb, List.append_nil] at g3
      simp only [hb, Bool.true_or, if_true] at p
      have g4 := (g.grab fr nA).trans g3
      exact hE S3 z dx H3 g4 (p S3 H3 z dx g4 r3 f3)
    · simp only [hb, Bool.false_or] at p
      by_cases hl : D.llf x.fs = true
      · simp only [if_pos hl] at p
        have g4 := g.back fr nA nB g3
        exact hE _ z dx H3 g4 (p (drop S3 B) H3 z dx g4 (r3.dropped (lB g3) hl) f3)
      · simp only [if_neg hl] at p
        exact p.elim

/-! ### what may be called -/
theorem EvsRep.length {c : Ct} {S H : Hp} : ∀ {A : List Addr} {vs : List V} {xs : List EV}, EvsRep c S H A vs xs → vs.length = xs.length
  | _, _, _, .nil => rfl
  | _, _, _, .cons _ r => congrArg (· + 1) (EvsRep.length r)
/-- behind a callee's code -/
abbrev CodeR (X : Cx) (pins : List (Addr × Obj)) (σ : L2.St) (Q : VK) : Result → Shared → Prop := fun r s' => match r with | .ok (.ret v) => EP X pins σ Q v s' | .ok _ => False | .error e => X.xe e s'
/-- f may be called in X, it is the function F -/
structure CallD (X : Cx) (E : WS) (f : Addr) (n : Nat) (F : List D → Res EV) (dds : List D) : Prop where
  kp : PySem.W.keepIn X.K (.ref f) = true
  run : ∀ (pins : List (Addr × Obj)) (σ : L2.St) (H : Hp) (s : Shared) (Q : VK) (us : List Value) (vs : List V), Inv X pins σ H s → Vals vs us → spF (ct0 X) n F dds vs H Q (E σ) → codeAny (model X.prog X.w) X.A (.call (.ref f) ⟨us, []⟩) (CodeR X pins σ Q) s
theorem CallD.wp {X : Cx} {E : WS} {f : Addr} {n : Nat} {F : List D → Res EV} {dds : List D} (G : CallD X E f n F dds) {pins : List (Addr × Obj)} {σ : L2.St} {H : Hp} {s : Shared} {Q : VK} {us : List Value} {vs : List V} (I : Inv X pins σ H s) (r : Vals vs us) (h : spF (ct0 X) n F dds vs H Q (E σ)) :
    wpAny (model X.prog X.w) X.A (call (.ref f) us) (EP X pins σ Q) X.xe s := wpAny_call (G.run pins σ H s Q us vs I r h)
def callN (n : Nat) (F : List D → Res EV) (dds : List D) (xs : List EV) : Res EV := if xs.length + dds.length = n then callR (fun ds => F (ds ++ dds)) xs else .stuck
def dCall (n : Nat) (F : List D → Res EV) (dds : List D) (fs : Dl.Env → Res (List EV)) : Dl.Env → Res EV := fun ρ => (fs ρ).bind fun xs => callN n F dds xs
theorem call_at {c : Ct} {E : XS} {E0 : XK} {n : Nat} {F : List D → Res EV} {dds : List D} {S H S1 H1 : Hp} {A : List Addr} {vs : List V} {xs : List EV} {Q : VK} (g : Gr S H S1 H1) (r : EvsRep c S1 H1 A vs xs) (fr : ∀ a ∈ A, H a = none) (p : Post c E S H (callN n F dds xs) Q)
    (hE : ∀ S' e dx H', Gr S H S' H' → E S' e dx H' → E0 e dx H') : spF (c.re 0 none .none) n F dds vs H1 Q E0 := by
  unfold callN at p
  by_cases hl : xs.length + dds.length = n
  · rw [if_pos hl] at p
    obtain ⟨S2, q1, q2, q3⟩ := call_post g r fr p hE
    exact ⟨by rw [r.length]; exact hl, S2, _, q1, q2, q3⟩
  · rw [if_neg hl] at p
    exact p.elim
theorem xs_at {c : Ct} {E : WS} {S H : Hp} {σ : L2.St} {ρ : Dl.Env} {O : List Addr} (V : View c S H σ ρ O) : ∀ S' e dx H', Gr S H S' H' → xs c E ρ O S' e dx H' → E σ e dx H' := fun S' e dx H' g h => h σ (V.gr g).sl
/-- calls by values: what the call's own reading is -/
def tCb (c : Ct) (n : Nat) (F : List D → Res EV) (dds : List D) (E : WS) (t : TA) : TE := fun σ H Q => t σ H fun vs H1 => spF c n F dds vs H1 Q (E σ)
section
variable {X : Cx} {CX : CXT} {k n : Nat} {f C : Addr} {fd : FuncData} {ps : List Str} {dvs : List V} {dds : List D} {ds : List Value} {E : WS} {x m : Str} {p pos apos : Pos} {e o : Expr} {es : List Expr} {F : List D → Res EV} {fs : Dl.Env → Res (List EV)} {f0 : Dl.Env → Res EV}
theorem spF_D {c : Ct} {vs : List V} {H : Hp} {Q : VK} {E0 : XK} (hdd : ∀ H, Reps c H dvs dds) (h : spF c n F dds vs H Q E0) : spD c n F (vs ++ dvs) H Q E0 := by
  obtain ⟨hl, S, ds, sub, r, p⟩ := h
  have l2 := (hdd S).length
  exact ⟨by rw [List.length_append]; omega, S, _, sub, r.append (hdd S), p⟩
theorem run_fnOD {sp : Sp} {E0 : XK} {pins : List (Addr × Obj)} {σ : L2.St} {H : Hp} {s : Shared} {Q : VK} {us : List Value} {vs : List V} (G : FnOk X.prog X.w X.K X.mg X.base CX k f fd ps sp) (hr : Room k X.A) (hb : Binds X.K fd ps ds) (hd : Vals dvs ds) (hx : PassesAt CX X σ E0)
    (I : Inv X pins σ H s) (r : Vals vs us) (h : sp (vs ++ dvs) H Q E0) : codeAny (model X.prog X.w) X.A (.call (.ref f) ⟨us, []⟩) (CodeR X pins σ Q) s := by
  have r2 : Vals (vs ++ dvs) (us ++ ds) := r.append hd
  have hl : (us ++ ds).length = ps.length := by rw [← r2.length]; exact G.len _ _ _ _ h
  refine codeAny_mono (G.run X.A X.stack s H ⟨us, []⟩ (us ++ ds) (vs ++ dvs) Q E0 hr I.env0 (hb s us I.kIn hl) r2 h) fun r s' hq => ?_
  cases r with
  | error e => exact hx pins H s e s' I hq
  | ok fl =>
    cases fl with
    | ret u => exact I.after hq
    | next => exact False.elim hq
    | brk => exact False.elim hq
    | cont => exact False.elim hq
theorem callD_ok (G : FnOk X.prog X.w X.K X.mg X.base CX k f fd ps (spD (ct0 X) n F)) (hr : Room k X.A) (hk : PySem.W.keepIn X.K (.ref f) = true) (hb : Binds X.K fd ps ds) (hd : Vals dvs ds) (hdd : ∀ c H, Reps c H dvs dds) (hx : ∀ σ, PassesAt CX X σ (E σ)) : CallD X E f n F dds :=
  ⟨hk, fun pins σ H s Q us vs I r h => run_fnOD G hr hb hd (hx σ) I r (spF_D (hdd _) h)⟩
theorem run_fnHD {sp : Sp} {E0 : XK} {pins : List (Addr × Obj)} {σ : L2.St} {H : Hp} {s : Shared} {Q : VK} {us : List Value} {vs : List V} (G : L2H.FnH X.prog X.w X.K X.mg X.base CX k f fd ps sp) (hr : L2H.RoomH k X.A) (hc : L2H.HotC X) (hb : Binds X.K fd ps ds) (hd : Vals dvs ds) (hx : PassesAt CX X σ E0)
    (I : Inv X pins σ H s) (r : Vals vs us) (h : sp (vs ++ dvs) H Q E0) : codeAny (model X.prog X.w) X.A (.call (.ref f) ⟨us, []⟩) (CodeR X pins σ Q) s := by
  obtain ⟨p, hot, hp⟩ := hc
  have r2 : Vals (vs ++ dvs) (us ++ ds) := r.append hd
  have hl : (us ++ ds).length = ps.length := by rw [← r2.length]; exact G.len _ _ _ _ h
  have P1 := I.pin p (List.mem_append_left _ hp)
  have hpin : L2H.PinOk X.stack H s p := ⟨P1.1, P1.2.1, fun hm => (List.mem_cons.mp (I.stkSub p.1 hm)).elim P1.2.2.1 P1.2.2.2.1, P1.2.2.2.2⟩
  refine codeAny_mono (G.run X.A X.stack s H ⟨us, []⟩ (us ++ ds) (vs ++ dvs) Q E0 p hr hot hpin I.env0 (hb s us I.kIn hl) r2 h) fun r s' hq => ?_
  cases r with
  | error e => exact hx pins H s e s' I hq
  | ok fl =>
    cases fl with
    | ret u => exact I.after hq
    | next => exact False.elim hq
    | brk => exact False.elim hq
    | cont => exact False.elim hq
theorem callD_hot (G : L2H.FnH X.prog X.w X.K X.mg X.base CX k f fd ps (spD (ct0 X) n F)) (hr : L2H.RoomH k X.A) (hc : L2H.HotC X) (hk : PySem.W.keepIn X.K (.ref f) = true) (hb : Binds X.K fd ps ds) (hd : Vals dvs ds) (hdd : ∀ c H, Reps c H dvs dds) (hx : ∀ σ, PassesAt CX X σ (E σ)) : CallD X E f n F dds :=
  ⟨hk, fun pins σ H s Q us vs I r h => run_fnHD G hr hc hb hd (hx σ) I r (spF_D (hdd _) h)⟩
theorem callD_imp {σ : L2.St} {H : Hp} {Q : VK} (h : rE (ctOf X) E (dCall n F dds fs) σ H Q) : tCb (ct0 X) n F dds E (rA (ctOf X) E fs) σ H Q := by
  obtain ⟨S, ρ, O, V, h⟩ := h
  exact ⟨S, ρ, O, V, PostA.fst h fun xs e1 h1 S1 H1 A vs g1 r1 n1 fr1 => call_at g1 r1 fr1 h1 (xs_at V)⟩
theorem de_call (G : CallD X E f n F dds) (hm : X.mg x = some (.ref f)) (ha : DA X E (e :: es) fs) (hg : Gl X x := by rfl) (hdb : (x == ("__debug__" : Str)) = false := by decide) (he : starEach (e :: es) X.env = (false, eval e X.env) :: starEach es X.env := by rfl)
    (hpl : (backTo pos (starEach es X.env)).any (·.1) = false := by rfl) : DE X E (.Call (.Name x p) (e :: es) [] pos) (dCall n F dds fs) := by
  refine pe_imp (t := tCb (ct0 X) n F dds E (rA (ctOf X) E fs)) ⟨fun pins s σ H Q I h => ?_⟩ fun _ _ _ h => callD_imp h
  refine wpAny_Call_Name_kw (ld_glob I hg hm ?_ hdb)
  refine PySem.W.callWith_K (h₀ := X.base) I.ok.mod.kin G.kp (thn (PA.run ha pos pins s σ H _ I h) fun us s1 ⟨vs, H1, I1, r, q⟩ => ⟨I1.kIn, ?_⟩) he hpl
  exact G.wp I1 r q
theorem de_call0 (G : CallD X E f n F dds) (hm : X.mg x = some (.ref f)) (hg : Gl X x := by rfl) (hdb : (x == ("__debug__" : Str)) = false := by decide) : DE X E (.Call (.Name x p) [] [] pos) (dCall n F dds aNil) := by
  refine pe_imp (t := tCb (ct0 X) n F dds E tNil) ⟨fun pins s σ H Q I h => ?_⟩ fun σ H Q h => ?_
  · refine wpAny_Call_Name_kw (ld_glob I hg hm ?_ hdb)
    exact PySem.W.callWith_K0 I.kIn G.kp (G.wp (us := []) (vs := []) I .nil h)
  · obtain ⟨S, ρ, O, V, h⟩ := h
    exact call_at (Gr.refl V.sub) .nil (fun _ z => by cases z) h (xs_at V)

/-! ### fields and methods of instances -/
/-- the value is an instance of the class at C -/
def asObj (C : Str) (x : EV) : Option (List (Str × D)) := match x with
  | .sh (.obj C' fl) => if C' = C then some fl else none
  | _ => none
theorem asObj_rep {c : Ct} {S H : Hp} {A : List Addr} {v : V} {x : EV} {C : Str} {fl : List (Str × D)} (r : EvRep c S H A v x) (h : asObj C x = some fl) : ∃ a dx vfl, v = .ref a ∧ S a = some (.ins (c.cl C) dx vfl) ∧ FReps c S vfl fl ∧ x = .sh (.obj C fl) := by
  unfold asObj at h
  split at h
  · split at h
    · rename_i hc
      cases h
      subst hc
      cases r with
      | sh r => cases r with
        | obj h r => exact ⟨_, _, _, rfl, h, r, rfl⟩
    · cases h
  · cases h
def dFld (C : Str) (f : Str) (f0 : Dl.Env → Res EV) : Dl.Env → Res EV := fun ρ => (f0 ρ).bind fun x => match asObj C x with
  | some fl => (match fl.lookup f with
    | some d => .ok (.sh d)
    | none => .stuck)
  | none => .stuck
theorem de_fld {C f : Str} (he : DE X E o f0) (cl : Cls X.K (clOf X.mg C)) (na : NoAttr X.K (clOf X.mg C) f) (hb : attributeBase o f X.env (eval o X.env) = eval o X.env := by rfl) : DE X E (.Attribute o f pos) (dFld C f f0) := by
  refine pe_imp (pe_fld he hb) fun σ H Q h => ?_
  obtain ⟨S, ρ, O, V, h⟩ := h
  refine ⟨S, ρ, O, V, Post.fst h fun x e1 h1 S1 H1 A v g1 r1 n1 fr1 => ?_⟩
  cases q : asObj C x with
  | none =>
    rw [q] at h1
    exact h1.elim
  | some fl =>
    rw [q] at h1
    obtain ⟨a, dx, vfl, rfl, ha, rf, _⟩ := asObj_rep r1 q
    cases q2 : fl.lookup f with
    | none =>
      simp only [q2] at h1
      exact h1.elim
    | some d =>
      simp only [q2] at h1
      obtain ⟨v, hv, rv⟩ := rf.lookup q2
      exact ⟨a, clOf X.mg C, dx, vfl, v, rfl, g1.sub _ _ ha, cl, na, hv, h1.sh g1 rv⟩
def dMeth (C m : Str) (n : Nat) (F : List D → Res EV) (dds : List D) (f0 : Dl.Env → Res EV) (fs : Dl.Env → Res (List EV)) : Dl.Env → Res EV := fun ρ => (f0 ρ).bind fun x => match asObj C x with
  | some fl => (match fl.lookup m with
    | none => (fs ρ).bind fun xs => callN n F dds (x :: xs)
    | some _ => .stuck)
  | none => .stuck
def tMb (c : Ct) (C : Addr) (m : Str) (n : Nat) (F : List D → Res EV) (dds : List D) (E : WS) (ta : TE) (t : TA) : TE := fun σ H Q => ta σ H fun x H1 => ∃ a dx fs, x = .ref a ∧ H1 a = some (.ins C dx fs) ∧ fs.lookup m = none ∧ t σ H1 fun vs H2 => spF c n F dds (x :: vs) H2 Q (E σ)
theorem meth_imp {C : Str} {σ : L2.St} {H : Hp} {Q : VK} (h : rE (ctOf X) E (dMeth C m n F dds f0 fs) σ H Q) : tMb (ct0 X) ((ct0 X).cl C) m n F dds E (rE (ctOf X) E f0) (rA (ctOf X) E fs) σ H Q := by
  obtain ⟨S, ρ, O, V, h⟩ := h
  refine ⟨S, ρ, O, V, Post.fst h fun x e1 h1 S1 H1 A v g1 r1 n1 fr1 => ?_⟩
  cases q : asObj C x with
  | none =>
    rw [q] at h1
    exact h1.elim
  | some fl =>
    rw [q] at h1
    obtain ⟨a, dx, vfl, rfl, ha, rf, ex⟩ := asObj_rep r1 q
    cases q2 : fl.lookup m with
    | some d =>
      simp only [q2] at h1
      exact h1.elim
    | none =>
      simp only [q2] at h1
      refine ⟨a, dx, vfl, rfl, g1.sub _ _ ha, rf.lookup_none q2, S1, ρ, O, V.gr g1, PostA.fst (Post.later h1 g1) fun xs e2 _ S2 H2 B vs g2 r2 n2 fr2 => ?_⟩
      rw [e2] at h1
      subst ex
      have rx : EvRep (ctOf X) S1 H1 [] (.ref a) (.sh (.obj C fl)) := .sh (.obj ha rf)
      have rr : EvsRep (ctOf X) S2 H2 ([] ++ B) (.ref a :: vs) (.sh (.obj C fl) :: xs) := .cons (rx.gr g2) r2
      exact call_at (g1.trans g2) rr (fun u hu => g1.hh.free (fr2 u (by simpa using hu))) h1 (xs_at V)
theorem de_meth {C : Str} {pl : Sem Bool} (he : DE X E o f0) (cl : Cls X.K (clOf X.mg C)) (hm : Meth X.K (clOf X.mg C) m f) (G : CallD X E f n F dds) (ha : DA X E (e :: es) fs)
    (hst : starEach (e :: es) X.env = (false, eval e X.env) :: starEach es X.env := by rfl) (hpl : (backTo pos (starEach es X.env)).any (·.1) = false := by rfl)
    (ht : eval (.Call (.Attribute o m apos) (e :: es) [] pos) X.env = (do
      let ov ← eval o X.env
      standAt apos.atName
      let (f, first) ← holding [ov] (getMethod ov m pl)
      callWith pos f first (backTo pos (starEach (e :: es) X.env)) (backToKw pos (keywordEach [] X.env))) := by rfl) :
    DE X E (.Call (.Attribute o m apos) (e :: es) [] pos) (dMeth C m n F dds f0 fs) := by
  refine pe_imp (t := tMb (ct0 X) ((ct0 X).cl C) m n F dds E (rE (ctOf X) E f0) (rA (ctOf X) E fs)) ⟨fun pins s σ H Q I h => ?_⟩ fun _ _ _ h => meth_imp h
  refine PySem.W.methodCall_KW (pl := pl) (thn (PE.run he pins s σ H _ I h) fun u s1 ⟨x, H1, I1, rx, a, dx, fs, ex, ea, l, q⟩ => ?_) ht
  subst ex
  obtain rfl : u = Value.ref a := rx
  refine getmeth_ok I1 ea cl hm l ?_
  refine PySem.W.callWith_K (first := [.ref a]) (h₀ := X.base) I.ok.mod.kin hm.kp (thn (PA.run ha pos pins s1 σ H1 _ I1 q) fun us s2 ⟨vs, H2, I2, r, q2⟩ => ⟨I2.kIn, ?_⟩) hst hpl
  exact G.wp (us := .ref a :: us) (vs := .ref a :: vs) I2 (.cons rfl r) q2
theorem de_meth0 {C : Str} {pl : Sem Bool} (he : DE X E o f0) (cl : Cls X.K (clOf X.mg C)) (hm : Meth X.K (clOf X.mg C) m f) (G : CallD X E f n F dds)
    (ht : eval (.Call (.Attribute o m apos) [] [] pos) X.env = (do
      let ov ← eval o X.env
      standAt apos.atName
      let (f, first) ← holding [ov] (getMethod ov m pl)
      callWith pos f first (backTo pos (starEach [] X.env)) (backToKw pos (keywordEach [] X.env))) := by rfl) :
    DE X E (.Call (.Attribute o m apos) [] [] pos) (dMeth C m n F dds f0 aNil) := by
  refine pe_imp (t := tMb (ct0 X) ((ct0 X).cl C) m n F dds E (rE (ctOf X) E f0) tNil) ⟨fun pins s σ H Q I h => ?_⟩ fun σ H Q h => ?_
  · refine PySem.W.methodCall_KW (pl := pl) (thn (PE.run he pins s σ H _ I h) fun u s1 ⟨x, H1, I1, rx, a, dx, fs, ex, ea, l, q⟩ => ?_) ht
    subst ex
    obtain rfl : u = Value.ref a := rx
    refine getmeth_ok I1 ea cl hm l ?_
    exact PySem.W.callWith_K0 (first := [.ref a]) I1.kIn hm.kp (G.wp (us := [.ref a]) (vs := [.ref a]) I1 (.cons rfl .nil) q)
  · obtain ⟨S, ρ, O, V, h⟩ := h
    refine ⟨S, ρ, O, V, Post.fst h fun x e1 h1 S1 H1 A v g1 r1 n1 fr1 => ?_⟩
    cases q : asObj C x with
    | none =>
      rw [q] at h1
      exact h1.elim
    | some fl =>
      rw [q] at h1
      obtain ⟨a, dx, vfl, rfl, ha, rf, ex⟩ := asObj_rep r1 q
      cases q2 : fl.lookup m with
      | some d =>
        simp only [q2] at h1
        exact h1.elim
      | none =>
        simp only [q2] at h1
        refine ⟨a, dx, vfl, rfl, g1.sub _ _ ha, rf.lookup_none q2, ?_⟩
        subst ex
        have rx : EvRep (ctOf X) S1 H1 [] (.ref a) (.sh (.obj C fl)) := .sh (.obj ha rf)
        have rr : EvsRep (ctOf X) S1 H1 ([] ++ []) [.ref a] [.sh (.obj C fl)] := .cons rx .nil
        exact call_at g1 rr (fun u hu => by cases hu) h1 (xs_at V)
end

/-! ### new instances -/
/-- growth but for the instance at x -/
structure GrX (x : Addr) (S H S' H' : Hp) : Prop where
  hh : ∀ b o, b ≠ x → H b = some o → H' b = some o
  ss : Same S S'
  sub : Same S' H'
  new : ∀ a o, H a = some o → S a = none → S' a = none
def PostI (c : Ct) (E : XK) (S H : Hp) (x : Addr) (C : Str) (r : Res (List (Str × D))) (k : Hp → Prop) : Prop := match r with
  | .ok fl => ∀ (S' H' : Hp) (dx : Addr) (vfl : List (Str × V)), GrX x S H S' H' → H' x = some (.ins (c.cl C) dx vfl) → FReps c S' vfl fl → S' x = none → k H'
  | .exc z => ∀ (S' H' : Hp) (e : Value) (d : Option Addr), GrX x S H S' H' → XRep c S' H' e d z → FrX H d → E e d H'
  | .stuck => False
/-- THE PROMISE of an __init__: the new instance's fields -/
def spI (c : Ct) (C : Str) (n : Nat) (F : List D → Res (List (Str × D))) : Sp := fun vs H Q E => vs.length = n + 1 ∧ ∃ S ds x dx ws, vs = .ref x :: ws ∧ Same S H ∧ S x = none ∧ H x = some (.ins (c.cl C) dx []) ∧ Reps c S ws ds ∧ PostI c E S H x C (F ds) (Q .non)
/-- C(..) as a function -/
def mkF (C : Str) (F : List D → Res (List (Str × D))) (ds : List D) : Res EV := (F ds).bind fun fl => .ok (.sh (.obj C fl))
theorem make_post {c : Ct} {E : XK} {x dx : Addr} {C : Str} {S H : Hp} {ds : List D} {vs : List V} {F : List D → Res (List (Str × D))} {Q : VK} (sub : Same S H) (r : Reps c S vs ds) (p : Post c (fun _ => E) S H (mkF C F ds) Q)
    (hx : H x = none) (hd : H dx = none) (hne : dx ≠ x) : PostI c E S (upd (upd H dx (.own x)) x (.ins (c.cl C) dx [])) x C (F ds) (fun H2 => V.non = .non ∧ Q (.ref x) H2) := by
  have up : ∀ b o, H b = some o → (upd (upd H dx (.own x)) x (.ins (c.cl C) dx [])) b = some o := fun b o e => by
    rw [upd_ne (ne_of_none e hx), upd_ne (ne_of_none e hd)]
    exact e
  have back : ∀ {S3 H3 : Hp}, GrX x S (upd (upd H dx (.own x)) x (.ins (c.cl C) dx [])) S3 H3 → Gr S H S3 H3 := fun {S3 H3} g3 =>
    ⟨fun b o e => g3.hh b o (ne_of_none e hx) (up b o e), g3.ss, g3.sub, fun a o e n => g3.new a o (up a o e) n⟩
  unfold mkF at p
  cases e : F ds with
  | stuck =>
    rw [e] at p
    exact p.elim
  | exc z =>
    rw [e] at p
    intro S3 H3 ev d g3 r3 f3
    refine p S3 H3 ev d (back g3) r3 fun d e => ?_
    cases q : H d with
    | none => rfl
    | some o =>
      have z := f3 d e
      rw [up d o q] at z
      cases z
  | ok fl =>
    rw [e] at p
    intro S3 H3 d vfl g3 hx3 rf nx
    have g4 : Gr S H (grab S3 H3 [x]) H3 := (back g3).grab (fun a ha => by
      rw [List.mem_singleton.mp ha]
      exact hx) fun a ha => by
      rw [List.mem_singleton.mp ha]
      exact nx
    refine ⟨rfl, Post.sh p g4 (.obj ((grab_in List.mem_cons_self).trans hx3) (rf.mono (same_grab fun a ha => ?_)))⟩
    rw [List.mem_singleton.mp ha]
    exact nx
section
variable {X : Cx} {CX : CXT} {k n : Nat} {f C : Addr} {fd : FuncData} {ps : List Str} {dvs : List V} {dds : List D} {ds : List Value} {E : WS} {F : List D → Res (List (Str × D))}
theorem run_makeS {sp : Sp} {E0 : XK} {pins : List (Addr × Obj)} {σ : L2.St} {H : Hp} {s : Shared} {Q : VK} {us : List Value} {vs : List V} (M : Mk X.K C f) (G : FnOk X.prog X.w X.K X.mg X.base CX k f fd ps sp) (hr : Room (k + 1) X.A) (hb : Binds X.K fd ps ds) (hd : Vals dvs ds)
    (hx : PassesAt CX X σ E0) (I : Inv X pins σ H s) (r : Vals vs us)
    (h : ∀ x dx, H x = none → H dx = none → dx ≠ x → sp (.ref x :: (vs ++ dvs)) (upd (upd H dx (.own x)) x (.ins C dx [])) (fun v H2 => v = .non ∧ Q (.ref x) H2) E0) :
    codeAny (model X.prog X.w) X.A (.call (.ref C) ⟨us, []⟩) (CodeR X pins σ Q) s := by
  have hq := h (s.heap.objs.size + 1) s.heap.objs.size (I.hok.fresh (Nat.le_succ _)) (I.hok.fresh (Nat.le_refl _)) (Nat.ne_of_lt (Nat.lt_succ_self _))
  have I2 := Inv.made (C := C) I
  have r2 : Vals (V.ref (s.heap.objs.size + 1) :: (vs ++ dvs)) (Value.ref (s.heap.objs.size + 1) :: (us ++ ds)) := .cons rfl (r.append hd)
  have hl : (Value.ref (s.heap.objs.size + 1) :: us ++ ds).length = ps.length := by
    have e := r2.length
    rw [G.len _ _ _ _ hq] at e
    exact e.symm
  refine (make_map (f := f) I.kIn M.makes M.init (beq_iff_eq.mp M.fn) (codeAny_mono (G.run _ X.stack _ _ ⟨Value.ref (s.heap.objs.size + 1) :: us, []⟩ (Value.ref (s.heap.objs.size + 1) :: (us ++ ds)) _ _ E0 (hr.make C us [])
    (I2.env0.make C us []) (hb _ (Value.ref (s.heap.objs.size + 1) :: us) I2.kIn hl) r2 hq) fun r s' hq' => ?_))
  cases r with
  | error e => exact hx pins _ _ e s' I2 hq'
  | ok fl =>
    cases fl with
    | ret u =>
      obtain ⟨v, H', I3, rv, ev, q3⟩ := I2.after hq'
      subst ev
      exact ⟨rv, ⟨V.ref (s.heap.objs.size + 1), H', I3, rfl, q3⟩⟩
    | next => exact False.elim hq'
    | brk => exact False.elim hq'
    | cont => exact False.elim hq'
/-- C(..) is called as a def is -/
theorem callD_make {C : Str} (M : Mk X.K (clOf X.mg C) f) (G : FnOk X.prog X.w X.K X.mg X.base CX k f fd ps (spI (ct0 X) C n F)) (hr : Room (k + 1) X.A) (hb : Binds X.K fd ps ds) (hd : Vals dvs ds) (hdd : ∀ c H, Reps c H dvs dds) (hx : ∀ σ, PassesAt CX X σ (E σ)) : CallD X E (clOf X.mg C) n (mkF C F) dds := by
  refine ⟨M.kp, fun pins σ H s Q us vs I r h => run_makeS M G hr hb hd (hx σ) I r fun x dx hx hd hne => ?_⟩
  obtain ⟨hl, S, ds, sub, rr, p⟩ := h
  have l2 := (hdd (ct0 X) S).length
  have rr2 := rr.append (hdd (ct0 X) S)
  have hp := make_post sub rr2 p hx hd hne
  refine ⟨by rw [List.length_cons, List.length_append]; omega, S, _, x, dx, _, rfl, fun b o e => ?_, sub.free hx, upd_same, rr2, hp⟩
  rw [upd_ne (ne_of_none (sub b o e) hx), upd_ne (ne_of_none (sub b o e) hd)]
  exact sub b o e
end
end Dl
set_option Elab.async false
set_option linter.all false
set_option maxRecDepth 100000
/-! DL6: statements, defs. -/
namespace Dl
open PySem PySem.Spec PyProof.Rows L2

/-- where a statement goes on -/
inductive Out where
  | nx (ρ : Dl.Env) | ret (x : EV) | bk (ρ : Dl.Env) | ct (ρ : Dl.Env) | ex (z : Xc) (ρ : Dl.Env)
abbrev Stm := Dl.Env → Res Out
/-- an expression within a statement: what it raises leaves from these slots -/
def Res.at {α : Type} (r : Res α) (ρ : Dl.Env) (k : α → Res Out) : Res Out := match r with
  | .ok a => k a
  | .exc z => .ok (.ex z ρ)
  | .stuck => .stuck
section
variable {α : Type} {ρ : Dl.Env} {k : α → Res Out}
@[simp] theorem Res.ok_at (a : α) : (Res.ok a).at ρ k = k a := rfl
@[simp] theorem Res.exc_at (z : Xc) : (Res.exc z).at ρ k = .ok (.ex z ρ) := rfl
@[simp] theorem Res.stuck_at : (Res.stuck).at ρ k = .stuck := rfl
end
/-- the entry: the heap, its shared part, the instance that an __init__ fills -/
structure Base where
  H : Hp
  S : Hp
  ex : List Addr
structure GrB (B : Base) (S' H' : Hp) : Prop where
  hh : ∀ b o, b ∉ B.ex → B.H b = some o → H' b = some o
  ss : Same B.S S'
  sub : Same S' H'
  new : ∀ a o, B.H a = some o → B.S a = none → S' a = none
  exs : ∀ a ∈ B.ex, ∃ C dx vfl, H' a = some (.ins C dx vfl)
structure Vw (c : Ct) (B : Base) (S H : Hp) (σ : L2.St) (ρ : Dl.Env) (O : List Addr) : Prop where
  v : View c S H σ ρ O
  g : GrB B S H
  own : ∀ a ∈ O, B.H a = none ∨ a ∈ B.ex
  ni : ∀ a ∈ O, ∀ C dx vfs, H a = some (.ins C dx vfs) → a ∈ B.ex
/-- a value handed back -/
def RetOk (c : Ct) (B : Base) (S' H' : Hp) (A : List Addr) (v : V) (x : EV) : Prop := GrB B S' H' ∧ EvRep c S' H' A v x ∧ A.Nodup ∧ (∀ a ∈ A, B.H a = none) ∧ x.noBo = true
def postS (c : Ct) (B : Base) (E : WS) (D : Ends) (r : Res Out) : Prop := match r with
  | .ok (.nx ρ) => ∀ S' H' σ' O', Vw c B S' H' σ' ρ O' → D.nx σ' H'
  | .ok (.bk ρ) => ∀ S' H' σ' O', Vw c B S' H' σ' ρ O' → D.bk σ' H'
  | .ok (.ct ρ) => ∀ S' H' σ' O', Vw c B S' H' σ' ρ O' → D.ct σ' H'
  | .ok (.ret x) => ∀ S' H' A v, RetOk c B S' H' A v x → D.rt v H'
  | .ok (.ex z ρ) => ∀ S' H' σ' O' e dx, Vw c B S' H' σ' ρ O' → XRep c S' H' e dx z → FrX B.H dx → E σ' e dx H'
  | .exc _ => False
  | .stuck => False
def rS (c : Ct) (E : WS) (g : Stm) : TS := fun D σ H => ∃ B S ρ O, Vw c B S H σ ρ O ∧ postS c B E D (g ρ)
def DS (X : Cx) (E : WS) (st : Stmt) (g : Stm) : Prop := PS X st (rS (ctOf X) E g)
def DSs (X : Cx) (E : WS) (st : List Stmt) (g : Stm) : Prop := PSs X st (rS (ctOf X) E g)
theorem ps_imp {X : Cx} {st : Stmt} {t t' : TS} (h : PS X st t) (i : ∀ D σ H, t' D σ H → t D σ H) : PS X st t' := ⟨fun pins s σ H D I z => h.run pins s σ H D I (i D σ H z)⟩
theorem pss_imp {X : Cx} {st : List Stmt} {t t' : TS} (h : PSs X st t) (i : ∀ D σ H, t' D σ H → t D σ H) : PSs X st t' := ⟨fun pins s σ H D I z => h.run pins s σ H D I (i D σ H z)⟩

section
variable {c : Ct} {B : Base} {E : WS} {D : Ends} {S H S1 H1 : Hp} {σ : L2.St} {ρ : Dl.Env} {O : List Addr}
theorem GrB.gr (b : GrB B S H) (g : Gr S H S1 H1) : GrB B S1 H1 :=
  ⟨fun x o h e => g.hh x o (b.hh x o h e), b.ss.trans g.ss, g.sub, fun a o e n => by
    by_cases h : a ∈ B.ex
    · obtain ⟨_, _, _, q⟩ := b.exs a h
      exact g.new a _ q (b.new a o e n)
    · exact g.new a o (b.hh a o h e) (b.new a o e n), fun a h => by
    obtain ⟨C, dx, vfl, q⟩ := b.exs a h
    exact ⟨C, dx, vfl, g.hh a _ q⟩⟩
theorem Vw.niG (v : Vw c B S H σ ρ O) (g : Same H H1) : ∀ a ∈ O, ∀ C dx vfs, H1 a = some (.ins C dx vfs) → a ∈ B.ex := fun a ha C dx vfs e => by
  obtain ⟨⟨ob, eo⟩, _⟩ := v.v.sl.alive a ha
  have z := g a ob eo
  rw [e] at z
  cases z
  exact v.ni a ha C dx vfs eo
theorem Vw.gr (v : Vw c B S H σ ρ O) (g : Gr S H S1 H1) : Vw c B S1 H1 σ ρ O := ⟨v.v.gr g, v.g.gr g, v.own, v.niG g.hh⟩
/-- fresh behind growth: fresh ahead of the entry -/
theorem Vw.fresh (v : Vw c B S H σ ρ O) {A : List Addr} (fr : ∀ a ∈ A, H a = none) : ∀ a ∈ A, B.H a = none := fun a ha => by
  cases q : B.H a with
  | none => rfl
  | some o =>
    by_cases h : a ∈ B.ex
    · obtain ⟨_, _, _, z⟩ := v.g.exs a h
      rw [fr a ha] at z
      cases z
    · have z := v.g.hh a o h q
      rw [fr a ha] at z
      cases z
theorem Vw.freshX (v : Vw c B S H σ ρ O) {dx : Option Addr} (f : FrX H dx) : FrX B.H dx := fun d e => v.fresh (A := [d]) (fun a ha => by rw [List.mem_singleton.mp ha]; exact f d e) d List.mem_cons_self
theorem Vw.sub (v : Vw c B S H σ ρ O) : Same S H := v.v.sub
/-- an expression ahead of a statement's end -/
theorem postS.fst {r : Res EV} {k : EV → Res Out} {Q : VK} (h : postS c B E D (r.at ρ k)) (v : Vw c B S H σ ρ O)
    (go : ∀ x, r = .ok x → postS c B E D (k x) → ∀ S1 H1 A u, Gr S H S1 H1 → EvRep c S1 H1 A u x → A.Nodup → (∀ a ∈ A, H a = none) → Q u H1) : Post c (xs c E ρ O) S H r Q := by
  cases r with
  | ok x => exact fun S1 H1 A u g re nd fr => go x rfl h S1 H1 A u g re nd fr
  | exc x => exact fun S1 H1 e dx g z f σ' sl => h S1 H1 σ' O e dx ⟨⟨g.sub, sl, v.v.nd⟩, v.g.gr g, v.own, v.niG g.hh⟩ z (v.freshX f)
  | stuck => exact h
theorem postS.fstT {r : Res Bool} {k : Bool → Res Out} {Q : Bool → Hp → Prop} (h : postS c B E D (r.at ρ k)) (v : Vw c B S H σ ρ O)
    (go : ∀ x, r = .ok x → postS c B E D (k x) → ∀ S1 H1, Gr S H S1 H1 → Q x H1) : PostT c (xs c E ρ O) S H r Q := by
  cases r with
  | ok x => exact fun S1 H1 g => go x rfl h S1 H1 g
  | exc x => exact fun S1 H1 e dx g z f σ' sl => h S1 H1 σ' O e dx ⟨⟨g.sub, sl, v.v.nd⟩, v.g.gr g, v.own, v.niG g.hh⟩ z (v.freshX f)
  | stuck => exact h

/-! ### slots replaced -/
def SV.free : SV → Bool
  | .lk _ => false
  | .mk _ _ => false
  | _ => true
/-- slot i gets x' (what it held is dropped) -/
theorem Vw.put {i : Nat} {x x' : SV} {A' : List Addr} {v' : V} (v : Vw c B S H σ ρ O) (e : ρ[i]? = some x) (r : SRep c S H A' (some v') x') (nd : A'.Nodup) (fr : ∀ a ∈ A', B.H a = none) (ap : ∀ a ∈ A', a ∉ O) (hA : ∀ a ∈ A', ∀ C dx vfs, H a ≠ some (.ins C dx vfs)) : ∃ O', Vw c B S H (σ.set i (some v')) (ρ.set i x') O' := by
  obtain ⟨A, o, q1, q2, q3, q4, q5⟩ := v.v.sl.at_ v.v.nd e
  obtain ⟨O', p1, p2, p3⟩ := q5 S H A' (some v') x' (Same.refl _) (fun a ha _ => ⟨rfl, (v.v.sl.alive a ha).2⟩) r nd (fun a ha ho => absurd ho (ap a ha))
  exact ⟨O', ⟨v.sub, p1, p2⟩, v.g, fun a ha => (p3 a ha).elim (fun z => .inl (fr a z)) fun z => v.own a z.1, fun a ha C dx vfs e => (p3 a ha).elim (fun z => absurd e (hA a z C dx vfs)) fun z => v.ni a z.1 C dx vfs e⟩
theorem List.set_same {α : Type} {l : List α} {i : Nat} {x : α} (h : l[i]? = some x) : l.set i x = l := by
  obtain ⟨hi, e⟩ := List.getElem?_eq_some_iff.mp h
  rw [← e]
  exact List.set_getElem_self hi
/-- the object of slot i is changed in place -/
theorem Vw.write {i : Nat} {x x' : SV} {H2 : Hp} {v0 : V} (v : Vw c B S H σ ρ O) (e : ρ[i]? = some x) (hσ : σ[i]? = some (some v0))
    (go : ∀ A, SRep c S H A (some v0) x → A.Nodup → (∀ a ∈ A, a ∈ O) → ∃ A', SRep c S H2 A' (some v0) x' ∧ A'.Nodup ∧ (∀ a ∈ A', a ∈ A ∨ (a ∉ O ∧ B.H a = none)) ∧ (∀ b, b ∉ A → ∀ o, H b = some o → H2 b = some o) ∧ (∀ a ∈ B.ex, a ∈ A → ∃ C dx vfl, H2 a = some (.ins C dx vfl)) ∧ (∀ a ∈ A', ∀ C dx vfs, H2 a = some (.ins C dx vfs) → a ∈ B.ex)) :
    ∃ O', Vw c B S H2 σ (ρ.set i x') O' := by
  obtain ⟨A, o, q1, q2, q3, q4, q5⟩ := v.v.sl.at_ v.v.nd e
  rw [hσ] at q1
  cases q1
  obtain ⟨A', a1, a2, a3, a4, a5, a6⟩ := go A q2 q3 q4
  obtain ⟨O', p1, p2, p3⟩ := q5 S H2 A' (some v0) x' (Same.refl _) (fun a ha hn => by
    obtain ⟨⟨ob, eo⟩, en⟩ := v.v.sl.alive a ha
    exact ⟨by rw [eo]; exact a4 a hn ob eo, en⟩) a1 a2 fun a ha ho => by
      rcases a3 a ha with z | z
      · exact z
      · exact absurd ho z.1
  rw [List.set_same hσ] at p1
  have sub2 : Same S H2 := fun b ob eb => a4 b (fun z => by
    have := (v.v.sl.alive b (q4 b z)).2
    rw [eb] at this
    cases this) ob (v.sub b ob eb)
  refine ⟨O', ⟨sub2, p1, p2⟩, ⟨fun b ob hb eb => ?_, v.g.ss, sub2, v.g.new, fun a ha => ?_⟩, fun a ha => ?_, fun a ha => ?_⟩
  · by_cases hA : b ∈ A
    · rcases v.own b (q4 b hA) with z | z
      · rw [eb] at z
        cases z
      · exact absurd z hb
    · exact a4 b hA ob (v.g.hh b ob hb eb)
  · by_cases hA : a ∈ A
    · exact a5 a ha hA
    · obtain ⟨C, dx, vfl, q⟩ := v.g.exs a ha
      exact ⟨C, dx, vfl, a4 a hA _ q⟩
  · rcases p3 a ha with z | z
    · rcases a3 a z with z | z
      · exact v.own a (q4 a z)
      · exact .inl z.2
    · exact v.own a z.1
  · intro C dx vfs e
    rcases p3 a ha with z | z
    · exact a6 a z C dx vfs e
    · obtain ⟨⟨ob, eo⟩, _⟩ := v.v.sl.alive a z.1
      have y := a4 a z.2 ob eo
      rw [e] at y
      cases y
      exact v.ni a z.1 C dx vfs eo
end

/-! ### blocks and small statements -/
def dNext : Stm := fun ρ => .ok (.nx ρ)
def dSeq (g1 g2 : Stm) : Stm := fun ρ => (g1 ρ).bind fun o => match o with
  | .nx ρ1 => g2 ρ1
  | o => .ok o
def dIf (t : Dl.Env → Res Bool) (g1 g2 : Stm) : Stm := fun ρ => (t ρ).at ρ fun k => if k = true then g1 ρ else g2 ρ
def dDrop (f : Dl.Env → Res EV) : Stm := fun ρ => (f ρ).at ρ fun _ => .ok (.nx ρ)
def dRet (f : Dl.Env → Res EV) : Stm := fun ρ => (f ρ).at ρ fun x => match x with
  | .bo _ => .stuck
  | x => .ok (.ret x)
def dRetV (i : Nat) : Stm := fun ρ => match ρ[i]? with
  | some (.sh d) => .ok (.ret (.sh d))
  | some (.own ts) => .ok (.ret (.fr ts))
  | some (.lk ts) => .ok (.ret (.fr ts))
  | _ => .stuck
def dRetN : Stm := fun _ => .ok (.ret (.sh .non))
def dBreak : Stm := fun ρ => .ok (.bk ρ)
def dCont : Stm := fun ρ => .ok (.ct ρ)
def dNever : Stm := fun _ => .stuck
section
variable {X : Cx} {E : WS} {st : Stmt} {rest : List Stmt} {g1 g2 : Stm} {f1 : Dl.Env → Res EV} {t1 : Dl.Env → Res Bool} {e : Expr} {pos : Pos}
theorem dss_nil : DSs X E [] dNext := by
  refine pss_imp pss_nil fun D σ H h => ?_
  obtain ⟨B, S, ρ, O, V, h⟩ := h
  exact h S H σ O V
theorem dss_cons (h1 : DS X E st g1) (h2 : DSs X E rest g2) : DSs X E (st :: rest) (dSeq g1 g2) := by
  refine pss_imp (pss_cons h1 h2) fun D σ H h => ?_
  obtain ⟨B, S, ρ, O, V, h⟩ := h
  refine ⟨B, S, ρ, O, V, ?_⟩
  unfold dSeq at h
  cases q : g1 ρ with
  | stuck => rw [q] at h; exact h
  | exc z => rw [q] at h; exact h
  | ok o =>
    rw [q] at h
    cases o with
    | nx ρ1 => exact fun S1 H1 σ1 O1 V1 => ⟨B, S1, ρ1, O1, V1, h⟩
    | ret x => exact h
    | bk ρ1 => exact h
    | ct ρ1 => exact h
    | ex z ρ1 => exact h
theorem dss_one (h1 : DS X E st g1) : DSs X E [st] g1 := by
  refine pss_imp (pss_one h1) fun D σ H h => h
theorem ds_pass : DS X E (.Pass pos) dNext := by
  refine ps_imp ps_pass fun D σ H h => ?_
  obtain ⟨B, S, ρ, O, V, h⟩ := h
  exact h S H σ O V
theorem ds_break : DS X E (.Break pos) dBreak := by
  refine ps_imp ps_break fun D σ H h => ?_
  obtain ⟨B, S, ρ, O, V, h⟩ := h
  exact h S H σ O V
theorem ds_cont : DS X E (.Continue pos) dCont := by
  refine ps_imp ps_continue fun D σ H h => ?_
  obtain ⟨B, S, ρ, O, V, h⟩ := h
  exact h S H σ O V
theorem ds_never : DS X E st dNever := by
  refine ps_imp ps_never fun D σ H h => ?_
  obtain ⟨B, S, ρ, O, V, h⟩ := h
  exact h
theorem ds_if {a b : List Stmt} (ht : DT X E e t1) (ha : DSs X E a g1) (hb : DSs X E b g2) : DS X E (.If e a b pos) (dIf t1 g1 g2) := by
  refine ps_imp (ps_if ht ha hb) fun D σ H h => ?_
  obtain ⟨B, S, ρ, O, V, h⟩ := h
  refine ⟨S, ρ, O, V.v, postS.fstT h V fun k e1 h1 S1 H1 g => ?_⟩
  cases k with
  | true => exact iteT ⟨B, S1, ρ, O, V.gr g, h1⟩
  | false => exact iteF ⟨B, S1, ρ, O, V.gr g, h1⟩
theorem ds_drop (he : DE X E e f1) (hs : swapsWith e none pos.line X.env = pure false := by rfl) : DS X E (.Expr e pos) (dDrop f1) := by
  refine ps_imp (ps_expr he hs) fun D σ H h => ?_
  obtain ⟨B, S, ρ, O, V, h⟩ := h
  exact ⟨S, ρ, O, V.v, postS.fst h V fun x e1 h1 S1 H1 A u g r nd fr => h1 S1 H1 σ O (V.gr g)⟩
theorem ds_ret (he : DE X E e f1) : DS X E (.Return (some e) pos) (dRet f1) := by
  refine ps_imp (ps_ret he) fun D σ H h => ?_
  obtain ⟨B, S, ρ, O, V, h⟩ := h
  refine ⟨S, ρ, O, V.v, postS.fst h V fun x e1 h1 S1 H1 A u g r nd fr => ?_⟩
  split at h1
  · exact h1.elim
  · rename_i hx
    refine h1 S1 H1 A u ⟨V.g.gr g, r, nd, V.fresh fr, ?_⟩
    cases x with
    | bo ts => exact absurd rfl (hx ts)
    | _ => rfl
theorem ds_retV (i : Nat) {x : Str} {pos' : Pos} (hN : X.N[i]? = some x := by rfl) (hv : Vis X.env.scope x := by first | exact Or.inl rfl | exact Or.inr (Or.inl rfl) | exact Or.inr (Or.inr rfl)) (hd : (x == ("__debug__" : Str)) = false := by decide)
    (hcd : (x == ("__classdict__" : Str)) = false := by decide) : DS X E (.Return (some (.Name x pos')) pos) (dRetV i) := by
  refine ps_imp (ps_ret (pe_var (i := i) hN hv hd hcd)) fun D σ H h => ?_
  obtain ⟨B, S, ρ, O, V, h⟩ := h
  unfold dRetV at h
  cases e : ρ[i]? with
  | none =>
    rw [e] at h
    exact h.elim
  | some y =>
    obtain ⟨A, o, q1, q2, q3, q4, _⟩ := V.v.sl.at_ V.v.nd e
    rw [e] at h
    have notEx : (∀ a ∈ A, ∃ vs, H a = some (.lst vs)) → ∀ a ∈ A, B.H a = none := fun al a ha => by
      rcases V.own a (q4 a ha) with z | z
      · exact z
      · obtain ⟨_, _, _, y⟩ := V.g.exs a z
        obtain ⟨_, w⟩ := al a ha
        rw [w] at y
        cases y
    cases q2 with
    | no => exact h.elim
    | sh r => exact ⟨_, q1, h S H [] _ ⟨V.g, .sh r, List.nodup_nil, fun _ z => (by cases z), rfl⟩⟩
    | own r => exact ⟨_, q1, h S H A _ ⟨V.g, .fr r, q3, notEx fun a ha => (r.alive a ha).1, rfl⟩⟩
    | lk r => exact ⟨_, q1, h S H A _ ⟨V.g, .fr r, q3, notEx fun a ha => (r.alive a ha).1, rfl⟩⟩
    | mk _ _ _ => exact h.elim
    | dic _ _ _ => exact h.elim
    | xc _ => exact h.elim
theorem ds_retN : DS X E (.Return none pos) dRetN := by
  refine ps_imp ps_retN fun D σ H h => ?_
  obtain ⟨B, S, ρ, O, V, h⟩ := h
  exact h S H [] .non ⟨V.g, .sh .non, List.nodup_nil, fun _ z => (by cases z), rfl⟩

/-! ### name = e -/
def SV.of (x : EV) : Option SV := match x with
  | .sh d => some (.sh d)
  | .fr ts => some (.own ts)
  | .bo _ => none
def putR (i : Nat) (x : SV) (ρ : Dl.Env) : Option Dl.Env := match ρ[i]? with
  | some y => if y.free then some (ρ.set i x) else none
  | none => none
def dSet (i : Nat) (f : Dl.Env → Res EV) : Stm := fun ρ => (f ρ).at ρ fun x => match SV.of x with
  | some y => (match putR i y ρ with
    | some ρ1 => .ok (.nx ρ1)
    | none => .stuck)
  | none => .stuck
theorem put_ev {c : Ct} {B : Base} {S H S1 H1 : Hp} {σ : L2.St} {ρ ρ1 : Dl.Env} {O A : List Addr} {i : Nat} {u : V} {x : EV} {y : SV} (V : Vw c B S H σ ρ O) (g : Gr S H S1 H1) (r : EvRep c S1 H1 A u x) (nd : A.Nodup) (fr : ∀ a ∈ A, H a = none) (e1 : SV.of x = some y) (e2 : putR i y ρ = some ρ1) :
    ∃ O', Vw c B S1 H1 (σ.set i (some u)) ρ1 O' := by
  unfold putR at e2
  cases q : ρ[i]? with
  | none => rw [q] at e2; cases e2
  | some z =>
    rw [q] at e2
    simp only at e2
    split at e2
    · cases e2
      have ap : ∀ a ∈ A, a ∉ O := fun a ha ho => by
        obtain ⟨⟨ob, eo⟩, _⟩ := V.v.sl.alive a ho
        rw [fr a ha] at eo
        cases eo
      cases r with
      | sh r =>
        cases e1
        exact (V.gr g).put q (.sh r) nd (V.fresh fr) ap (fun _ z => by cases z)
      | fr r =>
        cases e1
        exact (V.gr g).put q (.own r) nd (V.fresh fr) ap fun a ha C dx vfs z => by
          obtain ⟨⟨_, e⟩, _⟩ := r.alive a ha
          rw [e] at z
          cases z
      | bo r => cases e1
    · cases e2
theorem ds_set {i : Nat} {x : Str} {pos' : Pos} (hN : X.N.Nodup) (he : DE X E e f1) (hi : X.N[i]? = some x := by rfl) (hx : Loc X.env.scope x := by first | exact Or.inl rfl | exact Or.inr rfl) (hs : swapsWith e (some (.Name x pos')) pos.line X.env = pure false := by rfl)
    (hf : X.fn x = true ∨ X.env.scope.names.lookup x = some .local := by first | exact .inl rfl | exact .inr rfl) : DS X E (.Assign [.Name x pos'] e pos) (dSet i f1) := by
  refine ps_imp (ps_set (i := i) hN hi hx he hs hf) fun D σ H h => ?_
  obtain ⟨B, S, ρ, O, V, h⟩ := h
  refine ⟨S, ρ, O, V.v, postS.fst h V fun x e1 h1 S1 H1 A u g r nd fr => ?_⟩
  cases q : SV.of x with
  | none =>
    rw [q] at h1
    exact h1.elim
  | some y =>
    simp only [q] at h1
    cases q2 : putR i y ρ with
    | none =>
      simp only [q2] at h1
      exact h1.elim
    | some ρ1 =>
      simp only [q2] at h1
      obtain ⟨O', V'⟩ := put_ev V g r nd fr q q2
      exact h1 S1 H1 _ O' V'

/-! ### x.append(e), x[j] = e for a list that the slot owns -/
def dApp (i : Nat) (f : Dl.Env → Res EV) : Stm := fun ρ => match ρ[i]? with
  | some (.own ts) => (f ρ).at ρ fun x => match x.t? with
    | some t => if ts.length < 16777216 then .ok (.nx (ρ.set i (.own (ts ++ [t])))) else .stuck
    | none => .stuck
  | _ => .stuck
theorem PostA.one {c : Ct} {S H : Hp} {r : Res EV} {Q : List V → Hp → Prop} (h : Post c (xs c E ρ O) S H r (fun v H1 => Q [v] H1)) : PostA c (xs c E ρ O) S H (r.bind fun x => .ok [x]) Q := by
  cases r with
  | ok x =>
    intro S1 H1 A vs g r nd fr
    obtain ⟨v, rfl, rv⟩ := ev1 r
    exact h S1 H1 A v g rv nd fr
  | exc x => exact h
  | stuck => exact h
theorem da_one (he : DE X E e f1) (hs : starEach [e] X.env = (false, eval e X.env) :: starEach [] X.env := by rfl) : PA X [e] (fun σ H Q => rE (ctOf X) E f1 σ H fun v H1 => Q [v] H1) := by
  refine pa_imp (pa_cons he pa_nil hs) fun σ H Q h => h
theorem ev_tree {c : Ct} {S H : Hp} {A : List Addr} {v : V} {x : EV} {t : T} (r : EvRep c S H A v x) (e : x.t? = some t) : Own c S H A v t := by
  cases r with
  | sh r => cases e; exact .leaf r
  | fr r => cases e; exact r
  | bo r => cases e
theorem ds_app (i : Nat) {x : Str} {p1 p2 p3 : Pos} (he : DE X E e f1) (hN : X.N[i]? = some x := by rfl) (hv : Vis X.env.scope x := by first | exact Or.inl rfl | exact Or.inr (Or.inl rfl) | exact Or.inr (Or.inr rfl)) (hd : (x == ("__debug__" : Str)) = false := by decide)
    (hcd : (x == ("__classdict__" : Str)) = false := by decide) (hbase : attributeBase (.Name x p1) "append" X.env (eval (.Name x p1) X.env) = eval (.Name x p1) X.env := by rfl)
    (hfew : ((backTo p3 (starEach [e] X.env)).all (fun x => !x.1) && (backToKw p3 (keywordEach [] X.env)).all (fun x => x.1.isSome)
      && decide ([e].length + ([] : List Keyword).length + (if ([] : List Keyword).isEmpty then 0 else 1) < 30)) = true := by rfl)
    (hline : (p2.endLine == p3.line) = true := by rfl) (hs : starEach [e] X.env = (false, eval e X.env) :: starEach [] X.env := by rfl) (hplain : (backTo p3 (starEach [] X.env)).any (·.1) = false := by rfl)
    (hsw : swapsWith (.Call (.Attribute (.Name x p1) "append" p2) [e] [] p3) none pos.line X.env = pure false := by rfl) :
    DS X E (.Expr (.Call (.Attribute (.Name x p1) "append" p2) [e] [] p3) pos) (dApp i f1) := by
  refine ps_imp (ps_expr (pe_bm PySem.F.plainAttrs_list PySem.F.slot_list_append PySem.F.type_list_append mt_append (pe_var (i := i) hN hv hd hcd) (da_one he hs) hbase hfew hline hs hplain) hsw) fun D σ H h => ?_
  obtain ⟨B, S, ρ, O, V, h⟩ := h
  have hz : sizeLine = 16777216 := sizeLine_eq
  unfold dApp at h
  cases q : ρ[i]? with
  | none =>
    rw [q] at h
    exact h.elim
  | some y =>
    rw [q] at h
    cases y with
    | own ts =>
      obtain ⟨A, o, q1, q2, q3, q4, _⟩ := V.v.sl.at_ V.v.nd q
      cases q2 with
      | own r =>
        cases r with
        | @node a A0 vs _ ha na rs =>
          refine ⟨_, q1, .inl ⟨rfl, _, SqL.of ha⟩, S, ρ, O, V.v, postS.fst h V fun x e1 h1 S1 H1 C u g r nd fr => ?_⟩
          cases q5 : x.t? with
          | none =>
            rw [q5] at h1
            exact h1.elim
          | some t =>
            simp only [q5] at h1
            split at h1
            · rename_i hl
              have hlen := rs.length
              refine ⟨a, vs, u, rfl, rfl, g.hh _ _ ha, by omega, ?_⟩
              have V1 := V.gr g
              have ot := ev_tree r q5
              obtain ⟨O', V'⟩ := V1.write (H2 := upd H1 a (.lst (vs ++ [u]))) (x' := .own (ts ++ [t])) q q1 fun A2 r2 n2 s2 => by
                cases r2 with
                | own r2 =>
                  cases r2 with
                  | @node _ A3 vs3 _ ha3 na3 rs3 =>
                    have ev : vs3 = vs := by
                      have := g.hh _ _ ha
                      rw [ha3] at this
                      cases this
                      rfl
                    subst ev
                    have n3 := List.nodup_cons.mp n2
                    have aC : a ∉ C := fun z => by
                      have y := fr a z
                      rw [ha] at y
                      cases y
                    have dj : ∀ b ∈ A3, b ∉ C := fun b hb hc => by
                      have y := fr b hc
                      have al := V.v.sl.alive b (s2 b (List.mem_cons_of_mem _ hb))
                      obtain ⟨⟨_, eo⟩, _⟩ := al
                      rw [y] at eo
                      cases eo
                    have k1 : Keeps A3 S1 H1 (upd H1 a (.lst (vs3 ++ [u]))) := fun b hb => ⟨upd_ne fun z => n3.1 (z ▸ hb), (rs3.alive b hb).2⟩
                    have k2 : Keeps C S1 H1 (upd H1 a (.lst (vs3 ++ [u]))) := fun b hb => ⟨upd_ne fun z => aC (z ▸ hb), (ot.alive b hb).2⟩
                    have o1 := rs3.mono (Same.refl _) k1
                    have o2 := ot.mono (Same.refl _) k2
                    refine ⟨a :: (A3 ++ (C ++ [])), .own (.node upd_same na3 (o1.append (.cons o2 .nil))), ?_, fun b hb => ?_, fun b hb ob eb => ?_, fun b hx hb => ?_, fun b hb C' dx' vf' eb => ?_⟩
                    · rw [List.append_nil]
                      refine List.nodup_cons.mpr ⟨fun z => (List.mem_append.mp z).elim n3.1 aC, List.nodup_append.mpr ⟨n3.2, nd, fun b hb b' hb' z => ?_⟩⟩
                      subst z
                      exact dj b hb hb'
                    · rcases List.mem_cons.mp hb with z | hb
                      · exact .inl (List.mem_cons.mpr (.inl z))
                      · rw [List.append_nil] at hb
                        rcases List.mem_append.mp hb with hb | hb
                        · exact .inl (List.mem_cons_of_mem _ hb)
                        · refine .inr ⟨fun ho => ?_, V.fresh fr b hb⟩
                          obtain ⟨⟨_, eo⟩, _⟩ := V.v.sl.alive b ho
                          rw [fr b hb] at eo
                          cases eo
                    · rw [upd_ne fun z => hb (List.mem_cons.mpr (.inl z))]
                      exact eb
                    · obtain ⟨C', dx', vf', y⟩ := V1.g.exs b hx
                      rcases List.mem_cons.mp hb with z | hb
                      · subst z
                        rw [ha3] at y
                        cases y
                      · obtain ⟨⟨_, eo⟩, _⟩ := rs3.alive b hb
                        rw [eo] at y
                        cases y
                    · rw [List.append_nil] at hb
                      rcases List.mem_cons.mp hb with z | hb
                      · rw [z, upd_same] at eb
                        cases eb
                      · rcases List.mem_append.mp hb with hb | hb
                        · rw [(k1 b hb).1] at eb
                          obtain ⟨⟨_, eo⟩, _⟩ := rs3.alive b hb
                          rw [eo] at eb
                          cases eb
                        · rw [(k2 b hb).1] at eb
                          obtain ⟨⟨_, eo⟩, _⟩ := ot.alive b hb
                          rw [eo] at eb
                          cases eb
              exact h1 S1 _ σ O' V'
            · exact h1.elim
    | no => exact h.elim
    | sh d => exact h.elim
    | lk ts => exact h.elim
    | mk C fs => exact h.elim
    | dic kvs => exact h.elim
    | xc z => exact h.elim
end

/-! ### a slot's list is given away (nothing runs) -/
def dFrz (i : Nat) (g : Stm) : Stm := fun ρ => match ρ[i]? with
  | some (.own ts) => g (ρ.set i (.sh (.lst (T.toDs ts))))
  | _ => g ρ
theorem dss_frz (i : Nat) {sts : List Stmt} (h : DSs X E sts g1) : DSs X E sts (dFrz i g1) := by
  refine pss_imp h fun D σ H h => ?_
  obtain ⟨B, S, ρ, O, V, h⟩ := h
  have stay : ∀ {g : Stm}, g = g1 → postS (ctOf X) B E D (g1 ρ) → rS (ctOf X) E g1 D σ H := fun _ z => ⟨B, S, ρ, O, V, z⟩
  unfold dFrz at h
  cases q : ρ[i]? with
  | none =>
    rw [q] at h
    exact ⟨B, S, ρ, O, V, h⟩
  | some y =>
    rw [q] at h
    cases y with
    | own ts =>
      obtain ⟨A, o, q1, q2, q3, q4, q5⟩ := V.v.sl.at_ V.v.nd q
      cases q2 with
      | own r =>
        rename_i v
        have nS : ∀ a ∈ A, S a = none := fun a ha => (r.alive a ha).2
        have hB : ∀ a ∈ A, B.H a = none := fun a ha => by
          rcases V.own a (q4 a ha) with z | z
          · exact z
          · obtain ⟨_, _, _, y⟩ := V.g.exs a z
            obtain ⟨⟨_, w⟩, _⟩ := r.alive a ha
            rw [w] at y
            cases y
        have rr : Rep (ctOf X) (grab S H A) v (.lst (T.toDs ts)) := by
          have := r.grabbed (same_grab nS) fun u hu => grab_in hu
          rw [T.toD] at this
          exact this
        obtain ⟨O', p1, p2, p3⟩ := q5 (grab S H A) H [] (some v) (.sh (.lst (T.toDs ts))) (same_grab nS) (fun a ha hn => ⟨rfl, by rw [grab_out hn]; exact (V.v.sl.alive a ha).2⟩) (.sh rr) List.nodup_nil fun a ha => by cases ha
        rw [List.set_same q1] at p1
        refine ⟨B, grab S H A, _, O', ⟨⟨grab_same V.sub, p1, p2⟩, ⟨V.g.hh, V.g.ss.trans (same_grab nS), grab_same V.sub, fun a ob e n => ?_, V.g.exs⟩, fun a ha => ?_, fun a ha => ?_⟩, h⟩
        · have hn : a ∉ A := fun z => by
            rw [hB a z] at e
            cases e
          rw [grab_out hn]
          exact V.g.new a ob e n
        · rcases p3 a ha with z | z
          · cases z
          · exact V.own a z.1
        · intro C dx vfs e
          rcases p3 a ha with z | z
          · cases z
          · exact V.ni a z.1 C dx vfs e
    | no => exact ⟨B, S, ρ, O, V, h⟩
    | sh d => exact ⟨B, S, ρ, O, V, h⟩
    | lk ts => exact ⟨B, S, ρ, O, V, h⟩
    | mk C fs => exact ⟨B, S, ρ, O, V, h⟩
    | dic kvs => exact ⟨B, S, ρ, O, V, h⟩
    | xc z => exact ⟨B, S, ρ, O, V, h⟩


/-! ### a def -/
def runD (n : Nat) (g : Stm) (ds : List D) : Res EV := match g (ds.map SV.sh ++ List.replicate (n - ds.length) SV.no) with
  | .ok (.nx _) => .ok (.sh .non)
  | .ok (.ret x) => .ok x
  | .ok (.ex z _) => .exc z
  | _ => .stuck
theorem slots_start {c : Ct} {S H : Hp} : ∀ {vs : List V} {ds : List D} (n : Nat), Reps c S vs ds → Slots c S H (vs.map some ++ List.replicate n none) (ds.map SV.sh ++ List.replicate n SV.no) []
  | _, _, 0, .nil => .nil
  | _, _, n + 1, .nil => by
    have q : Slots c S H (none :: (([] : List V).map some ++ List.replicate n none)) (SV.no :: (([] : List D).map SV.sh ++ List.replicate n SV.no)) ([] ++ []) := .cons .no (slots_start n .nil)
    exact q
  | _, _, n, .cons h r => by
    have q : Slots c S H (_ :: _) (_ :: _) ([] ++ []) := .cons (.sh h) (slots_start (H := H) n r)
    exact q
theorem Post.re {c : Ct} {xa : Addr} {xd : Option Addr} {xc : Value} {E : XS} {S H : Hp} {r : Res EV} {Q : VK} (p : Post c E S H r Q) : Post (c.re xa xd xc) E S H r Q := by
  cases r with
  | ok x => exact fun S' H' A v g r => p S' H' A v g (r.re (xa := c.xa) (xd := c.xd) (xc := c.xc))
  | exc z => exact fun S' H' e dx g r => p S' H' e dx g (r.re (xa := c.xa) (xd := c.xd) (xc := c.xc))
  | stuck => exact p
theorem spD.re {c : Ct} {xa : Addr} {xd : Option Addr} {xc : Value} {n : Nat} {F : List D → Res EV} {vs : List V} {H : Hp} {Q : VK} {E : XK} (h : spD c n F vs H Q E) : spD (c.re xa xd xc) n F vs H Q E := by
  obtain ⟨hl, S, ds, sub, r, p⟩ := h
  exact ⟨hl, S, ds, sub, r.re, p.re⟩
/-- the body's reading at the entry gives the promise -/
theorem run_start {c : Ct} {N : List Str} {n : Nat} {g : Stm} {vs : List V} {H : Hp} {Q : VK} {E : XK} (hn : n ≤ N.length) (h : spD c n (runD N.length g) vs H Q E) : rS c (fun _ => E) g { nx := fun _ H' => Q .non H', rt := Q } (start N vs) H := by
  obtain ⟨hl, S, ds, sub, r, p⟩ := h
  have hd : ds.length = n := r.length.symm.trans hl
  have sl : Slots c S H (start N vs) (ds.map SV.sh ++ List.replicate (N.length - ds.length) SV.no) [] := by
    have := slots_start (H := H) (N.length - vs.length) r
    rw [← r.length]
    exact this
  refine ⟨⟨H, S, []⟩, S, _, [], ⟨⟨sub, sl, List.nodup_nil⟩, ⟨fun b o _ e => e, Same.refl _, sub, fun a o _ n => n, fun a ha => by cases ha⟩, (fun a ha => by cases ha), fun a ha => by cases ha⟩, ?_⟩
  have toGr : ∀ {S' H' : Hp}, GrB ⟨H, S, []⟩ S' H' → Gr S H S' H' := fun {S' H'} b => ⟨fun x o e => b.hh x o (fun z => by cases z) e, b.ss, b.sub, b.new⟩
  unfold runD at p
  cases e : g (ds.map SV.sh ++ List.replicate (N.length - ds.length) SV.no) with
  | stuck => rw [e] at p; exact p.elim
  | exc z =>
    rw [e] at p
    exact p.elim
  | ok o =>
    rw [e] at p
    cases o with
    | nx ρ => exact fun S' H' σ' O' V => p S' H' [] .non (toGr V.g) (.sh .non) List.nodup_nil fun _ z => by cases z
    | ret x => exact fun S' H' A v ⟨b, re, nd, fr, _⟩ => p S' H' A v (toGr b) re nd fr
    | bk ρ => exact p.elim
    | ct ρ => exact p.elim
    | ex z ρ => exact fun S' H' σ' O' ev dx V x => p S' H' ev dx (toGr V.g) x
section
variable {P : Program} {w : World} {K : PySem.W.Frag} {mg : Str → Option Value} {base : Heap} {x qual : Str} {params : Arguments} {body : List Stmt} {scope : Scope} {dvs : List V} {kws : List (Str × V)} {f : Addr} {fd : FuncData}
/-- a context in which nothing is handled; k: how deep calls may go -/
structure Lv (X : Cx) (W : WX) (k : Nat) : Prop where
  tk : L2N.Takes X W
  own : PassesOwn (model X.prog X.w) X.A X.env X.xe
  calm : X.calm = true
  room : Room k X.A
  hs : X.stack = X.env :: X.outer
  hf : X.env.frame = some X.env.locals
/-- a context in which an exception is handled -/
structure LvH (X : Cx) (W : WX) (k : Nat) : Prop where
  tk : L2N.Takes X W
  own : PassesOwn (model X.prog X.w) X.A X.env X.xe
  hot : L2H.HotC X
  room : L2H.RoomH k X.A
theorem Lv.mono {X : Cx} {W : WX} {j k : Nat} (L : Lv X W k) (h : j ≤ k) : Lv X W j := { L with room := L.room.mono h }
theorem LvH.mono {X : Cx} {W : WX} {j k : Nat} (L : LvH X W k) (h : j ≤ k) : LvH X W j := { L with room := L.room.mono h }
theorem Lv.call {X : Cx} {W : WX} {j k n : Nat} {f : Addr} {fd : FuncData} {ps : List Str} {F : List D → Res EV} {dvs : List V} {dds : List D} {ds : List Value} (L : Lv X W k) (G : FnOk X.prog X.w X.K X.mg X.base (L2N.CX X.prog X.w) j f fd ps (spD (ct0 X) n F)) (hj : j ≤ k)
    (hk : PySem.W.keepIn X.K (.ref f) = true) (hb : Binds X.K fd ps ds) (hd : Vals dvs ds) (hdd : ∀ c H, Reps c H dvs dds) : CallD X (WE W) f n F dds := callD_ok G (L.room.mono hj) hk hb hd hdd (L2N.passAt L.tk)
theorem Lv.make {X : Cx} {W : WX} {j k n : Nat} {f : Addr} {C : Str} {fd : FuncData} {ps : List Str} {F : List D → Res (List (Str × D))} {dvs : List V} {dds : List D} {ds : List Value} (L : Lv X W k) (M : Mk X.K (clOf X.mg C) f) (G : FnOk X.prog X.w X.K X.mg X.base (L2N.CX X.prog X.w) j f fd ps (spI (ct0 X) C n F)) (hj : j + 1 ≤ k)
    (hb : Binds X.K fd ps ds) (hd : Vals dvs ds) (hdd : ∀ c H, Reps c H dvs dds) : CallD X (WE W) (clOf X.mg C) n (mkF C F) dds := callD_make M G (L.room.mono hj) hb hd hdd (L2N.passAt L.tk)
theorem LvH.call {X : Cx} {W : WX} {j k n : Nat} {f : Addr} {fd : FuncData} {ps : List Str} {F : List D → Res EV} {dvs : List V} {dds : List D} {ds : List Value} (L : LvH X W k) (G : L2H.FnH X.prog X.w X.K X.mg X.base (L2N.CX X.prog X.w) j f fd ps (spD (ct0 X) n F)) (hj : j ≤ k)
    (hk : PySem.W.keepIn X.K (.ref f) = true) (hb : Binds X.K fd ps ds) (hd : Vals dvs ds) (hdd : ∀ c H, Reps c H dvs dds) : CallD X (WE W) f n F dds := callD_hot G (L.room.mono hj) L.hot hk hb hd hdd (L2N.passAt L.tk)
/-- a def's wish about exceptions -/
abbrev wOf (E : XK) : WX := fun cls d _ H => E cls d H
/-- THE RULE: a def is the function of its body -/
theorem fn_d {N ps : List Str} {k n : Nat} {g : Stm} (F : FunD K x qual params body scope dvs kws f fd) (Sc : FnScope N ps scope) (hn : ps.length = n)
    (hb : ∀ (cdv : Value) (A : Around) (outer : List PySem.Env) (s : Shared) (H : Hp) (E : XK), Lv (cxOf (L2N.CX P w) P w K mg base N qual scope f cdv A outer s H E) (wOf E) k → DSs (cxOf (L2N.CX P w) P w K mg base N qual scope f cdv A outer s H E) (WE (wOf E)) body g) :
    FnOk P w K mg base (L2N.CX P w) (k + 1) f fd ps (spD ⟨P, w, K, mg, 0, none, .none⟩ n (runD N.length g)) := by
  refine F.ok Sc (fun vs H Q E h => h.1.trans hn.symm) fun cdv A outer s H vs Q E hr h => ⟨_, hb cdv A outer s H E ⟨L2N.takes_of rfl rfl rfl rfl, passes_of rfl, rfl, hr, rfl, rfl⟩, run_start ?_ h⟩
  have := congrArg List.length Sc.pre
  rw [List.length_take] at this
  omega
/-- the same where an exception is handled -/
theorem fn_dH {N ps : List Str} {k n : Nat} {g : Stm} (F : FunD K x qual params body scope dvs kws f fd) (Sc : FnScope N ps scope) (hn : ps.length = n)
    (hb : ∀ (cdv : Value) (A : Around) (outer : List PySem.Env) (s : Shared) (H : Hp) (E : XK) (p : Addr × Obj), LvH (L2H.cxH (L2N.CX P w) P w K mg base N qual scope f cdv A outer s H E p) (wOf E) k → DSs (L2H.cxH (L2N.CX P w) P w K mg base N qual scope f cdv A outer s H E p) (WE (wOf E)) body g) :
    L2H.FnH P w K mg base (L2N.CX P w) (k + 1) f fd ps (spD ⟨P, w, K, mg, 0, none, .none⟩ n (runD N.length g)) := by
  obtain ⟨oc, od, dV, kV, doc, pm, an, cdv, ct, osl, rfl, lk, hcd, _, _⟩ := F.ex
  refine L2H.fn_ofH lk hcd Sc (fun vs H Q E h => h.1.trans hn.symm) fun A outer s H vs Q E p hot hr h => ⟨_, hb cdv A outer s H E p ⟨L2N.takes_of rfl rfl rfl rfl, passes_of rfl, ⟨p, hot, List.mem_cons_self⟩, hr⟩, run_start ?_ (spD.re h)⟩
  have := congrArg List.length Sc.pre
  rw [List.length_take] at this
  omega
/-- no fuel: nothing is promised -/
theorem fn_stuck {c : Ct} {CX : CXT} {ps : List Str} {k n : Nat} (hn : ps.length = n) : FnOk P w K mg base CX k f fd ps (spD c n fun _ => .stuck) :=
  ⟨fun vs H Q E h => h.1.trans hn.symm, fun _ _ _ _ _ _ _ _ _ _ _ _ _ h => by
    obtain ⟨_, _, _, _, _, p⟩ := h
    exact p.elim⟩
end
end Dl
set_option Elab.async false
set_option linter.all false
set_option maxRecDepth 100000
/-! DL7: targets, what is walked, for, while, comprehensions. -/
namespace Dl
open PySem PySem.Spec PyProof.Rows L2

/-! ### targets -/
abbrev Bnd := D → Dl.Env → Option Dl.Env
def rG (c : Ct) (b : Bnd) (ms : List Nat) : TG := fun v σ H Q => ∃ S ρ O d, View c S H σ ρ O ∧ Rep c S v d ∧ ∃ ρ1, b d ρ = some ρ1 ∧
  ∀ σ' O', View c S H σ' ρ1 O' → (∀ a ∈ O', a ∈ O) → (∀ vs : List Nat, (∀ i ∈ ms, i ∈ vs) → wipe σ' vs = wipe σ vs) → Q σ' H
abbrev Bnds := List D → Dl.Env → Option Dl.Env
def rGs (c : Ct) (b : Bnds) (ms : List Nat) : TGs := fun us σ H Q => ∃ S ρ O ds, View c S H σ ρ O ∧ Reps c S us ds ∧ ∃ ρ1, b ds ρ = some ρ1 ∧
  ∀ σ' O', View c S H σ' ρ1 O' → (∀ a ∈ O', a ∈ O) → (∀ vs : List Nat, (∀ i ∈ ms, i ∈ vs) → wipe σ' vs = wipe σ vs) → Q σ' H
def DG (X : Cx) (tg : Expr) (b : Bnd) (ms : List Nat) : Prop := PG X tg (rG (ctOf X) b ms)
def DGs (X : Cx) (tg : List Expr) (b : Bnds) (ms : List Nat) : Prop := PGs X tg (rGs (ctOf X) b ms)
theorem pg_imp {X : Cx} {e : Expr} {t t' : TG} (h : PG X e t) (i : ∀ v σ H Q, t' v σ H Q → t v σ H Q) : PG X e t' := ⟨fun pins s σ H v u Q I r z => h.run pins s σ H v u Q I r (i v σ H Q z)⟩
theorem pgs_imp {X : Cx} {e : List Expr} {t t' : TGs} (h : PGs X e t) (i : ∀ v σ H Q, t' v σ H Q → t v σ H Q) : PGs X e t' := ⟨fun pins s σ H v u Q I r z => h.run pins s σ H v u Q I r (i v σ H Q z)⟩
def bName (i : Nat) : Bnd := fun d ρ => putR i (.sh d) ρ
def bNil : Bnds := fun ds ρ => match ds with
  | [] => some ρ
  | _ => none
def bCons (b : Bnd) (bs : Bnds) : Bnds := fun ds ρ => match ds with
  | d :: r => (b d ρ).bind (bs r)
  | [] => none
def bTup (n : Nat) (bs : Bnds) : Bnd := fun d ρ => match d with
  | .tup ds => if ds.length = n then bs ds ρ else none
  | _ => none
theorem wipe_set {σ : L2.St} {i : Nat} {x : Option V} : ∀ {vs : List Nat}, i ∈ vs → wipe (σ.set i x) vs = wipe σ vs
  | [], h => by cases h
  | v :: vs, h => by
    unfold wipe
    by_cases hv : i ∈ vs
    · rw [wipe_set hv]
    · have e : v = i := by
        rcases List.mem_cons.mp h with e | e
        · exact e.symm
        · exact absurd e hv
      subst e
      have sw : ∀ {us : List Nat} (τ : L2.St), v ∉ us → wipe (τ.set v x) us = (wipe τ us).set v x := by
        intro us
        induction us with
        | nil => intro τ _; rfl
        | cons u us ih =>
          intro τ hu
          have h1 : u ≠ v := fun q => hu (q ▸ List.mem_cons_self)
          have h2 : v ∉ us := fun q => hu (List.mem_cons_of_mem _ q)
          unfold wipe
          rw [ih τ h2, List.set_comm _ _ (Ne.symm h1)]
      rw [sw σ hv, List.set_set]
theorem View.put {c : Ct} {S H : Hp} {σ : L2.St} {ρ ρ1 : Dl.Env} {O : List Addr} {i : Nat} {v : V} {d : D} (V : View c S H σ ρ O) (r : Rep c S v d) (e : putR i (.sh d) ρ = some ρ1) : ∃ O', View c S H (σ.set i (some v)) ρ1 O' ∧ ∀ a ∈ O', a ∈ O := by
  unfold putR at e
  cases q : ρ[i]? with
  | none => rw [q] at e; cases e
  | some z =>
    rw [q] at e
    simp only at e
    split at e
    · cases e
      obtain ⟨A, o, q1, q2, q3, q4, q5⟩ := V.sl.at_ V.nd q
      obtain ⟨O', p1, p2, p3⟩ := q5 S H [] (some v) (.sh d) (Same.refl _) (fun a ha _ => ⟨rfl, (V.sl.alive a ha).2⟩) (.sh r) List.nodup_nil fun a ha => by cases ha
      exact ⟨O', ⟨V.sub, p1, p2⟩, fun a ha => (p3 a ha).elim (fun z => by cases z) fun z => z.1⟩
    · cases e
section
variable {X : Cx} {pos : Pos}
theorem dg_name {i : Nat} {x : Str} (hN : X.N.Nodup) (hi : X.N[i]? = some x := by rfl) (hx : Loc X.env.scope x := by first | exact Or.inl rfl | exact Or.inr rfl) (hf : X.fn x = true ∨ X.env.scope.names.lookup x = some .local := by first | exact .inl rfl | exact .inr rfl) : DG X (.Name x pos) (bName i) [i] := by
  refine pg_imp (pg_name (i := i) hN hi hx hf) fun v σ H Q h => ?_
  obtain ⟨S, ρ, O, d, V, r, ρ1, e, h⟩ := h
  obtain ⟨O', V', s⟩ := V.put r e
  exact h _ O' V' s fun vs hv => wipe_set (hv i List.mem_cons_self)
theorem dgs_nil : DGs X [] bNil [] := by
  refine pgs_imp pgs_nil fun v σ H Q h => ?_
  obtain ⟨S, ρ, O, ds, V, r, ρ1, e, h⟩ := h
  cases r with
  | nil =>
    cases e
    exact ⟨rfl, h σ O V (fun a ha => ha) fun _ _ => rfl⟩
  | cons _ _ => cases e
theorem dgs_cons {e : Expr} {es : List Expr} {b : Bnd} {bs : Bnds} {ms ns : List Nat} (h1 : DG X e b ms) (h2 : DGs X es bs ns) (hs : (assignEach (e :: es) X.env).map (·.2) = assign e X.env :: (assignEach es X.env).map (·.2) := by rfl) : DGs X (e :: es) (bCons b bs) (ms ++ ns) := by
  refine pgs_imp (pgs_cons h1 h2 hs) fun v σ H Q h => ?_
  obtain ⟨S, ρ, O, ds, V, r, ρ1, e, h⟩ := h
  cases r with
  | nil => cases e
  | @cons v d vs ds r rr =>
    have e' : (b d ρ).bind (bs ds) = some ρ1 := e
    cases q : b d ρ with
    | none => rw [q] at e'; cases e'
    | some ρ2 =>
      rw [q] at e'
      refine ⟨_, _, rfl, S, ρ, O, d, V, r, ρ2, q, fun σ2 O2 V2 s2 w2 => ?_⟩
      exact ⟨S, ρ2, O2, ds, V2, rr, ρ1, e', fun σ3 O3 V3 s3 w3 => h σ3 O3 V3 (fun a ha => s2 a (s3 a ha)) fun vs hv =>
        (w3 vs fun i hi => hv i (List.mem_append_right _ hi)).trans (w2 vs fun i hi => hv i (List.mem_append_left _ hi))⟩
theorem dg_tup {es : List Expr} {k n : Nat} {bs : Bnds} {ms : List Nat} (hc : X.calm = true) (h : DGs X es bs ms) (hn : (assignEach es X.env).length = n := by rfl) (hst : (assignEach es X.env).findIdx? (·.1) = none := by rfl) : DG X (.Tuple es k pos) (bTup n bs) ms := by
  refine pg_imp (pg_tup hc h hn hst) fun v σ H Q h => ?_
  obtain ⟨S, ρ, O, d, V, r, ρ1, e, h⟩ := h
  unfold bTup at e
  split at e
  · split at e
    · rename_i hl
      cases r with
      | tup ha rr => exact ⟨_, _, rfl, (ha.mono V.sub).sq, rr.length.trans hl, S, ρ, O, _, V, rr, ρ1, e, h⟩
    · cases e
  · cases e
end

/-! ### what is walked -/
/-- the iterator J gives these data, one after another, while S0 is shared -/
def ItOk (c : Ct) (J : It) (items : List D) (S0 : Hp) : Prop := ∀ S H, Same S0 S → Same S H → ∀ i, (items[i]? = none → J.stop i H) ∧
  ∀ d, items[i]? = some d → J.go i H ∧ ∀ x H', J.yld i H x H' → ∃ S', Gr S H S' H' ∧ Rep c S' x d
abbrev Itf := Dl.Env → Res (List D)
def PostW (c : Ct) (E : XS) (S H : Hp) (r : Res (List D)) (R : It → Hp → Prop) : Prop := match r with
  | .ok items => ∀ S' H' J, Gr S H S' H' → ItOk c J items S' → R J H'
  | .exc x => ∀ (S' H' : Hp) (e : Value) (dx : Option Addr), Gr S H S' H' → XRep c S' H' e dx x → FrX H dx → E S' e dx H'
  | .stuck => False
def rI (c : Ct) (E : WS) (f : Itf) : TI := fun σ H R => ∃ S ρ O, View c S H σ ρ O ∧ PostW c (xs c E ρ O) S H (f ρ) R
def DI (X : Cx) (E : WS) (tg it : Expr) (f : Itf) : Prop := PI X tg it (rI (ctOf X) E f)
theorem pi_imp {X : Cx} {tg e : Expr} {t t' : TI} (h : PI X tg e t) (i : ∀ σ H Q, t' σ H Q → t σ H Q) : PI X tg e t' := ⟨fun pins s σ H R I z => h.run pins s σ H R I (i σ H R z)⟩
theorem PostW.fst {c : Ct} {E : XS} {S H : Hp} {r : Res EV} {k : EV → Res (List D)} {R : It → Hp → Prop} {Q1 : VK} (h : PostW c E S H (r.bind k) R)
    (go : ∀ x, r = .ok x → PostW c E S H (k x) R → ∀ S1 H1 A v, Gr S H S1 H1 → EvRep c S1 H1 A v x → A.Nodup → (∀ a ∈ A, H a = none) → Q1 v H1) : Post c E S H r Q1 := by
  cases r with
  | ok x => exact fun S1 H1 A v g re nd fr => go x rfl h S1 H1 A v g re nd fr
  | exc x => exact h
  | stuck => exact h
theorem PostW.fstA {c : Ct} {E : XS} {S H : Hp} {r : Res (List EV)} {k : List EV → Res (List D)} {R : It → Hp → Prop} {Q1 : List V → Hp → Prop} (h : PostW c E S H (r.bind k) R)
    (go : ∀ x, r = .ok x → PostW c E S H (k x) R → ∀ S1 H1 A v, Gr S H S1 H1 → EvsRep c S1 H1 A v x → A.Nodup → (∀ a ∈ A, H a = none) → Q1 v H1) : PostA c E S H r Q1 := by
  cases r with
  | ok x => exact fun S1 H1 A v g re nd fr => go x rfl h S1 H1 A v g re nd fr
  | exc x => exact h
  | stuck => exact h
/-- the shared items of a list or a tuple; a new list is given away, a slot's own one isn't walked -/
def walkL (x : EV) : Res (List D) := match x with
  | .sh (.lst ds) => .ok ds
  | .sh (.scr ns) => .ok (ns.map D.int)
  | .fr ts => .ok (T.toDs ts)
  | _ => .stuck
def walkT (x : EV) : Res (List D) := match x with
  | .sh (.tup ds) => .ok ds
  | _ => .stuck
def iL (f : Dl.Env → Res EV) : Itf := fun ρ => (f ρ).bind walkL
def iT (f : Dl.Env → Res EV) : Itf := fun ρ => (f ρ).bind walkT
theorem itOk_list {c : Ct} {a : Addr} {vs : List V} {ds : List D} {S0 : Hp} (h : ∀ H, Same S0 H → SqL c.K H a vs) (uq : ∀ H xs, Same S0 H → SqL c.K H a xs → True) (r : Reps c S0 vs ds) : ItOk c (Itl c.K a) ds S0 := by
  intro S H s0 s1 i
  have q := h H (s0.trans s1)
  have l := r.length
  refine ⟨fun e => ⟨vs, q, ?_⟩, fun d e => ?_⟩
  · have := List.getElem?_eq_none_iff.mp e
    omega
  · obtain ⟨v, hv, rv⟩ := r.get e
    refine ⟨⟨vs, v, q, hv⟩, fun x H' y => ?_⟩
    obtain ⟨rfl, y⟩ := y
    have := y vs q
    rw [hv] at this
    cases this
    exact ⟨S, Gr.refl s1, rv.mono s0⟩
theorem itOk_tup {c : Ct} {a : Addr} {vs : List V} {ds : List D} {S0 : Hp} (h : TupAt c.K S0 a vs) (r : Reps c S0 vs ds) : ItOk c (Itt c.K a) ds S0 := by
  intro S H s0 s1 i
  have q := (h.mono (s0.trans s1)).sq
  have l := r.length
  refine ⟨fun e => ⟨vs, q, ?_⟩, fun d e => ?_⟩
  · have := List.getElem?_eq_none_iff.mp e
    omega
  · obtain ⟨v, hv, rv⟩ := r.get e
    refine ⟨⟨vs, v, q, hv⟩, fun x H' y => ?_⟩
    obtain ⟨rfl, y⟩ := y
    have := y vs q
    rw [hv] at this
    cases this
    exact ⟨S, Gr.refl s1, rv.mono s0⟩
section
variable {X : Cx} {E : WS} {tg e a b : Expr} {f1 f2 : Dl.Env → Res EV} {p pos : Pos}
theorem di_list (h : DE X E e f1) : DI X E tg e (iL f1) := by
  refine pi_imp (pi_list h) fun σ H R h => ?_
  obtain ⟨S, ρ, O, V, h⟩ := h
  refine ⟨S, ρ, O, V, PostW.fst h fun x e1 h1 S1 H1 A v g r nd fr => ?_⟩
  unfold walkL at h1
  split at h1
  · cases r with
    | sh r => cases r with
      | lst ha rr => exact ⟨_, rfl, ⟨_, SqL.of (g.sub _ _ ha)⟩, h1 S1 H1 _ g (itOk_list (fun H s => SqL.of (s _ _ ha)) (fun _ _ _ _ => trivial) rr)⟩
  · cases r with
    | sh r => cases r with
      | scr ha => exact ⟨_, rfl, ⟨_, g.sub.seq ha⟩, h1 S1 H1 _ g (itOk_list (fun H s => s.seq ha) (fun _ _ _ _ => trivial) (reps_ints _))⟩
  · rename_i ts
    cases r with
    | fr r =>
      have nS : ∀ a ∈ A, S1 a = none := fun a ha => (r.alive a ha).2
      cases r with
      | @node a A0 vs _ ha na rs =>
        have rr : Reps _ (grab S1 H1 (a :: A0)) vs (T.toDs ts) := rs.grabbed (same_grab nS) fun u hu => grab_in (List.mem_cons_of_mem _ hu)
        exact ⟨_, rfl, ⟨_, SqL.of ha⟩, h1 (grab S1 H1 (a :: A0)) H1 _ (g.grab fr nS) (itOk_list (fun H s => SqL.of (s _ _ ((grab_in List.mem_cons_self).trans ha))) (fun _ _ _ _ => trivial) rr)⟩
  · exact h1.elim
theorem di_tup (h : DE X E e f1) : DI X E tg e (iT f1) := by
  refine pi_imp (pi_tup h) fun σ H R h => ?_
  obtain ⟨S, ρ, O, V, h⟩ := h
  refine ⟨S, ρ, O, V, PostW.fst h fun x e1 h1 S1 H1 A v g r nd fr => ?_⟩
  unfold walkT at h1
  split at h1
  · cases r with
    | sh r => cases r with
      | tup ha rr => exact ⟨_, rfl, ⟨_, (ha.mono g.sub).sq⟩, h1 S1 H1 _ g (itOk_tup ha rr)⟩
  · exact h1.elim
/-- range(e), range(a, b) -/
def rangeD (lo : Int) (n : Nat) : List D := (List.range n).map fun (i : Nat) => D.int (lo + i)
def iR1 (f : Dl.Env → Res EV) : Itf := fun ρ => (f ρ).bind fun x => match x with
  | .sh (.int j) => if -4611686018427387904 ≤ j ∧ j < 4611686018427387904 then .ok (rangeD 0 j.toNat) else .stuck
  | _ => .stuck
def rng2 (x y : EV) : Res (List D) := match x, y with
  | .sh (.int i), .sh (.int j) => if (-4611686018427387904 ≤ i ∧ i < 4611686018427387904) ∧ -4611686018427387904 ≤ j ∧ j < 4611686018427387904 then .ok (rangeD i (j - i).toNat) else .stuck
  | _, _ => .stuck
def iR2 (f1 f2 : Dl.Env → Res EV) : Itf := fun ρ => (f1 ρ).bind fun x => (f2 ρ).bind fun y => rng2 x y
theorem PostW.later {c : Ct} {E : XS} {S H S1 H1 : Hp} {r : Res (List D)} {R : It → Hp → Prop} (h : PostW c E S H r R) (g : Gr S H S1 H1) : PostW c E S1 H1 r R := by
  cases r with
  | ok x => exact fun S2 H2 J g2 ok => h S2 H2 J (g.trans g2) ok
  | exc x => exact fun S2 H2 e dx g2 z f => h S2 H2 e dx (g.trans g2) z fun d e => g.hh.free (f d e)
  | stuck => exact h
theorem itOk_range {c : Ct} {lo : Int} {n : Nat} {S0 : Hp} : ItOk c (Itr lo n) (rangeD lo n) S0 := by
  intro S H s0 s1 i
  unfold rangeD
  rw [List.getElem?_map]
  by_cases h : i < n
  · rw [List.getElem?_range h]
    refine ⟨fun e => (by cases e), fun d e => ?_⟩
    cases e
    refine ⟨h, fun x H' y => ?_⟩
    obtain ⟨rfl, rfl⟩ := y
    exact ⟨S, Gr.refl s1, .int _⟩
  · rw [List.getElem?_eq_none (by simpa using h)]
    exact ⟨fun _ => (by show n ≤ i; omega), fun d e => (by cases e)⟩
theorem di_range1 (h : DE X E a f1) (hg : Gl X "range" := by rfl) (hm : X.mg "range" = none := by assumption) (hs : starEach [a] X.env = [(false, eval a X.env)] := by rfl) (hs2 : starEach [a] X.env = (false, eval a X.env) :: starEach [] X.env := by rfl) :
    DI X E tg (.Call (.Name "range" p) [a] [] pos) (iR1 f1) := by
  refine pi_imp (pi_range1 hg hm (pa_cons h pa_nil hs2) hs) fun σ H R h => ?_
  obtain ⟨S, ρ, O, V, h⟩ := h
  refine ⟨S, ρ, O, V, PostW.fst h fun x e1 h1 S1 H1 A v g r nd fr => ?_⟩
  split at h1
  · rename_i j
    split at h1
    · rename_i hj
      refine ⟨j, by rw [int_of r], by omega, by omega, h1 S1 H1 _ g itOk_range⟩
    · exact h1.elim
  · exact h1.elim
theorem di_range2 (ha : DE X E a f1) (hb : DE X E b f2) (hg : Gl X "range" := by rfl) (hm : X.mg "range" = none := by assumption) (hs : starEach [a, b] X.env = [(false, eval a X.env), (false, eval b X.env)] := by rfl) (hs2 : starEach [b] X.env = [(false, eval b X.env)] := by rfl)
    (hs3 : starEach [a, b] X.env = (false, eval a X.env) :: starEach [b] X.env := by rfl) (hs4 : starEach [b] X.env = (false, eval b X.env) :: starEach [] X.env := by rfl) :
    DI X E tg (.Call (.Name "range" p) [a, b] [] pos) (iR2 f1 f2) := by
  refine pi_imp (pi_range2 hg hm (pa_cons ha (pa_cons hb pa_nil hs4) hs3) hs hs2) fun σ H R h => ?_
  obtain ⟨S, ρ, O, V, h⟩ := h
  refine ⟨S, ρ, O, V, PostW.fst h fun x e1 h1 S1 H1 A v g r nd fr => ?_⟩
  refine ⟨S1, ρ, O, V.gr g, ?_⟩
  refine PostW.fst (h1.later g) fun y e2 h2 S2 H2 B w g2 r2 n2 fr2 => ?_
  unfold rng2 at h2
  split at h2
  · rename_i i j
    split at h2
    · rename_i hj
      exact ⟨i, j, by rw [int_of r, int_of r2], ⟨by omega, by omega, by omega, by omega⟩, h2 S2 H2 _ g2 itOk_range⟩
    · exact h2.elim
  · exact h2.elim
end

/-! ### for -/
def forD (b : Bnd) (body : Stm) : List D → Stm
  | [], ρ => .ok (.nx ρ)
  | d :: ds, ρ => match b d ρ with
    | none => .stuck
    | some ρ1 => (body ρ1).bind fun o => match o with
      | .nx ρ2 => forD b body ds ρ2
      | .ct ρ2 => forD b body ds ρ2
      | .bk ρ2 => .ok (.nx ρ2)
      | .ret x => .ok (.ret x)
      | .ex z ρ2 => .ok (.ex z ρ2)
def dFor (it : Itf) (b : Bnd) (body : Stm) : Stm := fun ρ => (it ρ).at ρ fun items => forD b body items ρ
section
variable {c : Ct} {B : Base} {E : WS} {D : Ends} {S H S0 : Hp} {σ : L2.St} {ρ : Dl.Env} {O : List Addr}
/-- a later base: what is shared now -/
theorem GrB.rebase {S1 H1 : Hp} (v : GrB B S H) (b : GrB ⟨B.H, S, B.ex⟩ S1 H1) : GrB B S1 H1 := ⟨b.hh, v.ss.trans b.ss, b.sub, fun a o e n => b.new a o e (v.new a o e n), b.exs⟩
theorem Vw.based (v : Vw c B S H σ ρ O) : Vw c ⟨B.H, S, B.ex⟩ S H σ ρ O := ⟨v.v, ⟨v.g.hh, Same.refl _, v.g.sub, fun _ _ _ n => n, v.g.exs⟩, v.own, v.ni⟩
theorem Vw.rebase {S1 H1 : Hp} {σ1 : L2.St} {ρ1 : Dl.Env} {O1 : List Addr} (g : GrB B S H) (v : Vw c ⟨B.H, S, B.ex⟩ S1 H1 σ1 ρ1 O1) : Vw c B S1 H1 σ1 ρ1 O1 := ⟨v.v, g.rebase v.g, v.own, v.ni⟩
theorem postS.fstW {r : Res (List Dl.D)} {k : List Dl.D → Res Out} {R : It → Hp → Prop} (h : postS c B E D (r.at ρ k)) (v : Vw c B S H σ ρ O)
    (go : ∀ x, r = .ok x → postS c B E D (k x) → ∀ S1 H1 J, Gr S H S1 H1 → ItOk c J x S1 → R J H1) : PostW c (xs c E ρ O) S H r R := by
  cases r with
  | ok x => exact fun S1 H1 J g ok => go x rfl h S1 H1 J g ok
  | exc x => exact fun S1 H1 e dx g z f σ' sl => h S1 H1 σ' O e dx ⟨⟨g.sub, sl, v.v.nd⟩, v.g.gr g, v.own, v.niG g.hh⟩ z (v.freshX f)
  | stuck => exact h
end
section
variable {X : Cx} {E : WS} {tg it : Expr} {body : List Stmt} {f : Itf} {b : Bnd} {ms : List Nat} {g : Stm} {pos : Pos}
theorem ds_for (hp : PassesOwn (model X.prog X.w) X.A X.env X.xe) (hc : X.calm = true) (hi : DI X E tg it f) (hg : DG X tg b ms) (hb : DSs X E body g) (hs : ∀ x, foldedSetIterable it X.env x = pure x := by intro _; rfl) : DS X E (.For tg it body [] pos) (dFor f b g) := by
  refine ps_imp (ps_for hp hc hi hg hb hs) fun D σ H h => ?_
  obtain ⟨B, S, ρ, O, V, h⟩ := h
  refine ⟨S, ρ, O, V.v, postS.fstW h V fun items e1 h1 S1 H1 J g1 ok => ?_⟩
  refine ⟨fun i m σ H => m = items.length - i ∧ i ≤ items.length ∧ ∃ S2 ρ2 O2, Vw (ctOf X) B S2 H σ ρ2 O2 ∧ Same S1 S2 ∧ postS (ctOf X) B E D (forD b g (items.drop i) ρ2), ⟨items.length, by simp, Nat.zero_le _, S1, ρ, O, V.gr g1, Same.refl _, by simpa using h1⟩, ?_⟩
  rintro i m σ2 H2 ⟨rfl, hi, S2, ρ2, O2, V2, s12, h2⟩
  obtain ⟨k1, k2⟩ := ok S2 H2 s12 V2.sub i
  cases q : items[i]? with
  | none =>
    refine .inl ⟨k1 q, ?_⟩
    have hl := List.getElem?_eq_none_iff.mp q
    have e : items.drop i = [] := List.drop_eq_nil_of_le hl
    rw [e] at h2
    exact h2 S2 H2 σ2 O2 V2
  | some d =>
    obtain ⟨k3, k4⟩ := k2 d q
    have hlt := (List.getElem?_eq_some_iff.mp q).1
    have ed : items.drop i = d :: items.drop (i + 1) := by
      rw [List.drop_eq_getElem_cons hlt]
      congr 1
      exact (List.getElem?_eq_some_iff.mp q).2
    rw [ed] at h2
    unfold forD at h2
    cases qb : b d ρ2 with
    | none =>
      rw [qb] at h2
      exact h2.elim
    | some ρ3 =>
      rw [qb] at h2
      simp only at h2
      refine .inr ⟨k3, fun σ' H' => ∃ S4 ρ4 O4, Vw (ctOf X) B S4 H' σ' ρ4 O4 ∧ Same S1 S4 ∧ postS (ctOf X) B E D (forD b g (items.drop (i + 1)) ρ4), fun σ' H' z => ⟨items.length - (i + 1), by omega, rfl, by omega, z⟩, fun x H3 y => ?_⟩
      obtain ⟨S3, g3, rx⟩ := k4 x H3 y
      have V3 := V2.gr g3
      refine ⟨S3, ρ2, O2, d, V3.v, rx, ρ3, qb, fun σ4 O4 V4 s4 _ => ?_⟩
      have V5 : Vw (ctOf X) B S3 H3 σ4 ρ3 O4 := ⟨V4, V3.g, fun a ha => V3.own a (s4 a ha), fun a ha => V3.ni a (s4 a ha)⟩
      refine ⟨⟨B.H, S3, B.ex⟩, S3, ρ3, O4, V5.based, ?_⟩
      have s13 : Same S1 S3 := s12.trans g3.ss
      cases qg : g ρ3 with
      | stuck => rw [qg] at h2; exact h2
      | exc z => rw [qg] at h2; exact h2
      | ok o =>
        rw [qg] at h2
        simp only [Res.ok_bind'] at h2
        cases o with
        | nx ρ4 => exact fun S' H' σ' O' V' => ⟨S', ρ4, O', Vw.rebase V5.g V', s13.trans V'.g.ss, h2⟩
        | ct ρ4 => exact fun S' H' σ' O' V' => ⟨S', ρ4, O', Vw.rebase V5.g V', s13.trans V'.g.ss, h2⟩
        | bk ρ4 => exact fun S' H' σ' O' V' => h2 S' H' σ' O' (Vw.rebase V5.g V')
        | ret z => exact fun S' H' A v ⟨gb, r⟩ => h2 S' H' A v ⟨V5.g.rebase gb, r⟩
        | ex z ρ4 => exact fun S' H' σ' O' e dx V' x => h2 S' H' σ' O' e dx (Vw.rebase V5.g V') x
end

/-! ### while -/
def whileD (t : Dl.Env → Res Bool) (body : Stm) : Nat → Stm
  | 0, _ => .stuck
  | n + 1, ρ => (t ρ).at ρ fun k => if k = true then (body ρ).bind fun o => match o with
      | .nx ρ2 => whileD t body n ρ2
      | .ct ρ2 => whileD t body n ρ2
      | .bk ρ2 => .ok (.nx ρ2)
      | .ret x => .ok (.ret x)
      | .ex z ρ2 => .ok (.ex z ρ2)
    else .ok (.nx ρ)
/-- fuel: how many turns at most -/
def dWhile (fuel : Dl.Env → Nat) (t : Dl.Env → Res Bool) (body : Stm) : Stm := fun ρ => whileD t body (fuel ρ) ρ
section
variable {X : Cx} {E : WS} {e : Expr} {body : List Stmt} {t : Dl.Env → Res Bool} {g : Stm} {pos : Pos}
theorem ds_while (fuel : Dl.Env → Nat) (hp : PassesOwn (model X.prog X.w) X.A X.env X.xe) (ht : DT X E e t) (hb : DSs X E body g) : DS X E (.While e body [] pos) (dWhile fuel t g) := by
  refine ps_imp (ps_while hp ht hb) fun D σ H h => ?_
  obtain ⟨B, S, ρ, O, V, h⟩ := h
  refine ⟨fun m σ H => ∃ S2 ρ2 O2, Vw (ctOf X) B S2 H σ ρ2 O2 ∧ postS (ctOf X) B E D (whileD t g m ρ2), ⟨fuel ρ, S, ρ, O, V, h⟩, ?_⟩
  rintro m σ2 H2 ⟨S2, ρ2, O2, V2, h2⟩
  cases m with
  | zero => exact h2.elim
  | succ n =>
    refine ⟨S2, ρ2, O2, V2.v, postS.fstT (show postS (ctOf X) B E D ((t ρ2).at ρ2 _) from h2) V2 fun k e1 h3 S3 H3 g3 => ?_⟩
    have V3 := V2.gr g3
    cases k with
    | false =>
      refine iteF ?_
      simp only [Bool.false_eq_true, if_false] at h3
      exact h3 S3 H3 σ2 O2 V3
    | true =>
      refine iteT ⟨fun σ' H' => ∃ S4 ρ4 O4, Vw (ctOf X) B S4 H' σ' ρ4 O4 ∧ postS (ctOf X) B E D (whileD t g n ρ4), fun σ' H' z => ⟨n, Nat.lt_succ_self n, z⟩, ⟨B, S3, ρ2, O2, V3, ?_⟩⟩
      simp only [if_true] at h3
      cases qg : g ρ2 with
      | stuck => rw [qg] at h3; exact h3
      | exc z => rw [qg] at h3; exact h3
      | ok o =>
        rw [qg] at h3
        simp only [Res.ok_bind'] at h3
        cases o with
        | nx ρ4 => exact fun S' H' σ' O' V' => ⟨S', ρ4, O', V', h3⟩
        | ct ρ4 => exact fun S' H' σ' O' V' => ⟨S', ρ4, O', V', h3⟩
        | bk ρ4 => exact fun S' H' σ' O' V' => h3 S' H' σ' O' V'
        | ret z => exact h3
        | ex z ρ4 => exact h3
end

/-! ### target = e -/
def dAsg (f : Dl.Env → Res EV) (b : Bnd) : Stm := fun ρ => (f ρ).at ρ fun x => match x with
  | .sh d => (match b d ρ with
    | some ρ1 => .ok (.nx ρ1)
    | none => .stuck)
  | _ => .stuck
theorem ds_asg {X : Cx} {E : WS} {tg e : Expr} {f : Dl.Env → Res EV} {b : Bnd} {ms : List Nat} {pos : Pos} (he : DE X E e f) (hg : DG X tg b ms) (hs : swapsWithSole [tg] e pos.line X.env = pure false := by rfl) (hw : swappedStores [tg] e X.env = pure none := by rfl)
    (h1 : (assignEach [tg] X.env).map (·.2) = [assign tg X.env] := by rfl) : DS X E (.Assign [tg] e pos) (dAsg f b) := by
  refine ps_imp (ps_asg he hg hs hw h1) fun D σ H h => ?_
  obtain ⟨B, S, ρ, O, V, h⟩ := h
  refine ⟨S, ρ, O, V.v, postS.fst h V fun x e1 h1 S1 H1 A u g r nd fr => ?_⟩
  split at h1
  · rename_i d
    cases q : b d ρ with
    | none =>
      rw [q] at h1
      exact h1.elim
    | some ρ1 =>
      rw [q] at h1
      cases r with
      | sh r =>
        have V1 := V.gr g
        exact ⟨S1, ρ, O, d, V1.v, r, ρ1, q, fun σ' O' V' s _ => h1 S1 H1 σ' O' ⟨V', V1.g, fun a ha => V1.own a (s a ha), fun a ha => V1.ni a (s a ha)⟩⟩
  · exact h1.elim
end Dl
set_option Elab.async false
set_option linter.all false
set_option maxRecDepth 100000
/-! DL8: list comprehensions; fields stored; __init__. -/
namespace Dl
open PySem PySem.Spec PyProof.Rows L2

/-! ### list comprehensions -/
def noX {α : Type} (r : Res α) : Res α := match r with
  | .ok a => .ok a
  | _ => .stuck
def wipeR (ρ : Dl.Env) : List Nat → Dl.Env
  | [] => ρ
  | m :: ms => (wipeR ρ ms).set m .no
theorem Slots.wiped {c : Ct} {S H : Hp} {σ : L2.St} {ρ : Dl.Env} {O : List Addr} (h : Slots c S H σ ρ O) (nd : O.Nodup) : ∀ ms : List Nat, ∃ O', Slots c S H (wipe σ ms) (wipeR ρ ms) O' ∧ O'.Nodup ∧ ∀ a ∈ O', a ∈ O
  | [] => ⟨O, h, nd, fun a ha => ha⟩
  | m :: ms => by
    obtain ⟨O1, h1, n1, s1⟩ := Slots.wiped h nd ms
    unfold wipe wipeR
    cases q : (wipeR ρ ms)[m]? with
    | none =>
      have l1 := List.getElem?_eq_none_iff.mp q
      have l2 := h1.length
      rw [List.set_eq_of_length_le (by omega), List.set_eq_of_length_le l1]
      exact ⟨O1, h1, n1, s1⟩
    | some x =>
      obtain ⟨A, o, q1, q2, q3, q4, q5⟩ := h1.at_ n1 q
      obtain ⟨O', p1, p2, p3⟩ := q5 S H [] none .no (Same.refl _) (fun a ha _ => ⟨rfl, (h1.alive a ha).2⟩) .no List.nodup_nil fun a ha => by cases ha
      exact ⟨O', p1, p2, fun a ha => (p3 a ha).elim (fun z => by cases z) fun z => s1 a z.1⟩
def lcD (b : Bnd) (t : Dl.Env → Res Bool) (f : Dl.Env → Res EV) : List D → Dl.Env → Res (List T)
  | [], _ => .ok []
  | d :: ds, ρ => match b d ρ with
    | none => .stuck
    | some ρ1 => (noX (t ρ1)).bind fun k => if k = true then (noX (f ρ1)).bind fun x => match x.t? with
        | some u => (lcD b t f ds ρ).bind fun us => .ok (u :: us)
        | none => .stuck
      else lcD b t f ds ρ
/-- [f for b in it if t]: vs are the slots of the comprehension's names -/
def dLc (it : Itf) (b : Bnd) (t : Dl.Env → Res Bool) (f : Dl.Env → Res EV) (vs : List Nat) : Dl.Env → Res EV := fun ρ => (it ρ).bind fun items => if items.length ≤ 16777216 then (lcD b t f items (wipeR ρ vs)).bind fun ts => .ok (.fr ts) else .stuck
theorem Post.fstW {c : Ct} {E : XS} {S H : Hp} {r : Res (List D)} {k : List D → Res EV} {Q : VK} {R : It → Hp → Prop} (h : Post c E S H (r.bind k) Q)
    (go : ∀ x, r = .ok x → Post c E S H (k x) Q → ∀ S1 H1 J, Gr S H S1 H1 → ItOk c J x S1 → R J H1) : PostW c E S H r R := by
  cases r with
  | ok x => exact fun S1 H1 J g ok => go x rfl h S1 H1 J g ok
  | exc x => exact h
  | stuck => exact h
theorem lc_imp {c : Ct} {E : WS} {it : Itf} {b : Bnd} {ms vs : List Nat} {t : Dl.Env → Res Bool} {f : Dl.Env → Res EV} {σ : L2.St} {H : Hp} {Q : VK} (hm : ∀ i ∈ ms, i ∈ vs) (h : rE c E (dLc it b t f vs) σ H Q) :
    tLc (rI c E it) (rG c b ms) (rT c (fun _ => E0) t) (rE c (fun _ => E0) f) vs σ H Q := by
  obtain ⟨S0, ρ, O, V, h⟩ := h
  have hz : sizeLine = 16777216 := sizeLine_eq
  refine ⟨S0, ρ, O, V, Post.fstW h fun items e1 h1 S1 H1 J g1 ok => ?_⟩
  intro L hL
  split at h1
  · rename_i hlen
    cases er : lcD b t f items (wipeR ρ vs) with
    | exc z =>
      exfalso
      have : ∀ (ds : List D) (ρ : Dl.Env) (z : Xc), lcD b t f ds ρ ≠ .exc z := by
        intro ds
        induction ds with
        | nil => intro ρ z h; cases h
        | cons d ds ih =>
          intro ρ z h
          unfold lcD at h
          cases qb : b d ρ with
          | none => rw [qb] at h; cases h
          | some ρ1 =>
            rw [qb] at h
            simp only at h
            cases qt : t ρ1 with
            | stuck => rw [qt] at h; cases h
            | exc y => rw [qt] at h; cases h
            | ok k =>
              rw [qt] at h
              cases k with
              | false => exact ih ρ z h
              | true =>
                cases qf : f ρ1 with
                | stuck => simp only [noX, qf, Res.ok_bind', if_true] at h; cases h
                | exc y => simp only [noX, qf, Res.ok_bind', if_true] at h; cases h
                | ok x =>
                  simp only [noX, qf, Res.ok_bind', if_true] at h
                  split at h
                  · cases ql : lcD b t f ds ρ with
                    | stuck => rw [ql] at h; cases h
                    | exc y => exact ih ρ y ql
                    | ok us => rw [ql] at h; cases h
                  · cases h
      exact this _ _ _ er
    | stuck =>
      rw [er] at h1
      exact h1.elim
    | ok ts =>
      rw [er] at h1
      simp only [Res.ok_bind'] at h1
      obtain ⟨O0, sl0, nd0, sub0⟩ := V.sl.wiped V.nd vs
      have V0 : View c S1 H1 (wipe σ vs) (wipeR ρ vs) O0 := (⟨V.sub, sl0, nd0⟩ : View c S0 H (wipe σ vs) (wipeR ρ vs) O0).gr g1
      refine ⟨fun i m H2 => m = items.length - i ∧ i ≤ items.length ∧ ∃ S A acc done rest, Gr S1 H1 S H2 ∧ H2 L = some (.lst acc) ∧ S L = none ∧ Owns c S H2 A acc done ∧ A.Nodup ∧ L ∉ A ∧ (∀ a ∈ A, H1 a = none) ∧
        lcD b t f (items.drop i) (wipeR ρ vs) = .ok rest ∧ done ++ rest = ts ∧ acc.length ≤ i,
        ⟨items.length, by simp, Nat.zero_le _, S1, [], [], [], ts, Gr.pushO g1.sub hL, upd_same, g1.sub.free hL, .nil, List.nodup_nil, by simp, (fun a ha => by cases ha), by simpa using er, rfl, Nat.le_refl _⟩, ?_⟩
      rintro i m H2 ⟨rfl, hi, S, A, acc, done, rest, g2, hL2, nL, ow, nd, nLA, frA, el, ets, la⟩
      obtain ⟨k1, k2⟩ := ok S H2 g2.ss g2.sub i
      cases q : items[i]? with
      | none =>
        refine .inl ⟨k1 q, ?_⟩
        have hl := List.getElem?_eq_none_iff.mp q
        have e : items.drop i = [] := List.drop_eq_nil_of_le hl
        rw [e] at el
        cases el
        rw [List.append_nil] at ets
        subst ets
        refine h1 S H2 (L :: A) _ (g1.trans g2) (.fr (.node hL2 nL ow)) (List.nodup_cons.mpr ⟨nLA, nd⟩) fun a ha => ?_
        rcases List.mem_cons.mp ha with e | ha
        · rw [e]
          exact g1.hh.free hL
        · exact g1.hh.free (frA a ha)
      | some d =>
        obtain ⟨k3, k4⟩ := k2 d q
        have hlt := (List.getElem?_eq_some_iff.mp q).1
        have ed : items.drop i = d :: items.drop (i + 1) := by
          rw [List.drop_eq_getElem_cons hlt]
          congr 1
          exact (List.getElem?_eq_some_iff.mp q).2
        rw [ed] at el
        unfold lcD at el
        cases qb : b d (wipeR ρ vs) with
        | none =>
          rw [qb] at el
          cases el
        | some ρ1 =>
          rw [qb] at el
          simp only at el
          refine .inr ⟨k3, fun H' => ∃ S A acc done rest, Gr S1 H1 S H' ∧ H' L = some (.lst acc) ∧ S L = none ∧ Owns c S H' A acc done ∧ A.Nodup ∧ L ∉ A ∧ (∀ a ∈ A, H1 a = none) ∧
            lcD b t f (items.drop (i + 1)) (wipeR ρ vs) = .ok rest ∧ done ++ rest = ts ∧ acc.length ≤ i + 1, fun H' z => ⟨items.length - (i + 1), by omega, rfl, by omega, z⟩, fun x H3 y => ?_⟩
          obtain ⟨S3, g3, rx⟩ := k4 x H3 y
          have V3 := (V0.gr g2).gr g3
          refine ⟨S3, _, O0, d, V3, rx, ρ1, qb, fun σ4 O4 V4 s4 w4 => ⟨(w4 vs hm).trans (by
            have ww : ∀ us : List Nat, wipe (wipe σ us) us = wipe σ us := by
              intro us
              apply List.ext_getElem?
              intro j
              by_cases hj : j ∈ us
              · have z : ∀ (τ : L2.St), τ.length = σ.length → (wipe τ us)[j]? = if j < σ.length then some none else none := by
                  intro τ hτ
                  have hw : ∀ x, (wipe τ us)[j]? ≠ some (some x) := fun x hx => (wipe_some hx).2 hj
                  have hlw := wipe_length τ us
                  by_cases hlt : j < σ.length
                  · rw [if_pos hlt]
                    cases e : (wipe τ us)[j]? with
                    | none =>
                      have := List.getElem?_eq_none_iff.mp e
                      omega
                    | some o =>
                      cases o with
                      | none => rfl
                      | some x => exact absurd e (hw x)
                  · rw [if_neg hlt]
                    exact List.getElem?_eq_none (by omega)
                rw [z _ (wipe_length _ _), z _ rfl]
              · rw [wipe_out hj]
            exact ww vs), ?_⟩⟩
          refine ⟨S3, ρ1, O4, V4, ?_⟩
          cases qt : t ρ1 with
          | stuck => rw [qt] at el; cases el
          | exc z => rw [qt] at el; cases el
          | ok k =>
            rw [qt] at el
            simp only [noX, Res.ok_bind'] at el
            intro S5 H5 g5
            have L5 : H5 L = some (.lst acc) := g5.hh _ _ (g3.hh _ _ hL2)
            have n3 : S3 L = none := g3.new L _ hL2 nL
            have n5 : S5 L = none := g5.new L _ (g3.hh _ _ hL2) n3
            have G5 : Gr S1 H1 S5 H5 := (g2.trans g3).trans g5
            have ow5 : Owns c S5 H5 A acc done := (g3.trans g5).owns ow
            cases k with
            | false =>
              simp only [Bool.false_eq_true, if_false] at el
              exact iteF ⟨S5, A, acc, done, rest, G5, L5, n5, ow5, nd, nLA, frA, el, ets, by omega⟩
            | true =>
              simp only [if_true] at el
              refine iteT ⟨S5, ρ1, O4, V4.gr g5, ?_⟩
              cases qf : f ρ1 with
              | stuck => rw [qf] at el; cases el
              | exc z => rw [qf] at el; cases el
              | ok ev =>
                rw [qf] at el
                simp only [Res.ok_bind'] at el
                cases qx : ev.t? with
                | none => rw [qx] at el; cases el
                | some u =>
                  rw [qx] at el
                  simp only at el
                  cases ql : lcD b t f (items.drop (i + 1)) (wipeR ρ vs) with
                  | stuck => rw [ql] at el; cases el
                  | exc z => rw [ql] at el; cases el
                  | ok us =>
                    rw [ql] at el
                    simp only [Res.ok_bind', Res.ok.injEq] at el
                    subst el
                    intro S6 H6 C y g6 r6 n6 f6
                    have ot := ev_tree r6 qx
                    have L6 : H6 L = some (.lst acc) := g6.hh _ _ L5
                    have s6 : S6 L = none := g6.new L _ L5 n5
                    have G6 : Gr S1 H1 S6 H6 := G5.trans g6
                    have ow6 : Owns c S6 H6 A acc done := g6.owns ow5
                    have LC : L ∉ C := fun z => by
                      have := f6 L z
                      rw [L5] at this
                      cases this
                    refine ⟨acc, L6, by omega, S6, A ++ (C ++ []), acc ++ [y], done ++ [u], us, ⟨fun b' o e => ?_, G6.ss, fun b' o e => ?_, G6.new⟩, upd_same, s6, ?_, ?_, ?_, fun a ha => ?_, ?_, ?_, ?_⟩
                    · rw [upd_ne (ne_of_none e hL)]
                      exact G6.hh b' o e
                    · rw [upd_ne (ne_of_none e s6)]
                      exact G6.sub b' o e
                    · refine (ow6.mono (Same.refl _) fun a ha => ⟨upd_ne (fun z => nLA (by rw [← z]; exact ha)), (ow6.alive a ha).2⟩).append (.cons (ot.mono (Same.refl _) fun a ha => ⟨upd_ne (fun z => LC (by rw [← z]; exact ha)), (ot.alive a ha).2⟩) .nil)
                    · rw [List.append_nil]
                      refine List.nodup_append.mpr ⟨nd, n6, fun a ha a' ha' e => ?_⟩
                      subst e
                      have := f6 a ha'
                      obtain ⟨⟨_, z⟩, _⟩ := ow5.alive a ha
                      rw [this] at z
                      cases z
                    · rw [List.append_nil]
                      exact fun z => (List.mem_append.mp z).elim nLA LC
                    · rw [List.append_nil] at ha
                      rcases List.mem_append.mp ha with ha | ha
                      · exact frA a ha
                      · exact G5.hh.free (f6 a ha)
                    · rfl
                    · rw [List.append_assoc]
                      exact ets
                    · rw [List.length_append]
                      simp only [List.length_cons, List.length_nil]
                      omega
  · exact h1.elim
theorem blk_ct {X : Cx} {s : Shared} {H : Hp} {scope : Scope} {env : PySem.Env} {fp : List Addr} (hc : X.calm = true) : ctOf (X.blk s H scope env fp) = ctOf X := by
  rw [ctOf_calm hc, ctOf_calm (show (X.blk s H scope env fp).calm = true from hc)]
def dYes : Dl.Env → Res Bool := fun _ => .ok true
def DTs (X : Cx) (ifs : List Expr) (t : Dl.Env → Res Bool) : Prop := PTs X ifs (rT (ctOf X) (fun _ => E0) t)
theorem pts_imp {X : Cx} {e : List Expr} {t t' : TT} (h : PTs X e t) (i : ∀ σ H Q, t' σ H Q → t σ H Q) : PTs X e t' := ⟨fun pins s σ H Q I z => h.run pins s σ H Q I (i σ H Q z)⟩
section
variable {X : Cx} {E : WS} {elt tg iter : Expr} {ifs : List Expr} {scope : Scope} {pos : Pos} {it : Itf} {b : Bnd} {ms : List Nat} {t : Dl.Env → Res Bool} {f : Dl.Env → Res EV}
theorem dts_nil : DTs X [] dYes := pts_imp pts_nil fun σ H Q h => by
  obtain ⟨S, ρ, O, V, h⟩ := h
  exact h S H (Gr.refl V.sub)
theorem dts_one {e : Expr} (h : DT X (fun _ => E0) e t) : DTs X [e] t := pts_one h
theorem de_lc (own : List (Str × Nat)) (hc : X.calm = true) (hN : X.N.Nodup) (hi : DI X E tg iter it) (ok : blkC X.N X.env.scope scope own = true)
    (hg : ∀ (s : Shared) (H : Hp) (C : Addr) (cl : List (Str × Addr)) (fp : List Addr), DG (X.blk s H scope (compEnvC scope cl C X.env) fp) tg b ms) (ht : ∀ (s : Shared) (H : Hp) (C : Addr) (cl : List (Str × Addr)) (fp : List Addr), DTs (X.blk s H scope (compEnvC scope cl C X.env) fp) ifs t)
    (he : ∀ (s : Shared) (H : Hp) (C : Addr) (cl : List (Str × Addr)) (fp : List Addr), DE (X.blk s H scope (compEnvC scope cl C X.env) fp) (fun _ => E0) elt f) (hm : ∀ i ∈ ms, i ∈ own.map (·.2) := by decide) (hs : ∀ x, foldedSetIterable iter X.env x = pure x := by intro _; rfl) :
    DE X E (.ListComp elt [⟨tg, iter, ifs, 0⟩] scope pos) (dLc it b t f (own.map (·.2))) :=
  pe_imp (pe_lc (g := rG (ctOf X) b ms) (tt := rT (ctOf X) (fun _ => E0) t) (te := rE (ctOf X) (fun _ => E0) f) hc hN hi (blkOk_by ok) (fun s H C cl fp => blk_ct (X := X) (s := s) (H := H) (scope := scope) (env := compEnvC scope cl C X.env) (fp := fp) hc ▸ hg s H C cl fp)
    (fun s H C cl fp => blk_ct (X := X) (s := s) (H := H) (scope := scope) (env := compEnvC scope cl C X.env) (fp := fp) hc ▸ ht s H C cl fp) (fun s H C cl fp => blk_ct (X := X) (s := s) (H := H) (scope := scope) (env := compEnvC scope cl C X.env) (fp := fp) hc ▸ he s H C cl fp) hs) fun _ _ _ h => lc_imp hm h
/-- y = [..] on one line, y a local -/
theorem ds_setLc {i : Nat} {y : Str} {py spos : Pos} (own : List (Str × Nat)) (hc : X.calm = true) (hN : X.N.Nodup) (hi : DI X E tg iter it) (ok : blkC X.N X.env.scope scope own = true)
    (hg : ∀ (s : Shared) (H : Hp) (C : Addr) (cl : List (Str × Addr)) (fp : List Addr), DG (X.blk s H scope (compEnvC scope cl C X.env) fp) tg b ms) (ht : ∀ (s : Shared) (H : Hp) (C : Addr) (cl : List (Str × Addr)) (fp : List Addr), DTs (X.blk s H scope (compEnvC scope cl C X.env) fp) ifs t)
    (he : ∀ (s : Shared) (H : Hp) (C : Addr) (cl : List (Str × Addr)) (fp : List Addr), DE (X.blk s H scope (compEnvC scope cl C X.env) fp) (fun _ => E0) elt f) (hsw : swapsWith (.ListComp elt [⟨tg, iter, ifs, 0⟩] scope pos) (some (.Name y py)) spos.line X.env = pure true)
    (hy : X.N[i]? = some y := by rfl) (hyl : X.env.scope.names.lookup y = some .local := by rfl) (hm : ∀ i ∈ ms, i ∈ own.map (·.2) := by decide) (hs : ∀ x, foldedSetIterable iter X.env x = pure x := by intro _; rfl) :
    DS X E (.Assign [.Name y py] (.ListComp elt [⟨tg, iter, ifs, 0⟩] scope pos) spos) (dSet i (dLc it b t f (own.map (·.2)))) := by
  refine ps_imp (ps_setLc (i := i) (g := rG (ctOf X) b ms) (tt := rT (ctOf X) (fun _ => E0) t) (te := rE (ctOf X) (fun _ => E0) f) hc hN hy hyl hsw hi (blkOk_by ok) (fun s H C cl fp => blk_ct (X := X) (s := s) (H := H) (scope := scope) (env := compEnvC scope cl C X.env) (fp := fp) hc ▸ hg s H C cl fp)
    (fun s H C cl fp => blk_ct (X := X) (s := s) (H := H) (scope := scope) (env := compEnvC scope cl C X.env) (fp := fp) hc ▸ ht s H C cl fp) (fun s H C cl fp => blk_ct (X := X) (s := s) (H := H) (scope := scope) (env := compEnvC scope cl C X.env) (fp := fp) hc ▸ he s H C cl fp) hs) fun D σ H h => ?_
  obtain ⟨B, S, ρ, O, V, h⟩ := h
  refine lc_imp hm ⟨S, ρ, O, V.v, postS.fst h V fun x e1 h1 S1 H1 A u g r nd fr => ?_⟩
  cases q : SV.of x with
  | none =>
    rw [q] at h1
    exact h1.elim
  | some y =>
    simp only [q] at h1
    cases q2 : putR i y ρ with
    | none =>
      simp only [q2] at h1
      exact h1.elim
    | some ρ1 =>
      simp only [q2] at h1
      obtain ⟨O', V'⟩ := put_ev V g r nd fr q q2
      exact h1 S1 H1 _ O' V'
end
end Dl
set_option Elab.async false
set_option linter.all false
set_option maxRecDepth 100000
/-! DL9: exceptions: made, raised, caught, asked. -/
namespace Dl
open PySem PySem.Spec PyProof.Rows L2

/-! ### C(e): an own class over ValueError whose __init__ keeps one field -/
section
variable {X : Cx} {CX : CXT} {x : Str} {e : Expr} {es : List Expr} {ta : TA} {p pos : Pos} {C fI : Addr} {k : Nat} {fd : FuncData} {ps : List Str} {sp : Sp}
theorem pmkN_oex (T : OexC X.K C) (iC : PySem.W.findIn X.K (.ref C) "__init__" = some (some (.ref fI))) (tI : PySem.W.typeIn X.K (.ref fI) = some (.type "function"))
    (F1 : FnOk X.prog X.w X.K X.mg X.base CX k fI fd ps sp) (hr : Room (k + 1) X.A) (hb : Binds X.K fd ps []) (hx : Passes CX X (fun _ _ _ => False)) (hg : Gl X x) (hm : X.mg x = some (.ref C)) (ha : PA X (e :: es) ta)
    (hdb : (x == ("__debug__" : Str)) = false := by decide) (he : starEach (e :: es) X.env = (false, eval e X.env) :: starEach es X.env := by rfl) (hpl : (backTo pos (starEach es X.env)).any (·.1) = false := by rfl) :
    L2N.PMk X (.Call (.Name x p) (e :: es) [] pos) (tMkO C sp [] ta) := by
  intro pins s σ H Q I h
  obtain ⟨nm, q, N, bs, bm, sn, sub, ab, col, dd, k0, k1, k2, k3, k5, hC, hbm⟩ := T.cls
  refine wpAny_Call_Name_kw (ld_glob I hg hm ?_ hdb)
  refine PySem.W.callWith_K (h₀ := X.base) I.ok.mod.kin T.kC (thn (ha.run pos pins s σ H _ I h) fun us s1 ⟨vs, H1, I1, r1, hz, q1⟩ => ⟨I1.kIn, ?_⟩) he hpl
  show wpAny _ _ (call (.ref C) us) _ _ _
  obtain ⟨hp, g, dr, tk, os⟩ := s1
  have hsz : hp.objs.size ≤ hp.objs.size + 1 := Nat.le_succ _
  have hn : H1 (hp.objs.size + 1) = none := I1.hok.fresh hsz
  have hq := q1 (hp.objs.size + 1) hn
  rw [List.append_nil] at hq
  have kk : ∀ b o, hp.get? b = some o → ((hp.push (PySem.W.kdv_tup us)).push (PySem.HandSPX.excO C hp.objs.size)).get? b = some o := fun b o e => Heap.get?_push_of_some _ (Heap.get?_push_of_some _ e)
  have hget : ((hp.push (PySem.W.kdv_tup us)).push (PySem.HandSPX.excO C hp.objs.size)).get? (hp.objs.size + 1) = some (PySem.HandSPX.excO C hp.objs.size) := by heap_get
  have I2 : Inv X pins σ (upd H1 (hp.objs.size + 1) (exo (hp.objs.size + 1) C none)) ⟨(hp.push (PySem.W.kdv_tup us)).push (PySem.HandSPX.excO C hp.objs.size), g, dr, tk, os⟩ :=
    I1.laid (t' := tk) (a := hp.objs.size + 1) (o := exo (hp.objs.size + 1) C none) (h' := (hp.push (PySem.W.kdv_tup us)).push (PySem.HandSPX.excO C hp.objs.size)) kk hsz (exo_ok hget)
  have r2 : Vals (V.ref (hp.objs.size + 1) :: vs) (Value.ref (hp.objs.size + 1) :: us) := .cons rfl r1
  have hl : (Value.ref (hp.objs.size + 1) :: us ++ []).length = ps.length := by
    have e := r2.length
    rw [F1.len _ _ _ _ hq] at e
    rw [List.append_nil]
    exact e.symm
  have hus : us.length ≤ sizeLine := by
    rw [← Paired.length r1, sizeLine_eq]
    omega
  have b2 := hb _ (Value.ref (hp.objs.size + 1) :: us) I2.kIn hl
  rw [List.append_nil] at b2
  refine wpAny_call (PySem.HandSPX.call_own F.excBase_ValueError (fun Y => PySem.HandSPX.refsVE_contains Y bm hbm) (I1.kIn _ _ hC) (PySem.W.looks_findIn I1.kIn iC) (fun self => PySem.W.bind_fn I1.kIn self tI) hus
    (codeAny_mono (F1.run _ X.stack _ _ ⟨Value.ref (hp.objs.size + 1) :: us, []⟩ (Value.ref (hp.objs.size + 1) :: us) _ _ (fun _ _ _ => False) (hr.make C us []) (I2.env0.make C us []) b2 r2 hq) fun r s' hq' => ?_))
  cases r with
  | error er => exact hx pins σ _ _ er s' I2 hq'
  | ok fl =>
    cases fl with
    | ret u =>
      obtain ⟨v, H2, os2, bare2, un2, hok2, rv, ev, d, fs, ea, ed, hd1, q2⟩ := hq'
      subst ev
      obtain ⟨h2, g2, d2, t2, os'⟩ := s'
      obtain ⟨t0, G, J, kG, ge, hoe, na⟩ := mk_end0 (d2 := d2) (t2 := t2) I1 hsz kk un2 hok2 os2 bare2 ea ed hd1
      refine ⟨rv, ⟨hp.objs.size + 1, _, _, ⟨G, g2, d2, t2, os'⟩, _, .ref C, some d, rfl, J, kG, ge, hoe, ⟨rfl, rfl, fun vs hv => ?_⟩, rfl, rfl, na, rfl, bare2, raises_own T.exC T.tyC, q2⟩⟩
      cases hv
      rfl
    | next => exact False.elim hq'
    | brk => exact False.elim hq'
    | cont => exact False.elim hq'
end
/-- THE PROMISE of such an __init__ -/
def spO (K : PySem.W.Frag) (C : Addr) (f : Str) : Sp := fun vs H Q _ => ∃ a v, vs = [.ref a, v] ∧ H a = some (exo a C none) ∧ ∀ dx, H dx = none → dx ≠ a → Q .non (upd (upd H dx (exd dx [(f, v)])) a (exo a C (some dx)))
section
variable {P : Program} {w : World} {K : PySem.W.Frag} {mg : Str → Option Value} {base : Heap} {x qual : Str} {params : Arguments} {scope : Scope} {dvs : List V} {kws : List (Str × V)} {fI C : Addr} {fd : FuncData}
theorem fn_oex {CX : CXT} {N ps : List Str} {k : Nat} {sf y f : Str} {p1 p2 p3 p4 : Pos} (F : FunD K x qual params [.Assign [.Attribute (.Name sf p1) f p2] (.Name y p3) p4] scope dvs kws fI fd) (Sc : FnScope N ps scope) (hN : N = [sf, y]) (hn : ps.length = 2) (T : OexC K C) (hno : PySem.W.findIn K (.ref C) f = some none)
    (hv1 : Vis scope sf := by first | exact Or.inl rfl | exact Or.inr (Or.inl rfl) | exact Or.inr (Or.inr rfl)) (hv2 : Vis scope y := by first | exact Or.inl rfl | exact Or.inr (Or.inl rfl) | exact Or.inr (Or.inr rfl))
    (hd1 : (sf == ("__debug__" : Str)) = false := by decide) (hd2 : (y == ("__debug__" : Str)) = false := by decide) (hc1 : (sf == ("__classdict__" : Str)) = false := by decide) (hc2 : (y == ("__classdict__" : Str)) = false := by decide)
    (hs : ∀ env : PySem.Env, swapsWith (.Name y p3) (some (.Attribute (.Name sf p1) f p2)) p4.line env = pure false := by intro _; rfl) : FnOk P w K mg base CX (k + 1) fI fd ps (spO K C f) := by
  subst hN
  refine F.ok Sc (fun vs H Q E h => ?_) fun cdv A outer s H vs Q E hr h => ?_
  · obtain ⟨a, v, rfl, _⟩ := h
    exact hn.symm
  · obtain ⟨a, v, rfl, e, q⟩ := h
    refine ⟨_, pss_one (ps_ost (pe_var (i := 0) rfl hv1 hd1 hc1) (pe_var (i := 1) rfl hv2 hd2 hc2) (hs _)), ?_⟩
    exact ⟨v, rfl, .ref a, rfl, a, C, rfl, T, hno, .inl ⟨e, fun dx n ne => q dx n ne⟩⟩
end

/-! ### raise C(e) -/
def dRaise (C f : Str) (fe : Dl.Env → Res EV) : Stm := fun ρ => (fe ρ).at ρ fun x => match x with
  | .sh d => .ok (.ex ⟨C, [(f, d)]⟩ ρ)
  | _ => .stuck
section
variable {X : Cx} {W : WX} {x f : Str} {e : Expr} {p pos pos2 : Pos} {fI : Addr} {j k : Nat} {fd : FuncData} {ps : List Str} {fe : Dl.Env → Res EV}
theorem ds_raise (L : Lv X W k) (T : OexC X.K (clOf X.mg x)) (iC : PySem.W.findIn X.K (.ref (clOf X.mg x)) "__init__" = some (some (.ref fI))) (tI : PySem.W.typeIn X.K (.ref fI) = some (.type "function"))
    (G : FnOk X.prog X.w X.K X.mg X.base (L2N.CX X.prog X.w) j fI fd ps (spO X.K (clOf X.mg x) f)) (hj : j + 1 ≤ k) (hb : Binds X.K fd ps []) (hm : X.mg x = some (.ref (clOf X.mg x))) (ha : DE X (WE W) e fe) (hg : Gl X x := by rfl)
    (hdb : (x == ("__debug__" : Str)) = false := by decide) (he : starEach [e] X.env = (false, eval e X.env) :: starEach [] X.env := by rfl) (hpl : (backTo pos (starEach [] X.env)).any (·.1) = false := by rfl) :
    DS X (WE W) (.Raise (some (.Call (.Name x p) [e] [] pos)) none pos2) (dRaise x f fe) := by
  have hx : Passes (L2N.CX X.prog X.w) X (fun _ _ _ => False) := fun pins σ H s e s' I c => L2N.passes_call L.tk (fun _ _ _ _ h => h.elim) pins σ H s e s' I c
  refine ps_imp (L2N.ps_raise L.calm L.tk (pmkN_oex T iC tI G (L.room.mono hj) hb hx hg hm (pa_cons ha pa_nil he) hdb he hpl)) fun D σ H h => ?_
  obtain ⟨B, S, ρ, O, V, h⟩ := h
  refine ⟨S, ρ, O, V.v, postS.fst h V fun y e1 h1 S1 H1 A v g r nd fr => ?_⟩
  refine ⟨by simp, fun a ha => ?_⟩
  split at h1
  · rename_i d
    cases r with
    | sh r =>
      refine ⟨a, v, rfl, upd_same, fun dx hd hne => ⟨rfl, dx, [(f, v)], upd_same, ?_, ?_, ?_⟩⟩
      · rw [upd_ne hne, upd_same]
      · rw [upd_ne hne] at hd
        exact hd
      · rw [upd_ne hne] at hd
        have ee : upd (del (upd (upd (upd H1 a (exo a (clOf X.mg x) none)) dx (exd dx [(f, v)])) a (exo a (clOf X.mg x) (some dx))) a) dx (.xd [(f, v)]) = upd H1 dx (.xd [(f, v)]) := by
          funext b
          by_cases h2 : b = dx
          · rw [h2, upd_same, upd_same]
          · rw [upd_ne h2, upd_ne h2]
            by_cases h3 : b = a
            · rw [h3, del_same, ha]
            · rw [del_ne h3, upd_ne h3, upd_ne h2, upd_ne h3]
        rw [ee]
        have g2 : Gr S1 H1 S1 (upd H1 dx (.xd [(f, v)])) := Gr.pushO g.sub hd
        refine h1 S1 _ σ O _ _ ((V.gr g).gr g2) ⟨rfl, dx, [(f, v)], rfl, upd_same, .cons r .nil⟩ fun d0 e0 => ?_
        cases e0
        exact V.fresh (A := [dx]) (fun b hb => by rw [List.mem_singleton.mp hb]; exact g.hh.free hd) dx List.mem_cons_self
  · exact h1.elim
end

/-! ### the caught exception is asked -/
end Dl
namespace PySem.W
open PySem PySem.Spec PySem.Calls PyProof.Rows
section
variable {prog : Program} {w : World} {A : Around} {E : Value → Shared → Prop} {s : Shared} {K : Frag} {x D : Addr} {ox : Obj} {od : Option Obj}
theorem dl_findObj {C : Addr} {name : Str} {a g : Value} (hc : (clsIn K C).isSome = true) (ha : findIn K (.ref C) name = some (some a)) (hg : specialIn K a "__get__" = some (some g)) (ht : takesIn K a = some true) : findObj K C od name = some (.bind g a) := by
  obtain ⟨cd, hc⟩ := Option.isSome_iff_exists.mp hc
  unfold findObj
  rw [hc, Option.bind_some, ha, Option.bind_some]
  simp [hg, ht]
theorem dl_kin_class {Q : Option Value → Shared → Prop} (hga : findIn K (.ref D) "__getattribute__" = some (some (.builtin "BaseException.__getattribute__"))) (hgt : findIn K (.ref D) "__getattr__" = some none) (hsub : subIn K (.ref D) (.type "BaseException") = some true)
    (hdct : hasDictIn K D = true) (ha : findIn K (.ref D) "__class__" = some (some (.builtin "object.__class__")))
    (hn : specialIn K (.builtin "object.__class__") "__get__" = some (some (.builtin "getset_descriptor.__get__"))) (htk : takesIn K (.builtin "object.__class__") = some true) (hm : mroIn K D (.type "object") = some true)
    (X : K.In s.heap) (I : InstAt s.heap x ox D od) (h : Q (some (.ref D)) { s with toks := s.toks + 1 }) : wpAny (model prog w) A (getAttr? (.ref x) "__class__") Q E s := by
  have hf : findObj K D od "__class__" = some (.bind (.builtin "getset_descriptor.__get__") (.builtin "object.__class__")) := dl_findObj (by obtain ⟨cd, hc, _⟩ := any_some hdct; rw [hc]; rfl) ha hn htk
  obtain ⟨hp, g, d, t, os⟩ := s
  have L0 := I.type (M := model prog w)
  have L1 := looks_findIn (M := model prog w) X hga
  have L2 := looks_findIn (M := model prog w) X hgt
  have L3 := looks_find (M := model prog w) X I hf
  have sub : Looks (model prog w) hp (isInstance (.ref x) (.type "BaseException")) true := L0.andThen (looks_subIn X hsub)
  have hx0 : (false && onTheHeap (Value.builtin "BaseException.__getattribute__")) = false := rfl
  have hx2 : (Value.builtin "BaseException.__getattribute__" == Value.builtin "object.__getattribute__") = false := by decide +kernel
  have hx1 : (onTheHeap (Value.ref D) && Value.builtin "BaseException.__getattribute__" == Value.builtin "object.__getattribute__") = false := by rw [hx2]; rfl
  unfold getAttr? getAttrBy? getAttrBy
  refine wpAny_bind (wpAny_mkText (wpAny_bind (wpAny_attempt (wpAny_holding (wpAny_bind (L0.at (wpAny_bind (L1.at ?_))))))))
  show wpAny _ _ (if (onTheHeap (Value.ref D) && Value.builtin "BaseException.__getattribute__" == Value.builtin "object.__getattribute__") = true then _ else _) _ _ _
  rw [hx1, if_neg Bool.false_ne_true]
  unfold getAttrByItsOwn hookBefore
  refine wpAny_bind ?_
  rw [if_pos (show onTheHeap (Value.ref D) = true from rfl)]
  refine L2.at ?_
  refine wpAny_bind (wpAny_attempt (wpAny_holding ?_))
  unfold callGetattribute
  rw [hx0, if_neg Bool.false_ne_true]
  unfold boundAndCalled
  rw [PySem.F.excAttr_ValueError.ga.bind (.ref x)]
  refine wpAny_bind (wpAny_pure ?_)
  show wpAny _ _ (call (.builtin "BaseException.__getattribute__") [.ref x, .str "__class__" t]) _ _ _
  refine wpAny_call (codeAny_call_builtin PySem.F.excAttr_ValueError.ga.plain PySem.F.entry_bexc_ga ?_)
  refine @check_slot (model prog w) _ _ ⟨hp, g, d, t + 1, os⟩ "BaseException.__getattribute__" "BaseException" "__getattribute__" (.ref x) [.str "__class__" t] [] _ (by decide +kernel) (by decide +kernel) sub (PySem.F.args_bexc_ga (.ref x) (.str "__class__" t)) ?_
  unfold Builtin.«object.__getattribute__»
  refine wpAny_bind (wpAny_of_eq (a := ((Value.ref x : Value), [Value.str "__class__" t])) (by first | rfl | (simp only [slotArgs]; rfl)) ?_)
  refine wpAny_bind (wpAny_pure (wpAny_bind (L0.at (wpAny_bind (L3.at ?_)))))
  show wpAny _ _ (holding [Value.builtin "object.__class__"] (call (.builtin "getset_descriptor.__get__") [.builtin "object.__class__", .ref x, .ref D]) >>= ret) _ _ _
  refine wpAny_bind (wpAny_holding (wpAny_call (class_get (s := ⟨hp, g, d, t + 1, os⟩) (ox := ox) (od := od) X I hm ?_)))
  refine wpAny_pure ?_
  show wpAny _ _ (handedOut (.ref D)) _ _ _
  rw [handedOut_of (v := .ref D) rfl]
  first
    | exact wpAny_pure (wpAny_pure h)
    | exact wpAny_pure h
    | exact wpAny_pure (wpAny_bind (wpAny_pure (wpAny_pure h)))
theorem dl_kitx (hga : findIn K (.ref D) "__getattribute__" = some (some (.builtin "BaseException.__getattribute__"))) (hgt : findIn K (.ref D) "__getattr__" = some none) (hsub : subIn K (.ref D) (.type "BaseException") = some true) (hdct : hasDictIn K D = true) (ha : findIn K (.ref D) "__class__" = some (some (.builtin "object.__class__")))
    (hn : specialIn K (.builtin "object.__class__") "__get__" = some (some (.builtin "getset_descriptor.__get__"))) (htk : takesIn K (.builtin "object.__class__") = some true) (hm : mroIn K D (.type "object") = some true) :
    KitX K (.ref x) (.ref D) (fun h => InstAt h x ox D od) where
  ty := fun _ _ _ I => I.type
  it := fun _ _ X _ => by
    obtain ⟨cdD, hcD, _⟩ := any_some hdct
    unfold clsIn at hcD
    split at hcD
    · rename_i c' d' cd' sl' ho
      intro A' Q' E' s' k q
      unfold isType loadHead
      exact wpAny_bind (wpAny_loadPart (k _ _ (X _ _ ho)) (wpAny_pure q))
    · cases hcD
  ne := fun h tp dd its n sl X htp => by
    obtain ⟨cdD, hcD, _⟩ := any_some hdct
    refine Bool.eq_false_iff.mpr fun q => ?_
    have e : D = tp := Value.ref.inj (beq_iff_eq.mp q)
    subst e
    unfold clsIn at hcD
    split at hcD
    · rename_i c' d' cd' sl' ho
      have z := (X _ _ ho).symm.trans htp
      cases z
    · cases hcD
  ca := fun X I k => dl_kin_class hga hgt hsub hdct ha hn htk hm X I k
end
end PySem.W
namespace Dl
open PySem PySem.Spec PyProof.Rows L2
/-- isinstance(e, c), e the exception that the suite holds -/
def rIsX (K : PySem.W.Frag) (a : Addr) (oe : Obj) : List V → Hp → VK → Prop := fun xs H Q => ∃ (D : Addr) (c : V) (cv : Value) (b : Bool), xs = [.ref a, c] ∧ oe.cls = .ref D ∧ ExcC K D ∧ (oe.dict = none ∨ ∃ dd fs, oe.dict = some dd ∧ H dd = some (.xd fs)) ∧
  (∀ u, RelV c u → u = cv) ∧ PySem.W.kitOne K (.ref D) cv = some b ∧ Q (.bl b) H
theorem call_isX {X : Cx} {a : Addr} {oe : Obj} {pn : List (Addr × Obj)} (hf : ∃ vs, oe.data = .fields vs) : CallR (X.suite a ((a, oe) :: pn)) (.builtin "isinstance") (rIsX X.K a oe) := by
  intro pins s σ H xs us Q I r h
  obtain ⟨D, c, cv, b, rfl, hD, C, hd, hcv, e, q⟩ := h
  cases r with
  | cons rx rr =>
    cases rr with
    | cons rt rr =>
      cases rr
      cases rx
      have ec := hcv _ rt
      subst ec
      obtain ⟨hget, _⟩ := I.pin (a, oe) (List.mem_append.mpr (.inl List.mem_cons_self))
      obtain ⟨vs, hv⟩ := hf
      obtain ⟨oc, odi, oda, osl⟩ := oe
      dsimp only at hD hv hd
      subst hD hv
      rcases hd with hd | ⟨dd, fs, hd, hH⟩
      · subst hd
        have J : PySem.W.InstAt s.heap a ⟨.ref D, none, .fields vs, osl⟩ D none := ⟨hget, rfl, rfl, trivial⟩
        exact PySem.W.kia_one (PySem.W.dl_kitx C.hg C.hk C.hs C.hd C.ha C.hn C.ht C.hm) I.kIn J e (fun z => nomatch z) fun tk => ⟨.bl b, H, I.kept (t' := tk) fun _ _ z => z, rfl, q⟩
      · subst hd
        have hx : ObjOk X.prog X.w H s.heap dd (.xd fs) := I.hok dd _ hH
        obtain ⟨mA, hns, hr⟩ := hx
        obtain ⟨od, ho, hl⟩ := lookIn_ns hns
        have J : PySem.W.InstAt s.heap a ⟨.ref D, some dd, .fields vs, osl⟩ D (some od) := ⟨hget, rfl, rfl, ho⟩
        exact PySem.W.kia_one (PySem.W.dl_kitx C.hg C.hk C.hs C.hd C.ha C.hn C.ht C.hm) I.kIn J e (fun z => nomatch z) fun tk => ⟨.bl b, H, I.kept (t' := tk) fun _ _ z => z, rfl, q⟩
/-- hit: of the exception's class, the answer -/
def dIsX (i : Nat) (hit : Str → Option Bool) : Dl.Env → Res EV := fun ρ => match ρ[i]? with
  | some (.xc z) => (match hit z.C with
    | some b => .ok (.sh (.bl b))
    | none => .stuck)
  | _ => .stuck
theorem xc_dict {c : Ct} {S H : Hp} {z : Xc} (s : Same S H) (r : XRep c S S c.xc c.xd z) : c.xd = none ∨ ∃ dd fs, c.xd = some dd ∧ H dd = some (.xd fs) := by
  obtain ⟨C, fs⟩ := z
  obtain ⟨_, h2⟩ := r
  cases fs with
  | nil => exact .inl h2
  | cons p fs =>
    obtain ⟨d, vfs, q1, q2, _⟩ := h2
    exact .inr ⟨d, vfs, q1, s _ _ q2⟩
section
variable {X : Cx} {E : WS} {a : Addr} {oe : Obj} {pn : List (Addr × Obj)} {nm : Str} {p p1 p2 pos : Pos}
theorem de_isX (i : Nat) {ce : Expr} {c : V} {cv : Value} {hit : Str → Option Bool} (hf : ∃ vs, oe.data = .fields vs) (hce : PE (X.suite a ((a, oe) :: pn)) ce (tC c)) (hcv : ∀ u, RelV c u → u = cv)
    (hh : ∀ n b, hit n = some b → ExcC X.K (clOf X.mg n) ∧ PySem.W.kitOne X.K (.ref (clOf X.mg n)) cv = some b) (hm : X.mg "isinstance" = none)
    (hN : X.N[i]? = some nm := by rfl) (hg : Gl X "isinstance" := by rfl) (hv : Vis X.env.scope nm := by first | exact Or.inl rfl | exact Or.inr (Or.inl rfl) | exact Or.inr (Or.inr rfl)) (hd : (nm == ("__debug__" : Str)) = false := by decide)
    (hcd : (nm == ("__classdict__" : Str)) = false := by decide) (he : starEach [.Name nm p1, ce] X.env = (false, eval (.Name nm p1) X.env) :: starEach [ce] X.env := by rfl) (he2 : starEach [ce] X.env = (false, eval ce X.env) :: starEach [] X.env := by rfl)
    (hpl : (backTo pos (starEach [ce] X.env)).any (·.1) = false := by rfl) : DE (X.suite a ((a, oe) :: pn)) E (.Call (.Name "isinstance" p) [.Name nm p1, ce] [] pos) (dIsX i hit) := by
  have hbt : bootBuiltins "isinstance" = some (.builtin "isinstance") := PyProof.Rows.Boot.isinstance
  have ha : PA (X.suite a ((a, oe) :: pn)) [.Name nm p1, ce] (tCons (tVar i) (tCons (tC c) tNil)) := pa_cons (pe_var (i := i) hN hv hd hcd) (pa_cons hce pa_nil he2) he
  refine pe_imp (pe_callB (call_isX (X := X) (pn := pn) hf) hg hm hbt ha (by decide) (by decide) he hpl) fun σ H Q h => ?_
  obtain ⟨S, ρ, O, V, h⟩ := h
  unfold dIsX at h
  cases e : ρ[i]? with
  | none =>
    rw [e] at h
    exact h.elim
  | some y =>
    obtain ⟨A, o, q1, q2, _⟩ := V.sl.at_ V.nd e
    rw [e] at h
    cases q2 with
    | no => exact h.elim
    | sh r => exact h.elim
    | own r => exact h.elim
    | lk r => exact h.elim
    | mk _ _ _ => exact h.elim
    | dic _ _ _ => exact h.elim
    | @xc z r =>
      cases e2 : hit z.C with
      | none =>
        simp only [e2] at h
        exact h.elim
      | some b =>
        simp only [e2] at h
        obtain ⟨k1, k2⟩ := hh _ _ e2
        refine ⟨_, q1, clOf X.mg z.C, c, cv, b, rfl, r.1, k1, xc_dict V.sub r, hcv, k2, ?_⟩
        exact Post.sh h (Gr.refl V.sub) (.bl b)
/-- e.f -/
def tXg (K : PySem.W.Frag) (a : Addr) (oe : Obj) (f : Str) (te : TE) : TE := fun σ H Q => te σ H fun x H1 => x = .ref a ∧ ∃ (C dd : Addr) (fs : List (Str × V)) (v : V), oe.cls = .ref C ∧ XfC K C ∧ PySem.W.findIn K (.ref C) f = some none ∧ oe.dict = some dd ∧ H1 dd = some (.xd fs) ∧ fs.lookup f = some v ∧ Q v H1
theorem pe_xg {e : Expr} {te : TE} {n : Str} (hf : ∃ vs, oe.data = .fields vs) (he : PE (X.suite a ((a, oe) :: pn)) e te) (hb : attributeBase e n X.env (eval e X.env) = eval e X.env := by rfl) :
    PE (X.suite a ((a, oe) :: pn)) (.Attribute e n pos) (tXg X.K a oe n te) := by
  refine ⟨fun pins s σ H Q I h => ?_⟩
  refine attr_of hb (thn (he.run pins s σ H _ I h) fun u s1 hh => ?_)
  obtain ⟨x, H1, I1, rx, ex, C, dd, fs, v, ec, T, hno, ed, ea, l, q⟩ := hh
  subst ex
  obtain rfl : u = Value.ref a := rx
  obtain ⟨ha, _⟩ := I1.pin (a, oe) (List.mem_append_left _ List.mem_cons_self)
  obtain ⟨vs, hd⟩ := hf
  have hx : ObjOk X.prog X.w H1 s1.heap dd (.xd fs) := I1.hok dd _ ea
  obtain ⟨mA, hns, hr⟩ := hx
  obtain ⟨od, ho, hl⟩ := lookIn_ns hns
  obtain ⟨u, hu, ru⟩ := RelO.some_of (v := v) (o := mA n) (by rw [← l]; exact hr n)
  have J : PySem.W.InstAt s1.heap a oe C (some od) := ⟨ha, ec, by unfold PySem.W.notCls; rw [hd] <;> rfl, by rw [ed]; exact ho⟩
  exact HandSPX.exc_get I1.kIn J T.ga T.gg T.exC (PySem.W.findObj_own T.hdC hno rfl (by rw [hl, hu])) (handed_of ru) ⟨v, H1, I1.tok _, ru, q⟩
/-- ok: the classes that have the field -/
def dXf (i : Nat) (ok : Str → Bool) (f : Str) : Dl.Env → Res EV := fun ρ => match ρ[i]? with
  | some (.xc z) => if ok z.C then (match z.fs.lookup f with
    | some d => .ok (.sh d)
    | none => .stuck) else .stuck
  | _ => .stuck
theorem de_xf (i : Nat) {f : Str} {ok : Str → Bool} (hf : ∃ vs, oe.data = .fields vs) (hh : ∀ n, ok n = true → XfC X.K (clOf X.mg n) ∧ PySem.W.findIn X.K (.ref (clOf X.mg n)) f = some none)
    (hN : X.N[i]? = some nm := by rfl) (hv : Vis X.env.scope nm := by first | exact Or.inl rfl | exact Or.inr (Or.inl rfl) | exact Or.inr (Or.inr rfl)) (hd : (nm == ("__debug__" : Str)) = false := by decide)
    (hcd : (nm == ("__classdict__" : Str)) = false := by decide) (hb : attributeBase (.Name nm p1) f X.env (eval (.Name nm p1) X.env) = eval (.Name nm p1) X.env := by rfl) : DE (X.suite a ((a, oe) :: pn)) E (.Attribute (.Name nm p1) f pos) (dXf i ok f) := by
  refine pe_imp (pe_xg (X := X) (pn := pn) hf (pe_var (i := i) hN hv hd hcd) hb) fun σ H Q h => ?_
  obtain ⟨S, ρ, O, V, h⟩ := h
  unfold dXf at h
  cases e : ρ[i]? with
  | none =>
    rw [e] at h
    exact h.elim
  | some y =>
    obtain ⟨A, o, q1, q2, _⟩ := V.sl.at_ V.nd e
    rw [e] at h
    cases q2 with
    | no => exact h.elim
    | sh r => exact h.elim
    | own r => exact h.elim
    | lk r => exact h.elim
    | mk _ _ _ => exact h.elim
    | dic _ _ _ => exact h.elim
    | @xc z r =>
      simp only at h
      split at h
      · rename_i hok
        obtain ⟨k1, k2⟩ := hh _ hok
        obtain ⟨C, fs⟩ := z
        cases fs with
        | nil => exact h.elim
        | cons p0 fs =>
          obtain ⟨r1, d, vfs, r2, r3, r4⟩ := r
          cases q : (p0 :: fs).lookup f with
          | none =>
            simp only [q] at h
            exact h.elim
          | some y =>
            simp only [q] at h
            obtain ⟨v, l1, l2⟩ := r4.lookup q
            exact ⟨_, q1, rfl, clOf X.mg C, d, vfs, v, r1, k1, k2, r2, V.sub _ _ r3, l1, Post.sh h (Gr.refl V.sub) l2⟩
      · exact h.elim
end

/-! ### try .. except C as n -/
theorem SRep.notXd {c : Ct} {S H : Hp} {A : List Addr} {o : Option V} {v : SV} (h : SRep c S H A o v) : ∀ a ∈ A, ∀ vfs, H a ≠ some (.xd vfs) := by
  have lst : ∀ {a : Addr} {vs : List V} {vfs}, H a = some (.lst vs) → H a ≠ some (.xd vfs) := fun e z => by
    rw [e] at z
    cases z
  cases h with
  | no => exact fun a ha => by cases ha
  | sh r => exact fun a ha => by cases ha
  | xc r => exact fun a ha => by cases ha
  | own r => exact fun a ha vfs => lst (r.alive a ha).1.choose_spec
  | lk r => exact fun a ha vfs => lst (r.alive a ha).1.choose_spec
  | mk h n r =>
    intro a ha vfs z
    rw [List.mem_singleton.mp ha, h] at z
    cases z
  | dic h n r =>
    intro a ha vfs z
    rw [List.mem_singleton.mp ha, h] at z
    have z' : dcO c _ _ = HO.xd vfs := Option.some.inj z
    have z2 : HO.ext _ = HO.xd vfs := z'
    cases z2
theorem Slots.notXd {c : Ct} {S H : Hp} : ∀ {σ : L2.St} {ρ : Dl.Env} {O : List Addr}, Slots c S H σ ρ O → ∀ a ∈ O, ∀ vfs, H a ≠ some (.xd vfs)
  | _, _, _, .nil, a, ha => by cases ha
  | _, _, _, .cons h r, a, ha => by
    rcases List.mem_append.mp ha with ha | ha
    · exact h.notXd a ha
    · exact Slots.notXd r a ha
section
variable {c : Ct} {B : Base} {S H : Hp} {σ : L2.St} {ρ : Dl.Env} {O : List Addr}
/-- the exception's dict becomes shared -/
theorem Vw.shareX (V : Vw c B S H σ ρ O) {e : Value} {dx : Option Addr} {z : Xc} (x : XRep c S H e dx z) (f : FrX B.H dx) : ∃ S', Vw c B S' H σ ρ O ∧ XRep c S' S' e dx z := by
  obtain ⟨C, fs⟩ := z
  obtain ⟨x1, x2⟩ := x
  cases fs with
  | nil => exact ⟨S, V, x1, x2⟩
  | cons p fs =>
    obtain ⟨d, vfs, q1, q2, q3⟩ := x2
    cases e : S d with
    | some o =>
      have z := V.sub d o e
      rw [q2] at z
      cases z
      exact ⟨S, V, x1, d, vfs, q1, e, q3⟩
    | none =>
      have nA : ∀ a ∈ [d], S a = none := fun a ha => by rw [List.mem_singleton.mp ha]; exact e
      have nO : ∀ a ∈ O, a ∉ [d] := fun a ha hd => by
        rw [List.mem_singleton.mp hd] at ha
        exact V.v.sl.notXd d ha vfs q2
      refine ⟨grab S H [d], ⟨⟨grab_same V.sub, V.v.sl.mono (same_grab nA) fun a ha => ⟨rfl, by rw [grab_out (nO a ha)]; exact (V.v.sl.alive a ha).2⟩, V.v.nd⟩, ⟨V.g.hh, V.g.ss.trans (same_grab nA), grab_same V.sub, fun a o ea na => ?_, V.g.exs⟩, V.own, V.ni⟩,
        x1, d, vfs, q1, (grab_in List.mem_cons_self).trans q2, q3.mono (same_grab nA)⟩
      have h : a ∉ [d] := fun z => by
        rw [List.mem_singleton.mp z, f d q1] at ea
        cases ea
      rw [grab_out h]
      exact V.g.new a o ea na
theorem Vw.re {xa : Addr} {xd : Option Addr} {xc : Value} (V : Vw c B S H σ ρ O) (n : ρ.all SV.noXc = true) : Vw (c.re xa xd xc) B S H σ ρ O := ⟨⟨V.v.sub, V.v.sl.re n, V.v.nd⟩, V.g, V.own, V.ni⟩
theorem Vw.del {i : Nat} {x : SV} (v : Vw c B S H σ ρ O) (e : ρ[i]? = some x) : ∃ O', Vw c B S H (σ.set i none) (ρ.set i .no) O' := by
  obtain ⟨A, o, q1, q2, q3, q4, q5⟩ := v.v.sl.at_ v.v.nd e
  obtain ⟨O', p1, p2, p3⟩ := q5 S H [] none .no (Same.refl _) (fun a ha _ => ⟨rfl, (v.v.sl.alive a ha).2⟩) .no List.nodup_nil (fun a ha ho => by cases ha)
  exact ⟨O', ⟨v.sub, p1, p2⟩, v.g, fun a ha => (p3 a ha).elim (fun z => by cases z) fun z => v.own a z.1, fun a ha => (p3 a ha).elim (fun z => by cases z) fun z => v.ni a z.1⟩
end
def leaveE (i : Nat) (ρ : Dl.Env) : Option Dl.Env := match ρ[i]? with
  | some _ => if (ρ.set i .no).all SV.noXc then some (ρ.set i .no) else none
  | none => none
def leaveX (i : Nat) (r : Res Out) : Res Out := match r with
  | .ok (.nx ρ) => (match leaveE i ρ with
    | some ρ1 => .ok (.nx ρ1)
    | none => .stuck)
  | .ok (.bk ρ) => (match leaveE i ρ with
    | some ρ1 => .ok (.bk ρ1)
    | none => .stuck)
  | .ok (.ct ρ) => (match leaveE i ρ with
    | some ρ1 => .ok (.ct ρ1)
    | none => .stuck)
  | .ok (.ret x) => .ok (.ret x)
  | _ => .stuck
def dTryAs (hit : Str → Option Bool) (i : Nat) (gb gs : Stm) : Stm := fun ρ => match gb ρ with
  | .ok (.ex z ρ1) => (match hit z.C with
    | some true => if ρ1.all SV.noXc then (match putR i (.xc z) ρ1 with
      | some ρ2 => leaveX i (gs ρ2)
      | none => .stuck) else .stuck
    | some false => .ok (.ex z ρ1)
    | none => .stuck)
  | r => r
theorem putR_some {i : Nat} {x : SV} {ρ ρ1 : Dl.Env} (h : putR i x ρ = some ρ1) : ∃ y, ρ[i]? = some y ∧ ρ1 = ρ.set i x := by
  unfold putR at h
  cases q : ρ[i]? with
  | none => rw [q] at h; cases h
  | some y =>
    rw [q] at h
    simp only at h
    split at h
    · cases h
      exact ⟨y, rfl, rfl⟩
    · cases h
theorem leaveE_vw {c : Ct} {xa : Addr} {xd : Option Addr} {xc : Value} {B : Base} {S H : Hp} {σ : L2.St} {ρ ρ1 : Dl.Env} {O : List Addr} {i : Nat} (V : Vw (c.re xa xd xc) B S H σ ρ O) (h : leaveE i ρ = some ρ1) : ∃ O', Vw c B S H (σ.set i none) ρ1 O' := by
  unfold leaveE at h
  cases q : ρ[i]? with
  | none => rw [q] at h; cases h
  | some y =>
    rw [q] at h
    simp only at h
    split at h
    · rename_i hn
      cases h
      obtain ⟨O', V'⟩ := V.del q
      have V2 : Vw c B S H (σ.set i none) (ρ.set i .no) O' := V'.re (xa := c.xa) (xd := c.xd) (xc := c.xc) hn
      exact ⟨O', V2⟩
    · cases h
/-- nothing may leave the suite by an exception -/
abbrev W0 : WX := fun _ _ _ _ => False
theorem ds_tryAs {X : Cx} {W : WX} {k i : Nat} {x n : Str} {c : Value} {body suite : List Stmt} {b₀ : Stmt} {np pos pos' : Pos} {hit : Str → Option Bool} {gb gs : Stm} (L : Lv X W k) (hN : X.N.Nodup) (hc : Names X x c)
    (hh : ∀ m b, hit m = some b → PySem.W.exmOne X.K (.ref (clOf X.mg m)) c = some b)
    (hb : ∀ (W' : WX) (pn : List (Addr × Obj)) (xe : Value → Shared → Prop), Lv (X.tr pn xe) W' k → DSs (X.tr pn xe) (WE W') body gb)
    (hsu : ∀ (a : Addr) (oe : Obj) (pn : List (Addr × Obj)), (∃ vs, oe.data = .fields vs) → LvH (X.suite a ((a, oe) :: pn)) W0 k → DSs (X.suite a ((a, oe) :: pn)) (WE W0) (b₀ :: suite) gs)
    (hi : X.N[i]? = some n := by rfl) (hln : X.env.kindOf n = some .local := by rfl) :
    DS X (WE W) (.Try body [.ExceptHandler (some (.Name x np)) (some n) (b₀ :: suite) pos'] [] [] pos) (dTryAs hit i gb gs) := by
  have e0 := ctOf_calm L.calm
  refine ps_imp (L2N.ps_try_as (tb := fun W' => rS (ctOf X) (WE W') gb) (ts := fun a cls d => rS ((ct0 X).re a d cls) (WE W0) gs) (Wout := W) L.hs L.hf hN hi hln hc L.tk (fun W' pn xe tk po => ?_) (fun a oe cls d pn hz hf => ?_)) fun D σ H h => ?_
  · have q := hb W' pn xe ⟨tk, po, L.calm, L.room, L.hs, L.hf⟩
    have e1 : ctOf (X.tr pn xe) = ct0 X := ctOf_calm (X := X.tr pn xe) L.calm
    unfold DSs at q
    rw [e1] at q
    rw [e0]
    exact q
  · obtain ⟨h1, h2, h3⟩ := hz
    subst h1 h2
    exact hsu a oe pn hf ⟨fun u s' ⟨_, _, _, _, _, _, _, _, _, _, _, _, _, _, _, _, w⟩ => w.elim, PassesOwn.never, ⟨(a, oe), ⟨rfl, let ⟨vs, hv⟩ := hf; ⟨vs, hv, h3 vs hv⟩⟩, List.mem_cons_self⟩, L2H.roomH_mark L.room _⟩
  · obtain ⟨B, S, ρ, O, V, h⟩ := h
    refine ⟨B, S, ρ, O, V, ?_⟩
    unfold dTryAs at h
    cases q : gb ρ with
    | stuck => rw [q] at h; exact h
    | exc z => rw [q] at h; exact h
    | ok o =>
      rw [q] at h
      cases o with
      | nx ρ1 => exact h
      | bk ρ1 => exact h
      | ct ρ1 => exact h
      | ret x => exact h
      | ex z ρ1 =>
        simp only at h
        intro S1 H1 σ1 O1 e dx V1 x f
        have ee : e = .ref (clOf X.mg z.C) := x.1
        cases q2 : hit z.C with
        | none =>
          simp only [q2] at h
          exact h.elim
        | some b =>
          simp only [q2] at h
          refine ⟨b, by rw [ee]; exact hh _ _ q2, fun hb2 a ha => ?_, fun hb2 => ?_⟩
          · subst hb2
            simp only at h
            by_cases hn : ρ1.all SV.noXc = true
            · rw [if_pos hn] at h
              cases q3 : putR i (.xc z) ρ1 with
              | none =>
                rw [q3] at h
                exact h.elim
              | some ρ2 =>
                rw [q3] at h
                simp only at h
                obtain ⟨y, ey, e2⟩ := putR_some q3
                obtain ⟨S2, V2, x2⟩ := V1.shareX x f
                have V3 : Vw ((ct0 X).re a dx e) B S2 H1 σ1 ρ1 O1 := V2.re hn
                have x3 : XRep ((ct0 X).re a dx e) S2 S2 e dx z := x2.re
                obtain ⟨O2, V4⟩ := V3.put (v' := .ref a) (x' := .xc z) (A' := []) ey (.xc x3) List.nodup_nil (fun _ z => by cases z) (fun _ z => by cases z) (fun _ z => by cases z)
                refine ⟨B, S2, ρ2, O2, by rw [e2]; exact V4, ?_⟩
                unfold leaveX at h
                cases q4 : gs ρ2 with
                | stuck => rw [q4] at h; exact h
                | exc z => rw [q4] at h; exact h
                | ok o =>
                  rw [q4] at h
                  cases o with
                  | ex z ρ3 => exact h.elim
                  | ret u =>
                    intro S5 H5 A5 v5 r5
                    obtain ⟨r1, r2, r3⟩ := r5
                    exact h S5 H5 A5 v5 ⟨r1, r2.re (xa := (hxOf X).1) (xd := (hxOf X).2.1) (xc := (hxOf X).2.2), r3⟩
                  | nx ρ3 =>
                    simp only at h
                    cases q5 : leaveE i ρ3 with
                    | none => rw [q5] at h; exact h.elim
                    | some ρ4 =>
                      rw [q5] at h
                      intro S5 H5 σ5 O5 V5
                      obtain ⟨O6, V6⟩ := leaveE_vw (c := ctOf X) (xa := a) (xd := dx) (xc := e) V5 q5
                      exact h S5 H5 _ O6 V6
                  | bk ρ3 =>
                    simp only at h
                    cases q5 : leaveE i ρ3 with
                    | none => rw [q5] at h; exact h.elim
                    | some ρ4 =>
                      rw [q5] at h
                      intro S5 H5 σ5 O5 V5
                      obtain ⟨O6, V6⟩ := leaveE_vw (c := ctOf X) (xa := a) (xd := dx) (xc := e) V5 q5
                      exact h S5 H5 _ O6 V6
                  | ct ρ3 =>
                    simp only at h
                    cases q5 : leaveE i ρ3 with
                    | none => rw [q5] at h; exact h.elim
                    | some ρ4 =>
                      rw [q5] at h
                      intro S5 H5 σ5 O5 V5
                      obtain ⟨O6, V6⟩ := leaveE_vw (c := ctOf X) (xa := a) (xd := dx) (xc := e) V5 q5
                      exact h S5 H5 _ O6 V6
            · rw [if_neg hn] at h
              exact h.elim
          · subst hb2
            exact h S1 H1 σ1 O1 e dx V1 x f
end Dl
set_option Elab.async false
set_option linter.all false
set_option maxRecDepth 100000
/-! DL10: dicts with tuple keys. -/
namespace Dl
open PySem PySem.Spec PyProof.Rows L2

/-! ### keys -/
mutual
def toKey : D → Option NestedKey
  | .non => some .none
  | .int i => some (.num i)
  | .str x => some (.text x)
  | .tup ds => (toKeys ds).map .tup
  | _ => none
def toKeys : List D → Option (List NestedKey)
  | [] => some []
  | d :: ds => match toKey d, toKeys ds with
    | some k, some ks => some (k :: ks)
    | _, _ => none
end
mutual
theorem toKey_keyD : ∀ {d : D} {k : NestedKey}, toKey d = some k → keyD k = d
  | .non, _, h => by rw [toKey] at h; cases h; rfl
  | .int i, _, h => by rw [toKey] at h; cases h; rfl
  | .str x, _, h => by rw [toKey] at h; cases h; rfl
  | .tup ds, _, h => by
    rw [toKey] at h
    cases q : toKeys ds with
    | none => rw [q] at h; cases h
    | some ks =>
      rw [q] at h
      cases h
      rw [keyD, toKeys_keyDs q]
  | .bl _, _, h => by rw [toKey] at h <;> cases h
  | .ty _, _, h => by rw [toKey] at h <;> cases h
  | .lst _, _, h => by rw [toKey] at h <;> cases h
  | .scr _, _, h => by rw [toKey] at h <;> cases h
  | .obj _ _, _, h => by rw [toKey] at h <;> cases h
  | .dic _, _, h => by rw [toKey] at h <;> cases h
theorem toKeys_keyDs : ∀ {ds : List D} {ks : List NestedKey}, toKeys ds = some ks → keyDs ks = ds
  | [], _, h => by rw [toKeys] at h; cases h; rfl
  | d :: ds, _, h => by
    rw [toKeys] at h
    cases q : toKey d with
    | none => rw [q] at h; cases h
    | some k =>
      cases q2 : toKeys ds with
      | none => rw [q, q2] at h; cases h
      | some ks =>
        rw [q, q2] at h
        cases h
        rw [keyDs, toKey_keyD q, toKeys_keyDs q2]
end
/-- a tuple as a dict's key -/
def tupKey (x : EV) : Option NestedKey := match x with
  | .sh (.tup ds) => (match toKeys ds with
    | some ks => if (NestedKey.tup ks).depth ≤ 8 then some (.tup ks) else none
    | none => none)
  | _ => none
theorem tupKey_of {x : EV} {k : NestedKey} (h : tupKey x = some k) : x = .sh (keyD k) ∧ k.depth ≤ 8 ∧ ∃ ks, k = .tup ks := by
  unfold tupKey at h
  split at h
  · rename_i ds
    cases q : toKeys ds with
    | none => rw [q] at h; cases h
    | some ks =>
      rw [q] at h
      simp only at h
      split at h
      · rename_i hd
        cases h
        exact ⟨by rw [keyD, toKeys_keyDs q], hd, ks, rfl⟩
      · cases h
  · cases h
theorem key_ref {c : Ct} {H : Hp} {v : V} {k : NestedKey} (r : Rep c H v (keyD k)) (h : ∃ ks, k = .tup ks) : ∃ b, v = .ref b := by
  obtain ⟨ks, rfl⟩ := h
  rw [keyD] at r
  cases r with
  | tup _ _ => exact ⟨_, rfl⟩
section
variable {X : Cx} {pins : List (Addr × Obj)} {σ : L2.St} {H : Hp} {s : Shared} {c : Ct}
mutual
theorem nested_of (hK : c.K = X.K) (I : Inv X pins σ H s) : ∀ (k : NestedKey) {v : V} {u : Value}, Rep c H v (keyD k) → RelV v u → NestedIs s.heap k u
  | .none, v, u, r, ru => by
    rw [keyD] at r
    cases r
    obtain rfl : u = Value.none := ru
    exact .none
  | .num i, v, u, r, ru => by
    rw [keyD] at r
    cases r
    obtain ⟨t, rfl⟩ := (show ∃ t, u = Value.int i t from ru)
    exact .int i t
  | .text x, v, u, r, ru => by
    rw [keyD] at r
    cases r
    obtain ⟨t, rfl⟩ := (show ∃ t, u = Value.str x t from ru)
    exact .text x t
  | .tup ks, v, u, r, ru => by
    rw [keyD] at r
    cases r with
    | @tup a vs _ ha rs =>
      obtain rfl : u = Value.ref a := ru
      obtain ⟨its, o, n, rv, e1, e2, e3⟩ := sqT_at I.hok (hK ▸ I.kIn) ha.sq
      exact .tup e1 e2 e3 (nested_all hK I ks rs rv)
theorem nested_all (hK : c.K = X.K) (I : Inv X pins σ H s) : ∀ (ks : List NestedKey) {vs : List V} {us : List Value}, Reps c H vs (keyDs ks) → Vals vs us → NestedAll s.heap ks us
  | [], _, _, r, ru => by
    rw [keyDs] at r
    cases r
    cases ru
    exact .nil
  | k :: ks, _, _, r, ru => by
    rw [keyDs] at r
    cases r with
    | cons h t =>
      cases ru with
      | cons h2 t2 => exact .cons (nested_of hK I k h h2) (nested_all hK I ks t t2)
end
end

/-! ### entries -/
def kFind (kvs : List (NestedKey × D)) (k : NestedKey) : Option D := (kvs.find? fun x => decide (x.1 = k)).map (·.2)
def kPut (kvs : List (NestedKey × D)) (k : NestedKey) (d : D) : List (NestedKey × D) := if (kFind kvs k).isSome then kvs.map fun x => if x.1 = k then (x.1, d) else x else kvs ++ [(k, d)]
section
variable {c : Ct} {S : Hp}
theorem KReps.length : ∀ {xs : List (NestedKey × Addr × Value)} {kvs : List (NestedKey × D)}, KReps c S xs kvs → xs.length = kvs.length
  | _, _, .nil => rfl
  | _, _, .cons _ _ _ _ r => congrArg (· + 1) (KReps.length r)
theorem KReps.find {k : NestedKey} : ∀ {xs : List (NestedKey × Addr × Value)} {kvs : List (NestedKey × D)}, KReps c S xs kvs → (kFind kvs k = none ∧ atKey xs k = none) ∨ ∃ d a u v, kFind kvs k = some d ∧ atKey xs k = some (a, u) ∧ RelV v u ∧ Rep c S v d
  | _, _, .nil => .inl ⟨rfl, rfl⟩
  | _, _, .cons (k := k') (a := a) (v := v) (u := u) (d := d) (xs := xs) (kvs := kvs) h l q r t => by
    by_cases e : k' = k
    · refine .inr ⟨d, a, u, v, ?_, ?_, q, r⟩
      · unfold kFind
        rw [List.find?_cons_of_pos (by simpa using e)]
        rfl
      · unfold atKey
        rw [List.find?_cons_of_pos (by simpa using e)]
        rfl
    · have e1 : kFind ((k', d) :: kvs) k = kFind kvs k := by
        unfold kFind
        rw [List.find?_cons_of_neg (by simpa using e)]
      have e2 : atKey ((k', a, u) :: xs) k = atKey xs k := by
        unfold atKey
        rw [List.find?_cons_of_neg (by simpa using e)]
      rw [e1, e2]
      exact KReps.find t
theorem KReps.isSome {k : NestedKey} {xs : List (NestedKey × Addr × Value)} {kvs : List (NestedKey × D)} (h : KReps c S xs kvs) : (atKey xs k).isSome = (kFind kvs k).isSome := by
  rcases h.find (k := k) with ⟨e1, e2⟩ | ⟨d, a, u, v, e1, e2, _⟩ <;> rw [e1, e2] <;> rfl
theorem KReps.snoc {k : NestedKey} {b : Addr} {v : V} {u : Value} {d : D} (rk : Rep c S (.ref b) (keyD k)) (l : k.depth ≤ 8) (q : RelV v u) (r : Rep c S v d) : ∀ {xs : List (NestedKey × Addr × Value)} {kvs : List (NestedKey × D)}, KReps c S xs kvs → KReps c S (xs ++ [(k, b, u)]) (kvs ++ [(k, d)])
  | _, _, .nil => .cons rk l q r .nil
  | _, _, .cons h l' q' r' t => .cons h l' q' r' (KReps.snoc rk l q r t)
theorem KReps.repl {k : NestedKey} {v : V} {u : Value} {d : D} (q : RelV v u) (r : Rep c S v d) : ∀ {xs : List (NestedKey × Addr × Value)} {kvs : List (NestedKey × D)}, KReps c S xs kvs → KReps c S (xs.map (putAt k u)) (kvs.map fun x => if x.1 = k then (x.1, d) else x)
  | _, _, .nil => .nil
  | _, _, .cons (k := k') h l' q' r' t => by
    rw [List.map_cons, List.map_cons]
    by_cases e : k' = k
    · have e1 : ∀ a w, putAt k u (k', a, w) = (k', a, u) := fun a w => by unfold putAt; rw [if_pos e]
      rw [e1, if_pos e]
      exact .cons h l' q r (KReps.repl q r t)
    · have e1 : ∀ a w, putAt k u (k', a, w) = (k', a, w) := fun a w => by unfold putAt; rw [if_neg e]
      rw [e1, if_neg e]
      exact .cons h l' q' r' (KReps.repl q r t)
theorem KReps.put {k : NestedKey} {b : Addr} {v : V} {u : Value} {d : D} {xs : List (NestedKey × Addr × Value)} {kvs : List (NestedKey × D)} (t : KReps c S xs kvs) (rk : Rep c S (.ref b) (keyD k)) (l : k.depth ≤ 8) (q : RelV v u) (r : Rep c S v d) : KReps c S (storedH xs k b u) (kPut kvs k d) := by
  unfold storedH kPut
  rw [t.isSome]
  split
  · exact t.repl q r
  · exact t.snoc rk l q r
theorem KReps.keys {X : Cx} {pins : List (Addr × Obj)} {σ : L2.St} {H : Hp} {s : Shared} (hK : c.K = X.K) (I : Inv X pins σ H s) : ∀ {xs : List (NestedKey × Addr × Value)} {kvs : List (NestedKey × D)}, KReps c H xs kvs → ∀ x ∈ xs, (nestedKind X.prog X.w).is s.heap x.1 x.2.1
  | _, _, .nil, x, h => by cases h
  | _, _, .cons h l _ _ t, x, hx => by
    rcases List.mem_cons.mp hx with e | hx
    · rw [e]
      exact ⟨nested_of hK I _ h rfl, l⟩
    · exact KReps.keys hK I t x hx
end
theorem dc_at {X : Cx} {pins : List (Addr × Obj)} {σ : L2.St} {H : Hp} {s : Shared} {c : Ct} (hP : c.P = X.prog) (hw : c.w = X.w) (hK : c.K = X.K) (I : Inv X pins σ H s) {d : Addr} {xs : List (NestedKey × Addr × Value)} {kvs : List (NestedKey × D)} (e : H d = some (dcO c d xs)) (r : KReps c H xs kvs) :
    s.heap.DictOfH (nestedKind X.prog X.w) d xs ∧ xs.length ≤ sizeLine ∧ (d == sysModules) = false := by
  obtain ⟨P, w, K, mg, xa, xd, xc⟩ := c
  simp only at hP hw hK
  subst hP hw hK
  have x : ObjOk X.prog X.w H s.heap d (.ext fun h => ∃ o es ep, h.get? d = some o ∧ o.ExactDict ∧ o.data = .dict es ep ∧ es.toList = xs.map (entryOfKey (nestedKind X.prog X.w)) ∧ (xs.map (·.1)).Nodup ∧ xs.length ≤ sizeLine ∧ (d == sysModules) = false) := I.hok d _ e
  obtain ⟨⟨o, es, ep, h1, h2, h3, h4, h5, h6, h7⟩, _, _⟩ := x
  exact ⟨⟨o, es, ep, h1, h2, h3, h4, r.keys rfl I, h5⟩, h6, h7⟩

/-! ### an expression that is a dict -/
def PostK (c : Ct) (E : XS) (S H : Hp) (r : Res (List (NestedKey × D))) (Q : VK) : Prop := match r with
  | .ok kvs => ∀ (S' H' : Hp) (d : Addr) (xs : List (NestedKey × Addr × Value)), Gr S H S' H' → H' d = some (dcO c d xs) → KReps c S' xs kvs → Q (.ref d) H'
  | .exc x => ∀ (S' H' : Hp) (e : Value) (dx : Option Addr), Gr S H S' H' → XRep c S' H' e dx x → FrX H dx → E S' e dx H'
  | .stuck => False
def rK (c : Ct) (E : WS) (f : Dl.Env → Res (List (NestedKey × D))) : TE := fun σ H Q => ∃ S ρ O, View c S H σ ρ O ∧ PostK c (xs c E ρ O) S H (f ρ) Q
def DK (X : Cx) (E : WS) (e : Expr) (f : Dl.Env → Res (List (NestedKey × D))) : Prop := PE X e (rK (ctOf X) E f)
theorem PostK.later {c : Ct} {E : XS} {S H S1 H1 : Hp} {r : Res (List (NestedKey × D))} {Q : VK} (h : PostK c E S H r Q) (g : Gr S H S1 H1) : PostK c E S1 H1 r Q := by
  cases r with
  | ok x => exact fun S2 H2 d xs g2 e k => h S2 H2 d xs (g.trans g2) e k
  | exc x => exact fun S2 H2 e dx g2 z f => h S2 H2 e dx (g.trans g2) z fun d e => g.hh.free (f d e)
  | stuck => exact h
theorem Post.fstK {c : Ct} {E : XS} {S H : Hp} {r : Res (List (NestedKey × D))} {k : List (NestedKey × D) → Res EV} {Q Q1 : VK} (h : Post c E S H (r.bind k) Q)
    (go : ∀ x, r = .ok x → Post c E S H (k x) Q → ∀ S1 H1 d xs, Gr S H S1 H1 → H1 d = some (dcO c d xs) → KReps c S1 xs x → Q1 (.ref d) H1) : PostK c E S H r Q1 := by
  cases r with
  | ok x => exact fun S1 H1 d xs g e r => go x rfl h S1 H1 d xs g e r
  | exc x => exact h
  | stuck => exact h
def kVar (i : Nat) : Dl.Env → Res (List (NestedKey × D)) := fun ρ => match ρ[i]? with
  | some (.dic kvs) => .ok kvs
  | some (.sh (.dic kvs)) => .ok kvs
  | _ => .stuck
def kOf (f : Dl.Env → Res EV) : Dl.Env → Res (List (NestedKey × D)) := fun ρ => (f ρ).bind fun x => match x with
  | .sh (.dic kvs) => .ok kvs
  | _ => .stuck
section
variable {X : Cx} {E : WS} {pos : Pos}
theorem dk_var (i : Nat) {x : Str} (hN : X.N[i]? = some x := by rfl) (hv : Vis X.env.scope x := by first | exact Or.inl rfl | exact Or.inr (Or.inl rfl) | exact Or.inr (Or.inr rfl)) (hd : (x == ("__debug__" : Str)) = false := by decide)
    (hcd : (x == ("__classdict__" : Str)) = false := by decide) : DK X E (.Name x pos) (kVar i) := by
  refine pe_imp (pe_var (i := i) hN hv hd hcd) fun σ H Q h => ?_
  obtain ⟨S, ρ, O, V, h⟩ := h
  unfold kVar at h
  cases e : ρ[i]? with
  | none =>
    rw [e] at h
    exact h.elim
  | some y =>
    obtain ⟨A, o, q1, q2, _⟩ := V.sl.at_ V.nd e
    rw [e] at h
    cases q2 with
    | no => exact h.elim
    | own r => exact h.elim
    | lk r => exact h.elim
    | mk _ _ _ => exact h.elim
    | xc _ => exact h.elim
    | dic hd hs r => exact ⟨_, q1, h S H _ _ (Gr.refl V.sub) hd r⟩
    | sh r => cases r with
      | dic hd r => exact ⟨_, q1, h S H _ _ (Gr.refl V.sub) (V.sub _ _ hd) r⟩
      | _ => exact h.elim
theorem dk_of {e : Expr} {f : Dl.Env → Res EV} (he : DE X E e f) : DK X E e (kOf f) := by
  refine pe_imp he fun σ H Q h => ?_
  obtain ⟨S, ρ, O, V, h⟩ := h
  refine ⟨S, ρ, O, V, ?_⟩
  unfold kOf at h
  cases q : f ρ with
  | stuck => rw [q] at h; exact h
  | exc z => rw [q] at h; exact h
  | ok x =>
    rw [q] at h
    intro S1 H1 A v g r nd fr
    simp only [Res.ok_bind'] at h
    split at h
    · cases r with
      | sh r => cases r with
        | dic hd r => exact h S1 H1 _ _ g (g.sub _ _ hd) r
    · exact h.elim
end

/-! ### k in d, k not in d, d[k], d.get(k, x) -/
theorem in1_room {X : Cx} {A : Around} (hu : A.units + 16 < cLine) : (nestedKind X.prog X.w).room A.in1 := by
  show A.in1.units + 8 < cLine
  have : A.in1.units = A.units + 1 := rfl
  omega
/-- y is a key, x a dict with the entries kvs -/
structure KAt (c : Ct) (T H : Hp) (x y : V) (d b : Addr) (k : NestedKey) (xs : List (NestedKey × Addr × Value)) (kvs : List (NestedKey × D)) : Prop where
  ex : x = .ref d
  ey : y = .ref b
  dp : k.depth ≤ 8
  ed : H d = some (dcO c d xs)
  rk : Rep c H (.ref b) (keyD k)
  rs : KReps c T xs kvs
  sub : Same T H
def tInN (c : Ct) (neg : Bool) (ty td : TE) : TE := fun σ H Q => ty σ H fun y H1 => td σ H1 fun x H2 => ∃ T d b k xs kvs, KAt c T H2 x y d b k xs kvs ∧ Q (.bl (if neg then !(kFind kvs k).isSome else (kFind kvs k).isSome)) H2
def tGetN (c : Ct) (td ty : TE) : TE := fun σ H Q => td σ H fun x H1 => ty σ H1 fun y H2 => ∃ T d b k xs kvs w, KAt c T H2 x y d b k xs kvs ∧ kFind kvs k = some w ∧ ∀ v, Rep c T v w → Q v H2
def tGet2N (c : Ct) (td ty tx : TE) : TE := fun σ H Q => td σ H fun x H1 => (∃ d xs kvs, x = .ref d ∧ H1 d = some (dcO c d xs) ∧ KReps c H1 xs kvs) ∧ ty σ H1 fun y H2 => tx σ H2 fun z H3 => ∃ T d b k xs kvs, KAt c T H3 x y d b k xs kvs ∧ (∀ w v, kFind kvs k = some w → Rep c T v w → Q v H3) ∧ (kFind kvs k = none → Q z H3)
section
variable {X : Cx} {o i e f : Expr} {pos apos cpos : Pos} {td ty tx : TE} {c : Ct}
theorem pc_inN (hc : c = ctOf X) (hu : X.A.units + 16 < cLine) (hi : PE X i ty) (ho : PE X o td) : PC X .In i o (tInN c false ty td) := by
  subst hc
  refine ⟨fun pins s σ H Q I h => ?_⟩
  refine thn (hi.run pins s σ H _ I h) fun iv s1 ⟨y, H1, I1, ry, q1⟩ => thn (ho.run pins s1 σ H1 _ I1 q1) fun u s2 ⟨x, H2, I2, rx, T, d, b, k, xs, kvs, K, q2⟩ => ?_
  obtain ⟨rfl, rfl, dp, ed, rk, rs, sub⟩ := K
  obtain rfl : u = Value.ref d := rx
  obtain rfl : iv = Value.ref b := ry
  obtain ⟨dd, hz, hs⟩ := dc_at rfl rfl rfl I2 ed (rs.mono sub)
  refine wpAny_in_heap (in1_room hu) ⟨nested_of rfl I2 k rk rfl, dp⟩ hs dd ?_
  rw [rs.isSome]
  exact ⟨.bl _, H2, I2.tok _, rfl, q2⟩
theorem pc_notInN (hc : c = ctOf X) (hu : X.A.units + 16 < cLine) (hi : PE X i ty) (ho : PE X o td) : PC X .NotIn i o (tInN c true ty td) := by
  subst hc
  refine ⟨fun pins s σ H Q I h => ?_⟩
  refine thn (hi.run pins s σ H _ I h) fun iv s1 ⟨y, H1, I1, ry, q1⟩ => thn (ho.run pins s1 σ H1 _ I1 q1) fun u s2 ⟨x, H2, I2, rx, T, d, b, k, xs, kvs, K, q2⟩ => ?_
  obtain ⟨rfl, rfl, dp, ed, rk, rs, sub⟩ := K
  obtain rfl : u = Value.ref d := rx
  obtain rfl : iv = Value.ref b := ry
  obtain ⟨dd, hz, hs⟩ := dc_at rfl rfl rfl I2 ed (rs.mono sub)
  refine wpAny_notIn_heap (in1_room hu) ⟨nested_of rfl I2 k rk rfl, dp⟩ hs dd ?_
  rw [rs.isSome]
  exact ⟨.bl _, H2, I2.tok _, rfl, q2⟩
theorem pe_getN (hc : c = ctOf X) (hu : X.A.units + 16 < cLine) (ho : PE X o td) (hi : PE X i ty) (hs : NoSl i) : PE X (.Subscript o i pos) (tGetN c td ty) := by
  subst hc
  refine ⟨fun pins s σ H Q I h => ?_⟩
  refine subD_of PySem.F.slot_dict_getitem.lookup hs (thn (ho.run pins s σ H _ I h) fun u s1 ⟨x, H1, I1, rx, q1⟩ => thn (hi.run pins s1 σ H1 _ I1 q1) fun iv s2 ⟨y, H2, I2, ry, T, d, b, k, xs, kvs, w, K, ew, q2⟩ => ?_)
  obtain ⟨rfl, rfl, dp, ed, rk, rs, sub⟩ := K
  obtain rfl : u = Value.ref d := rx
  obtain rfl : iv = Value.ref b := ry
  obtain ⟨dd, hz, hs⟩ := dc_at rfl rfl rfl I2 ed (rs.mono sub)
  rcases rs.find (k := k) with ⟨e1, _⟩ | ⟨w', a, u, v, e1, e2, rv, rw'⟩
  · rw [ew] at e1
    cases e1
  · rw [ew] at e1
    cases e1
    exact ⟨dd.typeIs, wpAny_getItem_heap (in1_room hu) ⟨nested_of rfl I2 k rk rfl, dp⟩ dd e2 ⟨v, H2, I2.tok _, rv, q2 v rw'⟩⟩
theorem pe_get2N (hc : c = ctOf X) (hu : X.A.units + 16 < cLine) (ho : PE X o td) (he : PE X e ty) (hf : PE X f tx) (m : M2 X o "get" apos e f cpos) : PE X (.Call (.Attribute o "get" apos) [e, f] [] cpos) (tGet2N c td ty tx) := by
  subst hc
  refine ⟨fun pins s σ H Q I h => ?_⟩
  refine wpAny_Call_method m.base m.few m.line PySem.F.plainAttrs_dict PySem.F.slot_dict_get PySem.F.type_dict_get (thn (ho.run pins s σ H _ I h) fun u s1 ⟨x, H1, I1, rx, ⟨d, xs, kvs, ex, ed, rs⟩, q1⟩ => ?_)
  subst ex
  obtain rfl : u = Value.ref d := rx
  obtain ⟨dd, hz, hs⟩ := dc_at rfl rfl rfl I1 ed rs
  refine ⟨dd.typeIs, fun b q => ?_, ?_⟩
  · cases q
    obtain ⟨ob, _, _, h1, h2, _⟩ := dd
    exact ⟨ob, h1, h2.2.1⟩
  rw [m.trees]
  refine Calls.callWith_builtin rfl (Calls.evalArgs_plain (Calls.spliced_cons (thn (he.run pins s1 σ H1 _ I1 q1) fun iv s2 ⟨y, H2, I2, ry, q2⟩ =>
    Calls.spliced_cons (thn (hf.run pins s2 σ H2 _ I2 q2) fun fv s3 ⟨z, H3, I3, rz, T, d', b, k, xs', kvs', K, q3, q4⟩ => Calls.spliced_nil ?_))))
  obtain ⟨ex', rfl, dp, ed', rk, rs', sub⟩ := K
  cases ex'
  obtain rfl : iv = Value.ref b := ry
  obtain ⟨dd', hz', hs'⟩ := dc_at rfl rfl rfl I3 ed' (rs'.mono sub)
  refine call_meetsIn PySem.F.slot_dict_get dd'.typeIs PySem.F.entry_dict_get (PySem.F.args_dict_get_3 _ _ _) (meetsH_dict_get_default (nestedKind X.prog X.w) d b hs' fv) ⟨in1_room hu, k, xs', ⟨nested_of rfl I3 k rk rfl, dp⟩, dd', ?_⟩
  rcases rs'.find (k := k) with ⟨e1, e2⟩ | ⟨w', a, u, v, e1, e2, rv, rw'⟩
  · rw [e2]
    exact ⟨z, H3, I3.tok _, rz, q4 e1⟩
  · rw [e2]
    exact ⟨v, H3, I3.tok _, rv, q3 w' v e1 rw'⟩
end

def inN (neg : Bool) (y : EV) (kvs : List (NestedKey × D)) : Res Bool := match tupKey y with
  | some k => .ok (if neg then !(kFind kvs k).isSome else (kFind kvs k).isSome)
  | none => .stuck
def dtInN (neg : Bool) (fk : Dl.Env → Res EV) (fd : Dl.Env → Res (List (NestedKey × D))) : Dl.Env → Res Bool := fun ρ => (fk ρ).bind fun y => (fd ρ).bind fun kvs => inN neg y kvs
def dInN (neg : Bool) (fk : Dl.Env → Res EV) (fd : Dl.Env → Res (List (NestedKey × D))) : Dl.Env → Res EV := fun ρ => (dtInN neg fk fd ρ).bind fun b => .ok (.sh (.bl b))
def dGetN (fd : Dl.Env → Res (List (NestedKey × D))) (fk : Dl.Env → Res EV) : Dl.Env → Res EV := fun ρ => (fd ρ).bind fun kvs => (fk ρ).bind fun y => match tupKey y with
  | some k => (match kFind kvs k with
    | some w => .ok (.sh w)
    | none => .stuck)
  | none => .stuck
def dGet2N (fd : Dl.Env → Res (List (NestedKey × D))) (fk fx : Dl.Env → Res EV) : Dl.Env → Res EV := fun ρ => (fd ρ).bind fun kvs => (fk ρ).bind fun y => (fx ρ).bind fun z => match tupKey y with
  | some k => (match kFind kvs k with
    | some w => .ok (.sh w)
    | none => .ok z)
  | none => .stuck
section
variable {c : Ct} {E : WS} {fk fx : Dl.Env → Res EV} {fd : Dl.Env → Res (List (NestedKey × D))} {σ : L2.St} {H : Hp} {neg : Bool}
theorem PostT.fstE {c : Ct} {E : XS} {S H : Hp} {r : Res EV} {k : EV → Res Bool} {Q : Bool → Hp → Prop} {Q1 : VK} (h : PostT c E S H (r.bind k) Q)
    (go : ∀ x, r = .ok x → PostT c E S H (k x) Q → ∀ S1 H1 A v, Gr S H S1 H1 → EvRep c S1 H1 A v x → Q1 v H1) : Post c E S H r Q1 := by
  cases r with
  | ok x => exact fun S1 H1 A v g re nd fr => go x rfl h S1 H1 A v g re
  | exc x => exact h
  | stuck => exact h
theorem PostT.fstK {c : Ct} {E : XS} {S H : Hp} {r : Res (List (NestedKey × D))} {k : List (NestedKey × D) → Res Bool} {Q : Bool → Hp → Prop} {Q1 : VK} (h : PostT c E S H (r.bind k) Q)
    (go : ∀ x, r = .ok x → PostT c E S H (k x) Q → ∀ S1 H1 d xs, Gr S H S1 H1 → H1 d = some (dcO c d xs) → KReps c S1 xs x → Q1 (.ref d) H1) : PostK c E S H r Q1 := by
  cases r with
  | ok x => exact fun S1 H1 d xs g e r => go x rfl h S1 H1 d xs g e r
  | exc x => exact h
  | stuck => exact h
theorem inN_imp {Q : VK} {Qb : Bool → Hp → Prop} (hQ : ∀ b H, Qb b H → Q (.bl b) H) (h : rT c E (dtInN neg fk fd) σ H Qb) : tInN c neg (rE c E fk) (rK c E fd) σ H Q := by
  obtain ⟨S, ρ, O, V, h⟩ := h
  refine ⟨S, ρ, O, V, PostT.fstE h fun y e1 h1 S1 H1 A v g1 r1 => ?_⟩
  refine ⟨S1, ρ, O, V.gr g1, PostT.fstK (h1.later g1) fun kvs e2 h2 S2 H2 d xs g2 ed rs => ?_⟩
  unfold inN at h2
  cases q : tupKey y with
  | none =>
    rw [q] at h2
    exact h2.elim
  | some k =>
    simp only [q] at h2
    obtain ⟨rfl, dp, hk⟩ := tupKey_of q
    cases r1 with
    | sh r =>
      obtain ⟨b, rfl⟩ := key_ref r hk
      exact ⟨S2, d, b, k, xs, kvs, ⟨rfl, rfl, dp, ed, r.mono (g2.ss.trans g2.sub), rs, g2.sub⟩, hQ _ _ (h2 S2 H2 g2)⟩
theorem getN_imp {Q : VK} (h : rE c E (dGetN fd fk) σ H Q) : tGetN c (rK c E fd) (rE c E fk) σ H Q := by
  obtain ⟨S, ρ, O, V, h⟩ := h
  refine ⟨S, ρ, O, V, Post.fstK h fun kvs e1 h1 S1 H1 d xs g1 ed rs => ?_⟩
  refine ⟨S1, ρ, O, V.gr g1, Post.fst (Post.later h1 g1) fun y e2 h2 S2 H2 A v g2 r2 nd fr => ?_⟩
  cases q : tupKey y with
  | none =>
    simp only [q] at h2
    exact h2.elim
  | some k =>
    simp only [q] at h2
    obtain ⟨rfl, dp, hk⟩ := tupKey_of q
    cases r2 with
    | sh r =>
      obtain ⟨b, rfl⟩ := key_ref r hk
      cases q2 : kFind kvs k with
      | none =>
        simp only [q2] at h2
        exact h2.elim
      | some w =>
        simp only [q2] at h2
        exact ⟨S2, d, b, k, xs, kvs, w, ⟨rfl, rfl, dp, g2.hh _ _ ed, r.mono g2.sub, rs.mono g2.ss, g2.sub⟩, q2, fun v' hv => Post.sh h2 g2 hv⟩
theorem get2N_imp {Q : VK} (h : rE c E (dGet2N fd fk fx) σ H Q) : tGet2N c (rK c E fd) (rE c E fk) (rE c E fx) σ H Q := by
  obtain ⟨S, ρ, O, V, h⟩ := h
  refine ⟨S, ρ, O, V, Post.fstK h fun kvs e1 h1 S1 H1 d xs g1 ed rs => ?_⟩
  refine ⟨⟨d, xs, kvs, rfl, ed, rs.mono g1.sub⟩, S1, ρ, O, V.gr g1, Post.fst (Post.later h1 g1) fun y e2 h2 S2 H2 A v g2 r2 nd fr => ?_⟩
  refine ⟨S2, ρ, O, (V.gr g1).gr g2, Post.fst (Post.later h2 g2) fun z e3 h3 S3 H3 B u g3 r3 nd3 fr3 => ?_⟩
  cases q : tupKey y with
  | none =>
    simp only [q] at h3
    exact h3.elim
  | some k =>
    simp only [q] at h3
    obtain ⟨rfl, dp, hk⟩ := tupKey_of q
    cases r2 with
    | sh r =>
      obtain ⟨b, rfl⟩ := key_ref r hk
      refine ⟨S3, d, b, k, xs, kvs, ⟨rfl, rfl, dp, g3.hh _ _ (g2.hh _ _ ed), r.mono (g3.ss.trans g3.sub), rs.mono (g2.ss.trans g3.ss), g3.sub⟩, fun w v' e hv => ?_, fun e => ?_⟩
      · simp only [e] at h3
        exact Post.sh h3 g3 hv
      · simp only [e] at h3
        exact h3 S3 H3 B u g3 r3 nd3 fr3
end
section
variable {X : Cx} {E : WS} {o i e f : Expr} {pos apos cpos : Pos} {fk fx : Dl.Env → Res EV} {fd : Dl.Env → Res (List (NestedKey × D))}
theorem dInN_post {c : Ct} {E : XS} {S H : Hp} {r : Res Bool} {Q : VK} (h : Post c E S H (r.bind fun b => .ok (.sh (.bl b))) Q) : PostT c E S H r (fun b H1 => Q (.bl b) H1) := by
  cases r with
  | ok b => exact fun S1 H1 g => Post.sh h g (.bl b)
  | exc z => exact h
  | stuck => exact h
theorem de_inN (hu : X.A.units + 16 < cLine) (hi : DE X E i fk) (ho : DK X E o fd) (h1 : behindInMarks .In o = false := by rfl) : DE X E (.Compare i [.In] [o] pos) (dInN false fk fd) := by
  refine pe_imp (pe_cmp (pc_inN rfl hu hi ho) h1) fun σ H Q h => ?_
  obtain ⟨S, ρ, O, V, h⟩ := h
  exact inN_imp (Qb := fun b H1 => Q (.bl b) H1) (fun _ _ z => z) ⟨S, ρ, O, V, dInN_post h⟩
theorem de_notInN (hu : X.A.units + 16 < cLine) (hi : DE X E i fk) (ho : DK X E o fd) (h1 : behindInMarks .NotIn o = false := by rfl) : DE X E (.Compare i [.NotIn] [o] pos) (dInN true fk fd) := by
  refine pe_imp (pe_cmp (pc_notInN rfl hu hi ho) h1) fun σ H Q h => ?_
  obtain ⟨S, ρ, O, V, h⟩ := h
  exact inN_imp (Qb := fun b H1 => Q (.bl b) H1) (fun _ _ z => z) ⟨S, ρ, O, V, dInN_post h⟩
theorem dt_inN (hu : X.A.units + 16 < cLine) (hi : DE X E i fk) (ho : DK X E o fd) (h1 : behindInMarks .In o = false := by rfl) : DT X E (.Compare i [.In] [o] pos) (dtInN false fk fd) :=
  pt_imp (pt_cmp (pc_inN rfl hu hi ho) h1) fun σ H Q h => inN_imp (Q := fun x H1 => ∃ c, x = .bl c ∧ Q c H1) (fun b H1 z => ⟨b, rfl, z⟩) h
theorem dt_notInN (hu : X.A.units + 16 < cLine) (hi : DE X E i fk) (ho : DK X E o fd) (h1 : behindInMarks .NotIn o = false := by rfl) : DT X E (.Compare i [.NotIn] [o] pos) (dtInN true fk fd) :=
  pt_imp (pt_cmp (pc_notInN rfl hu hi ho) h1) fun σ H Q h => inN_imp (Q := fun x H1 => ∃ c, x = .bl c ∧ Q c H1) (fun b H1 z => ⟨b, rfl, z⟩) h
theorem de_getN (hu : X.A.units + 16 < cLine) (ho : DK X E o fd) (hi : DE X E i fk) (hs : NoSl i := by intro _ _; rfl) : DE X E (.Subscript o i pos) (dGetN fd fk) :=
  pe_imp (pe_getN rfl hu ho hi hs) fun _ _ _ h => getN_imp h
theorem de_get2N (hu : X.A.units + 16 < cLine) (ho : DK X E o fd) (he : DE X E e fk) (hf : DE X E f fx) (m : M2 X o "get" apos e f cpos := by exact ⟨rfl, rfl, rfl, rfl⟩) : DE X E (.Call (.Attribute o "get" apos) [e, f] [] cpos) (dGet2N fd fk fx) :=
  pe_imp (pe_get2N rfl hu ho he hf m) fun _ _ _ h => get2N_imp h
end

/-! ### x = {}, x[k] = e, x given away -/
def dNewD (i : Nat) : Stm := fun ρ => match putR i (.dic []) ρ with
  | some ρ1 => .ok (.nx ρ1)
  | none => .stuck
def dPutD (i : Nat) (fk fv : Dl.Env → Res EV) : Stm := fun ρ => (fv ρ).at ρ fun x => match ρ[i]?, x with
  | some (.dic kvs), .sh d => (fk ρ).at ρ fun y => (match tupKey y with
    | some k => if kvs.length < 16777216 then .ok (.nx (ρ.set i (.dic (kPut kvs k d)))) else .stuck
    | none => .stuck)
  | _, _ => .stuck
def tNewN (c : Ct) : TE := fun _ H Q => ∀ p, H p = none → Q (.ref p) (upd H p (dcO c p []))
theorem dcO_ok {c : Ct} {P : Program} {w : World} {H : Hp} {h : Heap} {d : Addr} {xs : List (NestedKey × Addr × Value)} (hP : c.P = P) (hw : c.w = w) (hd : h.DictOfH (nestedKind P w) d xs) (hz : xs.length ≤ sizeLine) (hs : (d == sysModules) = false) : ObjOk P w H h d (dcO c d xs) := by
  obtain ⟨P', w', K, mg, xa, xd, xc⟩ := c
  simp only at hP hw
  subst hP hw
  obtain ⟨o, es, ep, h1, h2, h3, h4, _, h5⟩ := hd
  exact ⟨⟨o, es, ep, h1, h2, h3, h4, h5, hz, hs⟩, ⟨o, h1⟩, fun h1' h2' ⟨o, es, ep, a, b, c, d, e, f, g⟩ k => ⟨o, es, ep, k _ a, b, c, d, e, f, g⟩⟩
theorem pe_newN {X : Cx} {c : Ct} {pos : Pos} (hc : c = ctOf X) : PE X (.Dict [] [] pos) (tNewN c) := by
  subst hc
  exact ⟨fun pins s σ H Q I h => wpAny_Dict_empty ⟨.ref s.heap.objs.size, _, I.laid (a := s.heap.objs.size) (o := dcO (ctOf X) s.heap.objs.size []) (t' := s.toks) (fun _ _ q => Heap.get?_push_of_some _ q) (Nat.le_refl _)
    (dcO_ok rfl rfl (Heap.DictOfH.new s.heap) (Nat.zero_le _) (beq_eq_false_iff_ne.mpr (Ne.symm (Nat.ne_of_lt I.big)))), rfl, h _ (I.hok.fresh (Nat.le_refl _))⟩⟩
section
variable {X : Cx} {E : WS} {o i e value : Expr} {x : Str} {j : Nat} {pos p1 pos' : Pos} {fk fv : Dl.Env → Res EV}
theorem ds_newD (hNd : X.N.Nodup) (hN : X.N[j]? = some x := by rfl) (hx : Loc X.env.scope x := by first | exact Or.inl rfl | exact Or.inr rfl) (hs : swapsWith (.Dict [] [] p1) (some (.Name x pos')) pos.line X.env = pure false := by rfl)
    (hf : X.fn x = true ∨ X.env.scope.names.lookup x = some .local := by first | exact .inl rfl | exact .inr rfl) : DS X E (.Assign [.Name x pos'] (.Dict [] [] p1) pos) (dNewD j) := by
  refine ps_imp (ps_set (i := j) hNd hN hx (pe_newN rfl) hs hf) fun D σ H h => ?_
  obtain ⟨B, S, ρ, O, V, h⟩ := h
  unfold dNewD at h
  cases q : putR j (.dic []) ρ with
  | none =>
    rw [q] at h
    exact h.elim
  | some ρ1 =>
    rw [q] at h
    intro p hp
    obtain ⟨y, ey, e1⟩ := putR_some q
    subst e1
    have g : Gr S H S (upd H p (dcO (ctOf X) p [])) := Gr.pushO V.sub hp
    have V1 := V.gr g
    obtain ⟨O', V2⟩ := V1.put (v' := .ref p) (x' := .dic []) (A' := [p]) ey (.dic upd_same (V.sub.free hp) .nil) (by simp) (fun a ha => by
      rw [List.mem_singleton.mp ha]
      exact V.fresh (A := [p]) (fun b hb => by rw [List.mem_singleton.mp hb]; exact hp) p List.mem_cons_self) (fun a ha ho => by
      rw [List.mem_singleton.mp ha] at ho
      obtain ⟨⟨ob, eo⟩, _⟩ := V.v.sl.alive p ho
      rw [hp] at eo
      cases eo) (fun a ha C dx vfs z => by
      rw [List.mem_singleton.mp ha, upd_same] at z
      have z' : HO.ext _ = HO.ins C dx vfs := Option.some.inj z
      cases z')
    exact h S _ _ O' V2
def tPutN (c : Ct) (td ty tv : TE) : TS := fun D σ H => tv σ H fun v H1 => td σ H1 fun x H2 => ty σ H2 fun y H3 => ∃ T d b k xs kvs, KAt c T H3 x y d b k xs kvs ∧ xs.length < sizeLine ∧ ∀ u, RelV v u → D.nx σ (upd H3 d (dcO c d (storedH xs k b u)))
theorem ps_putN {td ty tv : TE} {c : Ct} (hc : c = ctOf X) (hu : X.A.units + 16 < cLine) (ho : PE X o td) (hi : PE X i ty) (hv : PE X value tv) (hs : swapsWith value (some (.Subscript o i pos')) pos.line X.env = pure false) :
    PS X (.Assign [.Subscript o i pos'] value pos) (tPutN c td ty tv) := by
  subst hc
  refine ⟨fun pins s σ H D I h => ?_⟩
  refine wpAny_Assign_Subscript (thn (hv.run pins s σ H _ I h) fun r s1 ⟨v, H1, I1, rv, q1⟩ => thn (ho.run pins s1 σ H1 _ I1 q1) fun u s2 ⟨x, H2, I2, rx, q2⟩ => thn (hi.run pins s2 σ H2 _ I2 q2) fun iv s3 ⟨y, H3, I3, ry, T, d, b, k, xs, kvs, K, hl, q3⟩ => ?_) hs
  obtain ⟨rfl, rfl, dp, ed, rk, rs, sub⟩ := K
  obtain rfl : u = Value.ref d := rx
  obtain rfl : iv = Value.ref b := ry
  obtain ⟨dd, hz, hs⟩ := dc_at rfl rfl rfl I3 ed (rs.mono sub)
  refine wpAny_setItem_heap (hsz := hz) (in1_room hu) ⟨nested_of rfl I3 k rk rfl, dp⟩ dd fun h' dd' hs' => ?_
  have hl2 : (storedH xs k b r).length ≤ sizeLine := by
    unfold storedH
    split
    · rw [List.length_map]
      exact hz
    · rw [List.length_append]
      simp only [List.length_cons, List.length_nil]
      omega
  have he : ∃ q, h'.get? d = some q := let ⟨q, _, _, hq, _⟩ := dd'; ⟨q, hq⟩
  have J := d_write (ob := dcO (ctOf X) d (storedH xs k b r)) (t' := s3.toks + (nestedKind X.prog X.w).draws k) I3 (by rw [ed]; exact True.intro) hs' he (dcO_ok rfl rfl dd' hl2 hs)
  exact ⟨σ, _, J, q3 r rv⟩
theorem ds_putD (j : Nat) (hu : X.A.units + 16 < cLine) (hi : DE X E i fk) (hv : DE X E value fv) (hN : X.N[j]? = some x := by rfl) (hvx : Vis X.env.scope x := by first | exact Or.inl rfl | exact Or.inr (Or.inl rfl) | exact Or.inr (Or.inr rfl)) (hd : (x == ("__debug__" : Str)) = false := by decide)
    (hcd : (x == ("__classdict__" : Str)) = false := by decide) (hs : swapsWith value (some (.Subscript (.Name x p1) i pos')) pos.line X.env = pure false := by rfl) : DS X E (.Assign [.Subscript (.Name x p1) i pos'] value pos) (dPutD j fk fv) := by
  refine ps_imp (ps_putN rfl hu (pe_var (i := j) hN hvx hd hcd) hi hv hs) fun D σ H h => ?_
  obtain ⟨B, S, ρ, O, V, h⟩ := h
  have hz : sizeLine = 16777216 := sizeLine_eq
  refine ⟨S, ρ, O, V.v, postS.fst h V fun w e1 h1 S1 H1 A v g r nd fr => ?_⟩
  have V1 := V.gr g
  cases q : ρ[j]? with
  | none =>
    rw [q] at h1
    exact h1.elim
  | some y =>
    rw [q] at h1
    cases y with
    | dic kvs =>
      cases r with
      | fr r => exact h1.elim
      | bo r => exact h1.elim
      | @sh _ d0 r =>
        simp only at h1
        obtain ⟨A0, o0, q1, q2, q3, q4, _⟩ := V1.v.sl.at_ V1.v.nd q
        cases q2 with
        | @dic d xs _ ed nS rs =>
          refine ⟨_, q1, S1, ρ, O, V1.v, postS.fst h1 V1 fun y e2 h2 S2 H2 C u g2 r2 nd2 fr2 => ?_⟩
          have V2 := V1.gr g2
          cases q5 : tupKey y with
          | none =>
            rw [q5] at h2
            exact h2.elim
          | some k =>
            simp only [q5] at h2
            split at h2
            · rename_i hl
              obtain ⟨rfl, dp, hk⟩ := tupKey_of q5
              cases r2 with
              | sh r2 =>
                obtain ⟨b, rfl⟩ := key_ref r2 hk
                have ed2 := g2.hh _ _ ed
                have rs2 := rs.mono g2.ss
                refine ⟨S2, d, b, k, xs, kvs, ⟨rfl, rfl, dp, ed2, r2.mono g2.sub, rs2, g2.sub⟩, by rw [hz, rs.length]; exact hl, fun u hu => ?_⟩
                obtain ⟨O', V'⟩ := V2.write (H2 := upd H2 d (dcO (ctOf X) d (storedH xs k b u))) (x' := .dic (kPut kvs k d0)) q q1 fun A2 r6 n6 s6 => by
                  cases r6 with
                  | dic ed6 nS6 rs6 =>
                    refine ⟨[d], .dic upd_same nS6 (rs2.put r2 dp hu (r.mono g2.ss)), by simp, fun a ha => .inl ha, fun b' hb' o' eo' => ?_, fun a hx ha => ?_, fun a ha C' dx' vf' z => ?_⟩
                    · rw [upd_ne fun z => hb' (by rw [z]; exact List.mem_cons_self)]
                      exact eo'
                    · obtain ⟨C', dx', vf', y⟩ := V2.g.exs a hx
                      rw [List.mem_singleton.mp ha, ed6] at y
                      have y' : HO.ext _ = HO.ins C' dx' vf' := Option.some.inj y
                      cases y'
                    · rw [List.mem_singleton.mp ha, upd_same] at z
                      have y' : HO.ext _ = HO.ins C' dx' vf' := Option.some.inj z
                      cases y'
                exact h2 S2 _ σ O' V'
            · exact h2.elim
    | no => exact h1.elim
    | sh d => exact h1.elim
    | own ts => exact h1.elim
    | lk ts => exact h1.elim
    | mk C fs => exact h1.elim
    | xc z => exact h1.elim
end
/-- the dict of a slot becomes shared -/
def dFrzD (i : Nat) (g : Stm) : Stm := fun ρ => match ρ[i]? with
  | some (.dic kvs) => g (ρ.set i (.sh (.dic kvs)))
  | _ => g ρ
theorem dss_frzD {X : Cx} {E : WS} {g1 : Stm} (i : Nat) {sts : List Stmt} (h : DSs X E sts g1) : DSs X E sts (dFrzD i g1) := by
  refine pss_imp h fun D σ H h => ?_
  obtain ⟨B, S, ρ, O, V, h⟩ := h
  unfold dFrzD at h
  cases q : ρ[i]? with
  | none =>
    rw [q] at h
    exact ⟨B, S, ρ, O, V, h⟩
  | some y =>
    rw [q] at h
    cases y with
    | dic kvs =>
      obtain ⟨A, o, q1, q2, q3, q4, q5⟩ := V.v.sl.at_ V.v.nd q
      cases q2 with
      | @dic d xs _ ed nS rs =>
        have nA : ∀ a ∈ [d], S a = none := fun a ha => by rw [List.mem_singleton.mp ha]; exact nS
        have hB : B.H d = none := by
          rcases V.own d (q4 d List.mem_cons_self) with z | z
          · exact z
          · obtain ⟨C', dx', vf', y⟩ := V.g.exs d z
            rw [ed] at y
            have y' : HO.ext _ = HO.ins C' dx' vf' := Option.some.inj y
            cases y'
        obtain ⟨O', p1, p2, p3⟩ := q5 (grab S H [d]) H [] (some (.ref d)) (.sh (.dic kvs)) (same_grab nA) (fun a ha hn => ⟨rfl, by rw [grab_out hn]; exact (V.v.sl.alive a ha).2⟩) (.sh (.dic ((grab_in List.mem_cons_self).trans ed) (rs.mono (same_grab nA)))) List.nodup_nil fun a ha => by cases ha
        rw [List.set_same q1] at p1
        refine ⟨B, grab S H [d], _, O', ⟨⟨grab_same V.sub, p1, p2⟩, ⟨V.g.hh, V.g.ss.trans (same_grab nA), grab_same V.sub, fun a ob e n => ?_, V.g.exs⟩, fun a ha => ?_, fun a ha => ?_⟩, h⟩
        · have hn : a ∉ [d] := fun z => by
            rw [List.mem_singleton.mp z, hB] at e
            cases e
          rw [grab_out hn]
          exact V.g.new a ob e n
        · rcases p3 a ha with z | z
          · cases z
          · exact V.own a z.1
        · intro C dx vfs e
          rcases p3 a ha with z | z
          · cases z
          · exact V.ni a z.1 C dx vfs e
    | no => exact ⟨B, S, ρ, O, V, h⟩
    | sh d => exact ⟨B, S, ρ, O, V, h⟩
    | lk ts => exact ⟨B, S, ρ, O, V, h⟩
    | own ts => exact ⟨B, S, ρ, O, V, h⟩
    | mk C fs => exact ⟨B, S, ρ, O, V, h⟩
    | xc z => exact ⟨B, S, ρ, O, V, h⟩
end Dl
set_option Elab.async false
set_option linter.all false
set_option maxRecDepth 100000
/-! DL11: __init__: fields of the new instance; the promise of an __init__. -/
namespace Dl
open PySem PySem.Spec PyProof.Rows L2

def putFD (f : Str) (d : D) : List (Str × D) → List (Str × D)
  | [] => [(f, d)]
  | (g, e) :: fs => if g = f then (g, d) :: fs else (g, e) :: putFD f d fs
theorem FReps.put {c : Ct} {S : Hp} {f : Str} {v : V} {d : D} (r : Rep c S v d) : ∀ {vs : List (Str × V)} {fs : List (Str × D)}, FReps c S vs fs → FReps c S (putF f v vs) (putFD f d fs)
  | _, _, .nil => .cons r .nil
  | _, _, .cons (f := g) h t => by
    unfold putF putFD
    by_cases e : g = f
    · rw [if_pos e, if_pos e]
      exact .cons r t
    · rw [if_neg e, if_neg e]
      exact .cons h (FReps.put r t)
theorem FReps.length {c : Ct} {S : Hp} : ∀ {vs : List (Str × V)} {fs : List (Str × D)}, FReps c S vs fs → vs.length = fs.length
  | _, _, .nil => rfl
  | _, _, .cons _ t => congrArg (· + 1) (FReps.length t)
/-- the instance in slot i gets the field f -/
def dFldSet (i : Nat) (C f : Str) (fv : Dl.Env → Res EV) : Stm := fun ρ => (fv ρ).at ρ fun x => match ρ[i]?, x with
  | some (.mk C' fs), .sh d => if C' = C ∧ fs.length < 1000 then .ok (.nx (ρ.set i (.mk C (putFD f d fs)))) else .stuck
  | _, _ => .stuck
/-- a field of the instance in slot i -/
def dFldMk (i : Nat) (C f : Str) : Dl.Env → Res EV := fun ρ => match ρ[i]? with
  | some (.mk C' fs) => if C' = C then (match fs.lookup f with
    | some d => .ok (.sh d)
    | none => .stuck) else .stuck
  | _ => .stuck
section
variable {X : Cx} {E : WS} {x f C : Str} {e : Expr} {pos p1 p2 : Pos} {fv : Dl.Env → Res EV}
theorem ds_fldSet (i : Nat) (cl : Cls X.K (clOf X.mg C)) (na : NoAttr X.K (clOf X.mg C) f) (he : DE X E e fv) (hN : X.N[i]? = some x := by rfl) (hv : Vis X.env.scope x := by first | exact Or.inl rfl | exact Or.inr (Or.inl rfl) | exact Or.inr (Or.inr rfl))
    (hd : (x == ("__debug__" : Str)) = false := by decide) (hcd : (x == ("__classdict__" : Str)) = false := by decide) (hs : swapsWith e (some (.Attribute (.Name x p1) f p2)) pos.line X.env = pure false := by rfl) :
    DS X E (.Assign [.Attribute (.Name x p1) f p2] e pos) (dFldSet i C f fv) := by
  refine ps_imp (ps_fld (pe_var (i := i) hN hv hd hcd) he hs) fun D σ H h => ?_
  obtain ⟨B, S, ρ, O, V, h⟩ := h
  refine ⟨S, ρ, O, V.v, postS.fst h V fun y e1 h1 S1 H1 A v g r nd fr => ?_⟩
  have V1 := V.gr g
  cases q : ρ[i]? with
  | none =>
    rw [q] at h1
    exact h1.elim
  | some sv =>
    rw [q] at h1
    cases sv with
    | mk C' fs =>
      cases r with
      | fr r => exact h1.elim
      | bo r => exact h1.elim
      | @sh _ d0 r =>
        simp only at h1
        split at h1
        · rename_i hC
          obtain ⟨rfl, hl⟩ := hC
          obtain ⟨A0, o0, q1, q2, q3, q4, _⟩ := V1.v.sl.at_ V1.v.nd q
          cases q2 with
          | @mk a dx _ vfs _ ha nS rs =>
            refine ⟨_, q1, a, clOf X.mg C', dx, vfs, rfl, ha, cl, na, by rw [rs.length]; exact hl, ?_⟩
            obtain ⟨O', V'⟩ := V1.write (H2 := upd H1 a (.ins (clOf X.mg C') dx (putF f v vfs))) (x' := .mk C' (putFD f d0 fs)) q q1 fun A2 r6 n6 s6 => by
              cases r6 with
              | mk h6 n6' rs6 =>
                have ex : a ∈ B.ex := V1.ni a (q4 a List.mem_cons_self) _ _ _ ha
                rw [ha] at h6
                cases h6
                refine ⟨[a], .mk upd_same nS (rs6.put r), by simp, fun b hb => .inl hb, fun b hb o eo => ?_, fun b hx hb => ⟨clOf X.mg C', dx, putF f v vfs, by rw [List.mem_singleton.mp hb]; exact upd_same⟩, fun b hb C dx vfs e => by rw [List.mem_singleton.mp hb]; exact ex⟩
                rw [upd_ne fun z => hb (by rw [z]; exact List.mem_cons_self)]
                exact eo
            exact h1 S1 _ σ O' V'
        · exact h1.elim
    | no => exact h1.elim
    | sh d => exact h1.elim
    | own ts => exact h1.elim
    | lk ts => exact h1.elim
    | dic kvs => exact h1.elim
    | xc z => exact h1.elim
theorem de_fldMk (i : Nat) (cl : Cls X.K (clOf X.mg C)) (na : NoAttr X.K (clOf X.mg C) f) (hb : attributeBase (.Name x p1) f X.env (eval (.Name x p1) X.env) = eval (.Name x p1) X.env := by rfl) (hN : X.N[i]? = some x := by rfl)
    (hv : Vis X.env.scope x := by first | exact Or.inl rfl | exact Or.inr (Or.inl rfl) | exact Or.inr (Or.inr rfl)) (hd : (x == ("__debug__" : Str)) = false := by decide) (hcd : (x == ("__classdict__" : Str)) = false := by decide) :
    DE X E (.Attribute (.Name x p1) f pos) (dFldMk i C f) := by
  refine pe_imp (pe_fld (pe_var (i := i) hN hv hd hcd) hb) fun σ H Q h => ?_
  obtain ⟨S, ρ, O, V, h⟩ := h
  unfold dFldMk at h
  cases q : ρ[i]? with
  | none =>
    rw [q] at h
    exact h.elim
  | some sv =>
    rw [q] at h
    cases sv with
    | mk C' fs =>
      simp only at h
      split at h
      · rename_i hC
        subst hC
        obtain ⟨A0, o0, q1, q2, q3, q4, _⟩ := V.sl.at_ V.nd q
        cases q2 with
        | @mk a dx _ vfs _ ha nS rs =>
          cases q5 : fs.lookup f with
          | none =>
            simp only [q5] at h
            exact h.elim
          | some d =>
            simp only [q5] at h
            obtain ⟨v, hv, rv⟩ := rs.lookup q5
            exact ⟨_, q1, a, clOf X.mg C', dx, vfs, v, rfl, ha, cl, na, hv, Post.sh h (Gr.refl V.sub) rv⟩
      · exact h.elim
    | no => exact h.elim
    | sh d => exact h.elim
    | own ts => exact h.elim
    | lk ts => exact h.elim
    | dic kvs => exact h.elim
    | xc z => exact h.elim
end
/-- an __init__ as a function: the fields -/
def initD (n : Nat) (C : Str) (g : Stm) (ds : List D) : Res (List (Str × D)) := match g (.mk C [] :: (ds.map SV.sh ++ List.replicate (n - (ds.length + 1)) SV.no)) with
  | .ok (.nx ρ) => (match (ρ[0]? : Option SV) with
    | some (.mk C' fs) => if C' = C then .ok fs else .stuck
    | _ => .stuck)
  | .ok (.ex z _) => .exc z
  | _ => .stuck
theorem init_start {c : Ct} {N : List Str} {n : Nat} {C : Str} {g : Stm} {vs : List V} {H : Hp} {Q : VK} {E : XK} (hn : n + 1 ≤ N.length) (h : spI c C n (initD N.length C g) vs H Q E) : rS c (fun _ => E) g { nx := fun _ H' => Q .non H', rt := Q } (start N vs) H := by
  obtain ⟨hl, S, ds, x, dx, ws, rfl, sub, nS, hx, r, p⟩ := h
  have hd : ws.length = ds.length := r.length
  have sl : Slots c S H (start N (.ref x :: ws)) (.mk C [] :: (ds.map SV.sh ++ List.replicate (N.length - (ds.length + 1)) SV.no)) ([x] ++ []) := by
    have := slots_start (H := H) (N.length - (ws.length + 1)) r
    rw [hd] at this
    refine .cons (.mk hx nS .nil) ?_
    show Slots c S H (ws.map some ++ List.replicate (N.length - (ws.length + 1)) none) _ _
    rw [hd]
    exact this
  refine ⟨⟨H, S, [x]⟩, S, _, [x] ++ [], ⟨⟨sub, sl, by simp⟩, ⟨fun b o _ e => e, Same.refl _, sub, fun a o _ n => n, fun a ha => ⟨c.cl C, dx, [], by rw [List.mem_singleton.mp ha]; exact hx⟩⟩, fun a ha => .inr (by simpa using ha), fun a ha _ _ _ _ => by simpa using ha⟩, ?_⟩
  have toGr : ∀ {S' H' : Hp}, GrB ⟨H, S, [x]⟩ S' H' → GrX x S H S' H' := fun {S' H'} b => ⟨fun y o ny e => b.hh y o (fun z => ny (List.mem_singleton.mp z)) e, b.ss, b.sub, b.new⟩
  unfold initD at p
  cases e : g (.mk C [] :: (ds.map SV.sh ++ List.replicate (N.length - (ds.length + 1)) SV.no)) with
  | stuck => rw [e] at p; exact p.elim
  | exc z =>
    rw [e] at p
    exact p.elim
  | ok o =>
    rw [e] at p
    cases o with
    | nx ρ =>
      simp only at p
      intro S' H' σ' O' V
      cases q : ρ[0]? with
      | none =>
        rw [q] at p
        exact p.elim
      | some sv =>
        rw [q] at p
        cases sv with
        | mk C' fs =>
          simp only at p
          split at p
          · rename_i hC
            subst hC
            obtain ⟨A0, o0, q1, q2, q3, q4, _⟩ := V.v.sl.at_ V.v.nd q
            cases q2 with
            | @mk a dx' _ vfs _ ha nS' rs =>
              have ex : a ∈ [x] := V.ni a (q4 a List.mem_cons_self) _ _ _ ha
              have ex : a = x := List.mem_singleton.mp ex
              subst ex
              exact p S' H' dx' vfs (toGr V.g) ha rs nS'
          · exact p.elim
        | no => exact p.elim
        | sh d => exact p.elim
        | own ts => exact p.elim
        | lk ts => exact p.elim
        | dic kvs => exact p.elim
        | xc z => exact p.elim
    | ret x => exact p.elim
    | bk ρ => exact p.elim
    | ct ρ => exact p.elim
    | ex z ρ => exact fun S' H' σ' O' ev dx V x f => p S' H' ev dx (toGr V.g) x f
section
variable {P : Program} {w : World} {K : PySem.W.Frag} {mg : Str → Option Value} {base : Heap} {x qual : Str} {params : Arguments} {body : List Stmt} {scope : Scope} {dvs : List V} {kws : List (Str × V)} {f : Addr} {fd : FuncData}
/-- THE RULE for an __init__ -/
theorem fn_init {N ps : List Str} {k n : Nat} {C : Str} {g : Stm} (F : FunD K x qual params body scope dvs kws f fd) (Sc : FnScope N ps scope) (hn : ps.length = n + 1)
    (hb : ∀ (cdv : Value) (A : Around) (outer : List PySem.Env) (s : Shared) (H : Hp) (E : XK), Lv (cxOf (L2N.CX P w) P w K mg base N qual scope f cdv A outer s H E) (wOf E) k → DSs (cxOf (L2N.CX P w) P w K mg base N qual scope f cdv A outer s H E) (WE (wOf E)) body g) :
    FnOk P w K mg base (L2N.CX P w) (k + 1) f fd ps (spI ⟨P, w, K, mg, 0, none, .none⟩ C n (initD N.length C g)) := by
  refine F.ok Sc (fun vs H Q E h => h.1.trans hn.symm) fun cdv A outer s H vs Q E hr h => ⟨_, hb cdv A outer s H E ⟨L2N.takes_of rfl rfl rfl rfl, passes_of rfl, rfl, hr, rfl, rfl⟩, init_start ?_ h⟩
  have := congrArg List.length Sc.pre
  rw [List.length_take] at this
  omega
end
end Dl
set_option Elab.async false
set_option linter.all false
set_option maxRecDepth 100000
/-! DL12: enumerate(tuple); sorted(set(ints)); calls of instances; ~x; str * int. -/
namespace PySem
open Sem (wp)
set_option maxHeartbeats 1000000 in
theorem dl_enum_newB {v : Value} {o : Obj} {H : Heap → Prop} (B : Begins v o H) :
    Meets (Builtin.«enumerate.__new__» ⟨[.type "enumerate", v], []⟩) (fun _ R s => H s.heap ∧
      R (.ok (.ret (.ref (s.heap.push o).objs.size))) { s with heap := (s.heap.push o).push { cls := .type "enumerate", data := .fields #[.none, .bool false, .ref s.heap.objs.size, rawInt 0, .none, .none] } }) :=
  .of_wp fun prog w A R s h => by
    obtain ⟨hp, g, d, tk, os⟩ := s; obtain ⟨h1, h⟩ := h
    have hsub := sub_enumerate
    have q1 : ∀ {A' : Around} {E : Value → Shared → Prop} {Q : Value → Shared → Prop}, Q (.ref hp.objs.size) ⟨hp.push o, g, d, tk, os⟩ → wpAny (model prog w) A' (pyIter v) Q E ⟨hp, g, d, tk, os⟩ :=
      fun q => B.iter prog w _ _ ⟨hp, g, d, tk, os⟩ _ h1 q
    wp_walk using q1
    refine wpAny_stack_any fun st => wpAny_pure ?_
    split
    · rename_i c _ _ _ _ _
      cases (c == Value.type "enumerate")
      · wp_walk using q1
        exact ⟨_, rfl, h⟩
      · wp_walk using q1
        exact ⟨_, rfl, h⟩
    · wp_walk using q1
      exact ⟨_, rfl, h⟩
section
variable {prog : Program} {w : World} {A : Around} {E : Value → Shared → Prop} {s : Shared}
theorem dl_enum_begins {v : Value} {o : Obj} {H : Heap → Prop} {Q : Value → Shared → Prop} (B : Begins v o H) (h1 : H s.heap)
    (h : ∀ h', IsEnum h' (s.heap.objs.size + 1) s.heap.objs.size 0 .none → h'.get? s.heap.objs.size = some o → h'.objs.size = s.heap.objs.size + 2 →
      (∀ b o, s.heap.get? b = some o → h'.get? b = some o) → Q (.ref (s.heap.objs.size + 1)) { s with heap := h' }) :
    wpAny (model prog w) A (call (.type "enumerate") [v]) Q E s := by
  refine callType_new F.called_enumerate (by decide) (F.typeCall_enumerate_1 _) (F.newCall_enumerate_1 _) (fun obj => F.args_object_init_2 obj _) F.entry_enumerate_new
    (dl_enum_newB B) ⟨h1, ?_⟩
  have hz : (s.heap.push o).objs.size = s.heap.objs.size + 1 := Heap.size_push ..
  show _ ∧ _
  rw [hz]
  have he : IsEnum ((s.heap.push o).push { cls := .type "enumerate", data := .fields #[.none, .bool false, .ref s.heap.objs.size, rawInt 0, .none, .none] }) (s.heap.objs.size + 1) s.heap.objs.size 0 .none := by
    have := Heap.get?_push_size (s.heap.push o) (o := { cls := .type "enumerate", data := .fields #[.none, .bool false, .ref s.heap.objs.size, rawInt 0, .none, .none] }) rfl
    rw [hz] at this; exact this
  refine ⟨⟨_, he, rfl⟩, h _ he (Heap.get?_push_of_some _ (Heap.get?_push_size _ B.free)) (by rw [Heap.size_push, hz]) fun b o x => Heap.get?_push_of_some _ (Heap.get?_push_of_some _ x)⟩
end
end PySem
namespace Dl
open PySem PySem.Spec PyProof.Rows L2

/-! ### enumerate(t), t a tuple -/
def Itu (K : PySem.W.Frag) (a : Addr) : It :=
  ⟨fun i H => ∃ (xs : List V) (x : V), SqT K H a xs ∧ xs[i]? = some x, fun i H v H' => ∃ T x, v = .ref T ∧ H T = none ∧ H' = upd H T (.tup [.int (i : Nat), x]) ∧ ∀ xs, SqT K H a xs → xs[i]? = some x, fun i H => ∃ xs : List V, SqT K H a xs ∧ xs.length ≤ i⟩
theorem turn_enumT {P : Program} {w : World} {K : PySem.W.Frag} {elts : List Expr} {kk : Nat} {tpos : Pos} (a e it : Addr) :
    Turn P w K (.Tuple elts kk tpos) (Itu K a) [e, it] e (fun i h => (∃ old, IsEnum h e it ((i : Nat) : Int) old) ∧ h.IsTupleIter it a i ∧ e ≠ it ∧ a ≠ it ∧ e ≠ a) where
  mem := by simp
  obj := fun i h st b hb => by
    obtain ⟨⟨old, he⟩, ⟨o, ho, hc, hd⟩, _⟩ := st
    have e' : b = e ∨ b = it := by simpa using hb
    rcases e' with z | z
    · rw [z]; exact ⟨_, he, fun v q => nomatch q⟩
    · rw [z]; exact ⟨o, ho, fun v q => by rw [hd] at q; cases q⟩
  keep := fun i h h' st k => let ⟨⟨old, he⟩, hi, hne⟩ := st; ⟨⟨old, k e (by simp) _ he⟩, hi.at fun o q => k it (by simp) o q, hne⟩
  item := by
    intro X hP hw hK hc i pins s σ H E I hf st hg
    subst hP hw hK
    obtain ⟨⟨old, he⟩, hit, hne, hai, hea⟩ := st
    obtain ⟨xs, x, hq, hx⟩ := hg
    obtain ⟨its, rv, p, hz⟩ := I.tuple hq
    obtain ⟨u, hu, ru⟩ := rv.get hx
    have hel : e < s.heap.objs.size := Heap.lt_size he
    have hil : it < s.heap.objs.size := by obtain ⟨_, q, _⟩ := hit; exact Heap.lt_size q
    have hlt : i < its.toArray.size := by
      have := (List.getElem?_eq_some_iff.mp hu).1
      simpa using this
    refine wpAny_pyNext_enum_itemD (Draws.tuple (A := X.A.in1) (I.ok.hd hc) it a hai its.toArray) he ⟨hit, p⟩ hlt hne (by simp [hne, hea]) fun y h' tk hy ho hit' hT hsz hk => ?_
    have ey : y = u := by
      have h1 : its[i]? = some y := by simpa using hy
      rw [hu] at h1
      cases h1
      rfl
    subst ey
    refine ⟨_, rfl, wpAny_letOwnedTupleGo_enum (s := { s with heap := h', toks := tk + 1 }) ho fun h'' he' sb => ?_⟩
    have hT2 : h''.get? s.heap.objs.size = some { cls := .type "tuple", data := .seq #[.int i tk, y] } := (sb.2 _ (Nat.ne_of_gt hel)).trans hT
    have new : ObjOk X.prog X.w (upd H s.heap.objs.size (.tup [.int (i : Nat), x])) h'' s.heap.objs.size (.tup [.int (i : Nat), x]) :=
      ⟨by show 2 ≤ sizeLine; decide, [.int i tk, y], .cons ⟨_, rfl⟩ (.cons ru .nil), ⟨_, hT2, rfl, _, rfl⟩⟩
    have I1 : Inv X pins σ (upd H s.heap.objs.size (.tup [.int (i : Nat), x])) { s with heap := h'', toks := tk + 1 } :=
      I.turnedNew (ch := [e, it]) (fun b ob hb q => (sb.2 b (fun z => hb (by simp [z]))).trans (hk b ob (fun z => hb (by simp [z])) (fun z => hb (by simp [z])) q)) hf (Nat.le_refl _) new
    refine ⟨.ref s.heap.objs.size, _, I1, rfl, ⟨_, x, rfl, I.hok.fresh (Nat.le_refl _), rfl, fun ys hy => by rw [I.tuple_inj hy hq]; exact hx⟩, ⟨⟨y, ?_⟩, hit'.1.at fun o q => (sb.2 it (Ne.symm hne)).trans q, hne, hai, hea⟩, fun b hb => ?_⟩
    · have e1 : ((i + 1 : Nat) : Int) = (i : Int) + 1 := by omega
      rw [e1]; exact he'
    · have hb' : b < s.heap.objs.size := by
        have e' : b = e ∨ b = it := by simpa using hb
        rcases e' with z | z
        · rw [z]; exact hel
        · rw [z]; exact hil
      rw [upd_ne (Nat.ne_of_lt hb')]
      exact (hf b hb).1
  done := by
    intro X hP hw hK hc i pins s σ H E I hf st hg
    subst hP hw hK
    obtain ⟨⟨old, he⟩, hit, hne, hai, hea⟩ := st
    obtain ⟨xs, hq, hx⟩ := hg
    obtain ⟨its, rv, p, hz⟩ := I.tuple hq
    obtain ⟨f0, f1, f2, f3, f4, f5⟩ := hf it (by simp)
    have hl := rv.length
    have D : Draws X.prog X.w X.A.in1 it [it, a] i (fun j v => its.toArray[j]? = some v) (fun j h => j = i ∧ h.IsTupleIter it a j ∧ h.IsTuple a its.toArray) :=
      ⟨fun _ _ st => let ⟨o, ho, _⟩ := st.2.1; ⟨o, ho⟩, fun _ _ _ st hk => ⟨st.1, st.2.1.at fun o e => hk it (by simp) o e, st.2.2.at fun o e => hk a (by simp) o e⟩,
        fun j s Q E hj st hQ => absurd st.1 (Nat.ne_of_lt hj), fun s Q E st hE => wpAny_nextOf_tuple_end (I.ok.hd hc) st.2.1 st.2.2 (by simp; omega) hE⟩
    exact wpAny_pyNext_enum_endD D he ⟨rfl, hit, p⟩ fun h' eb => ⟨rfl, I.turned (t' := s.toks) (fun b o hb q => eb b o hb q) f0 f1 f3 f4 f5⟩
  self := fun A i s Q E st h => let ⟨⟨_, he⟩, _⟩ := st; wpAny_pyIter_enum he h

def iEnumT (K : PySem.W.Frag) (ta : TA) : TI := fun σ H R => ta σ H fun vs H1 => ∃ a xs, vs = [.ref a] ∧ SqT K H1 a xs ∧ R (Itu K a) H1
theorem pi_enumT {X : Cx} {e : Expr} {ta : TA} {p pos tpos : Pos} {elts : List Expr} {kk : Nat} (hg : Gl X "enumerate") (hm : X.mg "enumerate" = none) (ha : PA X [e] ta) (hs : starEach [e] X.env = [(false, eval e X.env)] := by rfl) :
    PI X (.Tuple elts kk tpos) (.Call (.Name "enumerate" p) [e] [] pos) (iEnumT X.K ta) := by
  refine ⟨fun pins s σ H R I h => ?_⟩
  refine Call_ (ld_blt I hg hm boot_enumerate (PyProof.Rows.callWith_type1 (thn (ha.run pos pins s σ H _ I h) fun us s1 ⟨vs, H1, I1, r1, q1⟩ => ?_) hs rfl))
  obtain ⟨a, xs, ex, hq, q⟩ := q1
  subst ex
  cases r1 with
  | cons r rr =>
    cases rr
    cases r
    obtain ⟨its, rv, p', hz⟩ := I1.tuple hq
    have hal : a < s1.heap.objs.size := by obtain ⟨o, ho, _⟩ := p'; exact Heap.lt_size ho
    refine dl_enum_begins (begins_tuple a its.toArray) p' fun h' he hit hsz hk => wpAny_pyIter_enum he ?_
    have I2 : Inv X pins σ H1 { s1 with heap := h' } := I1.kept (t' := s1.toks) hk
    refine ⟨s1.heap.objs.size + 1, [s1.heap.objs.size + 1, s1.heap.objs.size], _, _, H1, rfl, I2, turn_enumT a (s1.heap.objs.size + 1) s1.heap.objs.size, ⟨⟨.none, he⟩, ⟨_, hit, rfl, rfl⟩, Nat.succ_ne_self _, Nat.ne_of_lt hal, Nat.ne_of_gt (Nat.lt_succ_of_lt hal)⟩, fun b hb => ?_, q⟩
    have e' : b = s1.heap.objs.size + 1 ∨ b = s1.heap.objs.size := by simpa using hb
    have hle : s1.heap.objs.size ≤ b := by
      rcases e' with z | z
      · rw [z]; exact Nat.le_add_right _ _
      · rw [z]; exact Nat.le_refl _
    exact I1.fpOk hle (I1.hok.fresh hle)
def enumD (n : Nat) : List D → List D
  | [] => []
  | d :: ds => .tup [.int n, d] :: enumD (n + 1) ds
theorem enumD_get : ∀ (ds : List D) (n i : Nat), (enumD n ds)[i]? = ds[i]?.map fun d => D.tup [.int (n + i : Nat), d]
  | [], n, i => by simp [enumD]
  | d :: ds, n, 0 => by simp [enumD]
  | d :: ds, n, i + 1 => by
    rw [enumD, List.getElem?_cons_succ, List.getElem?_cons_succ, enumD_get ds (n + 1) i]
    congr 1
    funext d
    have : n + 1 + i = n + (i + 1) := by omega
    rw [this]
theorem itOk_enumT {c : Ct} {a : Addr} {vs : List V} {ds : List D} {S0 : Hp} (h : TupAt c.K S0 a vs) (r : Reps c S0 vs ds) : ItOk c (Itu c.K a) (enumD 0 ds) S0 := by
  intro S H s0 s1 i
  have q := (h.mono (s0.trans s1)).sq
  have l := r.length
  rw [enumD_get]
  refine ⟨fun e => ⟨vs, q, ?_⟩, fun d e => ?_⟩
  · rw [Option.map_eq_none_iff] at e
    have := List.getElem?_eq_none_iff.mp e
    omega
  · obtain ⟨d0, e0, e1⟩ := Option.map_eq_some_iff.mp e
    subst e1
    obtain ⟨v, hv, rv⟩ := r.get e0
    refine ⟨⟨vs, v, q, hv⟩, fun x H' y => ?_⟩
    obtain ⟨T, x0, rfl, hT, rfl, y⟩ := y
    have := y vs q
    rw [hv] at this
    cases this
    have g : Gr S H (upd S T (.tup [.int ((i : Nat) : Int), v])) (upd H T (.tup [.int ((i : Nat) : Int), v])) := Gr.push s1 hT
    refine ⟨_, g, .tup (.inl upd_same) (.cons ?_ (.cons ((rv.mono s0).mono g.ss) .nil))⟩
    rw [Nat.zero_add]
    exact .int _
def iEn (f : Dl.Env → Res EV) : Itf := fun ρ => (f ρ).bind fun x => match x with
  | .sh (.tup ds) => .ok (enumD 0 ds)
  | _ => .stuck
section
variable {X : Cx} {E : WS} {e : Expr} {f1 : Dl.Env → Res EV} {p pos tpos : Pos} {elts : List Expr} {kk : Nat}
theorem di_enumT (h : DE X E e f1) (hm : X.mg "enumerate" = none) (hg : Gl X "enumerate" := by rfl) (hs : starEach [e] X.env = [(false, eval e X.env)] := by rfl) (hs2 : starEach [e] X.env = (false, eval e X.env) :: starEach [] X.env := by rfl) :
    DI X E (.Tuple elts kk tpos) (.Call (.Name "enumerate" p) [e] [] pos) (iEn f1) := by
  refine pi_imp (pi_enumT hg hm (pa_cons h pa_nil hs2) hs) fun σ H R h => ?_
  obtain ⟨S, ρ, O, V, h⟩ := h
  refine ⟨S, ρ, O, V, PostW.fst h fun x e1 h1 S1 H1 A v g r nd fr => ?_⟩
  split at h1
  · cases r with
    | sh r => cases r with
      | tup ha rr => exact ⟨_, _, rfl, (ha.mono g.sub).sq, h1 S1 H1 _ g (itOk_enumT ha rr)⟩
  · exact h1.elim
end

/-! ### sorted(set(t)), t a tuple of ints -/
def insZ (x : Int) : List Int → List Int
  | [] => [x]
  | y :: ys => if x < y then x :: y :: ys else if x = y then y :: ys else y :: insZ x ys
def sortSet (ns : List Int) : List Int := ns.foldr insZ []
theorem mem_insZ {x k : Int} : ∀ {ys : List Int}, k ∈ insZ x ys ↔ k = x ∨ k ∈ ys
  | [] => by simp [insZ]
  | y :: ys => by
    unfold insZ
    split
    · simp
    · split
      · rename_i _ e
        subst e
        simp
      · simp only [List.mem_cons, mem_insZ (ys := ys)]
        constructor <;> rintro (h | h | h) <;> simp [h]
theorem insZ_lt {x : Int} : ∀ {ys : List Int}, ys.Pairwise (· < ·) → (insZ x ys).Pairwise (· < ·)
  | [], _ => by simp [insZ]
  | y :: ys, h => by
    obtain ⟨h1, h2⟩ := List.pairwise_cons.mp h
    unfold insZ
    split
    · rename_i hx
      refine List.pairwise_cons.mpr ⟨fun z hz => ?_, h⟩
      rcases List.mem_cons.mp hz with e | hz
      · rw [e]; exact hx
      · exact Int.lt_trans hx (h1 z hz)
    · split
      · exact h
      · rename_i n1 n2
        refine List.pairwise_cons.mpr ⟨fun z hz => ?_, insZ_lt h2⟩
        rcases mem_insZ.mp hz with e | hz
        · rw [e]; omega
        · exact h1 z hz
theorem mem_sortSet {k : Int} : ∀ {ns : List Int}, k ∈ sortSet ns ↔ k ∈ ns
  | [] => by simp [sortSet]
  | n :: ns => by
    show k ∈ insZ n (sortSet ns) ↔ _
    rw [mem_insZ, mem_sortSet (ns := ns), List.mem_cons]
theorem sortSet_lt : ∀ {ns : List Int}, (sortSet ns).Pairwise (· < ·)
  | [] => by simp [sortSet]
  | n :: ns => insZ_lt (sortSet_lt (ns := ns))
theorem lt_unique : ∀ {xs ys : List Int}, xs.Pairwise (· < ·) → ys.Pairwise (· < ·) → (∀ k, k ∈ xs ↔ k ∈ ys) → xs = ys
  | [], [], _, _, _ => rfl
  | [], y :: ys, _, _, h => by simpa using (h y).mpr List.mem_cons_self
  | x :: xs, [], _, _, h => by simpa using (h x).mp List.mem_cons_self
  | x :: xs, y :: ys, h1, h2, h => by
    obtain ⟨a1, a2⟩ := List.pairwise_cons.mp h1
    obtain ⟨b1, b2⟩ := List.pairwise_cons.mp h2
    have e : x = y := by
      have p := (h x).mp List.mem_cons_self
      have q := (h y).mpr List.mem_cons_self
      rcases List.mem_cons.mp p with p | p
      · exact p
      · rcases List.mem_cons.mp q with q | q
        · exact q.symm
        · have := b1 x p
          have := a1 y q
          omega
    subst e
    congr 1
    refine lt_unique a2 b2 fun k => ⟨fun hk => ?_, fun hk => ?_⟩
    · rcases List.mem_cons.mp ((h k).mp (List.mem_cons_of_mem _ hk)) with e | z
      · have := a1 k hk
        omega
      · exact z
    · rcases List.mem_cons.mp ((h k).mpr (List.mem_cons_of_mem _ hk)) with e | z
      · have := b1 k hk
        omega
      · exact z
/-- set(t) -/
def rSetTupI (K : PySem.W.Frag) (w : World) : List V → Hp → VK → Prop := fun xs H Q => ∃ (a : Addr) (ns : List Int), xs = [.ref a] ∧ SqT K H a (ns.map V.int) ∧ ns.length + 1 < scanBound ∧ ∀ p c, H p = none → c ≤ ns.length → Q (.ref p) (upd H p (SetO w p (fun j => decide (j ∈ ns)) c))
theorem cr_setTupI {X : Cx} (hc : X.calm = true) : CallR X (.type "set") (rSetTupI X.K X.w) := by
  intro pins s σ H xs us Q I r h
  obtain ⟨a, ns, rfl, hq, hl, q⟩ := h
  obtain ⟨its, rv, p, hz⟩ := I.tuple hq
  rw [Vals.ref1 r]
  refine call_set_tupI ns (I.ok.hd hc) p (by simpa using rv.ints) hl fun h' tk c hS hc' hk => ?_
  exact ⟨.ref _, upd H s.heap.objs.size (SetO X.w s.heap.objs.size (fun j => decide (j ∈ ns)) c), I.laid (t' := tk) hk (Nat.le_refl _) (setO_new hS), rfl, q _ _ (I.hok.fresh (Nat.le_refl _)) hc'⟩
def intsD : List D → Option (List Int)
  | [] => some []
  | .int i :: ds => (intsD ds).map (i :: ·)
  | _ :: _ => none
theorem intsD_of : ∀ {ds : List D} {ns : List Int}, intsD ds = some ns → ds = ns.map D.int
  | [], _, h => by cases h; rfl
  | .int i :: ds, _, h => by
    rw [intsD] at h
    cases q : intsD ds with
    | none => rw [q] at h; cases h
    | some ns =>
      rw [q] at h
      cases h
      rw [intsD_of q]
      rfl
  | .non :: _, _, h => by cases h
  | .bl _ :: _, _, h => by cases h
  | .str _ :: _, _, h => by cases h
  | .ty _ :: _, _, h => by cases h
  | .tup _ :: _, _, h => by cases h
  | .lst _ :: _, _, h => by cases h
  | .scr _ :: _, _, h => by cases h
  | .obj _ _ :: _, _, h => by cases h
  | .dic _ :: _, _, h => by cases h
theorem reps_intv {c : Ct} {S : Hp} : ∀ {ns : List Int} {vs : List V}, Reps c S vs (ns.map D.int) → vs = ns.map V.int
  | [], _, .nil => rfl
  | n :: ns, _, .cons h t => by
    cases h
    rw [List.map_cons, reps_intv t]
def dSortSet (f : Dl.Env → Res EV) : Dl.Env → Res EV := fun ρ => (f ρ).bind fun x => match x with
  | .sh (.tup ds) => (match intsD ds with
    | some ns => if ns.length < 64 then .ok (.fr ((sortSet ns).map fun n => .leaf (.int n))) else .stuck
    | none => .stuck)
  | _ => .stuck
theorem de_sortSet {X : Cx} {E : WS} {e : Expr} {f1 : Dl.Env → Res EV} {p p2 q pos : Pos} (hc : X.calm = true) (h : DE X E e f1) (hm : X.mg "sorted" = none) (hm2 : X.mg "set" = none) (hg : Gl X "sorted" := by rfl) (hg2 : Gl X "set" := by rfl)
    (hs : starEach [e] X.env = (false, eval e X.env) :: starEach [] X.env := by rfl) (hpl : (backTo q (starEach [] X.env)).any (·.1) = false := by rfl)
    (hs2 : starEach [Expr.Call (.Name "set" p2) [e] [] q] X.env = (false, eval (.Call (.Name "set" p2) [e] [] q) X.env) :: starEach [] X.env := by rfl) (hpl2 : (backTo pos (starEach [] X.env)).any (·.1) = false := by rfl) :
    DE X E (.Call (.Name "sorted" p) [.Call (.Name "set" p2) [e] [] q] [] pos) (dSortSet f1) := by
  have b1 : bootBuiltins "set" = some (.type "set") := PyProof.Rows.Boot.set
  have b2 : bootBuiltins "sorted" = some (.builtin "sorted") := PyProof.Rows.Boot.sorted
  refine pe_imp (pe_callB (cr_sortedSet hc) hg hm b2 (pa_cons (pe_callTy (cr_setTupI hc) hg2 hm2 b1 (pa_cons h pa_nil hs) (by decide) (by decide) hs hpl) pa_nil hs2) (by decide) (by decide) hs2 hpl2) fun σ H Q h => ?_
  obtain ⟨S, ρ, O, V, h⟩ := h
  refine ⟨S, ρ, O, V, Post.fst h fun x e1 h1 S1 H1 A v g r nd fr => ?_⟩
  split at h1
  · rename_i ds
    cases q5 : intsD ds with
    | none =>
      rw [q5] at h1
      exact h1.elim
    | some ns =>
      simp only [q5] at h1
      split at h1
      · rename_i hl
        have ed := intsD_of q5
        subst ed
        cases r with
        | sh r => cases r with
          | tup ha rr =>
            have ev := reps_intv rr
            subst ev
            refine ⟨_, ns, rfl, (ha.mono g.sub).sq, by unfold scanBound; omega, fun p c hp hcl => ?_⟩
            refine ⟨p, _, c, rfl, upd_same, by omega, fun ns' p' hs' hm' _ hp' => ?_⟩
            have en : ns' = sortSet ns := lt_unique hs' sortSet_lt fun k => by
              rw [hm', mem_sortSet, decide_eq_true_iff]
            subst en
            have g2 : Gr S1 H1 S1 (upd H1 p (SetO X.w p (fun j => decide (j ∈ ns)) c)) := Gr.pushO g.sub hp
            have ow : Owns (ctOf X) S1 (upd H1 p (SetO X.w p (fun j => decide (j ∈ ns)) c)) [] ((sortSet ns).map L2.V.int) (((sortSet ns).map D.int).map T.leaf) := by
              have : ∀ ms : List Int, Reps (ctOf X) S1 (ms.map L2.V.int) (ms.map D.int) := fun ms => by
                induction ms with
                | nil => exact .nil
                | cons m ms ih => exact .cons (.int m) ih
              exact Owns.leaves (this _)
            have h2 : Post (ctOf X) (xs (ctOf X) E ρ O) S H (.ok (.fr (((sortSet ns).map D.int).map T.leaf))) Q := by
              rw [List.map_map]
              exact h1
            exact Post.lst h2 (g.trans g2) ow List.nodup_nil (fun a ha => by cases ha) hp'
      · exact h1.elim
  · exact h1.elim

/-! ### calls of instances, ~x, staticmethods -/
def dCallI (C : Str) (n : Nat) (F : List D → Res EV) (dds : List D) (f0 : Dl.Env → Res EV) (fs : Dl.Env → Res (List EV)) : Dl.Env → Res EV := fun ρ => (f0 ρ).bind fun x => match asObj C x with
  | some _ => (fs ρ).bind fun xs => callN n F dds (x :: xs)
  | none => .stuck
def dSpec (C : Str) (n : Nat) (F : List D → Res EV) (dds : List D) (f0 : Dl.Env → Res EV) : Dl.Env → Res EV := fun ρ => (f0 ρ).bind fun x => match asObj C x with
  | some _ => callN n F dds [x]
  | none => .stuck
def tCI (c : Ct) (C : Addr) (n : Nat) (F : List D → Res EV) (dds : List D) (E : WS) (ta : TE) (t : TA) : TE := fun σ H Q => ta σ H fun x H1 => ∃ a, x = .ref a ∧ t σ H1 fun vs H2 => (∃ dx fs, H2 a = some (.ins C dx fs)) ∧ spF c n F dds (x :: vs) H2 Q (E σ)
def tSpec (c : Ct) (C : Addr) (n : Nat) (F : List D → Res EV) (dds : List D) (E : WS) (ta : TE) : TE := fun σ H Q => ta σ H fun x H1 => ∃ a, x = .ref a ∧ (∃ dx fs, H1 a = some (.ins C dx fs)) ∧ spF c n F dds [x] H1 Q (E σ)
theorem ins_inst {X : Cx} {pins : List (Addr × Obj)} {σ : L2.St} {H : Hp} {s : Shared} {a C : Addr} (I : Inv X pins σ H s) (h : ∃ dx fs, H a = some (.ins C dx fs)) : ∃ ox od, PySem.W.InstAt s.heap a ox C od ∧ ox.data = .plain := by
  obtain ⟨dx, fs, h⟩ := h
  obtain ⟨mA, O, _⟩ := ins_get I.hok h
  obtain ⟨od, J, _⟩ := O.look
  exact ⟨_, _, J, rfl⟩
section
variable {X : Cx} {E : WS} {C m : Str} {g : Addr} {n : Nat} {F : List D → Res EV} {dds : List D} {fe e o : Expr} {es : List Expr} {p pos apos : Pos} {f0 : Dl.Env → Res EV} {fs : Dl.Env → Res (List EV)}
theorem de_callI (hf : DE X E fe f0) (c : StX.CallO X.K (clOf X.mg C) g) (G : CallD X E g n F dds) (ha : DA X E (e :: es) fs)
    (ht : eval (.Call fe (e :: es) [] pos) X.env = (do callWith pos (← eval fe X.env) [] (backTo pos (starEach (e :: es) X.env)) (backToKw pos (keywordEach [] X.env))) := by rfl)
    (he : starEach (e :: es) X.env = (false, eval e X.env) :: starEach es X.env := by rfl) (hpl : (backTo pos (starEach es X.env)).any (·.1) = false := by rfl) : DE X E (.Call fe (e :: es) [] pos) (dCallI C n F dds f0 fs) := by
  refine pe_imp (t := tCI (ct0 X) (clOf X.mg C) n F dds E (rE (ctOf X) E f0) (rA (ctOf X) E fs)) ⟨fun pins s σ H Q I h => ?_⟩ fun σ H Q h => ?_
  · refine Call_ (thn (PE.run hf pins s σ H _ I h) fun u s1 ⟨y, H1, I1, ry, a, ey, q⟩ => ?_) ht
    subst ey
    obtain rfl : u = Value.ref a := ry
    refine StX.callO_with (thn (PA.run ha pos pins s1 σ H1 _ I1 q) fun us s2 ⟨vs, H2, I2, r, hi, q2⟩ => ?_) he hpl
    obtain ⟨ox, od, J, hd⟩ := ins_inst I2 hi
    exact ⟨⟨_, ox, od, J, hd⟩, wpAny_call (PySem.W.kco_code I2.kIn J hd c.at_ c.fn c.fi (G.run pins σ H2 s2 Q (.ref a :: us) (.ref a :: vs) I2 (.cons rfl r) q2))⟩
  · obtain ⟨S, ρ, O, V, h⟩ := h
    refine ⟨S, ρ, O, V, Post.fst h fun x e1 h1 S1 H1 A v g1 r1 n1 fr1 => ?_⟩
    cases q : asObj C x with
    | none =>
      rw [q] at h1
      exact h1.elim
    | some fl =>
      rw [q] at h1
      obtain ⟨a, dx, vfl, rfl, ha, rf, ex⟩ := asObj_rep r1 q
      refine ⟨a, rfl, S1, ρ, O, V.gr g1, PostA.fst (Post.later h1 g1) fun xs e2 _ S2 H2 B vs g2 r2 n2 fr2 => ?_⟩
      simp only [e2] at h1
      subst ex
      have rx : EvRep (ctOf X) S1 H1 [] (.ref a) (.sh (.obj C fl)) := .sh (.obj ha rf)
      have rr : EvsRep (ctOf X) S2 H2 ([] ++ B) (.ref a :: vs) (.sh (.obj C fl) :: xs) := .cons (rx.gr g2) r2
      exact ⟨⟨dx, vfl, g2.hh _ _ (g1.sub _ _ ha)⟩, call_at (g1.trans g2) rr (fun u hu => g1.hh.free (fr2 u (by simpa using hu))) h1 (xs_at V)⟩
theorem de_inv (hf : DE X E e f0) (hs : PySem.W.findIn X.K (.ref (clOf X.mg C)) "__invert__" = some (some (.ref g))) (hfn : PySem.W.isFn X.K (.ref g) = true) (G : CallD X E g n F dds) : DE X E (.UnaryOp .Invert e pos) (dSpec C n F dds f0) := by
  refine pe_imp (t := tSpec (ct0 X) (clOf X.mg C) n F dds E (rE (ctOf X) E f0)) ⟨fun pins s σ H Q I h => ?_⟩ fun σ H Q h => ?_
  · show wpAny _ _ (do let v ← eval e X.env; standAt pos; holding [v] (unaryOp .Invert v)) _ _ _
    refine wpAny_bind (thn (PE.run hf pins s σ H _ I h) fun u s1 ⟨y, H1, I1, ry, a, ey, hi, q⟩ => wpAny_bind (wpAny_standAt (wpAny_holding ?_)))
    subst ey
    obtain rfl : u = Value.ref a := ry
    obtain ⟨ox, od, J, hd⟩ := ins_inst I1 hi
    obtain ⟨mm, fr⟩ := I1.fr
    exact PySem.W.ksp_inv fr I1.ok.mod.kin J hs hfn (G.wp (us := [.ref a]) (vs := [.ref a]) I1 (.cons rfl .nil) q)
  · obtain ⟨S, ρ, O, V, h⟩ := h
    refine ⟨S, ρ, O, V, Post.fst h fun x e1 h1 S1 H1 A v g1 r1 n1 fr1 => ?_⟩
    cases q : asObj C x with
    | none =>
      rw [q] at h1
      exact h1.elim
    | some fl =>
      rw [q] at h1
      obtain ⟨a, dx, vfl, rfl, ha, rf, ex⟩ := asObj_rep r1 q
      subst ex
      have rx : EvRep (ctOf X) S1 H1 [] (.ref a) (.sh (.obj C fl)) := .sh (.obj ha rf)
      have rr : EvsRep (ctOf X) S1 H1 ([] ++ []) [.ref a] [.sh (.obj C fl)] := .cons rx .nil
      exact ⟨a, rfl, ⟨dx, vfl, g1.sub _ _ ha⟩, call_at g1 rr (fun u hu => by cases hu) h1 (xs_at V)⟩
/-- what the text says of a staticmethod m of the class at C -/
structure StM (K : PySem.W.Frag) (C : Addr) (m : Str) (p g : Addr) : Prop where
  rd : PySem.W.readsIn K C (.type "type") = true
  ga : PySem.W.specialIn K (.ref C) "__getattribute__" = some (some (.builtin "type.__getattribute__"))
  at_ : PySem.W.findCls K (.ref C) (.type "type") m = some (.get (.builtin "staticmethod.__get__") (.ref p) .none (.ref C))
  rc : ∃ rest, PySem.W.recIn K p "staticmethod" = some (.ref g :: rest)
  ty : PySem.W.typeIn K (.ref C) = some (.type "type")
theorem de_smeth {pl : Sem Bool} {x : Str} {pr : Addr} (k : StM X.K (clOf X.mg x) m pr g) (hm : X.mg x = some (.ref (clOf X.mg x))) (G : CallD X E g n F dds) (ha : DA X E (e :: es) fs) (hg : Gl X x := by rfl) (hdb : (x == ("__debug__" : Str)) = false := by decide)
    (hst : starEach (e :: es) X.env = (false, eval e X.env) :: starEach es X.env := by rfl) (hpl : (backTo pos (starEach es X.env)).any (·.1) = false := by rfl)
    (ht : eval (.Call (.Attribute (.Name x p) m apos) (e :: es) [] pos) X.env = (do
      let ov ← eval (.Name x p) X.env
      standAt apos.atName
      let (f, first) ← holding [ov] (getMethod ov m pl)
      callWith pos f first (backTo pos (starEach (e :: es) X.env)) (backToKw pos (keywordEach [] X.env))) := by rfl) :
    DE X E (.Call (.Attribute (.Name x p) m apos) (e :: es) [] pos) (dCall n F dds fs) := by
  refine pe_imp (t := tCb (ct0 X) n F dds E (rA (ctOf X) E fs)) ⟨fun pins s σ H Q I h => ?_⟩ fun _ _ _ h => callD_imp h
  refine PySem.W.methodCall_KW (pl := pl) (thn ((pe_glob (pos := p) hg hm (v := .ref (clOf X.mg x)) rfl hdb).run pins s σ H (fun v H1 => v = .ref (clOf X.mg x) ∧ H1 = H) I ⟨rfl, rfl⟩) fun u s1 ⟨y, H1, I1, ry, ey, eH⟩ => ?_) ht
  subst ey eH
  obtain rfl : u = Value.ref (clOf X.mg x) := ry
  obtain ⟨mm, fr⟩ := I1.fr
  obtain ⟨rest, hrec⟩ := k.rc
  refine PySem.W.method_of_cls fr I1.ok.mod.kin k.ga (PySem.W.cls_sm fr I1.ok.mod.kin (mc := .type "type") ?_ k.rd k.at_ hrec rfl ?_)
  · exact k.ty
  · refine PySem.W.callWith_K (h₀ := X.base) I1.ok.mod.kin G.kp (thn (PA.run ha pos pins _ σ H1 _ (I1.tok _) h) fun us s2 ⟨vs, H2, I2, r, q⟩ => ⟨I2.kIn, ?_⟩) hst hpl
    exact G.wp I2 r q
end

end Dl
set_option Elab.async false
set_option linter.all false
set_option maxRecDepth 100000
/-! DL13: for r in x: r[k] = e, x a list of lists that a slot owns. -/
namespace Dl
open PySem PySem.Spec PyProof.Rows L2

def putLeaf (k : Int) (g : Int → Option Int) : T → Option T
  | .node us => match ixN us.length k with
    | some j => (match us[j]? with
      | some (.leaf (.int n)) => (g n).map fun m => .node (us.set j (.leaf (.int m)))
      | _ => none)
    | none => none
  | _ => none
def putLeaves (k : Int) (g : Int → Option Int) : List T → Option (List T)
  | [] => some []
  | t :: ts => match putLeaf k g t, putLeaves k g ts with
    | some u, some us => some (u :: us)
    | _, _ => none
theorem putLeaves_len {k : Int} {g : Int → Option Int} : ∀ {ts us : List T}, putLeaves k g ts = some us → ts.length = us.length
  | [], _, h => by cases h; rfl
  | t :: ts, _, h => by
    rw [putLeaves] at h
    cases q : putLeaf k g t with
    | none => rw [q] at h; cases h
    | some u =>
      cases q2 : putLeaves k g ts with
      | none => rw [q, q2] at h; cases h
      | some us =>
        rw [q, q2] at h
        cases h
        simp [putLeaves_len q2]
theorem putLeaves_get {k : Int} {g : Int → Option Int} : ∀ {ts us : List T} {i : Nat} {t : T}, putLeaves k g ts = some us → ts[i]? = some t → ∃ u, us[i]? = some u ∧ putLeaf k g t = some u
  | [], _, _, _, _, e => by simp at e
  | t :: ts, _, i, _, h, e => by
    rw [putLeaves] at h
    cases q : putLeaf k g t with
    | none => rw [q] at h; cases h
    | some u =>
      cases q2 : putLeaves k g ts with
      | none => rw [q, q2] at h; cases h
      | some us =>
        rw [q, q2] at h
        cases h
        cases i with
        | zero =>
          simp at e
          subst e
          exact ⟨u, rfl, q⟩
        | succ i =>
          obtain ⟨v, h1, h2⟩ := putLeaves_get (i := i) q2 (by simpa using e)
          exact ⟨v, by simpa using h1, h2⟩
section
variable {c : Ct} {S H : Hp}
theorem Own.setLeaf {A : List Addr} {v : V} {t u : T} {k : Int} {g : Int → Option Int} (h : Own c S H A v t) (nd : A.Nodup) (e : putLeaf k g t = some u) :
    ∃ p ws j n m, v = .ref p ∧ p ∈ A ∧ H p = some (.lst ws) ∧ ixN ws.length k = some j ∧ ws[j]? = some (.int n) ∧ g n = some m ∧ Own c S (upd H p (.lst (ws.set j (.int m)))) A v u := by
  cases h with
  | leaf r => cases e
  | @node a A0 vs us ha na rs =>
    have hl := rs.length
    unfold putLeaf at e
    simp only at e
    cases q : ixN us.length k with
    | none => rw [q] at e; cases e
    | some j =>
      rw [q] at e
      simp only at e
      split at e
      · rename_i n hn
        obtain ⟨m, hm, rfl⟩ := Option.map_eq_some_iff.mp e
        obtain ⟨w, Bw, hw, ow, sb⟩ := rs.get hn
        have ew : w = .int n := by
          cases ow with
          | leaf r => cases r; rfl
        subst ew
        refine ⟨a, vs, j, n, m, rfl, List.mem_cons_self, ha, by rw [hl]; exact q, hw, hm, .node upd_same na ?_⟩
        have n2 := List.nodup_cons.mp nd
        have k1 : Keeps A0 S H (upd H a (.lst (vs.set j (.int m)))) := fun b hb => ⟨upd_ne fun z => n2.1 (z ▸ hb), (rs.alive b hb).2⟩
        have r2 := rs.mono (Same.refl _) k1
        have set_ : ∀ {A : List Addr} {vs : List V} {us : List T} {j : Nat} {n : Int}, Owns c S (upd H a (.lst (vs.set j (.int m)))) A vs us → True := fun _ => trivial
        have go : ∀ {H' : Hp} {us : List T} {A : List Addr} {vs : List V} {j : Nat}, us[j]? = some (.leaf (.int n)) → Owns c S H' A vs us → Owns c S H' A (vs.set j (.int m)) (us.set j (.leaf (.int m))) := by
          intro H' us
          induction us with
          | nil => intro A vs j hj; simp at hj
          | cons t ts ih =>
            intro A vs j hj o
            cases o with
            | cons h r =>
              cases j with
              | zero =>
                simp at hj
                subst hj
                cases h
                exact Owns.cons (A := []) (.leaf (.int m)) r
              | succ j => exact .cons h (ih (by simpa using hj) r)
        exact go hn r2
      · cases e
theorem Owns.setLeaf {k : Int} {g : Int → Option Int} : ∀ {A : List Addr} {vs : List V} {ts : List T} {i : Nat} {t u : T}, Owns c S H A vs ts → A.Nodup → ts[i]? = some t → putLeaf k g t = some u →
    ∃ p ws j n m, vs[i]? = some (.ref p) ∧ p ∈ A ∧ H p = some (.lst ws) ∧ ixN ws.length k = some j ∧ ws[j]? = some (.int n) ∧ g n = some m ∧ Owns c S (upd H p (.lst (ws.set j (.int m)))) A vs (ts.set i u)
  | _, _, _, _, _, _, .nil, _, e, _ => by simp at e
  | _, _, _, 0, _, _, .cons (A := A) (B := B) h r, nd, e, q => by
    simp at e
    subst e
    obtain ⟨n1, n2, n3⟩ := List.nodup_append.mp nd
    obtain ⟨p, ws, j, n, m, rfl, hp, h1, h2, h3, h4, h5⟩ := h.setLeaf n1 q
    refine ⟨p, ws, j, n, m, rfl, List.mem_append_left _ hp, h1, h2, h3, h4, .cons h5 (r.mono (Same.refl _) fun b hb => ⟨upd_ne fun z => n3 p hp b hb z.symm, (r.alive b hb).2⟩)⟩
  | _, _, _, i + 1, _, _, .cons (A := A) (B := B) h r, nd, e, q => by
    obtain ⟨n1, n2, n3⟩ := List.nodup_append.mp nd
    obtain ⟨p, ws, j, n, m, h0, hp, h1, h2, h3, h4, h5⟩ := Owns.setLeaf (i := i) r n2 (by simpa using e) q
    refine ⟨p, ws, j, n, m, by simpa using h0, List.mem_append_right _ hp, h1, h2, h3, h4, .cons (h.mono (Same.refl _) fun b hb => ⟨upd_ne fun z => n3 b hb p hp z, (h.alive b hb).2⟩) h5⟩
end
def dForIdx (i j : Nat) (k : Int) (g : Int → Option Int) : Stm := fun ρ => match ρ[i]? with
  | some (.own ts) => if i = j then .stuck else (match putR j .no ρ, putLeaves k g ts with
    | some ρ1, some us => .ok (.nx (ρ1.set i (.own us)))
    | _, _ => .stuck)
  | _ => .stuck
theorem Vw.forget {c : Ct} {B : Base} {S H : Hp} {σ : L2.St} {ρ : Dl.Env} {O : List Addr} {i : Nat} {x : SV} (v : Vw c B S H σ ρ O) (e : ρ[i]? = some x) : ∃ O', Vw c B S H σ (ρ.set i .no) O' := by
  obtain ⟨A, o, q1, q2, q3, q4, q5⟩ := v.v.sl.at_ v.v.nd e
  obtain ⟨O', p1, p2, p3⟩ := q5 S H [] o .no (Same.refl _) (fun a ha _ => ⟨rfl, (v.v.sl.alive a ha).2⟩) .no List.nodup_nil (fun a ha ho => by cases ha)
  rw [List.set_same q1] at p1
  exact ⟨O', ⟨v.sub, p1, p2⟩, v.g, fun a ha => (p3 a ha).elim (fun z => by cases z) fun z => v.own a z.1, fun a ha => (p3 a ha).elim (fun z => by cases z) fun z => v.ni a z.1⟩
theorem ds_forIdx {X : Cx} {E : WS} {x r : Str} {k : Int} {jx : Nat} {e : Expr} {te : TE} {g : Int → Option Int} {pr px px2 pk ps pa pos : Pos} (i j : Nat) (hp : PassesOwn (model X.prog X.w) X.A X.env X.xe) (hc : X.calm = true) (hNd : X.N.Nodup) (he : PE X e te)
    (hte : ∀ σ H Q a ws j' n m, σ[j]? = some (some (.ref a)) → H a = some (.lst ws) → ixN ws.length k = some j' → ws[j']? = some (.int n) → g n = some m → Q (.int m) H → te σ H Q)
    (hN : X.N[i]? = some x := by rfl) (hv : Vis X.env.scope x := by first | exact Or.inl rfl | exact Or.inr (Or.inl rfl) | exact Or.inr (Or.inr rfl)) (hd : (x == ("__debug__" : Str)) = false := by decide) (hcd : (x == ("__classdict__" : Str)) = false := by decide)
    (hNr : X.N[j]? = some r := by rfl) (hvr : Vis X.env.scope r := by first | exact Or.inl rfl | exact Or.inr (Or.inl rfl) | exact Or.inr (Or.inr rfl)) (hlr : Loc X.env.scope r := by first | exact Or.inl rfl | exact Or.inr rfl)
    (hfr : X.fn r = true ∨ X.env.scope.names.lookup r = some .local := by first | exact .inl rfl | exact .inr rfl) (hdr : (r == ("__debug__" : Str)) = false := by decide) (hcdr : (r == ("__classdict__" : Str)) = false := by decide)
    (ha : ∀ v, assign (.Subscript (.Name r px2) (.Constant (.int k) jx pk) ps) X.env v = (do
      let ov ← holding [v] (eval (.Name r px2) X.env)
      let iv ← holding [v, ov] (eval (.Constant (.int k) jx pk) X.env)
      standAt ps
      holding [v, ov, iv] (setItem ov iv v)
      release [v, ov, iv] []) := by intro _; rfl)
    (hs : swapsWithSole [.Subscript (.Name r px2) (.Constant (.int k) jx pk) ps] e pa.line X.env = pure false := by rfl) (hw : swappedStores [.Subscript (.Name r px2) (.Constant (.int k) jx pk) ps] e X.env = pure none := by rfl)
    (h1 : (assignEach [.Subscript (.Name r px2) (.Constant (.int k) jx pk) ps] X.env).map (·.2) = [assign (.Subscript (.Name r px2) (.Constant (.int k) jx pk) ps) X.env] := by rfl)
    (hfs : ∀ y, foldedSetIterable (.Name x px) X.env y = pure y := by intro _; rfl) :
    DS X E (.For (.Name r pr) (.Name x px) [.Assign [.Subscript (.Name r px2) (.Constant (.int k) jx pk) ps] e pa] [] pos) (dForIdx i j k g) := by
  have hb := pss_one (ps_asg he (pg_sub (pe_var (i := j) hNr hvr hdr hcdr) pe_int set_list ha) hs hw h1)
  refine ps_imp (ps_for hp hc (pi_list (pe_var (i := i) hN hv hd hcd)) (pg_name (i := j) hNd hNr hlr hfr) hb hfs) fun D σ H h => ?_
  obtain ⟨B, S, ρ, O, V, h⟩ := h
  unfold dForIdx at h
  cases q : ρ[i]? with
  | none => rw [q] at h; exact h.elim
  | some y =>
    rw [q] at h
    cases y with
    | own ts =>
      simp only at h
      split at h
      · exact h.elim
      · rename_i hij
        cases q1 : putR j .no ρ with
        | none => rw [q1] at h; exact h.elim
        | some ρ1 =>
          cases q2 : putLeaves k g ts with
          | none => rw [q1, q2] at h; exact h.elim
          | some us =>
            rw [q1, q2] at h
            simp only at h
            obtain ⟨yj, ej, rfl⟩ := putR_some q1
            obtain ⟨A, o, e1, r1, n1, s1, _⟩ := V.v.sl.at_ V.v.nd q
            cases r1 with
            | @own _ v _ r1 =>
              cases r1 with
              | @node a A0 vs _ hla na rs =>
                have hl := rs.length
                have hul := putLeaves_len q2
                refine ⟨_, e1, a, rfl, ⟨vs, SqL.of hla⟩, ?_⟩
                obtain ⟨O1, V1⟩ := V.forget ej
                have qi : (ρ.set j .no)[i]? = some (.own ts) := by
                  rw [List.getElem?_set_ne (fun z => hij z.symm)]
                  exact q
                have hjl : j < ρ.length := (List.getElem?_eq_some_iff.mp ej).1
                have hil : i < ρ.length := (List.getElem?_eq_some_iff.mp q).1
                refine ⟨fun n m σ' H' => m = ts.length - n ∧ n ≤ ts.length ∧ H' a = some (.lst vs) ∧ σ'[i]? = some (some (.ref a)) ∧ ∃ O', Vw (ctOf X) B S H' σ' ((ρ.set j .no).set i (.own (us.take n ++ ts.drop n))) O', ⟨ts.length, by simp, Nat.zero_le _, hla, e1, O1, ?_⟩, ?_⟩
                · rw [List.take_zero, List.drop_zero, List.nil_append, List.set_same qi]
                  exact V1
                · rintro n m σ2 H2 ⟨rfl, hn, hla2, e12, O2, V2⟩
                  by_cases hlt : n < ts.length
                  · refine .inr ⟨⟨vs, vs[n]'(by omega), SqL.of hla2, List.getElem?_eq_getElem (by omega)⟩, fun σ' H' => (n + 1 ≤ ts.length ∧ H' a = some (.lst vs) ∧ σ'[i]? = some (some (.ref a)) ∧ ∃ O', Vw (ctOf X) B S H' σ' ((ρ.set j .no).set i (.own (us.take (n + 1) ++ ts.drop (n + 1)))) O'), fun σ' H' z => ⟨ts.length - (n + 1), by omega, rfl, z⟩, fun w H3 yl => ?_⟩
                    obtain ⟨rfl, yl⟩ := yl
                    have hw := yl vs (SqL.of hla2)
                    -- the slot of the loop's name
                    have ej2 : ((ρ.set j .no).set i (.own (us.take n ++ ts.drop n)))[j]? = some .no := by
                      rw [List.getElem?_set_ne hij, List.getElem?_set_self hjl]
                    obtain ⟨O3, V3⟩ := V2.put (v' := w) (x' := .no) (A' := []) ej2 .no List.nodup_nil (fun _ z => by cases z) (fun _ z => by cases z) (fun _ z => by cases z)
                    rw [List.set_same ej2] at V3
                    have ei2 : ((ρ.set j .no).set i (.own (us.take n ++ ts.drop n)))[i]? = some (.own (us.take n ++ ts.drop n)) := by
                      rw [List.getElem?_set_self (by rw [List.length_set]; exact hil)]
                    have s3i : (σ2.set j (some w))[i]? = some (some (.ref a)) := by
                      rw [List.getElem?_set_ne (fun z => hij z.symm)]
                      exact e12
                    have hjσ : j < σ2.length := by
                      rw [V2.v.sl.length, List.length_set, List.length_set]
                      exact hjl
                    obtain ⟨A3, o3, e3, r3, n3, m3, _⟩ := V3.v.sl.at_ V3.v.nd ei2
                    rw [s3i] at e3
                    cases e3
                    cases r3 with
                    | @own _ _ _ r3 =>
                      cases r3 with
                      | @node _ A4 vs4 _ hla4 na4 rs4 =>
                        rw [hla2] at hla4
                        cases hla4
                        have n4 := List.nodup_cons.mp n3
                        have hln : (us.take n ++ ts.drop n)[n]? = ts[n]? := by
                          rw [List.getElem?_append_right (by simp; omega), List.getElem?_drop]
                          congr 1
                          simp
                          omega
                        obtain ⟨u, hu, hpl⟩ := putLeaves_get q2 (List.getElem?_eq_getElem hlt)
                        obtain ⟨p, ws, j', n', m', g1, g2, g3, g4, g5, g6, g7⟩ := rs4.setLeaf (i := n) (t := ts[n]) n4.2 (by rw [hln]; exact List.getElem?_eq_getElem hlt) hpl
                        have ew : w = .ref p := by
                          rw [hw] at g1
                          cases g1
                          rfl
                        subst ew
                        refine hte _ _ _ p ws j' n' m' (by rw [List.getElem?_set_self hjσ]) g3 g4 g5 g6 ?_
                        refine ⟨_, by rw [List.getElem?_set_self hjσ], p, ws, k, j', rfl, rfl, g3, g4, ?_⟩
                        have pa : p ≠ a := fun z => n4.1 (z ▸ g2)
                        have et : us.take (n + 1) ++ ts.drop (n + 1) = (us.take n ++ ts.drop n).set n u := by
                          rw [List.take_add_one, hu, List.set_append_right _ _ (by rw [List.length_take]; omega), List.append_assoc]
                          congr 1
                          have e0 : n - (us.take n).length = 0 := by simp; omega
                          rw [e0, List.drop_eq_getElem_cons hlt]
                          rfl
                        obtain ⟨O5, V5⟩ := V3.write (H2 := upd H3 p (.lst (ws.set j' (.int m')))) (x' := .own (us.take (n + 1) ++ ts.drop (n + 1))) ei2 s3i fun A6 r6 n6 s6 => by
                          cases r6 with
                          | own r6 =>
                            cases r6 with
                            | @node _ A7 vs7 _ h7 na7 rs7 =>
                              rw [hla2] at h7
                              cases h7
                              have n7 := List.nodup_cons.mp n6
                              obtain ⟨p', ws', j'', n'', m'', k1, k2, k3, k4, k5, k6, k7⟩ := rs7.setLeaf (i := n) (t := ts[n]) n7.2 (by rw [hln]; exact List.getElem?_eq_getElem hlt) hpl
                              rw [g1] at k1
                              cases k1
                              rw [g3] at k3
                              cases k3
                              rw [g4] at k4
                              cases k4
                              rw [g5] at k5
                              cases k5
                              rw [g6] at k6
                              cases k6
                              refine ⟨a :: A7, .own (.node (by rw [upd_ne (Ne.symm pa)]; exact hla2) na7 (by rw [et]; exact k7)), n6, fun b hb => .inl hb, fun b hb ob eb => ?_, fun b hx hb => ?_, fun b hb C' dx' vf' eb => ?_⟩
                              · rw [upd_ne fun z => hb (by rw [z]; exact List.mem_cons_of_mem _ k2)]
                                exact eb
                              · obtain ⟨C', dx', vf', y⟩ := V3.g.exs b hx
                                have al := (V3.v.sl.alive b (s6 b hb)).1
                                rcases List.mem_cons.mp hb with z | hb
                                · rw [z, hla2] at y
                                  cases y
                                · obtain ⟨⟨_, eo⟩, _⟩ := rs7.alive b hb
                                  rw [eo] at y
                                  cases y
                              · rcases List.mem_cons.mp hb with z | hb
                                · rw [z, upd_ne (Ne.symm pa), hla2] at eb
                                  cases eb
                                · obtain ⟨⟨_, eo⟩, _⟩ := k7.alive b hb
                                  rw [eo] at eb
                                  cases eb
                        rw [List.set_set] at V5
                        exact ⟨by omega, by rw [upd_ne (Ne.symm pa)]; exact hla2, s3i, O5, V5⟩
                  · have hnn : n = ts.length := by omega
                    subst hnn
                    refine .inl ⟨⟨vs, SqL.of hla2, by omega⟩, ?_⟩
                    rw [List.take_of_length_le (by omega), List.drop_length, List.append_nil] at V2
                    exact h S H2 σ2 O2 V2
    | no => exact h.elim
    | sh d => exact h.elim
    | lk ts => exact h.elim
    | mk C fs => exact h.elim
    | dic kvs => exact h.elim
    | xc z => exact h.elim

/-! ### what is walked: a list or a tuple -/
def iAny (K : PySem.W.Frag) (tl : TE) : TI := fun σ H R => tl σ H fun x H1 => ∃ a, x = .ref a ∧ (((∃ xs, SqL K H1 a xs) ∧ R (Itl K a) H1) ∨ ((∃ xs, SqT K H1 a xs) ∧ R (Itt K a) H1))
theorem pi_any {X : Cx} {tg l : Expr} {tl : TE} (hl : PE X l tl) : PI X tg l (iAny X.K tl) := by
  refine ⟨fun pins s σ H R I h => ?_⟩
  refine thn (hl.run pins s σ H _ I h) fun v s1 ⟨x, H1, I1, r1, q1⟩ => ?_
  obtain ⟨a, e, q⟩ := q1
  subst e
  cases r1
  rcases q with ⟨⟨xs, hq⟩, q⟩ | ⟨⟨xs, hq⟩, q⟩
  · obtain ⟨its, rv, p, hz⟩ := I1.list hq
    refine wpAny_pyIter_list p.isList ?_
    refine ⟨s1.heap.objs.size, [s1.heap.objs.size], _, _, H1, rfl, I1.kept (t' := s1.toks) fun b o e => Heap.get?_push_of_some _ e, turn_list a _, ⟨_, Heap.get?_push_size _ rfl, rfl, rfl⟩, fun b hb => ?_, q⟩
    have e : b = s1.heap.objs.size := by simpa using hb
    subst e
    exact I1.fpOk (Nat.le_refl _) (I1.hok.fresh (Nat.le_refl _))
  · obtain ⟨its, rv, p, hz⟩ := I1.tuple hq
    refine wpAny_pyIter_tuple (show s1.heap.IsTuple a its.toArray from p) ?_
    refine ⟨s1.heap.objs.size, [s1.heap.objs.size], _, _, H1, rfl, I1.kept (t' := s1.toks) fun b o e => Heap.get?_push_of_some _ e, turn_tuple a _, ⟨_, Heap.get?_push_size _ rfl, rfl, rfl⟩, fun b hb => ?_, q⟩
    have e : b = s1.heap.objs.size := by simpa using hb
    subst e
    exact I1.fpOk (Nat.le_refl _) (I1.hok.fresh (Nat.le_refl _))
def walkA (x : EV) : Res (List D) := match x with
  | .sh (.lst ds) => .ok ds
  | .sh (.scr ns) => .ok (ns.map D.int)
  | .sh (.tup ds) => .ok ds
  | .fr ts => .ok (T.toDs ts)
  | _ => .stuck
def iA (f : Dl.Env → Res EV) : Itf := fun ρ => (f ρ).bind walkA
theorem di_any {X : Cx} {E : WS} {tg e : Expr} {f1 : Dl.Env → Res EV} (h : DE X E e f1) : DI X E tg e (iA f1) := by
  refine pi_imp (pi_any h) fun σ H R h => ?_
  obtain ⟨S, ρ, O, V, h⟩ := h
  refine ⟨S, ρ, O, V, PostW.fst h fun x e1 h1 S1 H1 A v g r nd fr => ?_⟩
  unfold walkA at h1
  split at h1
  · cases r with
    | sh r => cases r with
      | lst ha rr => exact ⟨_, rfl, .inl ⟨⟨_, SqL.of (g.sub _ _ ha)⟩, h1 S1 H1 _ g (itOk_list (fun H s => SqL.of (s _ _ ha)) (fun _ _ _ _ => trivial) rr)⟩⟩
  · cases r with
    | sh r => cases r with
      | scr ha => exact ⟨_, rfl, .inl ⟨⟨_, g.sub.seq ha⟩, h1 S1 H1 _ g (itOk_list (fun H s => s.seq ha) (fun _ _ _ _ => trivial) (reps_ints _))⟩⟩
  · cases r with
    | sh r => cases r with
      | tup ha rr => exact ⟨_, rfl, .inr ⟨⟨_, (ha.mono g.sub).sq⟩, h1 S1 H1 _ g (itOk_tup ha rr)⟩⟩
  · rename_i ts
    cases r with
    | fr r =>
      have nS : ∀ a ∈ A, S1 a = none := fun a ha => (r.alive a ha).2
      cases r with
      | @node a A0 vs _ ha na rs =>
        have rr : Reps _ (grab S1 H1 (a :: A0)) vs (T.toDs ts) := rs.grabbed (same_grab nS) fun u hu => grab_in (List.mem_cons_of_mem _ hu)
        exact ⟨_, rfl, .inl ⟨⟨_, SqL.of ha⟩, h1 (grab S1 H1 (a :: A0)) H1 _ (g.grab fr nS) (itOk_list (fun H s => SqL.of (s _ _ ((grab_in List.mem_cons_self).trans ha))) (fun _ _ _ _ => trivial) rr)⟩⟩
  · exact h1.elim

/-! ### room, calls within comprehensions -/
section
variable {X : Cx} {W : WX} {j k n : Nat} {f : Addr} {fd : FuncData} {ps : List Str} {F : List D → Res EV} {dvs : List V} {dds : List D} {ds : List Value}
theorem Lv.u65 (L : Lv X W k) : X.A.units + 65 < cLine := by have := L.room.un; omega
theorem Lv.u16 (L : Lv X W k) : X.A.units + 16 < cLine := by have := L.room.un; omega
theorem LvH.u65 (L : LvH X W k) : X.A.units + 65 < cLine := by have := L.room.un; omega
theorem Lv.callB (L : Lv X W k) {s : Shared} {H : Hp} {scope : Scope} {env : PySem.Env} {fp : List Addr} (G : FnOk X.prog X.w X.K X.mg X.base (L2N.CX X.prog X.w) j f fd ps (spD (ct0 X) n F)) (hj : j ≤ k)
    (hk : PySem.W.keepIn X.K (.ref f) = true) (hb : Binds X.K fd ps ds) (hd : Vals dvs ds) (hdd : ∀ c H, Reps c H dvs dds) : CallD (X.blk s H scope env fp) (fun _ => E0) f n F dds :=
  callD_ok (X := X.blk s H scope env fp) G (L.room.mono hj) hk hb hd hdd fun σ pins H s e s' I c => by
    obtain ⟨a, B, H', cls, d, rfl, fl, hok, ub, na, os, ag, hE⟩ := c
    exact hE.elim
end

/-! ### built-ins by name -/
section
variable {X : Cx} {E : WS} {p pos : Pos} {e : Expr} {es : List Expr} {fs : Dl.Env → Res (List EV)}
theorem de_len (hm : X.mg "len" = none) (ha : DA X E (e :: es) fs) (hg : Gl X "len" := by rfl) (he : starEach (e :: es) X.env = (false, eval e X.env) :: starEach es X.env := by rfl) (hpl : (backTo pos (starEach es X.env)).any (·.1) = false := by rfl) :
    DE X E (.Call (.Name "len" p) (e :: es) [] pos) (dC1 gLen fs) := de_callB call_len s_len hg hm PyProof.Rows.Boot.len ha (by decide) (by decide) he hpl
theorem de_isi (hm : X.mg "isinstance" = none) (ha : DA X E (e :: es) fs) (hg : Gl X "isinstance" := by rfl) (he : starEach (e :: es) X.env = (false, eval e X.env) :: starEach es X.env := by rfl) (hpl : (backTo pos (starEach es X.env)).any (·.1) = false := by rfl) :
    DE X E (.Call (.Name "isinstance" p) (e :: es) [] pos) (dC1 gIsi fs) := de_callB call_isiAll s_isi hg hm PyProof.Rows.Boot.isinstance ha (by decide) (by decide) he hpl
theorem de_intC (hm : X.mg "int" = none) (ha : DA X E (e :: es) fs) (hg : Gl X "int" := by rfl) (he : starEach (e :: es) X.env = (false, eval e X.env) :: starEach es X.env := by rfl) (hpl : (backTo pos (starEach es X.env)).any (·.1) = false := by rfl) :
    DE X E (.Call (.Name "int" p) (e :: es) [] pos) (dC1 gInt fs) := de_callTy call_int1 s_int hg hm PyProof.Rows.Boot.int ha (by decide) (by decide) he hpl
theorem de_listC (hm : X.mg "list" = none) (ha : DA X E (e :: es) fs) (hg : Gl X "list" := by rfl) (he : starEach (e :: es) X.env = (false, eval e X.env) :: starEach es X.env := by rfl) (hpl : (backTo pos (starEach es X.env)).any (·.1) = false := by rfl) :
    DE X E (.Call (.Name "list" p) (e :: es) [] pos) (dC1 gList fs) := de_callTy call_list_of s_list hg hm PyProof.Rows.Boot.list ha (by decide) (by decide) he hpl
theorem de_tupleC (hm : X.mg "tuple" = none) (ha : DA X E (e :: es) fs) (hg : Gl X "tuple" := by rfl) (he : starEach (e :: es) X.env = (false, eval e X.env) :: starEach es X.env := by rfl) (hpl : (backTo pos (starEach es X.env)).any (·.1) = false := by rfl) :
    DE X E (.Call (.Name "tuple" p) (e :: es) [] pos) (dC1 gTuple fs) := de_callTy call_tuple_of s_tuple hg hm PyProof.Rows.Boot.tuple ha (by decide) (by decide) he hpl
theorem bt_int : bootBuiltins "int" = some (.type "int") := PyProof.Rows.Boot.int
theorem bt_str : bootBuiltins "str" = some (.type "str") := PyProof.Rows.Boot.str
theorem bt_bool : bootBuiltins "bool" = some (.type "bool") := PyProof.Rows.Boot.bool
theorem bt_list : bootBuiltins "list" = some (.type "list") := PyProof.Rows.Boot.list
theorem bt_tuple : bootBuiltins "tuple" = some (.type "tuple") := PyProof.Rows.Boot.tuple
theorem bt_ve : bootBuiltins "ValueError" = some (.type "ValueError") := PyProof.Rows.Boot.«ValueError»
end

def dNeg (f : Dl.Env → Res EV) : Dl.Env → Res EV := fun ρ => (f ρ).bind fun x => match x with
  | .sh (.int i) => .ok (.sh (.int (-i)))
  | _ => .stuck
theorem de_neg {X : Cx} {E : WS} {e : Expr} {f : Dl.Env → Res EV} {pos : Pos} (h : DE X E e f) : DE X E (.UnaryOp .USub e pos) (dNeg f) := by
  refine pe_imp (pe_un un_neg h) fun σ H Q h => ?_
  obtain ⟨S, ρ, O, V, h⟩ := h
  refine ⟨S, ρ, O, V, Post.fst h fun x e1 h1 S1 H1 A v g r nd fr => ?_⟩
  split at h1
  · cases r with
    | sh r => cases r with
      | int _ => exact ⟨_, rfl, Post.sh h1 g (.int _)⟩
  · exact h1.elim
/-- c - r[k], r an element of the list that is walked -/
def tSubE (c : Int) (j : Nat) (k : Int) : TE := fun σ H Q => ∃ a ws j' n, σ[j]? = some (some (V.ref a)) ∧ H a = some (.lst ws) ∧ ixN ws.length k = some j' ∧ ws[j']? = some (.int n) ∧ Q (.int (c - n)) H
theorem pe_subE {X : Cx} {r : Str} {pr p1 p2 p3 pos : Pos} {j1 j2 : Nat} (j : Nat) (c k : Int) (hN : X.N[j]? = some r := by rfl) (hv : Vis X.env.scope r := by first | exact Or.inl rfl | exact Or.inr (Or.inl rfl) | exact Or.inr (Or.inr rfl)) (hd : (r == ("__debug__" : Str)) = false := by decide)
    (hcd : (r == ("__classdict__" : Str)) = false := by decide) (hp : PlainIx (.Constant (.int k) j2 p2) := by intro _ _; rfl) : PE X (.BinOp (.Constant (.int c) j1 p1) .Sub (.Subscript (.Name r pr) (.Constant (.int k) j2 p2) p3) pos) (tSubE c j k) := by
  refine pe_imp (pe_op op_sub pe_int (pe_ix ix_list (pe_var (i := j) hN hv hd hcd) pe_int hp)) fun σ H Q h => ?_
  obtain ⟨a, ws, j', n, e1, e2, e3, e4, q⟩ := h
  refine ⟨.ref a, e1, a, ws, k, .int n, rfl, rfl, SqL.of e2, ?_, c, n, rfl, rfl, q⟩
  unfold atI
  rw [e3]
  exact e4
theorem hte_subE (j : Nat) (c k : Int) : ∀ (σ : L2.St) (H : Hp) (Q : VK) (a : Addr) (ws : List L2.V) (j' : Nat) (n m : Int), σ[j]? = some (some (V.ref a)) → H a = some (.lst ws) → ixN ws.length k = some j' → ws[j']? = some (.int n) → (fun n => some (c - n)) n = some m → Q (.int m) H → tSubE c j k σ H Q :=
  fun σ H Q a ws j' n m h1 h2 h3 h4 h5 h6 => ⟨a, ws, j', n, h1, h2, h3, h4, by cases h5; exact h6⟩

/-! ### x[i] = e, x a list that a slot owns -/
theorem Owns.set {c : Ct} {S H : Hp} {v : V} {t : T} {C : List Addr} (h : Own c S H C v t) : ∀ {A : List Addr} {vs : List V} {ts : List T} {j : Nat}, Owns c S H A vs ts → A.Nodup → C.Nodup → (∀ a ∈ A, a ∉ C) → j < ts.length →
    ∃ A', Owns c S H A' (vs.set j v) (ts.set j t) ∧ A'.Nodup ∧ ∀ a ∈ A', a ∈ A ∨ a ∈ C
  | _, _, _, _, .nil, _, _, _, hj => by simp at hj
  | _, _, _, 0, .cons (A := A) (B := B) h0 r, nd, ndC, dj, _ => by
    obtain ⟨n1, n2, n3⟩ := List.nodup_append.mp nd
    refine ⟨C ++ B, .cons h r, List.nodup_append.mpr ⟨ndC, n2, fun a ha b hb e => ?_⟩, fun a ha => (List.mem_append.mp ha).elim .inr fun z => .inl (List.mem_append_right _ z)⟩
    subst e
    exact dj a (List.mem_append_right _ hb) ha
  | _, _, _, j + 1, .cons (A := A) (B := B) h0 r, nd, ndC, dj, hj => by
    obtain ⟨n1, n2, n3⟩ := List.nodup_append.mp nd
    obtain ⟨A', q1, q2, q3⟩ := Owns.set h (j := j) r n2 ndC (fun a ha => dj a (List.mem_append_right _ ha)) (by simpa using hj)
    refine ⟨A ++ A', .cons h0 q1, List.nodup_append.mpr ⟨n1, q2, fun a ha b hb e => ?_⟩, fun a ha => ?_⟩
    · subst e
      rcases q3 a hb with z | z
      · exact n3 a ha a z rfl
      · exact dj a (List.mem_append_left _ ha) z
    · rcases List.mem_append.mp ha with z | z
      · exact .inl (List.mem_append_left _ z)
      · exact (q3 a z).imp (List.mem_append_right _) id
def dLPut (i : Nat) (fk fv : Dl.Env → Res EV) : Stm := fun ρ => (fv ρ).at ρ fun x => match ρ[i]?, x.t? with
  | some (.own ts), some t => (fk ρ).at ρ fun y => (match y with
    | .sh (.int k) => (match ixN ts.length k with
      | some j => .ok (.nx (ρ.set i (.own (ts.set j t))))
      | none => .stuck)
    | _ => .stuck)
  | _, _ => .stuck
theorem ds_lput {X : Cx} {E : WS} {x : Str} {ei ev : Expr} {p1 ps pa : Pos} {fk fv : Dl.Env → Res EV} (i : Nat) (hi : DE X E ei fk) (hv : DE X E ev fv)
    (hN : X.N[i]? = some x := by rfl) (hvx : Vis X.env.scope x := by first | exact Or.inl rfl | exact Or.inr (Or.inl rfl) | exact Or.inr (Or.inr rfl)) (hd : (x == ("__debug__" : Str)) = false := by decide) (hcd : (x == ("__classdict__" : Str)) = false := by decide)
    (ha : ∀ v, assign (.Subscript (.Name x p1) ei ps) X.env v = (do
      let ov ← holding [v] (eval (.Name x p1) X.env)
      let iv ← holding [v, ov] (eval ei X.env)
      standAt ps
      holding [v, ov, iv] (setItem ov iv v)
      release [v, ov, iv] []) := by intro _; rfl)
    (hs : swapsWithSole [.Subscript (.Name x p1) ei ps] ev pa.line X.env = pure false := by rfl) (hw : swappedStores [.Subscript (.Name x p1) ei ps] ev X.env = pure none := by rfl)
    (h1 : (assignEach [.Subscript (.Name x p1) ei ps] X.env).map (·.2) = [assign (.Subscript (.Name x p1) ei ps) X.env] := by rfl) :
    DS X E (.Assign [.Subscript (.Name x p1) ei ps] ev pa) (dLPut i fk fv) := by
  refine ps_imp (ps_asg hv (pg_sub (pe_var (i := i) hN hvx hd hcd) hi set_list ha) hs hw h1) fun D σ H h => ?_
  obtain ⟨B, S, ρ, O, V, h⟩ := h
  refine ⟨S, ρ, O, V.v, postS.fst h V fun w e1 h1 S1 H1 A v g r nd fr => ?_⟩
  have V1 := V.gr g
  cases q : ρ[i]? with
  | none => rw [q] at h1; exact h1.elim
  | some y =>
    rw [q] at h1
    cases y with
    | own ts =>
      cases q5 : w.t? with
      | none => rw [q5] at h1; exact h1.elim
      | some t =>
        simp only [q5] at h1
        obtain ⟨A0, o0, q1, q2, q3, q4, _⟩ := V1.v.sl.at_ V1.v.nd q
        cases q2 with
        | own r2 =>
          cases r2 with
          | @node a A1 vs _ hla na rs =>
            refine ⟨_, q1, S1, ρ, O, V1.v, postS.fst h1 V1 fun y e2 h2 S2 H2 C u g2 r3 nd2 fr2 => ?_⟩
            have V2 := V1.gr g2
            split at h2
            · rename_i k
              have ek : u = .int k := by
                cases r3 with
                | sh r3 => cases r3; rfl
              subst ek
              cases q6 : ixN ts.length k with
              | none => rw [q6] at h2; exact h2.elim
              | some j =>
                rw [q6] at h2
                simp only at h2
                have hl := rs.length
                have hla2 := g2.hh _ _ hla
                have hj : j < ts.length := (ixN_seq q6).2.1
                refine ⟨a, vs, k, j, rfl, rfl, hla2, by rw [hl]; exact q6, ?_⟩
                have ot : Own (ctOf X) S2 H2 A v t := g2.own (ev_tree r q5)
                have frA : ∀ b ∈ A, B.H b = none := V.fresh fr
                obtain ⟨O', V'⟩ := V2.write (H2 := upd H2 a (.lst (vs.set j v))) (x' := .own (ts.set j t)) q q1 fun A2 r6 n6 s6 => by
                  cases r6 with
                  | own r6 =>
                    cases r6 with
                    | @node _ A3 vs3 _ h7 na7 rs7 =>
                      rw [hla2] at h7
                      cases h7
                      have n7 := List.nodup_cons.mp n6
                      have aA : a ∉ A := fun z => by
                        have y := fr a z
                        have := (V.v.sl.alive a (s6 a List.mem_cons_self)).1
                        obtain ⟨ob, eo⟩ := this
                        rw [y] at eo
                        cases eo
                      have dj : ∀ b ∈ A3, b ∉ A := fun b hb hc => by
                        have y := fr b hc
                        obtain ⟨⟨_, eo⟩, _⟩ := V.v.sl.alive b (s6 b (List.mem_cons_of_mem _ hb))
                        rw [y] at eo
                        cases eo
                      have k1 : Keeps A3 S2 H2 (upd H2 a (.lst (vs.set j v))) := fun b hb => ⟨upd_ne fun z => n7.1 (z ▸ hb), (rs7.alive b hb).2⟩
                      have k2 : Keeps A S2 H2 (upd H2 a (.lst (vs.set j v))) := fun b hb => ⟨upd_ne fun z => aA (z ▸ hb), (ot.alive b hb).2⟩
                      obtain ⟨A', z1, z2, z3⟩ := Owns.set (ot.mono (Same.refl _) k2) (rs7.mono (Same.refl _) k1) n7.2 nd dj hj
                      refine ⟨a :: A', .own (.node upd_same na7 z1), List.nodup_cons.mpr ⟨fun z => (z3 a z).elim n7.1 aA, z2⟩, fun b hb => ?_, fun b hb ob eb => ?_, fun b hx hb => ?_, fun b hb C' dx' vf' eb => ?_⟩
                      · rcases List.mem_cons.mp hb with z | z
                        · exact .inl (z ▸ List.mem_cons_self)
                        · rcases z3 b z with z | z
                          · exact .inl (List.mem_cons_of_mem _ z)
                          · refine .inr ⟨fun ho => ?_, frA b z⟩
                            obtain ⟨⟨_, eo⟩, _⟩ := V.v.sl.alive b ho
                            rw [fr b z] at eo
                            cases eo
                      · rw [upd_ne fun z => hb (by rw [z]; exact List.mem_cons_self)]
                        exact eb
                      · obtain ⟨C', dx', vf', y⟩ := V2.g.exs b hx
                        rcases List.mem_cons.mp hb with z | hb
                        · rw [z, hla2] at y
                          cases y
                        · obtain ⟨⟨_, eo⟩, _⟩ := rs7.alive b hb
                          rw [eo] at y
                          cases y
                      · rcases List.mem_cons.mp hb with z | hb
                        · rw [z, upd_same] at eb
                          cases eb
                        · obtain ⟨⟨_, eo⟩, _⟩ := z1.alive b hb
                          rw [eo] at eb
                          cases eb
                exact h2 S2 _ σ O' V'
            · exact h2.elim
    | no => exact h1.elim
    | sh d => exact h1.elim
    | lk ts => exact h1.elim
    | mk C fs => exact h1.elim
    | dic kvs => exact h1.elim
    | xc z => exact h1.elim
end Dl
set_option Elab.async false
set_option linter.all false
set_option maxRecDepth 100000
/-! DL14: the head's facts: defs anywhere, checks. -/
namespace Dl
open PySem PySem.Spec PyProof.Rows L2

theorem clOf_mg {mg : Str → Option Value} {x : Str} {a : Addr} (h : mg x = some (.ref a)) : mg x = some (.ref (clOf mg x)) := by
  unfold clOf
  rw [h]
theorem clOf_eq {mg : Str → Option Value} {x : Str} {a : Addr} (h : mg x = some (.ref a)) : clOf mg x = a := by
  unfold clOf
  rw [h]
/-- a def at an address of the fragment -/
structure DefA where
  ad : PySem.W.Frag → Addr
  name : Str
  qual : Str
  params : Arguments
  body : List Stmt
  scope : Scope
  dfl : List He.Dv
def fnA (K : PySem.W.Frag) (a : Addr) : He.FnW := match K.lookup a with
  | some ⟨_, _, .func fd, _⟩ => some (fd.name, fd.qualname, fd.params, fd.body, fd.scope, fd.globals, fd.closure, fd.builtins)
  | _ => none
def DefA.val (d : DefA) : He.FnW := some (d.name, d.qual, d.params, .stmts d.body, d.scope, mainGlobals, [], builtinsNs)
def DefA.dvs (K : PySem.W.Frag) (d : DefA) : List V := d.dfl.map (He.Dv.v K)
def DefA.ok (K : PySem.W.Frag) (d : DefA) : Bool := PySem.W.keepIn K (.ref (d.ad K)) && (match K.lookup (d.ad K) with
  | some ⟨_, _, .func fd, _⟩ => PySem.W.codeIn K fd.code d.qual && (He.dflB K fd.defaults (d.dvs K) && He.kwdB K fd.kwdefaults [])
  | _ => false)
theorem DefA.funD {K : PySem.W.Frag} {d : DefA} (e : fnA K (d.ad K) = d.val) (c : d.ok K = true) : ∃ fd, FunD K d.name d.qual d.params d.body d.scope (d.dvs K) [] (d.ad K) fd := by
  obtain ⟨kp, c2⟩ := He.ba c
  unfold fnA at e
  cases q : K.lookup (d.ad K) with
  | none =>
    rw [q] at c2
    cases c2
  | some o =>
    obtain ⟨oc, od, dt, osl⟩ := o
    rw [q] at c2 e
    cases dt with
    | func fd =>
      obtain ⟨n1, n2, n3, n4, n5, n6, n7, n8, n9, n10, n11, n12, n13, n14, n15⟩ := fd
      have e2 : (some (n1, n2, n3, n4, n5, n6, n7, n15) : He.FnW) = some (d.name, d.qual, d.params, .stmts d.body, d.scope, mainGlobals, [], builtinsNs) := e
      simp only [Option.some.injEq, Prod.mk.injEq] at e2
      obtain ⟨h1, h2, h3, h4, h5, h6, h7, h8⟩ := e2
      subst h1 h2 h3 h4 h5 h6 h7 h8
      have c3 : (PySem.W.codeIn K n13 d.qual && (He.dflB K n8 (d.dvs K) && He.kwdB K n9 [])) = true := c2
      obtain ⟨k1, k2⟩ := He.ba c3
      obtain ⟨k3, k4⟩ := He.ba k2
      exact ⟨_, ⟨oc, od, n8, n9, n10, n11, n12, n13, n14, osl, rfl, q, k1, He.dflB_ok k3, He.kwdB_ok k4⟩, kp⟩
    | _ => cases c2
/-! ### the Hook -/
def obsM (fa : List (PySem.W.Frag → Bool)) (fn : List DefA) (K : PySem.W.Frag) : He.AlD := ((fa.all fun f => f K) && fn.all fun d => d.ok K, fn.map fun d => fnA K (d.ad K))
def valM (fn : List DefA) : He.AlD := (true, fn.map DefA.val)
def SaysM (fa : List (PySem.W.Frag → Bool)) (fn : List DefA) (K : PySem.W.Frag) : Prop := obsM fa fn K = valM fn
def asM (g : Addr → Option Obj) : Nat → List Addr
  | 0 => [mainGlobals, cStatics]
  | n + 1 => He.growD g (asM g n)
def obsMG (n : Nat) (fa : List (PySem.W.Frag → Bool)) (fn : List DefA) (g : Addr → Option Obj) : He.AlD := obsM fa fn (He.frG g (asM g n))
def hookM (n : Nat) (fa : List (PySem.W.Frag → Bool)) (fn : List DefA) : PySem.W.Hook where
  α := He.AlD
  obs := fun s => obsMG n fa fn s.heap.get?
  val := fun _ => valM fn
  says := fun _ h => ∃ K : PySem.W.Frag, K.In h ∧ SaysM fa fn K
  of := fun _ _ e => ⟨_, He.frG_in, e⟩
  keeps := fun _ _ _ ⟨K, hK, c⟩ k => ⟨K, PySem.W.Frag.In.keeps hK k, c⟩
theorem obsMG_eq {n : Nat} {fa : List (PySem.W.Frag → Bool)} {fn : List DefA} {g : Addr → Option Obj} {s : Shared} (h : ∀ a, g a = s.heap.get? a) : obsMG n fa fn g = (hookM n fa fn).obs s := by
  have e : g = s.heap.get? := funext h
  rw [e] <;> rfl
section
variable {fa : List (PySem.W.Frag → Bool)} {fn : List DefA} {K : PySem.W.Frag}
theorem SaysM.fact (c : SaysM fa fn K) (i : Nat) {f : PySem.W.Frag → Bool} (h : fa[i]? = some f := by rfl) : f K = true := by
  have c1 := (He.ba (show ((fa.all fun f => f K) && fn.all fun d => d.ok K) = true from congrArg (fun z : He.AlD => z.1) c)).1
  exact List.all_eq_true.mp c1 f (List.mem_of_getElem? h)
theorem SaysM.def_ (c : SaysM fa fn K) (i : Nat) {d : DefA} (h : fn[i]? = some d := by rfl) : ∃ fd, FunD K d.name d.qual d.params d.body d.scope (d.dvs K) [] (d.ad K) fd := by
  have c2 := (He.ba (show ((fa.all fun f => f K) && fn.all fun d => d.ok K) = true from congrArg (fun z : He.AlD => z.1) c)).2
  have e : fn.map (fun d => fnA K (d.ad K)) = fn.map DefA.val := congrArg (fun z : He.AlD => z.2) c
  have e2 : (fn.map fun d => fnA K (d.ad K))[i]? = (fn.map DefA.val)[i]? := by rw [e]
  rw [List.getElem?_map, List.getElem?_map, h] at e2
  exact DefA.funD (Option.some.inj e2) (List.all_eq_true.mp c2 d (List.mem_of_getElem? h))
end
/-! ### checks -/
section
variable {K : PySem.W.Frag} {C D : Addr} {m f : Str} {g p : Addr}
def coB (K : PySem.W.Frag) (C g : Addr) : Bool := He.eqO (PySem.W.findIn K (.ref C) "__call__") (some (some (.ref g))) && (PySem.W.isFn K (.ref g) && PySem.W.fnIn K g)
theorem coB_ok (h : coB K C g = true) : StX.CallO K C g := by
  obtain ⟨h1, h⟩ := He.ba h
  obtain ⟨h2, h3⟩ := He.ba h
  exact ⟨He.eqO_ok h1, h2, h3⟩
def stB (K : PySem.W.Frag) (C : Addr) (m : Str) : Bool := PySem.W.readsIn K C (.type "type") && (He.eqO (PySem.W.specialIn K (.ref C) "__getattribute__") (some (some (.builtin "type.__getattribute__"))) && (decide (PySem.W.typeIn K (.ref C) = some (.type "type")) && He5.wrapB K C "staticmethod" "staticmethod.__get__" m))
theorem stB_ok (h : stB K C m = true) : StM K C m (He.ma K C m) (He5.wf K C "staticmethod" m) := by
  obtain ⟨h1, h⟩ := He.ba h
  obtain ⟨h2, h⟩ := He.ba h
  obtain ⟨h3, h4⟩ := He.ba h
  obtain ⟨k1, k2⟩ := He5.wrapB_ok h4
  exact ⟨h1, He.eqO_ok h2, k1, k2, of_decide_eq_true h3⟩
def oxB (K : PySem.W.Frag) (C : Addr) : Bool := (match K.lookup C with
  | some ⟨.type "type", _, .cls cd, sl⟩ => (match cd.mro, sl.toList with
    | .ref C' :: bm, [_, _, _, _, some (.builtin n), _] => C' == C && n == "ValueError.__new__" && !cd.hasDel && cd.hasDict && PySem.HandSPX.refsVE bm
    | _, _ => false)
  | _ => false) && (He.eqO (PySem.W.findIn K (.ref C) "__setattr__") (some (some (.builtin "object.__setattr__"))) && (decide (PySem.W.subIn K (.ref C) (.type "BaseException") = some true) && (decide (PySem.W.typeIn K (.ref C) = some (.type "type")) && PySem.W.keepIn K (.ref C))))
theorem oxB_ok (h : oxB K C = true) : OexC K C := by
  obtain ⟨q, h⟩ := He.ba h
  obtain ⟨h2, h⟩ := He.ba h
  obtain ⟨h3, h⟩ := He.ba h
  obtain ⟨h4, h5⟩ := He.ba h
  refine ⟨?_, He.eqO_ok h2, of_decide_eq_true h3, of_decide_eq_true h4, h5⟩
  split at q
  · rename_i dd cd sl ho
    split at q
    · rename_i C' bm k0 k1 k2 k3 n k5 hm hs
      simp only [Bool.and_eq_true, beq_iff_eq, Bool.not_eq_true'] at q
      obtain ⟨⟨⟨⟨rfl, rfl⟩, hdel⟩, hdi⟩, hr⟩ := q
      obtain ⟨nm, bs, mro, ns, qn, hd, sn, sub, ab, col, del⟩ := cd
      dsimp only at hm hdel hdi
      subst hm hdel hdi
      have hsl : sl = #[k0, k1, k2, k3, some (.builtin "ValueError.__new__"), k5] := by
        obtain ⟨l⟩ := sl
        simp only at hs
        rw [hs]
      subst hsl
      exact ⟨nm, qn, ns, bs, bm, sn, sub, ab, col, dd, k0, k1, k2, k3, k5, ho, hr⟩
    · cases q
  · cases q
def ecB (K : PySem.W.Frag) (D : Addr) : Bool := He.eqO (PySem.W.findIn K (.ref D) "__getattribute__") (some (some (.builtin "BaseException.__getattribute__"))) && (He.eqO (PySem.W.findIn K (.ref D) "__getattr__") (some none) && (decide (PySem.W.subIn K (.ref D) (.type "BaseException") = some true) && (PySem.W.hasDictIn K D &&
  (He.eqO (PySem.W.findIn K (.ref D) "__class__") (some (some (.builtin "object.__class__"))) && (He.eqO (PySem.W.specialIn K (.builtin "object.__class__") "__get__") (some (some (.builtin "getset_descriptor.__get__"))) && (decide (PySem.W.takesIn K (.builtin "object.__class__") = some true) && decide (PySem.W.mroIn K D (.type "object") = some true)))))))
theorem ecB_ok (h : ecB K D = true) : ExcC K D := by
  obtain ⟨h1, h⟩ := He.ba h
  obtain ⟨h2, h⟩ := He.ba h
  obtain ⟨h3, h⟩ := He.ba h
  obtain ⟨h4, h⟩ := He.ba h
  obtain ⟨h5, h⟩ := He.ba h
  obtain ⟨h6, h⟩ := He.ba h
  obtain ⟨h7, h8⟩ := He.ba h
  exact ⟨He.eqO_ok h1, He.eqO_ok h2, of_decide_eq_true h3, h4, He.eqO_ok h5, He.eqO_ok h6, of_decide_eq_true h7, of_decide_eq_true h8⟩
end
end Dl
set_option Elab.async false
set_option linter.all false
set_option maxRecDepth 100000
/-! DL15: reckoning with the functions on data: equality of plain data, loops. -/
namespace Dl
open PySem PySem.Spec PyProof.Rows L2

mutual
/-- data without truths, instances, dicts, scripts -/
def D.fine : D → Bool
  | .non => true
  | .int _ => true
  | .str x => PyData.strOk x
  | .tup ds => D.fines ds
  | .lst ds => D.fines ds
  | _ => false
def D.fines : List D → Bool
  | [] => true
  | d :: ds => d.fine && D.fines ds
end
mutual
def D.dep : D → Nat
  | .tup ds => D.deps ds + 1
  | .lst ds => D.deps ds + 1
  | _ => 0
def D.deps : List D → Nat
  | [] => 0
  | d :: ds => max d.dep (D.deps ds)
end
mutual
theorem fine_py : ∀ (d : D), d.fine = true → ∃ p, d.py = some p ∧ p.canLay0 = true ∧ p.depth = d.dep
  | .non, _ => ⟨.none, rfl, by simp [PyData.canLay0], by simp [PyData.depth, D.dep]⟩
  | .int i, _ => ⟨.int i, rfl, by simp [PyData.canLay0], by simp [PyData.depth, D.dep]⟩
  | .str x, h => ⟨.str x, rfl, by rw [D.fine] at h; simpa [PyData.canLay0] using h, by simp [PyData.depth, D.dep]⟩
  | .tup ds, h => by
    rw [D.fine] at h
    obtain ⟨ps, h1, h2, h3⟩ := fines_py ds h
    exact ⟨.tuple ps, by rw [D.py, h1]; rfl, by simpa [PyData.canLay0] using h2, by simp [PyData.depth, D.dep, h3]⟩
  | .lst ds, h => by
    rw [D.fine] at h
    obtain ⟨ps, h1, h2, h3⟩ := fines_py ds h
    exact ⟨.list ps, by rw [D.py, h1]; rfl, by simpa [PyData.canLay0] using h2, by simp [PyData.depth, D.dep, h3]⟩
  | .bl _, h => by simp [D.fine] at h
  | .ty _, h => by simp [D.fine] at h
  | .scr _, h => by simp [D.fine] at h
  | .obj _ _, h => by simp [D.fine] at h
  | .dic _, h => by simp [D.fine] at h
theorem fines_py : ∀ (ds : List D), D.fines ds = true → ∃ ps, D.pys ds = some ps ∧ PyData.canLayAll0 ps = true ∧ PyData.depthAll ps = D.deps ds
  | [], _ => ⟨[], rfl, by simp [PyData.canLayAll0], by simp [PyData.depthAll, D.deps]⟩
  | d :: ds, h => by
    rw [D.fines, Bool.and_eq_true] at h
    obtain ⟨p, h1, h2, h3⟩ := fine_py d h.1
    obtain ⟨ps, k1, k2, k3⟩ := fines_py ds h.2
    exact ⟨p :: ps, by rw [D.pys, h1, k1], by simp [PyData.canLayAll0, h2, k2], by simp [PyData.depthAll, D.deps, h3, k3]⟩
end
mutual
theorem fine_eqv : ∀ (a b : D) {p q : PyData}, a.fine = true → b.fine = true → a.py = some p → b.py = some q → (PyData.eqv p q = true ↔ a = b)
  | .non, b, _, _, ha, hb, e1, e2 => by
    cases e1
    cases b <;> simp [D.fine] at hb <;> first | (cases e2; simp [PyData.eqv]) | skip
    all_goals (rw [D.py] at e2; obtain ⟨ps, _, rfl⟩ := Option.map_eq_some_iff.mp e2; simp [PyData.eqv])
  | .int i, b, _, _, ha, hb, e1, e2 => by
    cases e1
    cases b <;> simp [D.fine] at hb <;> first | (cases e2; simp [PyData.eqv]) | skip
    all_goals (rw [D.py] at e2; obtain ⟨ps, _, rfl⟩ := Option.map_eq_some_iff.mp e2; simp [PyData.eqv])
  | .str x, b, _, _, ha, hb, e1, e2 => by
    cases e1
    cases b <;> simp [D.fine] at hb <;> first | (cases e2; simp [PyData.eqv]) | skip
    all_goals (rw [D.py] at e2; obtain ⟨ps, _, rfl⟩ := Option.map_eq_some_iff.mp e2; simp [PyData.eqv])
  | .tup as, b, _, _, ha, hb, e1, e2 => by
    rw [D.py] at e1
    obtain ⟨ps, e1', rfl⟩ := Option.map_eq_some_iff.mp e1
    rw [D.fine] at ha
    cases b <;> simp only [D.fine, Bool.false_eq_true] at hb
    case tup bs =>
      rw [D.py] at e2
      obtain ⟨qs, e2', rfl⟩ := Option.map_eq_some_iff.mp e2
      rw [PyData.eqv, fines_eqv as bs ha hb e1' e2', D.tup.injEq]
    case lst bs =>
      rw [D.py] at e2
      obtain ⟨qs, e2', rfl⟩ := Option.map_eq_some_iff.mp e2
      simp [PyData.eqv]
    all_goals (cases e2; simp [PyData.eqv])
  | .lst as, b, _, _, ha, hb, e1, e2 => by
    rw [D.py] at e1
    obtain ⟨ps, e1', rfl⟩ := Option.map_eq_some_iff.mp e1
    rw [D.fine] at ha
    cases b <;> simp only [D.fine, Bool.false_eq_true] at hb
    case lst bs =>
      rw [D.py] at e2
      obtain ⟨qs, e2', rfl⟩ := Option.map_eq_some_iff.mp e2
      rw [PyData.eqv, fines_eqv as bs ha hb e1' e2', D.lst.injEq]
    case tup bs =>
      rw [D.py] at e2
      obtain ⟨qs, e2', rfl⟩ := Option.map_eq_some_iff.mp e2
      simp [PyData.eqv]
    all_goals (cases e2; simp [PyData.eqv])
  | .bl _, _, _, _, h, _, _, _ => by simp [D.fine] at h
  | .ty _, _, _, _, h, _, _, _ => by simp [D.fine] at h
  | .scr _, _, _, _, h, _, _, _ => by simp [D.fine] at h
  | .obj _ _, _, _, _, h, _, _, _ => by simp [D.fine] at h
  | .dic _, _, _, _, h, _, _, _ => by simp [D.fine] at h
theorem fines_eqv : ∀ (as bs : List D) {ps qs : List PyData}, D.fines as = true → D.fines bs = true → D.pys as = some ps → D.pys bs = some qs → (PyData.eqvAll ps qs = true ↔ as = bs)
  | [], [], _, _, _, _, e1, e2 => by cases e1; cases e2; simp [PyData.eqvAll]
  | [], b :: bs, _, _, _, hb, e1, e2 => by
    cases e1
    rw [D.fines, Bool.and_eq_true] at hb
    obtain ⟨p, h1, _⟩ := fine_py b hb.1
    obtain ⟨ps, k1, _⟩ := fines_py bs hb.2
    rw [D.pys, h1, k1] at e2
    cases e2
    simp [PyData.eqvAll]
  | a :: as, [], _, _, ha, _, e1, e2 => by
    cases e2
    rw [D.fines, Bool.and_eq_true] at ha
    obtain ⟨p, h1, _⟩ := fine_py a ha.1
    obtain ⟨ps, k1, _⟩ := fines_py as ha.2
    rw [D.pys, h1, k1] at e1
    cases e1
    simp [PyData.eqvAll]
  | a :: as, b :: bs, _, _, ha, hb, e1, e2 => by
    rw [D.fines, Bool.and_eq_true] at ha hb
    obtain ⟨p, h1, _⟩ := fine_py a ha.1
    obtain ⟨ps, k1, _⟩ := fines_py as ha.2
    obtain ⟨q, h2, _⟩ := fine_py b hb.1
    obtain ⟨qs, k2, _⟩ := fines_py bs hb.2
    rw [D.pys, h1, k1] at e1
    rw [D.pys, h2, k2] at e2
    cases e1
    cases e2
    rw [PyData.eqvAll, Bool.and_eq_true, fine_eqv a b ha.1 hb.1 h1 h2, fines_eqv as bs ha.2 hb.2 k1 k2, List.cons.injEq]
end
/-- a == b of fine data -/
theorem eqD_fine {a b : D} (ha : a.fine = true) (hb : b.fine = true) (da : a.dep ≤ 64) (db : b.dep ≤ 64) : (a = b ∧ eqD a b = some true) ∨ (a ≠ b ∧ eqD a b = some false) := by
  obtain ⟨p, h1, h2, h3⟩ := fine_py a ha
  obtain ⟨q, k1, k2, k3⟩ := fine_py b hb
  have e := fine_eqv a b ha hb h1 k1
  have sp : SeqAt.shaped p = true := by
    unfold SeqAt.shaped
    rw [h2, h3]
    simpa using da
  have sq : SeqAt.shaped q = true := by
    unfold SeqAt.shaped
    rw [k2, k3]
    simpa using db
  unfold eqD
  simp only [h1, k1, sp, sq, Bool.and_self, if_true, Option.some.injEq]
  by_cases h : a = b
  · exact .inl ⟨h, e.mpr h⟩
  · refine .inr ⟨h, ?_⟩
    cases z : PyData.eqv p q with
    | true => exact absurd (e.mp z) h
    | false => rfl
end Dl
set_option Elab.async false
set_option linter.all false
set_option maxRecDepth 100000
/-! DL16: the combinators, run on given slots. -/
namespace Dl
open PySem PySem.Spec PyProof.Rows L2

section
variable {α : Type} {ρ ρ1 : Dl.Env} {g1 g2 g : Stm} {i : Nat} {z : Xc} {b : Bnd} {f f1 f2 f3 : Dl.Env → Res EV} {fs : Dl.Env → Res (List EV)} {t t1 t2 : Dl.Env → Res Bool} {x y : EV}
/-! ### statements -/
def seqK (g2 : Stm) : Res Out → Res Out
  | .ok (.nx ρ1) => g2 ρ1
  | .ok o => .ok o
  | .exc z => .exc z
  | .stuck => .stuck
@[simp] theorem x_seq : dSeq g1 g2 ρ = seqK g2 (g1 ρ) := by
  unfold dSeq seqK
  cases g1 ρ with
  | ok o => cases o <;> rfl
  | exc z => rfl
  | stuck => rfl
@[simp] theorem x_seq_nx : seqK g2 (.ok (.nx ρ1)) = g2 ρ1 := rfl
@[simp] theorem x_seq_ret : seqK g2 (.ok (.ret x)) = .ok (.ret x) := rfl
@[simp] theorem x_seq_ex : seqK g2 (.ok (.ex z ρ1)) = .ok (.ex z ρ1) := rfl
@[simp] theorem x_seq_bk : seqK g2 (.ok (.bk ρ1)) = .ok (.bk ρ1) := rfl
@[simp] theorem x_seq_ct : seqK g2 (.ok (.ct ρ1)) = .ok (.ct ρ1) := rfl
@[simp] theorem x_seq_stuck : seqK g2 .stuck = .stuck := rfl
def ifK (g1 g2 : Stm) (ρ : Dl.Env) : Res Bool → Res Out
  | .ok true => g1 ρ
  | .ok false => g2 ρ
  | .exc z => .ok (.ex z ρ)
  | .stuck => .stuck
@[simp] theorem x_if : dIf t g1 g2 ρ = ifK g1 g2 ρ (t ρ) := by
  unfold dIf ifK
  cases t ρ with
  | ok k => cases k <;> rfl
  | exc z => rfl
  | stuck => rfl
@[simp] theorem x_if_t : ifK g1 g2 ρ (.ok true) = g1 ρ := rfl
@[simp] theorem x_if_f : ifK g1 g2 ρ (.ok false) = g2 ρ := rfl
@[simp] theorem x_next : dNext ρ = .ok (.nx ρ) := rfl
@[simp] theorem x_break : dBreak ρ = .ok (.bk ρ) := rfl
@[simp] theorem x_cont : dCont ρ = .ok (.ct ρ) := rfl
def putK (i : Nat) (x : SV) (ρ : Dl.Env) : Res Out := match putR i x ρ with
  | some ρ1 => .ok (.nx ρ1)
  | none => .stuck
def setK (i : Nat) (ρ : Dl.Env) : Res EV → Res Out
  | .ok (.sh d) => putK i (.sh d) ρ
  | .ok (.fr ts) => putK i (.own ts) ρ
  | .ok (.bo _) => .stuck
  | .exc z => .ok (.ex z ρ)
  | .stuck => .stuck
@[simp] theorem x_set : dSet i f ρ = setK i ρ (f ρ) := by
  unfold dSet setK
  cases f ρ with
  | ok k => cases k <;> rfl
  | exc z => rfl
  | stuck => rfl
@[simp] theorem x_set_sh {d : D} : setK i ρ (.ok (.sh d)) = putK i (.sh d) ρ := rfl
@[simp] theorem x_set_fr {ts : List T} : setK i ρ (.ok (.fr ts)) = putK i (.own ts) ρ := rfl
@[simp] theorem x_put0 {x y : SV} (h : y.free = true := by rfl) : putK 0 x (y :: ρ) = .ok (.nx (x :: ρ)) := by
  simp [putK, putR, h]
/-- a slot behind the first -/
def consK (y : SV) : Res Out → Res Out
  | .ok (.nx ρ) => .ok (.nx (y :: ρ))
  | r => r
theorem x_putS {x y : SV} (i : Nat) : putK (i + 1) x (y :: ρ) = consK y (putK i x ρ) := by
  unfold putK putR consK
  rw [List.getElem?_cons_succ]
  cases ρ[i]? with
  | none => rfl
  | some z => by_cases h : z.free = true <;> simp [h]
@[simp] theorem x_put1 {x y : SV} : putK 1 x (y :: ρ) = consK y (putK 0 x ρ) := x_putS 0
@[simp] theorem x_put2 {x y : SV} : putK 2 x (y :: ρ) = consK y (putK 1 x ρ) := x_putS 1
@[simp] theorem x_put3 {x y : SV} : putK 3 x (y :: ρ) = consK y (putK 2 x ρ) := x_putS 2
@[simp] theorem x_put4 {x y : SV} : putK 4 x (y :: ρ) = consK y (putK 3 x ρ) := x_putS 3
@[simp] theorem x_put5 {x y : SV} : putK 5 x (y :: ρ) = consK y (putK 4 x ρ) := x_putS 4
@[simp] theorem x_put6 {x y : SV} : putK 6 x (y :: ρ) = consK y (putK 5 x ρ) := x_putS 5
@[simp] theorem x_put7 {x y : SV} : putK 7 x (y :: ρ) = consK y (putK 6 x ρ) := x_putS 6
@[simp] theorem x_put8 {x y : SV} : putK 8 x (y :: ρ) = consK y (putK 7 x ρ) := x_putS 7
@[simp] theorem x_put9 {x y : SV} : putK 9 x (y :: ρ) = consK y (putK 8 x ρ) := x_putS 8
@[simp] theorem x_put10 {x y : SV} : putK 10 x (y :: ρ) = consK y (putK 9 x ρ) := x_putS 9
@[simp] theorem x_put11 {x y : SV} : putK 11 x (y :: ρ) = consK y (putK 10 x ρ) := x_putS 10
@[simp] theorem x_put12 {x y : SV} : putK 12 x (y :: ρ) = consK y (putK 11 x ρ) := x_putS 11
@[simp] theorem x_put13 {x y : SV} : putK 13 x (y :: ρ) = consK y (putK 12 x ρ) := x_putS 12
@[simp] theorem x_put14 {x y : SV} : putK 14 x (y :: ρ) = consK y (putK 13 x ρ) := x_putS 13
@[simp] theorem x_put15 {x y : SV} : putK 15 x (y :: ρ) = consK y (putK 14 x ρ) := x_putS 14
@[simp] theorem x_consK {y : SV} : consK y (.ok (.nx ρ)) = .ok (.nx (y :: ρ)) := rfl
def retK (ρ : Dl.Env) : Res EV → Res Out
  | .ok (.bo _) => .stuck
  | .ok x => .ok (.ret x)
  | .exc z => .ok (.ex z ρ)
  | .stuck => .stuck
@[simp] theorem x_ret : dRet f ρ = retK ρ (f ρ) := by
  unfold dRet retK
  cases f ρ with
  | ok k => cases k <;> rfl
  | exc z => rfl
  | stuck => rfl
@[simp] theorem x_ret_sh {d : D} : retK ρ (.ok (.sh d)) = .ok (.ret (.sh d)) := rfl
@[simp] theorem x_ret_fr {ts : List T} : retK ρ (.ok (.fr ts)) = .ok (.ret (.fr ts)) := rfl
@[simp] theorem x_ret_ex : retK ρ (.exc z) = .ok (.ex z ρ) := rfl
def retVK : Option SV → Res Out
  | some (.sh d) => .ok (.ret (.sh d))
  | some (.own ts) => .ok (.ret (.fr ts))
  | some (.lk ts) => .ok (.ret (.fr ts))
  | _ => .stuck
@[simp] theorem x_retV : dRetV i ρ = retVK ρ[i]? := rfl
@[simp] theorem x_retV_sh {d : D} : retVK (some (.sh d)) = .ok (.ret (.sh d)) := rfl
@[simp] theorem x_retV_own {ts : List T} : retVK (some (.own ts)) = .ok (.ret (.fr ts)) := rfl
@[simp] theorem x_retN : dRetN ρ = .ok (.ret (.sh .non)) := rfl
def runK : Res Out → Res EV
  | .ok (.nx _) => .ok (.sh .non)
  | .ok (.ret x) => .ok x
  | .ok (.ex z _) => .exc z
  | _ => .stuck
@[simp] theorem x_run {n : Nat} {ds : List D} : runD n g ds = runK (g (ds.map SV.sh ++ List.replicate (n - ds.length) SV.no)) := rfl
@[simp] theorem x_run_ret : runK (.ok (.ret x)) = .ok x := rfl
@[simp] theorem x_run_nx : runK (.ok (.nx ρ)) = .ok (.sh .non) := rfl
@[simp] theorem x_run_ex : runK (.ok (.ex z ρ)) = .exc z := rfl
def frzK (i : Nat) (g : Stm) (ρ : Dl.Env) : Option SV → Res Out
  | some (.own ts) => g (ρ.set i (.sh (.lst (T.toDs ts))))
  | _ => g ρ
@[simp] theorem x_frz : dFrz i g ρ = frzK i g ρ ρ[i]? := rfl
@[simp] theorem x_frz_own {ts : List T} : frzK i g ρ (some (.own ts)) = g (ρ.set i (.sh (.lst (T.toDs ts)))) := rfl
@[simp] theorem x_frz_sh {d : D} : frzK i g ρ (some (.sh d)) = g ρ := rfl
@[simp] theorem x_frz_no : frzK i g ρ (some .no) = g ρ := rfl
/-! ### expressions -/
def varK : Option SV → Res EV
  | some (.sh d) => .ok (.sh d)
  | some (.own ts) => .ok (.bo ts)
  | some (.lk ts) => .ok (.bo ts)
  | _ => .stuck
@[simp] theorem x_var : dVar i ρ = varK ρ[i]? := rfl
@[simp] theorem x_var_sh {d : D} : varK (some (.sh d)) = .ok (.sh d) := rfl
@[simp] theorem x_var_own {ts : List T} : varK (some (.own ts)) = .ok (.bo ts) := rfl
@[simp] theorem x_c {d : D} : dC d ρ = .ok (.sh d) := rfl
def d2K (g : EV → EV → Res EV) : Res EV → Res EV → Res EV
  | .ok a, .ok b => g a b
  | .exc z, _ => .exc z
  | .stuck, _ => .stuck
  | .ok _, .exc z => .exc z
  | .ok _, .stuck => .stuck
@[simp] theorem x_d2 {g : EV → EV → Res EV} : d2 g f1 f2 ρ = d2K g (f1 ρ) (f2 ρ) := by
  unfold d2 d2K
  cases f1 ρ <;> cases f2 ρ <;> rfl
@[simp] theorem x_d2_ok {g : EV → EV → Res EV} {a b : EV} : d2K g (.ok a) (.ok b) = g a b := rfl
@[simp] theorem x_nil : aNil ρ = .ok [] := rfl
def consA : Res EV → Res (List EV) → Res (List EV)
  | .ok a, .ok b => .ok (a :: b)
  | .exc z, _ => .exc z
  | .stuck, _ => .stuck
  | .ok _, .exc z => .exc z
  | .ok _, .stuck => .stuck
@[simp] theorem x_cons : aCons f fs ρ = consA (f ρ) (fs ρ) := by
  unfold aCons consA
  cases f ρ <;> cases fs ρ <;> rfl
@[simp] theorem x_cons_ok {a : EV} {bs : List EV} : consA (.ok a) (.ok bs) = .ok (a :: bs) := rfl
def c1K (g : List EV → Res EV) : Res (List EV) → Res EV
  | .ok a => g a
  | .exc z => .exc z
  | .stuck => .stuck
@[simp] theorem x_c1 {g : List EV → Res EV} : dC1 g fs ρ = c1K g (fs ρ) := by
  unfold dC1 c1K
  cases fs ρ <;> rfl
@[simp] theorem x_c1_ok {g : List EV → Res EV} {xs : List EV} : c1K g (.ok xs) = g xs := rfl
def tK (h : EV → Res Bool) : Res EV → Res Bool
  | .ok a => h a
  | .exc z => .exc z
  | .stuck => .stuck
@[simp] theorem x_t {h : EV → Res Bool} : dT h f ρ = tK h (f ρ) := by
  unfold dT tK
  cases f ρ <;> rfl
@[simp] theorem x_t_ok {h : EV → Res Bool} {a : EV} : tK h (.ok a) = h a := rfl
@[simp] theorem x_tBool {k : Bool} : tBool (.sh (.bl k)) = .ok k := rfl
@[simp] theorem x_tTru {k : Bool} : tTru (.sh (.bl k)) = .ok k := rfl
def notK : Res Bool → Res Bool
  | .ok a => .ok (!a)
  | r => r
@[simp] theorem x_notT : dNotT t ρ = notK (t ρ) := by
  unfold dNotT notK
  cases t ρ <;> rfl
@[simp] theorem x_notT_ok {k : Bool} : notK (.ok k) = .ok (!k) := rfl
def andK (t2 : Dl.Env → Res Bool) (ρ : Dl.Env) : Res Bool → Res Bool
  | .ok true => t2 ρ
  | .ok false => .ok false
  | .exc z => .exc z
  | .stuck => .stuck
@[simp] theorem x_andT : dAndT t1 t2 ρ = andK t2 ρ (t1 ρ) := by
  unfold dAndT andK
  cases t1 ρ with
  | ok k => cases k <;> rfl
  | exc z => rfl
  | stuck => rfl
@[simp] theorem x_andT_t : andK t2 ρ (.ok true) = t2 ρ := rfl
@[simp] theorem x_andT_f : andK t2 ρ (.ok false) = .ok false := rfl
def orK (t2 : Dl.Env → Res Bool) (ρ : Dl.Env) : Res Bool → Res Bool
  | .ok false => t2 ρ
  | .ok true => .ok true
  | .exc z => .exc z
  | .stuck => .stuck
@[simp] theorem x_orT : dOrT t1 t2 ρ = orK t2 ρ (t1 ρ) := by
  unfold dOrT orK
  cases t1 ρ with
  | ok k => cases k <;> rfl
  | exc z => rfl
  | stuck => rfl
@[simp] theorem x_orT_t : orK t2 ρ (.ok true) = .ok true := rfl
@[simp] theorem x_orT_f : orK t2 ρ (.ok false) = t2 ρ := rfl
def nnK : Res EV → Res EV
  | .ok (.sh (.bl k)) => .ok (.sh (.bl (!k)))
  | .ok _ => .stuck
  | r => r
@[simp] theorem x_not : dNot f ρ = nnK (f ρ) := by
  unfold dNot nnK
  cases f ρ with
  | ok x => cases x with
    | sh d => cases d <;> rfl
    | fr ts => rfl
    | bo ts => rfl
  | exc z => rfl
  | stuck => rfl
@[simp] theorem x_not_ok {k : Bool} : nnK (.ok (.sh (.bl k))) = .ok (.sh (.bl (!k))) := rfl
def anK (f2 : Dl.Env → Res EV) (ρ : Dl.Env) : Res EV → Res EV
  | .ok (.sh (.bl true)) => f2 ρ
  | .ok (.sh (.bl false)) => .ok (.sh (.bl false))
  | .ok _ => .stuck
  | r => r
@[simp] theorem x_and : dAnd f1 f2 ρ = anK f2 ρ (f1 ρ) := by
  unfold dAnd anK
  cases f1 ρ with
  | ok x => cases x with
    | sh d => cases d with
      | bl k => cases k <;> rfl
      | _ => rfl
    | fr ts => rfl
    | bo ts => rfl
  | exc z => rfl
  | stuck => rfl
@[simp] theorem x_and_t : anK f2 ρ (.ok (.sh (.bl true))) = f2 ρ := rfl
@[simp] theorem x_and_f : anK f2 ρ (.ok (.sh (.bl false))) = .ok (.sh (.bl false)) := rfl
def oRK (f2 : Dl.Env → Res EV) (ρ : Dl.Env) : Res EV → Res EV
  | .ok (.sh (.bl false)) => f2 ρ
  | .ok (.sh (.bl true)) => .ok (.sh (.bl true))
  | .ok _ => .stuck
  | r => r
@[simp] theorem x_or : dOr f1 f2 ρ = oRK f2 ρ (f1 ρ) := by
  unfold dOr oRK
  cases f1 ρ with
  | ok x => cases x with
    | sh d => cases d with
      | bl k => cases k <;> rfl
      | _ => rfl
    | fr ts => rfl
    | bo ts => rfl
  | exc z => rfl
  | stuck => rfl
@[simp] theorem x_or_t : oRK f2 ρ (.ok (.sh (.bl true))) = .ok (.sh (.bl true)) := rfl
@[simp] theorem x_or_f : oRK f2 ρ (.ok (.sh (.bl false))) = f2 ρ := rfl
def nonK (neg : Bool) : Res EV → Res EV
  | .ok x => .ok (.sh (.bl (if neg then !x.d.isNon else x.d.isNon)))
  | r => r
@[simp] theorem x_isN : dIsN f ρ = nonK false (f ρ) := by
  unfold dIsN nonK
  cases f ρ <;> rfl
@[simp] theorem x_notN : dNotN f ρ = nonK true (f ρ) := by
  unfold dNotN nonK
  cases f ρ <;> rfl
@[simp] theorem x_isN_non : nonK false (.ok (.sh .non)) = .ok (.sh (.bl true)) := rfl
@[simp] theorem x_isN_int {k : Int} : nonK false (.ok (.sh (.int k))) = .ok (.sh (.bl false)) := rfl
@[simp] theorem x_notN_non : nonK true (.ok (.sh .non)) = .ok (.sh (.bl false)) := rfl
@[simp] theorem x_notN_int {k : Int} : nonK true (.ok (.sh (.int k))) = .ok (.sh (.bl true)) := rfl
def tsK (h : List T → Res EV) : Res (List EV) → Res EV
  | .ok xs => (match evTs xs with
    | some ts => h ts
    | none => .stuck)
  | .exc z => .exc z
  | .stuck => .stuck
@[simp] theorem x_int1 {k : Int} : gInt [.sh (.int k)] = .ok (.sh (.int k)) := rfl
@[simp] theorem x_add {m n : Int} : gAdd (.sh (.int m)) (.sh (.int n)) = .ok (.sh (.int (m + n))) := rfl
@[simp] theorem x_sub {m n : Int} : Dl.gSub (.sh (.int m)) (.sh (.int n)) = .ok (.sh (.int (m - n))) := rfl
@[simp] theorem x_lt {m n : Int} : gLt (.sh (.int m)) (.sh (.int n)) = .ok (.sh (.bl (decide (m < n)))) := rfl
@[simp] theorem x_le {m n : Int} : gLe (.sh (.int m)) (.sh (.int n)) = .ok (.sh (.bl (decide (m ≤ n)))) := rfl
@[simp] theorem x_gt {m n : Int} : gGt (.sh (.int m)) (.sh (.int n)) = .ok (.sh (.bl (decide (n < m)))) := rfl
@[simp] theorem x_ge {m n : Int} : gGe (.sh (.int m)) (.sh (.int n)) = .ok (.sh (.bl (decide (n ≤ m)))) := rfl
theorem x_mod {m n : Int} (h : 0 < n) : gMod (.sh (.int m)) (.sh (.int n)) = .ok (.sh (.int (m % n))) := by simp [gMod, gF, EV.d, iI, h]
theorem x_fdv {m n : Int} (h : 0 < n) (h2 : n < 1073741824) : gFdv (.sh (.int m)) (.sh (.int n)) = .ok (.sh (.int (m / n))) := by simp [gFdv, gF, EV.d, iI, h, h2]
theorem x_mulR {m n : Int} (h : -18446744073709551616 < n ∧ n < 18446744073709551616) : gMul (.sh (.int m)) (.sh (.int n)) = .ok (.sh (.int (m * n))) := by simp [gMul, h]
theorem x_mulL {m n : Int} (h : -18446744073709551616 < m ∧ m < 18446744073709551616) : gMul (.sh (.int m)) (.sh (.int n)) = .ok (.sh (.int (m * n))) := by simp [gMul, h]
/-! ### calls, loops -/
def callK (n : Nat) (F : List D → Res EV) (dds : List D) : Res (List EV) → Res EV
  | .ok xs => callN n F dds xs
  | .exc z => .exc z
  | .stuck => .stuck
@[simp] theorem x_call {n : Nat} {F : List D → Res EV} {dds : List D} : dCall n F dds fs ρ = callK n F dds (fs ρ) := by
  unfold dCall callK
  cases fs ρ <;> rfl
@[simp] theorem x_call_ok {n : Nat} {F : List D → Res EV} {dds : List D} {xs : List EV} : callK n F dds (.ok xs) = callN n F dds xs := rfl
theorem x_callN {n : Nat} {F : List D → Res EV} {xs : List EV} {x : EV} (hn : xs.length = n) (h : F (xs.map EV.d) = .ok x) (hb : (xs.all EV.noBo || x.ll) = true) : callN n F [] xs = .ok x := by
  unfold callN callR
  simp only [List.length_nil, Nat.add_zero, hn, if_true, List.append_nil, h, hb]
theorem x_callN_exc {n : Nat} {F : List D → Res EV} {xs : List EV} {z : Xc} (hn : xs.length = n) (h : F (xs.map EV.d) = .exc z) (hb : (xs.all EV.noBo || D.llf z.fs) = true) : callN n F [] xs = .exc z := by
  unfold callN callR
  simp only [List.length_nil, Nat.add_zero, hn, if_true, List.append_nil, h, hb]
def forK (b : Bnd) (body : Stm) (ρ : Dl.Env) : Res (List D) → Res Out
  | .ok items => forD b body items ρ
  | .exc z => .ok (.ex z ρ)
  | .stuck => .stuck
@[simp] theorem x_for {it : Itf} : dFor it b g ρ = forK b g ρ (it ρ) := by
  unfold dFor forK
  cases it ρ <;> rfl
@[simp] theorem x_for_ok {ds : List D} : forK b g ρ (.ok ds) = forD b g ds ρ := rfl
@[simp] theorem x_forD_nil : forD b g [] ρ = .ok (.nx ρ) := rfl
def turnK (b : Bnd) (g : Stm) (ds : List D) : Res Out → Res Out
  | .ok (.nx ρ2) => forD b g ds ρ2
  | .ok (.ct ρ2) => forD b g ds ρ2
  | .ok (.bk ρ2) => .ok (.nx ρ2)
  | .ok (.ret x) => .ok (.ret x)
  | .ok (.ex z ρ2) => .ok (.ex z ρ2)
  | .exc z => .exc z
  | .stuck => .stuck
theorem x_forD_cons {d : D} {ds : List D} (h : b d ρ = some ρ1) : forD b g (d :: ds) ρ = turnK b g ds (g ρ1) := by
  rw [forD, h]
  simp only
  unfold turnK
  cases g ρ1 with
  | ok o => cases o <;> rfl
  | exc z => rfl
  | stuck => rfl
@[simp] theorem x_turn_nx {ds : List D} : turnK b g ds (.ok (.nx ρ)) = forD b g ds ρ := rfl
@[simp] theorem x_turn_ret {ds : List D} : turnK b g ds (.ok (.ret x)) = .ok (.ret x) := rfl
def wK (w : EV → Res (List D)) : Res EV → Res (List D)
  | .ok x => w x
  | .exc z => .exc z
  | .stuck => .stuck
@[simp] theorem x_iA : iA f ρ = wK walkA (f ρ) := by
  unfold iA wK
  cases f ρ <;> rfl
@[simp] theorem x_wK {w : EV → Res (List D)} : wK w (.ok x) = w x := rfl
@[simp] theorem x_walk_lst {ds : List D} : walkA (.sh (.lst ds)) = .ok ds := rfl
@[simp] theorem x_walk_tup {ds : List D} : walkA (.sh (.tup ds)) = .ok ds := rfl
@[simp] theorem x_walk_scr {ns : List Int} : walkA (.sh (.scr ns)) = .ok (ns.map D.int) := rfl
@[simp] theorem x_walk_fr {ts : List T} : walkA (.fr ts) = .ok (T.toDs ts) := rfl
end
end Dl
set_option Elab.async false
set_option linter.all false
set_option maxRecDepth 100000
/-! DL17: the other combinators, run on given slots. -/
namespace Dl
open PySem PySem.Spec PyProof.Rows L2
section
variable {α : Type} {ρ ρ1 : Dl.Env} {g1 g2 g : Stm} {i : Nat} {z : Xc} {b : Bnd} {f f1 f2 f3 : Dl.Env → Res EV} {fs : Dl.Env → Res (List EV)} {t t1 t2 : Dl.Env → Res Bool} {x y : EV}
@[simp] theorem x_leaves {ds : List D} : T.toDs (ds.map T.leaf) = ds := toDs_leaves ds
@[simp] theorem x_toDs_nil : T.toDs [] = [] := rfl
@[simp] theorem x_toDs_cons {u : T} {us : List T} : T.toDs (u :: us) = u.toD :: T.toDs us := rfl
@[simp] theorem x_toDs_app {us vs : List T} : T.toDs (us ++ vs) = T.toDs us ++ T.toDs vs := by simp [T.toDs_eq]
@[simp] theorem x_toD_leaf {d : D} : (T.leaf d).toD = d := rfl
@[simp] theorem x_toD_node {us : List T} : (T.node us).toD = .lst (T.toDs us) := rfl
@[simp] theorem x_d_sh {d : D} : (EV.sh d).d = d := rfl
@[simp] theorem x_d_fr {us : List T} : (EV.fr us).d = .lst (T.toDs us) := rfl
@[simp] theorem x_d_bo {us : List T} : (EV.bo us).d = .lst (T.toDs us) := rfl
/-! ### lists -/
def appK (i : Nat) (ρ : Dl.Env) : Option SV → Res EV → Res Out
  | some (.own ts), .ok x => (match x.t? with
    | some t => if ts.length < 16777216 then .ok (.nx (ρ.set i (.own (ts ++ [t])))) else .stuck
    | none => .stuck)
  | some (.own _), .exc z => .ok (.ex z ρ)
  | _, _ => .stuck
@[simp] theorem x_app : dApp i f ρ = appK i ρ ρ[i]? (f ρ) := by
  unfold dApp appK
  cases ρ[i]? with
  | none => cases f ρ <;> rfl
  | some s => cases s <;> cases f ρ <;> rfl
theorem x_app_sh {ts : List T} {d : D} (h : ts.length < 16777216) : appK i ρ (some (.own ts)) (.ok (.sh d)) = .ok (.nx (ρ.set i (.own (ts ++ [.leaf d])))) := by
  simp [appK, EV.t?, h]
theorem x_app_fr {ts us : List T} (h : ts.length < 16777216) : appK i ρ (some (.own ts)) (.ok (.fr us)) = .ok (.nx (ρ.set i (.own (ts ++ [.node us])))) := by
  simp [appK, EV.t?, h]
def lstK : Res (List EV) → Res EV
  | .ok xs => (match evTs xs with
    | some ts => if ts.length ≤ 16777216 then .ok (.fr ts) else .stuck
    | none => .stuck)
  | .exc z => .exc z
  | .stuck => .stuck
@[simp] theorem x_lst : dLst fs ρ = lstK (fs ρ) := by
  unfold dLst lstK
  cases fs ρ <;> rfl
theorem evTs_sh : ∀ ds : List D, evTs (ds.map EV.sh) = some (ds.map T.leaf)
  | [] => rfl
  | d :: ds => by rw [List.map_cons, evTs, evTs_sh ds]; rfl
theorem x_lst_sh {ds : List D} (h : ds.length ≤ 16777216) : lstK (.ok (ds.map EV.sh)) = .ok (.fr (ds.map T.leaf)) := by
  simp [lstK, evTs_sh, h]
@[simp] theorem x_lst0 : lstK (.ok []) = .ok (.fr []) := rfl
@[simp] theorem x_lst1 {d : D} : lstK (.ok [.sh d]) = .ok (.fr [.leaf d]) := rfl
@[simp] theorem x_lst2 {d e : D} : lstK (.ok [.sh d, .sh e]) = .ok (.fr [.leaf d, .leaf e]) := rfl
@[simp] theorem x_lst3 {d e : D} {us : List T} : lstK (.ok [.sh d, .fr us, .sh e]) = .ok (.fr [.leaf d, .node us, .leaf e]) := rfl
def tupK : Res (List EV) → Res EV
  | .ok xs => (match evTs xs with
    | some ts => if ts.length ≤ 16777216 then .ok (.sh (.tup (T.toDs ts))) else .stuck
    | none => .stuck)
  | .exc z => .exc z
  | .stuck => .stuck
@[simp] theorem x_tup : dTup fs ρ = tupK (fs ρ) := by
  unfold dTup tupK
  cases fs ρ <;> rfl
@[simp] theorem x_tup1 {a : D} : tupK (.ok [.sh a]) = .ok (.sh (.tup [a])) := rfl
@[simp] theorem x_tup2 {a b : D} : tupK (.ok [.sh a, .sh b]) = .ok (.sh (.tup [a, b])) := rfl
@[simp] theorem x_tup3 {a b c : D} : tupK (.ok [.sh a, .sh b, .sh c]) = .ok (.sh (.tup [a, b, c])) := rfl
@[simp] theorem x_bName {i : Nat} {d : D} : bName i d ρ = putR i (.sh d) ρ := rfl
@[simp] theorem x_list_tup {ds : List D} : gList [.sh (.tup ds)] = .ok (.fr (ds.map T.leaf)) := rfl
@[simp] theorem x_list_lst {ds : List D} : gList [.sh (.lst ds)] = .ok (.fr (ds.map T.leaf)) := rfl
@[simp] theorem x_tuple_tup {ds : List D} : gTuple [.sh (.tup ds)] = .ok (.sh (.tup ds)) := rfl
@[simp] theorem x_tuple_lst {ds : List D} : gTuple [.sh (.lst ds)] = .ok (.sh (.tup ds)) := rfl
@[simp] theorem x_tuple_fr {us : List T} : gTuple [.fr us] = .ok (.sh (.tup (T.toDs us))) := rfl
@[simp] theorem x_len_fr {us : List T} : gLen [.fr us] = .ok (.sh (.int (T.toDs us).length)) := rfl
@[simp] theorem x_len_scr {ns : List Int} : gLen [.sh (.scr ns)] = .ok (.sh (.int ns.length)) := rfl
@[simp] theorem x_len_lst {ds : List D} : gLen [.sh (.lst ds)] = .ok (.sh (.int ds.length)) := rfl
@[simp] theorem x_len_tup {ds : List D} : gLen [.sh (.tup ds)] = .ok (.sh (.int ds.length)) := rfl
/-! ### comprehensions -/
def lcK (b : Bnd) (t : Dl.Env → Res Bool) (f : Dl.Env → Res EV) (ρ : Dl.Env) : Res (List D) → Res EV
  | .ok items => if items.length ≤ 16777216 then (lcD b t f items ρ).bind fun ts => .ok (.fr ts) else .stuck
  | .exc z => .exc z
  | .stuck => .stuck
@[simp] theorem x_lc {it : Itf} {vs : List Nat} : dLc it b t f vs ρ = lcK b t f (wipeR ρ vs) (it ρ) := by
  unfold dLc lcK
  cases it ρ <;> rfl
@[simp] theorem x_wipe1 {m : Nat} : wipeR ρ [m] = ρ.set m .no := rfl
/-- [h d for d in ds if p d] of data that is not new -/
theorem lcD_flat {p : D → Bool} {h : D → D} : ∀ {ds : List D}, (∀ d ∈ ds, ∃ ρ1, b d ρ = some ρ1 ∧ t ρ1 = .ok (p d) ∧ (p d = true → f ρ1 = .ok (.sh (h d)))) → lcD b t f ds ρ = .ok (((ds.filter p).map h).map T.leaf)
  | [], _ => rfl
  | d :: ds, q => by
    obtain ⟨ρ1, q1, q2, q3⟩ := q d List.mem_cons_self
    have ih := lcD_flat (ds := ds) fun x hx => q x (List.mem_cons_of_mem _ hx)
    rw [lcD, q1]
    simp only [q2]
    cases e : p d with
    | false => simp [noX, e, ih]
    | true => simp [noX, e, ih, q3 e, EV.t?]
theorem x_lc_flat {p : D → Bool} {h : D → D} {ds : List D} (hl : ds.length ≤ 16777216) (q : ∀ d ∈ ds, ∃ ρ1, b d ρ = some ρ1 ∧ t ρ1 = .ok (p d) ∧ (p d = true → f ρ1 = .ok (.sh (h d)))) : lcK b t f ρ (.ok ds) = .ok (.fr (((ds.filter p).map h).map T.leaf)) := by
  rw [lcK, if_pos hl, lcD_flat q]
  rfl
/-- new trees -/
theorem lcD_tree {h : D → T} : ∀ {ds : List D}, (∀ d ∈ ds, ∃ ρ1 x, b d ρ = some ρ1 ∧ t ρ1 = .ok true ∧ f ρ1 = .ok x ∧ x.t? = some (h d)) → lcD b t f ds ρ = .ok (ds.map h)
  | [], _ => rfl
  | d :: ds, q => by
    obtain ⟨ρ1, x, q1, q2, q3, q4⟩ := q d List.mem_cons_self
    have ih := lcD_tree (ds := ds) fun x hx => q x (List.mem_cons_of_mem _ hx)
    rw [lcD, q1]
    simp [q2, noX, q3, q4, ih]
theorem x_lc_tree {h : D → T} {ds : List D} (hl : ds.length ≤ 16777216) (q : ∀ d ∈ ds, ∃ ρ1 x, b d ρ = some ρ1 ∧ t ρ1 = .ok true ∧ f ρ1 = .ok x ∧ x.t? = some (h d)) : lcK b t f ρ (.ok ds) = .ok (.fr (ds.map h)) := by
  rw [lcK, if_pos hl, lcD_tree q]
  rfl
/-! ### ranges, slices -/
@[simp] theorem x_iR1 : iR1 f ρ = wK (fun x => match x with
  | .sh (.int j) => if -4611686018427387904 ≤ j ∧ j < 4611686018427387904 then .ok (rangeD 0 j.toNat) else .stuck
  | _ => .stuck) (f ρ) := by
  unfold iR1 wK
  cases f ρ <;> rfl
def slK (lo hi : Option (Dl.Env → Res EV)) (ρ : Dl.Env) : Res EV → Res EV
  | .ok a => dSl (fun _ => .ok a) lo hi ρ
  | .exc z => .exc z
  | .stuck => .stuck
theorem x_sl {lo hi : Option (Dl.Env → Res EV)} : dSl f lo hi ρ = slK lo hi ρ (f ρ) := by
  unfold slK
  cases q : f ρ with
  | ok a => simp [dSl, q]
  | exc z => simp [dSl, q]
  | stuck => simp [dSl, q]
theorem x_sl_hi {a : EV} {k : Int} (h : f2 ρ = .ok (.sh (.int k))) : slK none (some f2) ρ (.ok a) = gSl a none (some k) := by simp [slK, dSl, h]
theorem x_sl_lo {a : EV} {k : Int} (h : f2 ρ = .ok (.sh (.int k))) : slK (some f2) none ρ (.ok a) = gSl a (some k) none := by simp [slK, dSl, h]
theorem cut_take {β : Type} {xs : List β} {k : Nat} : cutL xs none (some (k : Int)) = xs.take k := by
  unfold cutL
  rw [HT.sIx_nat, HT.sIx_none]
  simp [List.take_eq_take_iff]
theorem cut_drop {β : Type} {xs : List β} {k : Nat} : cutL xs (some (k : Int)) none = xs.drop k := by
  unfold cutL
  rw [HT.sIx_nat, HT.sIx_none]
  rcases Nat.le_total k xs.length with h | h
  · rw [Nat.min_eq_left h]
    exact List.take_of_length_le (by simp)
  · rw [Nat.min_eq_right h, List.drop_eq_nil_of_le h]
    simp
@[simp] theorem x_sl_lst {ds : List D} {lo hi : Option Int} : gSl (.sh (.lst ds)) lo hi = .ok (.fr ((cutL ds lo hi).map T.leaf)) := rfl
@[simp] theorem x_sl_bo {ds : List D} {lo hi : Option Int} : gSl (.sh (.tup ds)) lo hi = .ok (.sh (.tup (cutL ds lo hi))) := rfl
/-! ### instances -/
def fldK (C f : Str) : Res EV → Res EV
  | .ok x => (match asObj C x with
    | some fl => (match fl.lookup f with
      | some d => .ok (.sh d)
      | none => .stuck)
    | none => .stuck)
  | .exc z => .exc z
  | .stuck => .stuck
@[simp] theorem x_fld {C n : Str} : dFld C n f ρ = fldK C n (f ρ) := by
  unfold dFld fldK
  cases f ρ <;> rfl
theorem x_fld_ok {C n : Str} {fl : List (Str × D)} {d : D} (h : fl.lookup n = some d) : fldK C n (.ok (.sh (.obj C fl))) = .ok (.sh d) := by
  simp [fldK, asObj, h]
def methK (C m : Str) (n : Nat) (F : List D → Res EV) (dds : List D) (ra : Res (List EV)) : Res EV → Res EV
  | .ok x => (match asObj C x with
    | some fl => (match fl.lookup m with
      | none => ra.bind fun xs => callN n F dds (x :: xs)
      | some _ => .stuck)
    | none => .stuck)
  | .exc z => .exc z
  | .stuck => .stuck
@[simp] theorem x_meth {C m : Str} {n : Nat} {F : List D → Res EV} {dds : List D} : dMeth C m n F dds f fs ρ = methK C m n F dds (fs ρ) (f ρ) := by
  unfold dMeth methK
  cases f ρ <;> rfl
theorem x_meth_ok {C m : Str} {n : Nat} {F : List D → Res EV} {dds : List D} {fl : List (Str × D)} {xs : List EV} (h : fl.lookup m = none) : methK C m n F dds (.ok xs) (.ok (.sh (.obj C fl))) = callN n F dds (.sh (.obj C fl) :: xs) := by
  simp [methK, asObj, h]
def ciK (C : Str) (n : Nat) (F : List D → Res EV) (dds : List D) (ra : Res (List EV)) : Res EV → Res EV
  | .ok x => (match asObj C x with
    | some _ => ra.bind fun xs => callN n F dds (x :: xs)
    | none => .stuck)
  | .exc z => .exc z
  | .stuck => .stuck
@[simp] theorem x_callI {C : Str} {n : Nat} {F : List D → Res EV} {dds : List D} : dCallI C n F dds f fs ρ = ciK C n F dds (fs ρ) (f ρ) := by
  unfold dCallI ciK
  cases f ρ <;> rfl
@[simp] theorem x_callI_ok {C : Str} {n : Nat} {F : List D → Res EV} {dds : List D} {fl : List (Str × D)} {xs : List EV} : ciK C n F dds (.ok xs) (.ok (.sh (.obj C fl))) = callN n F dds (.sh (.obj C fl) :: xs) := by
  simp [ciK, asObj]
def spK (C : Str) (n : Nat) (F : List D → Res EV) (dds : List D) : Res EV → Res EV
  | .ok x => (match asObj C x with
    | some _ => callN n F dds [x]
    | none => .stuck)
  | .exc z => .exc z
  | .stuck => .stuck
@[simp] theorem x_spec {C : Str} {n : Nat} {F : List D → Res EV} {dds : List D} : dSpec C n F dds f ρ = spK C n F dds (f ρ) := by
  unfold dSpec spK
  cases f ρ <;> rfl
@[simp] theorem x_spec_ok {C : Str} {n : Nat} {F : List D → Res EV} {dds : List D} {fl : List (Str × D)} : spK C n F dds (.ok (.sh (.obj C fl))) = callN n F dds [.sh (.obj C fl)] := by
  simp [spK, asObj]
end
end Dl
set_option Elab.async false
set_option linter.all false
set_option maxRecDepth 100000
/-! DL18: calls on given data, keyed dicts, isinstance. -/
namespace Dl
open PySem PySem.Spec PyProof.Rows L2
section
variable {α : Type} {ρ ρ1 : Dl.Env} {g1 g2 g : Stm} {i : Nat} {z : Xc} {b : Bnd} {f f1 f2 f3 : Dl.Env → Res EV} {fs : Dl.Env → Res (List EV)} {t t1 t2 : Dl.Env → Res Bool} {x y : EV} {F : List D → Res EV}
@[simp] theorem x_put0n {x : SV} : putK 0 x (.no :: ρ) = .ok (.nx (x :: ρ)) := x_put0
@[simp] theorem x_put0s {x : SV} {d : D} : putK 0 x (.sh d :: ρ) = .ok (.nx (x :: ρ)) := x_put0
@[simp] theorem x_put0o {x : SV} {us : List T} : putK 0 x (.own us :: ρ) = .ok (.nx (x :: ρ)) := x_put0
@[simp] theorem x_put16 {x y : SV} : putK 16 x (y :: ρ) = consK y (putK 15 x ρ) := x_putS 15
@[simp] theorem x_put17 {x y : SV} : putK 17 x (y :: ρ) = consK y (putK 16 x ρ) := x_putS 16
@[simp] theorem x_put18 {x y : SV} : putK 18 x (y :: ρ) = consK y (putK 17 x ρ) := x_putS 17
@[simp] theorem x_put19 {x y : SV} : putK 19 x (y :: ρ) = consK y (putK 18 x ρ) := x_putS 18
@[simp] theorem x_put20 {x y : SV} : putK 20 x (y :: ρ) = consK y (putK 19 x ρ) := x_putS 19
@[simp] theorem x_put21 {x y : SV} : putK 21 x (y :: ρ) = consK y (putK 20 x ρ) := x_putS 20
@[simp] theorem x_put22 {x y : SV} : putK 22 x (y :: ρ) = consK y (putK 21 x ρ) := x_putS 21
@[simp] theorem x_put23 {x y : SV} : putK 23 x (y :: ρ) = consK y (putK 22 x ρ) := x_putS 22
theorem callN_nb {n : Nat} {xs : List EV} (hn : xs.length = n) (hb : xs.all EV.noBo = true) : callN n F [] xs = F (xs.map EV.d) := by
  unfold callN callR
  simp only [List.length_nil, Nat.add_zero, hn, if_true, List.append_nil, hb, Bool.true_or]
  cases F (xs.map EV.d) <;> rfl
@[simp] theorem callN_s {d : D} : callN 1 F [] [.sh d] = F [d] := callN_nb rfl rfl
@[simp] theorem callN_f {us : List T} : callN 1 F [] [.fr us] = F [.lst (T.toDs us)] := callN_nb rfl rfl
@[simp] theorem callN_ss {d e : D} : callN 2 F [] [.sh d, .sh e] = F [d, e] := callN_nb rfl rfl
@[simp] theorem callN_sf {d : D} {us : List T} : callN 2 F [] [.sh d, .fr us] = F [d, .lst (T.toDs us)] := callN_nb rfl rfl
@[simp] theorem callN_fs {d : D} {us : List T} : callN 2 F [] [.fr us, .sh d] = F [.lst (T.toDs us), d] := callN_nb rfl rfl
@[simp] theorem callN_ff {vs us : List T} : callN 2 F [] [.fr us, .fr vs] = F [.lst (T.toDs us), .lst (T.toDs vs)] := callN_nb rfl rfl
@[simp] theorem callN_sss {d e a : D} : callN 3 F [] [.sh d, .sh e, .sh a] = F [d, e, a] := callN_nb rfl rfl
@[simp] theorem callN_ssf {d e : D} {us : List T} : callN 3 F [] [.sh d, .sh e, .fr us] = F [d, e, .lst (T.toDs us)] := callN_nb rfl rfl
@[simp] theorem callN_sfs {d e : D} {us : List T} : callN 3 F [] [.sh d, .fr us, .sh e] = F [d, .lst (T.toDs us), e] := callN_nb rfl rfl
@[simp] theorem callN_ssss {d e a k : D} : callN 4 F [] [.sh d, .sh e, .sh a, .sh k] = F [d, e, a, k] := callN_nb rfl rfl
@[simp] theorem callN_sssss {d e a k l : D} : callN 5 F [] [.sh d, .sh e, .sh a, .sh k, .sh l] = F [d, e, a, k, l] := callN_nb rfl rfl
theorem callN_bo {n : Nat} {xs : List EV} {x : EV} (hn : xs.length = n) (h : F (xs.map EV.d) = .ok x) (hl : x.ll = true) : callN n F [] xs = .ok x := x_callN hn h (by rw [hl, Bool.or_true])
/-! ### isinstance -/
theorem x_isi1 {d : D} {n : String} {t : String} (h : d.tyn = some t) (hn : clss.contains n = true) : gIsi [.sh d, .sh (.ty n)] = .ok (.sh (.bl (isaB t n))) := by
  simp only [gIsi, EV.d, isaD, h, hn, if_true]
@[simp] theorem x_isi_ii {n : Int} : gIsi [.sh (.int n), .sh (.ty "int")] = .ok (.sh (.bl true)) := (x_isi1 (d := .int n) (n := "int") (t := "int") rfl (by decide +kernel)).trans rfl
@[simp] theorem x_isi_ib {n : Int} : gIsi [.sh (.int n), .sh (.ty "bool")] = .ok (.sh (.bl false)) := (x_isi1 (d := .int n) (n := "bool") (t := "int") rfl (by decide +kernel)).trans rfl
@[simp] theorem x_isi_is {n : Int} : gIsi [.sh (.int n), .sh (.ty "str")] = .ok (.sh (.bl false)) := (x_isi1 (d := .int n) (n := "str") (t := "int") rfl (by decide +kernel)).trans rfl
@[simp] theorem x_isi_it {n : Int} : gIsi [.sh (.int n), .sh (.ty "tuple")] = .ok (.sh (.bl false)) := (x_isi1 (d := .int n) (n := "tuple") (t := "int") rfl (by decide +kernel)).trans rfl
@[simp] theorem x_isi_ss {n : Str} : gIsi [.sh (.str n), .sh (.ty "str")] = .ok (.sh (.bl true)) := (x_isi1 (d := .str n) (n := "str") (t := "str") rfl (by decide +kernel)).trans rfl
@[simp] theorem x_isi_st {n : Str} : gIsi [.sh (.str n), .sh (.ty "tuple")] = .ok (.sh (.bl false)) := (x_isi1 (d := .str n) (n := "tuple") (t := "str") rfl (by decide +kernel)).trans rfl
@[simp] theorem x_isi_bb {n : Bool} : gIsi [.sh (.bl n), .sh (.ty "bool")] = .ok (.sh (.bl true)) := (x_isi1 (d := .bl n) (n := "bool") (t := "bool") rfl (by decide +kernel)).trans rfl
@[simp] theorem x_isi_bs {n : Bool} : gIsi [.sh (.bl n), .sh (.ty "str")] = .ok (.sh (.bl false)) := (x_isi1 (d := .bl n) (n := "str") (t := "bool") rfl (by decide +kernel)).trans rfl
@[simp] theorem x_isi_bt {n : Bool} : gIsi [.sh (.bl n), .sh (.ty "tuple")] = .ok (.sh (.bl false)) := (x_isi1 (d := .bl n) (n := "tuple") (t := "bool") rfl (by decide +kernel)).trans rfl
@[simp] theorem x_isi_tt {n : List D} : gIsi [.sh (.tup n), .sh (.ty "tuple")] = .ok (.sh (.bl true)) := (x_isi1 (d := .tup n) (n := "tuple") (t := "tuple") rfl (by decide +kernel)).trans rfl
@[simp] theorem x_isi_nt : gIsi [.sh .non, .sh (.ty "tuple")] = .ok (.sh (.bl false)) := (x_isi1 (d := .non) (n := "tuple") (t := "NoneType") rfl (by decide +kernel)).trans rfl
theorem x_isi2 {d : D} {t : String} (h : d.tyn = some t) : gIsi [.sh d, .sh (.tup [.ty "list", .ty "tuple"])] = .ok (.sh (.bl (isaB t "list" || isaB t "tuple"))) := by
  have e : tyNames [.ty "list", .ty "tuple"] = some ["list", "tuple"] := by decide +kernel
  simp [gIsi, isaD, h, e]
@[simp] theorem x_isl_i {n : Int} : gIsi [.sh (.int n), .sh (.tup [.ty "list", .ty "tuple"])] = .ok (.sh (.bl false)) := (x_isi2 (d := .int n) (t := "int") rfl).trans rfl
@[simp] theorem x_isl_s {n : Str} : gIsi [.sh (.str n), .sh (.tup [.ty "list", .ty "tuple"])] = .ok (.sh (.bl false)) := (x_isi2 (d := .str n) (t := "str") rfl).trans rfl
@[simp] theorem x_isl_n : gIsi [.sh .non, .sh (.tup [.ty "list", .ty "tuple"])] = .ok (.sh (.bl false)) := (x_isi2 (d := .non) (t := "NoneType") rfl).trans rfl
@[simp] theorem x_isl_t {ds : List D} : gIsi [.sh (.tup ds), .sh (.tup [.ty "list", .ty "tuple"])] = .ok (.sh (.bl true)) := (x_isi2 (d := .tup ds) (t := "tuple") rfl).trans rfl
@[simp] theorem x_isl_l {ds : List D} : gIsi [.sh (.lst ds), .sh (.tup [.ty "list", .ty "tuple"])] = .ok (.sh (.bl true)) := (x_isi2 (d := .lst ds) (t := "list") rfl).trans rfl
/-! ### items -/
@[simp] theorem x_ix0 {d : D} {ds : List D} : gIx (.sh (.tup (d :: ds))) (.sh (.int 0)) = .ok (.sh d) := by simp [gIx, atI, ixN]
@[simp] theorem x_ix1 {d e : D} {ds : List D} : gIx (.sh (.tup (d :: e :: ds))) (.sh (.int 1)) = .ok (.sh e) := by
  have : (1 : Int) < (ds.length : Int) + 1 + 1 := by omega
  simp [gIx, atI, ixN, this]
@[simp] theorem x_ix2 {d e f : D} {ds : List D} : gIx (.sh (.tup (d :: e :: f :: ds))) (.sh (.int 2)) = .ok (.sh f) := by
  have : (2 : Int) < (ds.length : Int) + 1 + 1 + 1 := by omega
  simp [gIx, atI, ixN, this]
theorem x_ixL {ds : List D} {i : Nat} {d : D} (h : ds[i]? = some d) : gIx (.sh (.lst ds)) (.sh (.int (i : Int))) = .ok (.sh d) := by
  have hl := (List.getElem?_eq_some_iff.mp h).1
  have : (i : Int) < (ds.length : Int) := by omega
  simp [gIx, atI, ixN, this, h]
theorem x_ixT {ds : List D} {i : Nat} {d : D} (h : ds[i]? = some d) : gIx (.sh (.tup ds)) (.sh (.int (i : Int))) = .ok (.sh d) := by
  have hl := (List.getElem?_eq_some_iff.mp h).1
  have : (i : Int) < (ds.length : Int) := by omega
  simp [gIx, atI, ixN, this, h]
theorem x_ixLast {ds : List D} {d : D} (h : ds.getLast? = some d) : gIx (.sh (.lst ds)) (.sh (.int (-1))) = .ok (.sh d) := by
  rw [List.getLast?_eq_getElem?] at h
  have hl := (List.getElem?_eq_some_iff.mp h).1
  have e : ixN ds.length (-1) = some (ds.length - 1) := by
    unfold ixN
    rw [if_neg (by omega), if_pos (by omega)]
    congr 1
    omega
  simp [gIx, atI, e, h]
/-! ### equality -/
theorem x_eq_t {a b : D} (h : a = b) (ha : a.fine = true) (da : a.dep ≤ 64) : gEq (.sh a) (.sh b) = .ok (.sh (.bl true)) := by
  subst h
  rcases eqD_fine ha ha da da with ⟨_, e⟩ | ⟨n, _⟩
  · simp [gEq, gF, EV.d, e]
  · exact absurd rfl n
theorem x_eq_f {a b : D} (h : a ≠ b) (ha : a.fine = true) (hb : b.fine = true) (da : a.dep ≤ 64) (db : b.dep ≤ 64) : gEq (.sh a) (.sh b) = .ok (.sh (.bl false)) := by
  rcases eqD_fine ha hb da db with ⟨e, _⟩ | ⟨_, e⟩
  · exact absurd e h
  · simp [gEq, gF, EV.d, e]
theorem x_ne_t {a b : D} (h : a = b) (ha : a.fine = true) (da : a.dep ≤ 64) : gNe (.sh a) (.sh b) = .ok (.sh (.bl false)) := by
  subst h
  rcases eqD_fine ha ha da da with ⟨_, e⟩ | ⟨n, _⟩
  · simp [gNe, gF, EV.d, e]
  · exact absurd rfl n
theorem x_ne_f {a b : D} (h : a ≠ b) (ha : a.fine = true) (hb : b.fine = true) (da : a.dep ≤ 64) (db : b.dep ≤ 64) : gNe (.sh a) (.sh b) = .ok (.sh (.bl true)) := by
  rcases eqD_fine ha hb da db with ⟨e, _⟩ | ⟨_, e⟩
  · exact absurd e h
  · simp [gNe, gF, EV.d, e]
@[simp] theorem x_eqI {m n : Int} : gEq (.sh (.int m)) (.sh (.int n)) = .ok (.sh (.bl (decide (m = n)))) := by
  by_cases h : m = n
  · rw [x_eq_t (congrArg D.int h) rfl (by simp [D.dep])]
    simp [h]
  · rw [x_eq_f (fun z => h (D.int.inj z)) rfl rfl (by simp [D.dep]) (by simp [D.dep])]
    simp [h]
@[simp] theorem x_neI {m n : Int} : gNe (.sh (.int m)) (.sh (.int n)) = .ok (.sh (.bl (!decide (m = n)))) := by
  by_cases h : m = n
  · rw [x_ne_t (congrArg D.int h) rfl (by simp [D.dep])]
    simp [h]
  · rw [x_ne_f (fun z => h (D.int.inj z)) rfl rfl (by simp [D.dep]) (by simp [D.dep])]
    simp [h]
theorem x_eqS {m n : Str} (hm : PyData.strOk m = true) (hn : PyData.strOk n = true) : gEq (.sh (.str m)) (.sh (.str n)) = .ok (.sh (.bl (decide (m = n)))) := by
  by_cases h : m = n
  · rw [x_eq_t (congrArg D.str h) hm (by simp [D.dep])]
    simp [h]
  · rw [x_eq_f (fun z => h (D.str.inj z)) hm hn (by simp [D.dep]) (by simp [D.dep])]
    simp [h]
/-- x in ds -/
theorem any_fine : ∀ {ds : List D} {qs : List PyData} {a : D} {p : PyData}, a.fine = true → a.py = some p → D.fines ds = true → D.pys ds = some qs → ((qs.any fun z => PyData.eqv z p) = true ↔ a ∈ ds)
  | [], _, _, _, _, _, _, e => by cases e; simp
  | d :: ds, qs, a, p, ha, hp, hd, e => by
    rw [D.fines, Bool.and_eq_true] at hd
    obtain ⟨q, h1, _⟩ := fine_py d hd.1
    obtain ⟨rs, k1, _⟩ := fines_py ds hd.2
    rw [D.pys, h1, k1] at e
    cases e
    rw [List.any_cons, Bool.or_eq_true, fine_eqv d a hd.1 ha h1 hp, any_fine ha hp hd.2 k1, List.mem_cons]
    constructor <;> rintro (h | h) <;> simp [h]
theorem inD_lst {a : D} {ds : List D} (ha : a.fine = true) (hd : D.fines ds = true) (da : a.dep ≤ 64) (dd : D.deps ds < 64) : ∃ b, inD a (.lst ds) = some b ∧ (b = true ↔ a ∈ ds) := by
  obtain ⟨p, h1, h2, h3⟩ := fine_py a ha
  obtain ⟨qs, k1, k2, k3⟩ := fines_py ds hd
  have sp : SeqAt.shaped p = true := by
    unfold SeqAt.shaped
    rw [h2, h3]
    simpa using da
  have sq : SeqAt.shaped (.list qs) = true := by
    unfold SeqAt.shaped
    simp only [PyData.canLay0, PyData.depth, k2, k3]
    simp only [Bool.and_eq_true, decide_eq_true_eq, true_and]
    omega
  refine ⟨qs.any fun z => PyData.eqv z p, ?_, any_fine ha h1 hd k1⟩
  unfold inD
  rw [D.py, k1, h1]
  simp [sp, sq]
theorem inD_tup {a : D} {ds : List D} (ha : a.fine = true) (hd : D.fines ds = true) (da : a.dep ≤ 64) (dd : D.deps ds < 64) : ∃ b, inD a (.tup ds) = some b ∧ (b = true ↔ a ∈ ds) := by
  obtain ⟨p, h1, h2, h3⟩ := fine_py a ha
  obtain ⟨qs, k1, k2, k3⟩ := fines_py ds hd
  have sp : SeqAt.shaped p = true := by
    unfold SeqAt.shaped
    rw [h2, h3]
    simpa using da
  have sq : SeqAt.shaped (.tuple qs) = true := by
    unfold SeqAt.shaped
    simp only [PyData.canLay0, PyData.depth, k2, k3]
    simp only [Bool.and_eq_true, decide_eq_true_eq, true_and]
    omega
  refine ⟨qs.any fun z => PyData.eqv z p, ?_, any_fine ha h1 hd k1⟩
  unfold inD
  rw [D.py, k1, h1]
  simp [sp, sq]
end
end Dl
set_option Elab.async false
set_option linter.all false
set_option maxRecDepth 100000
set_option maxHeartbeats 0
namespace K75
open PySem PySem.Spec PyProof.Rows L2 Dl
def top (i : Nat) : Stmt := PySem.Challenge.pw_leavetaking_k75_watches.main.body.getD i (.Pass ⟨0, 0, 0, 0⟩)
def sub (i j : Nat) : Stmt := match top i with
  | .ClassDef _ _ _ body _ _ _ _ _ _ _ => body.getD j (.Pass ⟨0, 0, 0, 0⟩)
  | s => s
/-! ### the text, the functions -/
abbrev s_l_digits : Stmt := (top 15)
abbrev N_l_digits : List Str := ["_law_cell_here", "_law_sizes", "_law_row", "_law_rest", "_law_size", "_law_seed", "_law_k", "_law_twice"]
theorem sc_l_digits : FnScope N_l_digits ["_law_cell_here", "_law_sizes"] (defScope s_l_digits) := ⟨rfl, rfl, rfl, by decide +kernel, rfl, by decide +kernel, by decide +kernel⟩
def g_l_digits : Stm := (dSeq (dSet 2 (dLst aNil))
  (dSeq (dSet 3 (dC1 gInt (aCons (dVar 0) aNil)))
  (dSeq (dIf (dT tBool (d2 gGe (dVar 3) (d2 gPow (dC (.int 10)) (dC (.int 18)))))
  (dSeq (dSet 3 (d2 gSub (dVar 3) (d2 gPow (dC (.int 10)) (dC (.int 18)))))
  (dSeq (dFor (iA (dVar 1)) (bName 4)
  (dSeq (dApp 2 (d2 gMod (dC1 gInt (aCons (dVar 3) aNil)) (dVar 4)))
  (dSet 3 (d2 gFdv (dC1 gInt (aCons (dVar 3) aNil)) (dVar 4)))))
  (dRetV 2)))
  dNext)
  (dSeq (dSet 5 (d2 gMod (dC1 gInt (aCons (dVar 3) aNil)) (dC (.int 2147483629))))
  (dSeq (dFor (iR1 (dC1 gLen (aCons (dVar 1) aNil))) (bName 6)
  (dSeq (dSet 5 (d2 gMod (dC1 gInt (aCons (d2 gAdd (d2 gAdd (d2 gMul (dVar 5) (dC (.int 48271))) (d2 gMul (dC (.int 974711)) (dVar 6))) (dC (.int 12345))) aNil)) (dC (.int 2147483647))))
  (dSeq (dSet 7 (d2 gMod (dC1 gInt (aCons (d2 gMul (dVar 5) (d2 gAdd (d2 gFdv (dVar 5) (dC (.int 65537))) (dC (.int 3)))) aNil)) (dC (.int 2147483629))))
  (dApp 2 (d2 gMod (d2 gFdv (dVar 7) (dC (.int 19))) (d2 gIx (dVar 1) (dVar 6)))))))
  (dRetV 2))))))
def F_l_digits : List D → Res EV := runD 8 g_l_digits
abbrev s_l_cell : Stmt := (top 14)
abbrev N_l_cell : List Str := ["_law_script", "_law_k", "_law_seed", "_law_cell_here"]
theorem sc_l_cell : FnScope N_l_cell ["_law_script", "_law_k"] (defScope s_l_cell) := ⟨rfl, rfl, rfl, by decide +kernel, rfl, by decide +kernel, by decide +kernel⟩
def g_l_cell : Stm := (dSeq (dIf (dT tBool (d2 gLt (dVar 1) (dC1 gLen (aCons (dVar 0) aNil))))
  (dRet (d2 gIx (dVar 0) (dVar 1)))
  dNext)
  (dSeq (dSet 2 (dC (.int 17)))
  (dSeq (dFor (iA (dVar 0)) (bName 3)
  (dSet 2 (d2 gMod (dC1 gInt (aCons (d2 gAdd (d2 gMul (dVar 2) (dC (.int 31))) (d2 gMod (dC1 gInt (aCons (dVar 3) aNil)) (dC (.int 1000003)))) aNil)) (dC (.int 1000003)))))
  (dRet (d2 gMod (dC1 gInt (aCons (d2 gMul (d2 gMul (d2 gAdd (dVar 2) (dC (.int 7))) (d2 gAdd (dVar 1) (dC (.int 3)))) (dC (.int 69621))) aNil)) (dC (.int 2147483647)))))))
def F_l_cell : List D → Res EV := runD 4 g_l_cell
abbrev s_l_strange : Stmt := (top 18)
abbrev N_l_strange : List Str := ["_law_names_here", "_law_digit", "_law_menu", "_law_turned"]
theorem sc_l_strange : FnScope N_l_strange ["_law_names_here", "_law_digit"] (defScope s_l_strange) := ⟨rfl, rfl, rfl, by decide +kernel, rfl, by decide +kernel, by decide +kernel⟩
def g_l_strange : Stm := (dSeq (dSet 2 (dLst (aCons (dC (.str "")) (aCons (dC (.str "in")) (aCons (dC (.str "out")) (aCons (dC (.str "A b")) (aCons (dC (.str "ada\nbob")) (aCons (d2 gAdd (d2 gAdd (d2 gIx (dVar 0) (dC (.int 0))) (d2 gIx (dVar 0) (dNeg (dC (.int 1))))) (dC (.str "zzzzzzzz"))) (aCons (dC (.str "(0)")) (aCons (dC (.str "9")) (aCons (dC (.str "~")) aNil)))))))))))
  (dFrz 2 (dSeq (dSet 3 (dC1 gList (aCons (dVar 0) aNil)))
  (dSeq (dIf (dAndT (dT tBool (d2 gLt (dVar 1) (dC (.int 9)))) (dT tBool (d2 gNotIn (d2 gIx (dVar 2) (dVar 1)) (dVar 0))))
  (dLPut 3 (d2 gMod (dC1 gInt (aCons (dVar 1) aNil)) (dC1 gLen (aCons (dVar 0) aNil))) (d2 gIx (dVar 2) (dVar 1)))
  dNext)
  (dRetV 3)))))
def F_l_strange : List D → Res EV := runD 4 g_l_strange
abbrev s_l_names : Stmt := (top 16)
abbrev N_l_names : List Str := ["_law_row", "_law_many", "_law_menu", "_law_signs", "_law_stem", "_law_at", "_law_k"]
theorem sc_l_names : FnScope N_l_names ["_law_row", "_law_many"] (defScope s_l_names) := ⟨rfl, rfl, rfl, by decide +kernel, rfl, by decide +kernel, by decide +kernel⟩
def g_l_names : Stm := (dSeq (dIf (dT tBool (d2 gLt (d2 gIx (dVar 0) (dC (.int 0))) (dC (.int 8))))
  (dSeq (dSet 2 (dLst (aCons (dC (.str "ada")) (aCons (dC (.str "b2")) (aCons (dC (.str "cleo")) (aCons (dC (.str "z")) (aCons (dC (.str "eve9")) (aCons (dC (.str "in")) (aCons (dC (.str "gus4gus8")) (aCons (dC (.str "out")) aNil))))))))))
  (dFrz 2 (dRet (dLc (iR1 (dVar 1)) (bName 6) dYes (d2 gIx (dVar 2) (d2 gMod (dC1 gInt (aCons (d2 gAdd (d2 gMul (d2 gIx (dVar 0) (dC (.int 0))) (dC (.int 3))) (d2 gMul (dVar 6) (dC (.int 5)))) aNil)) (dC (.int 8)))) [6]))))
  dNext)
  (dFrz 2 (dSeq (dSet 3 (dC (.str "abcdefghijklmnopqrstuvwxyz")))
  (dSeq (dIf (dAndT (dT tBool (d2 gEq (d2 gIx (dVar 0) (dC (.int 1))) (dC (.int 0)))) (dT tBool (d2 gGt (d2 gIx (dVar 0) (dC (.int 2))) (dC (.int 3)))))
  (dRet (dLc (iR1 (dVar 1)) (bName 6) dYes (d2 gMul (d2 gIx (dVar 3) (dC1 gInt (aCons (d2 gIx (dVar 0) (dC (.int 3))) aNil))) (d2 gAdd (dC (.int 1)) (d2 gMod (dC1 gInt (aCons (d2 gAdd (d2 gIx (dVar 0) (dC (.int 2))) (d2 gMul (dC (.int 3)) (dVar 6))) aNil)) (dC (.int 4))))) [6]))
  dNext)
  (dSeq (dSet 4 (d2 gIx (dLst (aCons (dC (.str "")) (aCons (dC (.str "out")) (aCons (dC (.str "kk")) (aCons (dC (.str "zz9zz9z")) (aCons (dC (.str "in")) aNil)))))) (d2 gIx (dVar 0) (dC (.int 1)))))
  (dFrz 4 (dSeq (dSet 5 (d2 gMod (dC1 gInt (aCons (d2 gIx (dVar 0) (dC (.int 2))) aNil)) (d2 gAdd (dC1 gLen (aCons (dVar 4) aNil)) (dC (.int 1)))))
  (dRet (dLc (iR1 (dVar 1)) (bName 6) dYes (d2 gAdd (d2 gAdd (dSl (dVar 4) none (some (dVar 5))) (d2 gIx (dVar 3) (d2 gMod (dC1 gInt (aCons (d2 gAdd (d2 gIx (dVar 0) (dC (.int 3))) (d2 gMul (dC (.int 7)) (dVar 6))) aNil)) (dC (.int 26))))) (dSl (dVar 4) (some (dVar 5)) none)) [6])))))))))
def F_l_names : List D → Res EV := runD 7 g_l_names
abbrev s_l_event : Stmt := (top 19)
abbrev N_l_event : List Str := ["_law_names_here", "_law_row", "_law_kind"]
theorem sc_l_event : FnScope N_l_event ["_law_names_here", "_law_row"] (defScope s_l_event) := ⟨rfl, rfl, rfl, by decide +kernel, rfl, by decide +kernel, by decide +kernel⟩
def g_l_event : Stm := (dSeq (dSet 2 (d2 gIx (dVar 0) (d2 gMod (dC1 gInt (aCons (d2 gIx (dVar 1) (dC (.int 1))) aNil)) (dC1 gLen (aCons (dVar 0) aNil)))))
  (dFrz 2 (dSeq (dIf (dT tBool (d2 gEq (d2 gMod (dC1 gInt (aCons (d2 gIx (dVar 1) (dC (.int 0))) aNil)) (dC (.int 3))) (dC (.int 0))))
  (dRet (dTup (aCons (dC (.str "in")) (aCons (dVar 2) aNil))))
  dNext)
  (dRet (dTup (aCons (dC (.str "out")) (aCons (dVar 2) (aCons (d2 gIx (dVar 0) (d2 gMod (dC1 gInt (aCons (d2 gIx (dVar 1) (dC (.int 2))) aNil)) (dC1 gLen (aCons (dVar 0) aNil)))) aNil))))))))
def F_l_event : List D → Res EV := runD 3 g_l_event
abbrev s_l_rules : Stmt := (top 20)
abbrev N_l_rules : List Str := ["_law_script", "_law_names_here", "_law_many", "_law_rules_here", "_law_pool", "_law_k", "_law_row", "_law_state", "_law_after"]
theorem sc_l_rules : FnScope N_l_rules ["_law_script", "_law_names_here", "_law_many"] (defScope s_l_rules) := ⟨rfl, rfl, rfl, by decide +kernel, rfl, by decide +kernel, by decide +kernel⟩
def g_l_rules : Stm := (dSeq (dSet 3 (dLst aNil))
  (dSeq (dSet 4 (dLst (aCons (dC (.int 0)) aNil)))
  (dSeq (dFor (iR1 (dVar 2)) (bName 5)
  (dSeq (dSet 6 (dCall 2 F_l_digits [] (aCons (dCall 2 F_l_cell [] (aCons (dVar 0) (aCons (d2 gAdd (dC (.int 2)) (dVar 5)) aNil))) (aCons (dLst (aCons (dC (.int 60)) (aCons (dC (.int 12)) (aCons (dC (.int 12)) (aCons (dC (.int 60)) (aCons (dC (.int 60)) aNil)))))) aNil))))
  (dFrz 6 (dSeq (dSet 7 (d2 gIx (dVar 4) (d2 gMod (dC1 gInt (aCons (d2 gIx (dVar 6) (dC (.int 3))) aNil)) (dC1 gLen (aCons (dVar 4) aNil)))))
  (dFrz 7 (dSeq (dIf (dT tBool (d2 gGe (d2 gIx (dVar 6) (dC (.int 3))) (dC (.int 48))))
  (dSet 7 (d2 gMod (dC1 gInt (aCons (d2 gIx (dVar 6) (dC (.int 3))) aNil)) (dC (.int 10))))
  dNext)
  (dSeq (dSet 8 (d2 gMod (dC1 gInt (aCons (d2 gIx (dVar 6) (dC (.int 4))) aNil)) (dC (.int 10))))
  (dSeq (dIf (dT tBool (d2 gLt (d2 gIx (dVar 6) (dC (.int 4))) (dC (.int 36))))
  (dSet 8 (d2 gMod (d2 gAdd (dVar 7) (d2 gMod (dC1 gInt (aCons (d2 gIx (dVar 6) (dC (.int 4))) aNil)) (dC (.int 3)))) (dC (.int 10))))
  dNext)
  (dSeq (dApp 3 (dTup (aCons (dVar 7) (aCons (dCall 2 F_l_event [] (aCons (dVar 1) (aCons (dVar 6) aNil))) (aCons (dVar 8) aNil)))))
  (dApp 4 (dVar 8)))))))))))
  (dFrz 6 (dFrz 7 (dRetV 3))))))
def F_l_rules : List D → Res EV := runD 9 g_l_rules
abbrev s_l_double : Stmt := (top 21)
abbrev N_l_double : List Str := ["_law_rules_here", "_law_k", "_law_j"]
theorem sc_l_double : FnScope N_l_double ["_law_rules_here"] (defScope s_l_double) := ⟨rfl, rfl, rfl, by decide +kernel, rfl, by decide +kernel, by decide +kernel⟩
def g_l_double : Stm := (dSeq (dFor (iR1 (dC1 gLen (aCons (dVar 0) aNil))) (bName 1)
  (dFor (iR1 (dVar 1)) (bName 2)
  (dIf (dAndT (dT tBool (d2 gEq (d2 gIx (d2 gIx (dVar 0) (dVar 2)) (dC (.int 0))) (d2 gIx (d2 gIx (dVar 0) (dVar 1)) (dC (.int 0))))) (dT tBool (d2 gEq (d2 gIx (d2 gIx (dVar 0) (dVar 2)) (dC (.int 1))) (d2 gIx (d2 gIx (dVar 0) (dVar 1)) (dC (.int 1))))))
  (dRetV 1)
  dNext)))
  (dRet (dC .non)))
def F_l_double : List D → Res EV := runD 3 g_l_double
abbrev s_frozen : Stmt := (top 7)
abbrev N_frozen : List Str := ["value", "item"]
theorem sc_frozen : FnScope N_frozen ["value"] (defScope s_frozen) := ⟨rfl, rfl, rfl, by decide +kernel, rfl, by decide +kernel, by decide +kernel⟩
def g_frozen (rec : List D → Res EV) : Stm := (dSeq (dIf (dT tTru (dC1 gIsi (aCons (dVar 0) (aCons (dTup (aCons (dC (.ty "list")) (aCons (dC (.ty "tuple")) aNil))) aNil))))
  (dRet (dC1 gTuple (aCons (dLc (iA (dVar 0)) (bName 1) dYes (dCall 1 rec [] (aCons (dVar 1) aNil)) [1]) aNil)))
  dNext)
  (dRetV 0))
def F_frozen : Nat → List D → Res EV
  | 0 => fun _ => .stuck
  | n + 1 => runD 2 (g_frozen (F_frozen n))
abbrev s_BadRule___init__ : Stmt := (sub 5 0)
theorem sc_BadRule___init__ : FnScope ["self", "index"] ["self", "index"] (defScope s_BadRule___init__) := ⟨rfl, rfl, rfl, by decide +kernel, rfl, by decide +kernel, by decide +kernel⟩
abbrev s_Watch___init__ : Stmt := (sub 11 0)
abbrev N_Watch___init__ : List Str := ["self", "rules", "good", "told", "table", "index", "state", "event", "after"]
theorem sc_Watch___init__ : FnScope N_Watch___init__ ["self", "rules", "good"] (defScope s_Watch___init__) := ⟨rfl, rfl, rfl, by decide +kernel, rfl, by decide +kernel, by decide +kernel⟩
def g_Watch___init__ : Stm := (dSeq (dSet 3 (dCall 1 (F_frozen 6) [] (aCons (dVar 1) aNil)))
  (dFrz 3 (dSeq (dNewD 4)
  (dSeq (dFor (iEn (dVar 3)) (bTup 2 (bCons (bName 5) (bCons (bTup 3 (bCons (bName 6) (bCons (bName 7) (bCons (bName 8) bNil)))) bNil)))
  (dSeq (dIf (dtInN false (dTup (aCons (dVar 6) (aCons (dVar 7) aNil))) (kVar 4))
  (dRaise "BadRule" "index" (dVar 5))
  dNext)
  (dPutD 4 (dTup (aCons (dVar 6) (aCons (dVar 7) aNil))) (dVar 8))))
  (dSeq (dFldSet 0 "Watch" "rules" (dVar 3))
  (dSeq (dFldSet 0 "Watch" "good" (dC1 gTuple (aCons (dSortSet (dCall 1 (F_frozen 6) [] (aCons (dVar 2) aNil))) aNil)))
  (dFrzD 4 (dFldSet 0 "Watch" "nexts" (dVar 4)))))))))
def F_Watch___init__ : List D → Res (List (Str × D)) := initD 9 "Watch" g_Watch___init__
abbrev s_l_whole : Stmt := (top 13)
abbrev N_l_whole : List Str := ["_law_value"]
theorem sc_l_whole : FnScope N_l_whole ["_law_value"] (defScope s_l_whole) := ⟨rfl, rfl, rfl, by decide +kernel, rfl, by decide +kernel, by decide +kernel⟩
def g_l_whole : Stm := (dRet (dAnd (dC1 gIsi (aCons (dVar 0) (aCons (dC (.ty "int")) aNil))) (dNot (dC1 gIsi (aCons (dVar 0) (aCons (dC (.ty "bool")) aNil))))))
def F_l_whole : List D → Res EV := runD 1 g_l_whole
abbrev s_l_bad_rule : Stmt := (top 23)
abbrev N_l_bad_rule : List Str := ["_law_rules_here", "_law_good", "_law_index", "e", "_law_rule"]
theorem sc_l_bad_rule : FnScope N_l_bad_rule ["_law_rules_here", "_law_good", "_law_index"] (defScope s_l_bad_rule) := ⟨rfl, rfl, rfl, by decide +kernel, rfl, by decide +kernel, by decide +kernel⟩
def g_l_bad_rule : Stm := (dSeq (dTryAs (fun (n : Str) => if n == "BadRule" then some true else none) 3
  (dDrop (dCall 2 (mkF "Watch" F_Watch___init__) [] (aCons (dLc (iA (dVar 0)) (bName 4) dYes (dLst (aCons (d2 gIx (dVar 4) (dC (.int 0))) (aCons (dC1 gList (aCons (d2 gIx (dVar 4) (dC (.int 1))) aNil)) (aCons (d2 gIx (dVar 4) (dC (.int 2))) aNil)))) [4]) (aCons (dVar 1) aNil))))
  (dSeq (dIf (dOrT (dNotT (dT tTru (dIsX 3 (fun (n : Str) => if n == "BadRule" then some true else none)))) (dNotT (dT tTru (dIsX 3 (fun (n : Str) => if n == "BadRule" then some true else none)))))
  (dRet (dC (.bl false)))
  dNext)
  (dSeq (dIf (dOrT (dT tTru (dIsX 3 (fun (n : Str) => if n == "BadRule" then some false else none))) (dOrT (dT tTru (dIsX 3 (fun (n : Str) => if n == "BadRule" then some false else none))) (dT tTru (dIsX 3 (fun (n : Str) => if n == "BadRule" then some false else none)))))
  (dRet (dC (.bl false)))
  dNext)
  (dRet (dAnd (dCall 1 F_l_whole [] (aCons (dXf 3 (fun (n : Str) => n == "BadRule") "index") aNil)) (d2 gEq (dXf 3 (fun (n : Str) => n == "BadRule") "index") (dVar 2)))))))
  (dRet (dC (.bl false))))
def F_l_bad_rule : List D → Res EV := runD 5 g_l_bad_rule
abbrev s_l_single : Stmt := (top 22)
abbrev N_l_single : List Str := ["_law_rules_here", "_law_kept", "_law_rule"]
theorem sc_l_single : FnScope N_l_single ["_law_rules_here"] (defScope s_l_single) := ⟨rfl, rfl, rfl, by decide +kernel, rfl, by decide +kernel, by decide +kernel⟩
def g_l_single : Stm := (dSeq (dSet 1 (dLst aNil))
  (dSeq (dFor (iA (dVar 0)) (bName 2)
  (dIf (dT tBool (dIsN (dCall 1 F_l_double [] (aCons (d2 gAdd (dVar 1) (dLst (aCons (dVar 2) aNil))) aNil))))
  (dApp 1 (dVar 2))
  dNext))
  (dRetV 1)))
def F_l_single : List D → Res EV := runD 3 g_l_single
abbrev s_l_drawn_moves : Stmt := (top 26)
abbrev N_l_drawn_moves : List Str := ["_law_names_here", "_law_rules_here", "_law_row", "_law_events", "_law_moves", "_law_digit", "_law_event_here", "_law_rule"]
theorem sc_l_drawn_moves : FnScope N_l_drawn_moves ["_law_names_here", "_law_rules_here", "_law_row"] (defScope s_l_drawn_moves) := ⟨rfl, rfl, rfl, by decide +kernel, rfl, by decide +kernel, by decide +kernel⟩
def g_l_drawn_moves : Stm := (dSeq (dSet 3 (d2 gAdd (dLc (iA (dVar 1)) (bName 7) dYes (d2 gIx (dVar 7) (dC (.int 1))) [7]) (dLst (aCons (dTup (aCons (dC (.str "in")) (aCons (d2 gIx (dVar 0) (dC (.int 0))) aNil))) (aCons (dTup (aCons (dC (.str "out")) (aCons (d2 gIx (dVar 0) (dNeg (dC (.int 1)))) (aCons (d2 gIx (dVar 0) (dC (.int 0))) aNil)))) aNil)))))
  (dFrz 3 (dSeq (dSet 4 (dLst aNil))
  (dSeq (dFor (iA (dVar 2)) (bName 5)
  (dSeq (dSet 6 (d2 gIx (dVar 3) (d2 gMod (dC1 gInt (aCons (dVar 5) aNil)) (dC1 gLen (aCons (dVar 3) aNil)))))
  (dFrz 6 (dSeq (dIf (dT tBool (d2 gEq (d2 gIx (dVar 6) (dC (.int 0))) (dC (.str "in"))))
  (dSet 6 (dTup (aCons (dC (.str "in")) (aCons (d2 gIx (dVar 6) (dC (.int 1))) (aCons (d2 gMod (dC1 gInt (aCons (dVar 5) aNil)) (dC (.int 10))) aNil)))))
  dNext)
  (dApp 4 (dVar 6))))))
  (dFrz 6 (dRetV 4))))))
def F_l_drawn_moves : List D → Res EV := runD 8 g_l_drawn_moves
abbrev s_l_same : Stmt := (top 17)
abbrev N_l_same : List Str := ["_law_told", "_law_due", "_law_k"]
theorem sc_l_same : FnScope N_l_same ["_law_told", "_law_due"] (defScope s_l_same) := ⟨rfl, rfl, rfl, by decide +kernel, rfl, by decide +kernel, by decide +kernel⟩
def g_l_same (rec : List D → Res EV) : Stm := (dSeq (dIf (dT tTru (dC1 gIsi (aCons (dVar 1) (aCons (dC (.ty "tuple")) aNil))))
  (dSeq (dIf (dOrT (dNotT (dT tTru (dC1 gIsi (aCons (dVar 0) (aCons (dC (.ty "tuple")) aNil))))) (dT tBool (d2 gNe (dC1 gLen (aCons (dVar 0) aNil)) (dC1 gLen (aCons (dVar 1) aNil)))))
  (dRet (dC (.bl false)))
  dNext)
  (dSeq (dFor (iR1 (dC1 gLen (aCons (dVar 1) aNil))) (bName 2)
  (dIf (dNotT (dT tTru (dCall 2 rec [] (aCons (d2 gIx (dVar 0) (dVar 2)) (aCons (d2 gIx (dVar 1) (dVar 2)) aNil)))))
  (dRet (dC (.bl false)))
  dNext))
  (dRet (dC (.bl true)))))
  dNext)
  (dSeq (dIf (dT tBool (dIsN (dVar 1)))
  (dRet (dIsN (dVar 0)))
  dNext)
  (dSeq (dIf (dT tTru (dC1 gIsi (aCons (dVar 1) (aCons (dC (.ty "str")) aNil))))
  (dRet (dAnd (dC1 gIsi (aCons (dVar 0) (aCons (dC (.ty "str")) aNil))) (d2 gEq (dVar 0) (dVar 1))))
  dNext)
  (dSeq (dIf (dT tTru (dC1 gIsi (aCons (dVar 1) (aCons (dC (.ty "bool")) aNil))))
  (dRet (dAnd (dC1 gIsi (aCons (dVar 0) (aCons (dC (.ty "bool")) aNil))) (d2 gEq (dVar 0) (dVar 1))))
  dNext)
  (dRet (dAnd (dCall 1 F_l_whole [] (aCons (dVar 0) aNil)) (d2 gEq (dVar 0) (dVar 1))))))))
def F_l_same : Nat → List D → Res EV
  | 0 => fun _ => .stuck
  | n + 1 => runD 3 (g_l_same (F_l_same n))
abbrev s_l_next : Stmt := (top 24)
abbrev N_l_next : List Str := ["_law_rules_here", "_law_state", "_law_event_here", "_law_rule"]
theorem sc_l_next : FnScope N_l_next ["_law_rules_here", "_law_state", "_law_event_here"] (defScope s_l_next) := ⟨rfl, rfl, rfl, by decide +kernel, rfl, by decide +kernel, by decide +kernel⟩
def g_l_next : Stm := (dSeq (dFor (iA (dVar 0)) (bName 3)
  (dIf (dAndT (dT tBool (d2 gEq (d2 gIx (dVar 3) (dC (.int 0))) (dVar 1))) (dT tBool (d2 gEq (d2 gIx (dVar 3) (dC (.int 1))) (dVar 2))))
  (dRet (d2 gIx (dVar 3) (dC (.int 2))))
  dNext))
  (dRetV 1))
def F_l_next : List D → Res EV := runD 4 g_l_next
abbrev s_Watch_state_after : Stmt := (sub 11 3)
abbrev N_Watch_state_after : List Str := ["self", "state", "event"]
theorem sc_Watch_state_after : FnScope N_Watch_state_after ["self", "state", "event"] (defScope s_Watch_state_after) := ⟨rfl, rfl, rfl, by decide +kernel, rfl, by decide +kernel, by decide +kernel⟩
def g_Watch_state_after : Stm := (dRet (dGet2N (kOf (dFld "Watch" "nexts" (dVar 0))) (dTup (aCons (dVar 1) (aCons (dCall 1 (F_frozen 6) [] (aCons (dVar 2) aNil)) aNil))) (dVar 1)))
def F_Watch_state_after : List D → Res EV := runD 3 g_Watch_state_after
abbrev s_event_of_move : Stmt := (top 9)
abbrev N_event_of_move : List Str := ["move"]
theorem sc_event_of_move : FnScope N_event_of_move ["move"] (defScope s_event_of_move) := ⟨rfl, rfl, rfl, by decide +kernel, rfl, by decide +kernel, by decide +kernel⟩
def g_event_of_move : Stm := (dSeq (dIf (dT tBool (d2 gEq (d2 gIx (dVar 0) (dC (.int 0))) (dC (.str "in"))))
  (dRet (dTup (aCons (dC (.str "in")) (aCons (d2 gIx (dVar 0) (dC (.int 1))) aNil))))
  dNext)
  (dRetV 0))
def F_event_of_move : List D → Res EV := runD 1 g_event_of_move
abbrev s_Watch___call__ : Stmt := (sub 11 4)
abbrev N_Watch___call__ : List Str := ["self", "moves", "state", "move"]
theorem sc_Watch___call__ : FnScope N_Watch___call__ ["self", "moves"] (defScope s_Watch___call__) := ⟨rfl, rfl, rfl, by decide +kernel, rfl, by decide +kernel, by decide +kernel⟩
def g_Watch___call__ : Stm := (dSeq (dSet 2 (dC (.int 0)))
  (dSeq (dFor (iA (dCall 1 (F_frozen 6) [] (aCons (dVar 1) aNil))) (bName 3)
  (dSet 2 (dMeth "Watch" "state_after" 3 F_Watch_state_after [] (dVar 0) (aCons (dVar 2) (aCons (dCall 1 F_event_of_move [] (aCons (dVar 3) aNil)) aNil)))))
  (dRet (d2 gIn (dVar 2) (dFld "Watch" "good" (dVar 0))))))
def F_Watch___call__ : List D → Res EV := runD 4 g_Watch___call__
abbrev s_l_of_move : Stmt := (top 25)
abbrev N_l_of_move : List Str := ["_law_move"]
theorem sc_l_of_move : FnScope N_l_of_move ["_law_move"] (defScope s_l_of_move) := ⟨rfl, rfl, rfl, by decide +kernel, rfl, by decide +kernel, by decide +kernel⟩
def g_l_of_move : Stm := (dSeq (dIf (dT tBool (d2 gEq (d2 gIx (dVar 0) (dC (.int 0))) (dC (.str "in"))))
  (dRet (dTup (aCons (dC (.str "in")) (aCons (d2 gIx (dVar 0) (dC (.int 1))) aNil))))
  dNext)
  (dRetV 0))
def F_l_of_move : List D → Res EV := runD 1 g_l_of_move
abbrev s_l_watch_right : Stmt := (top 27)
abbrev N_l_watch_right : List Str := ["_law_watch", "_law_rules_here", "_law_good", "_law_names_here", "_law_moves", "_law_ascending", "_law_events", "_law_name", "_law_state", "_law_event_here", "_law_due", "_law_handed", "_law_k", "_law_told", "_law_cloak", "_law_move"]
theorem sc_l_watch_right : FnScope N_l_watch_right ["_law_watch", "_law_rules_here", "_law_good", "_law_names_here", "_law_moves"] (defScope s_l_watch_right) := ⟨rfl, rfl, rfl, by decide +kernel, rfl, by decide +kernel, by decide +kernel⟩
def g_l_watch_right : Stm := (dSeq (dSet 5 (dC1 gTuple (aCons (dLc (iR1 (dC (.int 10))) (bName 8) (dT tBool (d2 gIn (dVar 8) (dVar 2))) (dVar 8) [8]) aNil)))
  (dSeq (dIf (dOrT (dNotT (dT tTru (dCall 2 (F_l_same 5) [] (aCons (dFld "Watch" "rules" (dVar 0)) (aCons (dC1 gTuple (aCons (dVar 1) aNil)) aNil))))) (dNotT (dT tTru (dCall 2 (F_l_same 5) [] (aCons (dFld "Watch" "good" (dVar 0)) (aCons (dVar 5) aNil))))))
  (dRet (dC (.bl false)))
  dNext)
  (dSeq (dSet 6 (dLc (iA (dVar 3)) (bName 7) dYes (dTup (aCons (dC (.str "in")) (aCons (dVar 7) aNil))) [7]))
  (dFrz 6 (dSeq (dFor (iA (dVar 3)) (bName 7)
  (dSet 6 (d2 gAdd (dVar 6) (dLc (iA (dVar 3)) (bName 14) dYes (dTup (aCons (dC (.str "out")) (aCons (dVar 7) (aCons (dVar 14) aNil)))) [14]))))
  (dFrz 6 (dSeq (dFor (iR1 (dC (.int 10))) (bName 8)
  (dFor (iA (dVar 6)) (bName 9)
  (dSeq (dSet 10 (dCall 3 F_l_next [] (aCons (dVar 1) (aCons (dVar 8) (aCons (dVar 9) aNil)))))
  (dFrz 10 (dSeq (dSet 11 (dC1 gList (aCons (dVar 9) aNil)))
  (dFrz 11 (dSeq (dIf (dNotT (dT tTru (dCall 2 (F_l_same 5) [] (aCons (dMeth "Watch" "state_after" 3 F_Watch_state_after [] (dVar 0) (aCons (dVar 8) (aCons (dVar 9) aNil))) (aCons (dVar 10) aNil)))))
  (dRet (dC (.bl false)))
  dNext)
  (dIf (dOrT (dNotT (dT tTru (dCall 2 (F_l_same 5) [] (aCons (dMeth "Watch" "state_after" 3 F_Watch_state_after [] (dVar 0) (aCons (dVar 8) (aCons (dVar 11) aNil))) (aCons (dVar 10) aNil))))) (dT tBool (d2 gNe (dVar 11) (dC1 gList (aCons (dVar 9) aNil)))))
  (dRet (dC (.bl false)))
  dNext))))))))
  (dFrz 10 (dFrz 11 (dSeq (dSet 8 (dC (.int 0)))
  (dSeq (dFor (iR1 (d2 gAdd (dC1 gLen (aCons (dVar 4) aNil)) (dC (.int 1)))) (bName 12)
  (dSeq (dSet 13 (dCallI "Watch" 2 F_Watch___call__ [] (dVar 0) (aCons (dSl (dVar 4) none (some (dVar 12))) aNil)))
  (dFrz 13 (dSeq (dIf (dOrT (dNotT (dT tTru (dC1 gIsi (aCons (dVar 13) (aCons (dC (.ty "bool")) aNil))))) (dT tBool (d2 gNe (dVar 13) (d2 gIn (dVar 8) (dVar 2)))))
  (dRet (dC (.bl false)))
  dNext)
  (dIf (dT tBool (d2 gLt (dVar 12) (dC1 gLen (aCons (dVar 4) aNil))))
  (dSet 8 (dCall 3 F_l_next [] (aCons (dVar 1) (aCons (dVar 8) (aCons (dCall 1 F_l_of_move [] (aCons (d2 gIx (dVar 4) (dVar 12)) aNil)) aNil)))))
  dNext)))))
  (dFrz 13 (dFrz 8 (dSeq (dSet 11 (dLc (iA (dVar 4)) (bName 15) dYes (dC1 gList (aCons (dVar 15) aNil)) [15]))
  (dFrz 11 (dRet (dAnd (dCall 2 (F_l_same 5) [] (aCons (dCallI "Watch" 2 F_Watch___call__ [] (dVar 0) (aCons (dVar 11) aNil)) (aCons (d2 gIn (dVar 8) (dVar 2)) aNil))) (d2 gEq (dVar 11) (dLc (iA (dVar 4)) (bName 15) dYes (dC1 gList (aCons (dVar 15) aNil)) [15])))))))))))))))))))
def F_l_watch_right : List D → Res EV := runD 16 g_l_watch_right
abbrev s_Watch___invert__ : Stmt := (sub 11 5)
abbrev N_Watch___invert__ : List Str := ["self", "state"]
theorem sc_Watch___invert__ : FnScope N_Watch___invert__ ["self"] (defScope s_Watch___invert__) := ⟨rfl, rfl, rfl, by decide +kernel, rfl, by decide +kernel, by decide +kernel⟩
def g_Watch___invert__ : Stm := (dRet (dCall 2 (mkF "Watch" F_Watch___init__) [] (aCons (dFld "Watch" "rules" (dVar 0)) (aCons (dLc (iR1 (dC (.int 10))) (bName 1) (dT tBool (d2 gNotIn (dVar 1) (dFld "Watch" "good" (dVar 0)))) (dVar 1) [1]) aNil))))
def F_Watch___invert__ : List D → Res EV := runD 2 g_Watch___invert__
abbrev s_Watch_never : Stmt := (sub 11 1)
abbrev N_Watch_never : List Str := ["event"]
theorem sc_Watch_never : FnScope N_Watch_never ["event"] (defScope s_Watch_never) := ⟨rfl, rfl, rfl, by decide +kernel, rfl, by decide +kernel, by decide +kernel⟩
def g_Watch_never : Stm := (dRet (dCall 2 (mkF "Watch" F_Watch___init__) [] (aCons (dLst (aCons (dTup (aCons (dC (.int 0)) (aCons (dVar 0) (aCons (dC (.int 1)) aNil)))) aNil)) (aCons (dLst (aCons (dC (.int 0)) aNil)) aNil))))
def F_Watch_never : List D → Res EV := runD 1 g_Watch_never
abbrev s_Watch_follows : Stmt := (sub 11 2)
abbrev N_Watch_follows : List Str := ["event", "other"]
theorem sc_Watch_follows : FnScope N_Watch_follows ["event", "other"] (defScope s_Watch_follows) := ⟨rfl, rfl, rfl, by decide +kernel, rfl, by decide +kernel, by decide +kernel⟩
def g_Watch_follows : Stm := (dRet (dCall 2 (mkF "Watch" F_Watch___init__) [] (aCons (dLst (aCons (dTup (aCons (dC (.int 0)) (aCons (dVar 0) (aCons (dC (.int 1)) aNil)))) (aCons (dTup (aCons (dC (.int 1)) (aCons (dVar 1) (aCons (dC (.int 0)) aNil)))) aNil))) (aCons (dLst (aCons (dC (.int 0)) aNil)) aNil))))
def F_Watch_follows : List D → Res EV := runD 2 g_Watch_follows
abbrev s_l_meant : Stmt := (top 28)
abbrev N_l_meant : List Str := ["_law_event_here", "_law_other", "_law_names_here", "_law_moves", "_law_never", "_law_follows", "_law_seen", "_law_late", "_law_move", "_law_k"]
theorem sc_l_meant : FnScope N_l_meant ["_law_event_here", "_law_other", "_law_names_here", "_law_moves"] (defScope s_l_meant) := ⟨rfl, rfl, rfl, by decide +kernel, rfl, by decide +kernel, by decide +kernel⟩
def g_l_meant : Stm := (dSeq (dSet 4 (dCall 1 F_Watch_never [] (aCons (dC1 gList (aCons (dVar 0) aNil)) aNil)))
  (dSeq (dSet 5 (dCall 2 F_Watch_follows [] (aCons (dVar 0) (aCons (dC1 gList (aCons (dVar 1) aNil)) aNil))))
  (dSeq (dIf (dNotT (dT tTru (dCall 5 F_l_watch_right [] (aCons (dVar 4) (aCons (dLst (aCons (dTup (aCons (dC (.int 0)) (aCons (dVar 0) (aCons (dC (.int 1)) aNil)))) aNil)) (aCons (dLst (aCons (dC (.int 0)) aNil)) (aCons (dVar 2) (aCons (dVar 3) aNil))))))))
  (dRet (dC (.bl false)))
  dNext)
  (dSeq (dIf (dNotT (dT tTru (dCall 5 F_l_watch_right [] (aCons (dVar 5) (aCons (dLst (aCons (dTup (aCons (dC (.int 0)) (aCons (dVar 0) (aCons (dC (.int 1)) aNil)))) (aCons (dTup (aCons (dC (.int 1)) (aCons (dVar 1) (aCons (dC (.int 0)) aNil)))) aNil))) (aCons (dLst (aCons (dC (.int 0)) aNil)) (aCons (dVar 2) (aCons (dVar 3) aNil))))))))
  (dRet (dC (.bl false)))
  dNext)
  (dSeq (dSet 6 (dLc (iA (dVar 3)) (bName 8) dYes (dCall 1 F_l_of_move [] (aCons (dVar 8) aNil)) [8]))
  (dFrz 6 (dSeq (dSet 7 (dLc (iR1 (dC1 gLen (aCons (dVar 6) aNil))) (bName 9) (dAndT (dT tBool (d2 gEq (d2 gIx (dVar 6) (dVar 9)) (dVar 0))) (dT tBool (d2 gNotIn (dVar 1) (dSl (dVar 6) (some (d2 gAdd (dVar 9) (dC (.int 1)))) none)))) (dVar 9) [9]))
  (dFrz 7 (dRet (dAnd (dCall 2 (F_l_same 5) [] (aCons (dCallI "Watch" 2 F_Watch___call__ [] (dVar 4) (aCons (dC1 gTuple (aCons (dVar 3) aNil)) aNil)) (aCons (d2 gNotIn (dVar 0) (dVar 6)) aNil))) (dCall 2 (F_l_same 5) [] (aCons (dCallI "Watch" 2 F_Watch___call__ [] (dVar 5) (aCons (dC1 gList (aCons (dVar 3) aNil)) aNil)) (aCons (d2 gEq (dC1 gLen (aCons (dVar 7) aNil)) (dC (.int 0))) aNil)))))))))))))
def F_l_meant : List D → Res EV := runD 10 g_l_meant
abbrev s_law : Stmt := (top 29)
abbrev N_law : List Str := ["_law_script", "_law_head", "_law_names_here", "_law_rules_here", "_law_row", "_law_good", "_law_place", "_law_twin", "_law_later", "_law_index", "_law_digits_here", "_law_many", "_law_moves", "_law_handed", "_law_told_good", "_law_watch", "_law_rule", "_law_rest", "_law_pick", "_law_events", "_law_event_here", "_law_others", "_law_state", "_law_one"]
theorem sc_law : FnScope N_law ["_law_script"] (defScope s_law) := ⟨rfl, rfl, rfl, by decide +kernel, rfl, by decide +kernel, by decide +kernel⟩
def g_law : Stm := (dSeq (dSet 1 (dCall 2 F_l_digits [] (aCons (dCall 2 F_l_cell [] (aCons (dVar 0) (aCons (dC (.int 0)) aNil))) (aCons (dLst (aCons (dC (.int 16)) (aCons (dC (.int 5)) (aCons (dC (.int 8)) (aCons (dC (.int 26)) (aCons (dC (.int 4)) (aCons (dC (.int 12)) (aCons (dC (.int 60)) (aCons (dC (.int 3)) (aCons (dC (.int 60)) (aCons (dC (.int 60)) (aCons (dC (.int 27)) aNil)))))))))))) aNil))))
  (dFrz 1 (dSeq (dSet 2 (dCall 2 F_l_strange [] (aCons (dCall 2 F_l_names [] (aCons (dSl (dVar 1) none (some (dC (.int 4)))) (aCons (d2 gAdd (dC (.int 1)) (d2 gIx (dVar 1) (dC (.int 4)))) aNil))) (aCons (d2 gIx (dVar 1) (dC (.int 10))) aNil))))
  (dFrz 2 (dSeq (dSet 3 (dCall 3 F_l_rules [] (aCons (dVar 0) (aCons (dVar 2) (aCons (d2 gIx (dLst (aCons (dC (.int 3)) (aCons (dC (.int 4)) (aCons (dC (.int 5)) (aCons (dC (.int 2)) (aCons (dC (.int 6)) (aCons (dC (.int 7)) (aCons (dC (.int 9)) (aCons (dC (.int 1)) (aCons (dC (.int 4)) (aCons (dC (.int 0)) (aCons (dC (.int 5)) (aCons (dC (.int 3)) aNil))))))))))))) (d2 gIx (dVar 1) (dC (.int 5)))) aNil)))))
  (dFrz 3 (dSeq (dSet 4 (dCall 2 F_l_digits [] (aCons (dCall 2 F_l_cell [] (aCons (dVar 0) (aCons (dC (.int 1)) aNil))) (aCons (d2 gAdd (d2 gMul (dLst (aCons (dC (.int 10)) aNil)) (dC (.int 8))) (dLst (aCons (dC (.int 9)) aNil))) aNil))))
  (dFrz 4 (dSeq (dSet 5 (dSl (dVar 4) none (some (d2 gIx (dVar 4) (dC (.int 8))))))
  (dFrz 5 (dSeq (dIf (dAndT (dT tBool (d2 gEq (d2 gIx (dVar 1) (dC (.int 7))) (dC (.int 0)))) (dT tBool (d2 gGt (dC1 gLen (aCons (dVar 3) aNil)) (dC (.int 0)))))
  (dSeq (dSet 6 (d2 gMod (dC1 gInt (aCons (d2 gIx (dVar 1) (dC (.int 6))) aNil)) (dC1 gLen (aCons (dVar 3) aNil))))
  (dSeq (dSet 7 (dTup (aCons (d2 gIx (d2 gIx (dVar 3) (dVar 6)) (dC (.int 0))) (aCons (d2 gIx (d2 gIx (dVar 3) (dVar 6)) (dC (.int 1))) (aCons (d2 gIx (dLst (aCons (d2 gIx (d2 gIx (dVar 3) (dVar 6)) (dC (.int 2))) (aCons (d2 gMod (dC1 gInt (aCons (d2 gIx (dVar 1) (dC (.int 8))) aNil)) (dC (.int 10))) aNil))) (d2 gMod (dC1 gInt (aCons (d2 gIx (dVar 1) (dC (.int 8))) aNil)) (dC (.int 2)))) aNil)))))
  (dSeq (dSet 8 (d2 gAdd (d2 gAdd (dVar 6) (dC (.int 1))) (d2 gMod (dC1 gInt (aCons (d2 gIx (dVar 1) (dC (.int 9))) aNil)) (d2 gSub (dC1 gLen (aCons (dVar 3) aNil)) (dVar 6)))))
  (dFrz 8 (dSet 3 (d2 gAdd (d2 gAdd (dSl (dVar 3) none (some (dVar 8))) (dLst (aCons (dVar 7) aNil))) (dSl (dVar 3) (some (dVar 8)) none)))))))
  dNext)
  (dFrz 8 (dFrz 3 (dSeq (dSet 9 (dCall 1 F_l_double [] (aCons (dVar 3) aNil)))
  (dFrz 9 (dSeq (dIf (dT tBool (dNotN (dVar 9)))
  (dSeq (dIf (dNotT (dT tTru (dCall 3 F_l_bad_rule [] (aCons (dVar 3) (aCons (dC1 gList (aCons (dVar 5) aNil)) (aCons (dVar 9) aNil))))))
  (dRet (dC (.bl false)))
  dNext)
  (dSet 3 (dCall 1 F_l_single [] (aCons (dVar 3) aNil))))
  dNext)
  (dFrz 3 (dSeq (dSet 10 (dCall 2 F_l_digits [] (aCons (dCall 2 F_l_cell [] (aCons (dVar 0) (aCons (dC (.int 11)) aNil))) (aCons (d2 gAdd (dLst (aCons (dC (.int 16)) aNil)) (d2 gMul (dLst (aCons (dC (.int 60)) aNil)) (dC (.int 60)))) aNil))))
  (dFrz 10 (dSeq (dSet 11 (d2 gIx (dLst (aCons (dC (.int 4)) (aCons (dC (.int 2)) (aCons (dC (.int 3)) (aCons (dC (.int 6)) (aCons (dC (.int 8)) (aCons (dC (.int 10)) (aCons (dC (.int 1)) (aCons (dC (.int 12)) (aCons (dC (.int 16)) (aCons (dC (.int 20)) (aCons (dC (.int 5)) (aCons (dC (.int 24)) (aCons (dC (.int 30)) (aCons (dC (.int 0)) (aCons (dC (.int 40)) (aCons (dC (.int 60)) aNil))))))))))))))))) (d2 gIx (dVar 10) (dC (.int 0)))))
  (dFrz 11 (dSeq (dSet 12 (dCall 3 F_l_drawn_moves [] (aCons (dVar 2) (aCons (dVar 3) (aCons (dSl (dVar 10) (some (dC (.int 1))) (some (d2 gAdd (dC (.int 1)) (dVar 11)))) aNil)))))
  (dFrz 12 (dSeq (dSet 13 (dLc (iA (dVar 3)) (bName 16) dYes (dLst (aCons (d2 gIx (dVar 16) (dC (.int 0))) (aCons (dC1 gList (aCons (d2 gIx (dVar 16) (dC (.int 1))) aNil)) (aCons (d2 gIx (dVar 16) (dC (.int 2))) aNil)))) [16]))
  (dSeq (dSet 14 (dC1 gList (aCons (dVar 5) aNil)))
  (dSeq (dSet 15 (dCall 2 (mkF "Watch" F_Watch___init__) [] (aCons (dVar 13) (aCons (dVar 14) aNil))))
  (dFrz 15 (dSeq (dIf (dOrT (dT tBool (d2 gNe (dVar 13) (dLc (iA (dVar 3)) (bName 16) dYes (dLst (aCons (d2 gIx (dVar 16) (dC (.int 0))) (aCons (dC1 gList (aCons (d2 gIx (dVar 16) (dC (.int 1))) aNil)) (aCons (d2 gIx (dVar 16) (dC (.int 2))) aNil)))) [16]))) (dT tBool (d2 gNe (dVar 14) (dC1 gList (aCons (dVar 5) aNil)))))
  (dRet (dC (.bl false)))
  dNext)
  (dSeq (dForIdx 13 16 2 (fun n => some (9 - n)))
  (dSeq (dApp 13 (dLst (aCons (dC (.int 0)) (aCons (dLst (aCons (dC (.str "in")) (aCons (d2 gIx (dVar 2) (dC (.int 0))) aNil))) (aCons (dC (.int 5)) aNil)))))
  (dSeq (dApp 14 (dC (.int 0)))
  (dSeq (dApp 14 (dC (.int 9)))
  (dSeq (dIf (dNotT (dT tTru (dCall 5 F_l_watch_right [] (aCons (dVar 15) (aCons (dVar 3) (aCons (dVar 5) (aCons (dVar 2) (aCons (dVar 12) aNil))))))))
  (dRet (dC (.bl false)))
  dNext)
  (dSeq (dSet 17 (dLc (iR1 (dC (.int 10))) (bName 22) (dT tBool (d2 gNotIn (dVar 22) (dVar 5))) (dVar 22) [22]))
  (dFrz 17 (dSeq (dIf (dNotT (dT tTru (dCall 5 F_l_watch_right [] (aCons (dSpec "Watch" 1 F_Watch___invert__ [] (dVar 15)) (aCons (dVar 3) (aCons (dVar 17) (aCons (dVar 2) (aCons (dVar 12) aNil))))))))
  (dRet (dC (.bl false)))
  dNext)
  (dSeq (dSet 18 (dCall 2 F_l_digits [] (aCons (dCall 2 F_l_cell [] (aCons (dVar 0) (aCons (dC (.int 12)) aNil))) (aCons (dLst (aCons (dC (.int 60)) (aCons (dC (.int 60)) aNil))) aNil))))
  (dFrz 18 (dSeq (dSet 19 (d2 gAdd (dLc (iA (dVar 3)) (bName 16) dYes (d2 gIx (dVar 16) (dC (.int 1))) [16]) (dLst (aCons (dTup (aCons (dC (.str "in")) (aCons (d2 gIx (dVar 2) (dC (.int 0))) aNil))) (aCons (dTup (aCons (dC (.str "out")) (aCons (d2 gIx (dVar 2) (dNeg (dC (.int 1)))) (aCons (d2 gIx (dVar 2) (dC (.int 0))) aNil)))) aNil)))))
  (dFrz 19 (dSeq (dSet 20 (d2 gIx (dVar 19) (d2 gMod (dC1 gInt (aCons (d2 gIx (dVar 18) (dC (.int 0))) aNil)) (dC1 gLen (aCons (dVar 19) aNil)))))
  (dFrz 20 (dSeq (dSet 21 (dLc (iA (dVar 19)) (bName 23) (dT tBool (d2 gNe (dVar 23) (dVar 20))) (dVar 23) [23]))
  (dFrz 21 (dSeq (dIf (dNotT (dT tTru (dCall 4 F_l_meant [] (aCons (dVar 20) (aCons (d2 gIx (dVar 21) (d2 gMod (dC1 gInt (aCons (d2 gIx (dVar 18) (dC (.int 1))) aNil)) (dC1 gLen (aCons (dVar 21) aNil)))) (aCons (dVar 2) (aCons (dVar 12) aNil)))))))
  (dRet (dC (.bl false)))
  dNext)
  (dRet (dAnd (dCall 5 F_l_watch_right [] (aCons (dSpec "Watch" 1 F_Watch___invert__ [] (dSpec "Watch" 1 F_Watch___invert__ [] (dVar 15))) (aCons (dVar 3) (aCons (dVar 5) (aCons (dVar 2) (aCons (dVar 12) aNil)))))) (dCall 5 F_l_watch_right [] (aCons (dVar 15) (aCons (dVar 3) (aCons (dVar 5) (aCons (dVar 2) (aCons (dVar 12) aNil)))))))))))))))))))))))))))))))))))))))))))))))))))))
def F_law : List D → Res EV := runD 24 g_law
end K75
set_option Elab.async false
set_option linter.all false
set_option maxRecDepth 100000
set_option maxHeartbeats 0
namespace K75
open PySem PySem.Spec PyProof.Rows L2 Dl
structure Fds where
  l_digits : FuncData
  l_cell : FuncData
  l_strange : FuncData
  l_names : FuncData
  l_event : FuncData
  l_rules : FuncData
  l_double : FuncData
  frozen : FuncData
  BadRule___init__ : FuncData
  Watch___init__ : FuncData
  l_whole : FuncData
  l_bad_rule : FuncData
  l_single : FuncData
  l_drawn_moves : FuncData
  l_same : FuncData
  l_next : FuncData
  Watch_state_after : FuncData
  event_of_move : FuncData
  Watch___call__ : FuncData
  l_of_move : FuncData
  l_watch_right : FuncData
  Watch___invert__ : FuncData
  Watch_never : FuncData
  Watch_follows : FuncData
  l_meant : FuncData
  law : FuncData
/-- what the head tells -/
structure Fs (P : Program) (w : World) (K : PySem.W.Frag) (mg : Str → Option Value) (fds : Fds) : Prop where
  n_int : mg "int" = none
  n_len : mg "len" = none
  n_range : mg "range" = none
  f_l_digits : FunD K "_law_digits" "_law_digits" (defArgs s_l_digits) (defBody s_l_digits) (defScope s_l_digits) [] [] (He.ga K "_law_digits") fds.l_digits
  f_l_cell : FunD K "_law_cell" "_law_cell" (defArgs s_l_cell) (defBody s_l_cell) (defScope s_l_cell) [] [] (He.ga K "_law_cell") fds.l_cell
  m_l_cell : mg "_law_cell" = some (.ref (He.ga K "_law_cell"))
  m_l_digits : mg "_law_digits" = some (.ref (He.ga K "_law_digits"))
  n_list : mg "list" = none
  f_l_strange : FunD K "_law_strange" "_law_strange" (defArgs s_l_strange) (defBody s_l_strange) (defScope s_l_strange) [] [] (He.ga K "_law_strange") fds.l_strange
  f_l_names : FunD K "_law_names" "_law_names" (defArgs s_l_names) (defBody s_l_names) (defScope s_l_names) [] [] (He.ga K "_law_names") fds.l_names
  m_l_names : mg "_law_names" = some (.ref (He.ga K "_law_names"))
  m_l_strange : mg "_law_strange" = some (.ref (He.ga K "_law_strange"))
  f_l_event : FunD K "_law_event" "_law_event" (defArgs s_l_event) (defBody s_l_event) (defScope s_l_event) [] [] (He.ga K "_law_event") fds.l_event
  m_l_event : mg "_law_event" = some (.ref (He.ga K "_law_event"))
  f_l_rules : FunD K "_law_rules" "_law_rules" (defArgs s_l_rules) (defBody s_l_rules) (defScope s_l_rules) [] [] (He.ga K "_law_rules") fds.l_rules
  m_l_rules : mg "_law_rules" = some (.ref (He.ga K "_law_rules"))
  f_l_double : FunD K "_law_double" "_law_double" (defArgs s_l_double) (defBody s_l_double) (defScope s_l_double) [] [] (He.ga K "_law_double") fds.l_double
  m_l_double : mg "_law_double" = some (.ref (He.ga K "_law_double"))
  em_LeaveError : ∀ (n : Str) (b : Bool), (fun (n : Str) => if n == "BadRule" then some true else none) n = some b → PySem.W.exmOne K (.ref (clOf mg n)) (.ref (clOf mg "LeaveError")) = some b
  n_tuple : mg "tuple" = none
  n_isinstance : mg "isinstance" = none
  m_frozen : mg "frozen" = some (.ref (He.ga K "frozen"))
  f_frozen : FunD K "frozen" "frozen" (defArgs s_frozen) (defBody s_frozen) (defScope s_frozen) [] [] (He.ga K "frozen") fds.frozen
  n_enumerate : mg "enumerate" = none
  f_BadRule___init__ : FunD K "__init__" "BadRule.__init__" (defArgs s_BadRule___init__) (defBody s_BadRule___init__) (defScope s_BadRule___init__) [] [] (He.ma K (He.ga K "BadRule") "__init__") fds.BadRule___init__
  ox_BadRule : OexC K (clOf mg "BadRule")
  nf_BadRule : PySem.W.findIn K (.ref (clOf mg "BadRule")) "index" = some none
  ii_BadRule : PySem.W.findIn K (.ref (clOf mg "BadRule")) "__init__" = some (some (.ref (He.ma K (He.ga K "BadRule") "__init__")))
  ti_BadRule : PySem.W.typeIn K (.ref (He.ma K (He.ga K "BadRule") "__init__")) = some (.type "function")
  c_BadRule : mg "BadRule" = some (.ref (clOf mg "BadRule"))
  cl_Watch : Cls K (clOf mg "Watch")
  na_Watch_rules : NoAttr K (clOf mg "Watch") "rules"
  n_sorted : mg "sorted" = none
  n_set : mg "set" = none
  na_Watch_good : NoAttr K (clOf mg "Watch") "good"
  na_Watch_nexts : NoAttr K (clOf mg "Watch") "nexts"
  f_Watch___init__ : FunD K "__init__" "Watch.__init__" (defArgs s_Watch___init__) (defBody s_Watch___init__) (defScope s_Watch___init__) [] [] (He.ma K (He.ga K "Watch") "__init__") fds.Watch___init__
  mk_Watch : Mk K (clOf mg "Watch") (He.ma K (He.ga K "Watch") "__init__")
  c_Watch : mg "Watch" = some (.ref (clOf mg "Watch"))
  ki_BadRule : ∀ (n : Str) (b : Bool), (fun (n : Str) => if n == "BadRule" then some true else none) n = some b → ExcC K (clOf mg n) ∧ PySem.W.kitOne K (.ref (clOf mg n)) (.ref (clOf mg "BadRule")) = some b
  n_ValueError : mg "ValueError" = none
  ki_ValueError : ∀ (n : Str) (b : Bool), (fun (n : Str) => if n == "BadRule" then some true else none) n = some b → ExcC K (clOf mg n) ∧ PySem.W.kitOne K (.ref (clOf mg n)) (.type "ValueError") = some b
  c_BadStep : mg "BadStep" = some (.ref (clOf mg "BadStep"))
  ki_BadStep : ∀ (n : Str) (b : Bool), (fun (n : Str) => if n == "BadRule" then some false else none) n = some b → ExcC K (clOf mg n) ∧ PySem.W.kitOne K (.ref (clOf mg n)) (.ref (clOf mg "BadStep")) = some b
  c_NoEvening : mg "NoEvening" = some (.ref (clOf mg "NoEvening"))
  ki_NoEvening : ∀ (n : Str) (b : Bool), (fun (n : Str) => if n == "BadRule" then some false else none) n = some b → ExcC K (clOf mg n) ∧ PySem.W.kitOne K (.ref (clOf mg n)) (.ref (clOf mg "NoEvening")) = some b
  c_UnknownGuest : mg "UnknownGuest" = some (.ref (clOf mg "UnknownGuest"))
  ki_UnknownGuest : ∀ (n : Str) (b : Bool), (fun (n : Str) => if n == "BadRule" then some false else none) n = some b → ExcC K (clOf mg n) ∧ PySem.W.kitOne K (.ref (clOf mg n)) (.ref (clOf mg "UnknownGuest")) = some b
  n_bool : mg "bool" = none
  f_l_whole : FunD K "_law_whole" "_law_whole" (defArgs s_l_whole) (defBody s_l_whole) (defScope s_l_whole) [] [] (He.ga K "_law_whole") fds.l_whole
  xf_index : ∀ n : Str, (fun (n : Str) => n == "BadRule") n = true → XfC K (clOf mg n) ∧ PySem.W.findIn K (.ref (clOf mg n)) "index" = some none
  m_l_whole : mg "_law_whole" = some (.ref (He.ga K "_law_whole"))
  c_LeaveError : mg "LeaveError" = some (.ref (clOf mg "LeaveError"))
  f_l_bad_rule : FunD K "_law_bad_rule" "_law_bad_rule" (defArgs s_l_bad_rule) (defBody s_l_bad_rule) (defScope s_l_bad_rule) [] [] (He.ga K "_law_bad_rule") fds.l_bad_rule
  m_l_bad_rule : mg "_law_bad_rule" = some (.ref (He.ga K "_law_bad_rule"))
  f_l_single : FunD K "_law_single" "_law_single" (defArgs s_l_single) (defBody s_l_single) (defScope s_l_single) [] [] (He.ga K "_law_single") fds.l_single
  m_l_single : mg "_law_single" = some (.ref (He.ga K "_law_single"))
  f_l_drawn_moves : FunD K "_law_drawn_moves" "_law_drawn_moves" (defArgs s_l_drawn_moves) (defBody s_l_drawn_moves) (defScope s_l_drawn_moves) [] [] (He.ga K "_law_drawn_moves") fds.l_drawn_moves
  m_l_drawn_moves : mg "_law_drawn_moves" = some (.ref (He.ga K "_law_drawn_moves"))
  m_l_same : mg "_law_same" = some (.ref (He.ga K "_law_same"))
  n_str : mg "str" = none
  f_l_same : FunD K "_law_same" "_law_same" (defArgs s_l_same) (defBody s_l_same) (defScope s_l_same) [] [] (He.ga K "_law_same") fds.l_same
  f_l_next : FunD K "_law_next" "_law_next" (defArgs s_l_next) (defBody s_l_next) (defScope s_l_next) [] [] (He.ga K "_law_next") fds.l_next
  m_l_next : mg "_law_next" = some (.ref (He.ga K "_law_next"))
  f_Watch_state_after : FunD K "state_after" "Watch.state_after" (defArgs s_Watch_state_after) (defBody s_Watch_state_after) (defScope s_Watch_state_after) [] [] (He.ma K (He.ga K "Watch") "state_after") fds.Watch_state_after
  me_Watch_state_after : Meth K (clOf mg "Watch") "state_after" (He.ma K (He.ga K "Watch") "state_after")
  f_event_of_move : FunD K "event_of_move" "event_of_move" (defArgs s_event_of_move) (defBody s_event_of_move) (defScope s_event_of_move) [] [] (He.ga K "event_of_move") fds.event_of_move
  m_event_of_move : mg "event_of_move" = some (.ref (He.ga K "event_of_move"))
  f_Watch___call__ : FunD K "__call__" "Watch.__call__" (defArgs s_Watch___call__) (defBody s_Watch___call__) (defScope s_Watch___call__) [] [] (He.ma K (He.ga K "Watch") "__call__") fds.Watch___call__
  co_Watch : StX.CallO K (clOf mg "Watch") (He.ma K (He.ga K "Watch") "__call__")
  f_l_of_move : FunD K "_law_of_move" "_law_of_move" (defArgs s_l_of_move) (defBody s_l_of_move) (defScope s_l_of_move) [] [] (He.ga K "_law_of_move") fds.l_of_move
  m_l_of_move : mg "_law_of_move" = some (.ref (He.ga K "_law_of_move"))
  f_l_watch_right : FunD K "_law_watch_right" "_law_watch_right" (defArgs s_l_watch_right) (defBody s_l_watch_right) (defScope s_l_watch_right) [] [] (He.ga K "_law_watch_right") fds.l_watch_right
  m_l_watch_right : mg "_law_watch_right" = some (.ref (He.ga K "_law_watch_right"))
  iv_Watch : PySem.W.findIn K (.ref (clOf mg "Watch")) "__invert__" = some (some (.ref (He.ma K (He.ga K "Watch") "__invert__")))
  ivf_Watch : PySem.W.isFn K (.ref (He.ma K (He.ga K "Watch") "__invert__")) = true
  f_Watch___invert__ : FunD K "__invert__" "Watch.__invert__" (defArgs s_Watch___invert__) (defBody s_Watch___invert__) (defScope s_Watch___invert__) [] [] (He.ma K (He.ga K "Watch") "__invert__") fds.Watch___invert__
  f_Watch_never : FunD K "never" "Watch.never" (defArgs s_Watch_never) (defBody s_Watch_never) (defScope s_Watch_never) [] [] (He5.wf K (He.ga K "Watch") "staticmethod" "never") fds.Watch_never
  st_Watch_never : StM K (clOf mg "Watch") "never" (He.ma K (He.ga K "Watch") "never") (He5.wf K (He.ga K "Watch") "staticmethod" "never")
  f_Watch_follows : FunD K "follows" "Watch.follows" (defArgs s_Watch_follows) (defBody s_Watch_follows) (defScope s_Watch_follows) [] [] (He5.wf K (He.ga K "Watch") "staticmethod" "follows") fds.Watch_follows
  st_Watch_follows : StM K (clOf mg "Watch") "follows" (He.ma K (He.ga K "Watch") "follows") (He5.wf K (He.ga K "Watch") "staticmethod" "follows")
  f_l_meant : FunD K "_law_meant" "_law_meant" (defArgs s_l_meant) (defBody s_l_meant) (defScope s_l_meant) [] [] (He.ga K "_law_meant") fds.l_meant
  m_l_meant : mg "_law_meant" = some (.ref (He.ga K "_law_meant"))
  f_law : FunD K "law" "law" (defArgs s_law) (defBody s_law) (defScope s_law) [] [] (He.ga K "law") fds.law
section
variable {P : Program} {w : World} {K : PySem.W.Frag} {mg : Str → Option Value} {base : Heap} {fds : Fds}
theorem bd_l_digits (Z : Fs P w K mg fds) : Binds K fds.l_digits ["_law_cell_here", "_law_sizes"] [] := Z.f_l_digits.bindsN fun _ _ _ _ _ _ us hl => match us, hl with | [_, _], _ => rfl
theorem ok_l_digits (Z : Fs P w K mg fds) : FnOk P w K mg base (L2N.CX P w) 1 (He.ga K "_law_digits") fds.l_digits ["_law_cell_here", "_law_sizes"] (spD ⟨P, w, K, mg, 0, none, .none⟩ 2 F_l_digits) := fn_d (k := 0) Z.f_l_digits sc_l_digits rfl fun cdv A outer s H E L => by
    have hu := L.u65
    have hu16 := L.u16
    have nd := sc_l_digits.nd
    exact (dss_cons (ds_set (i := 2) nd (de_lst da_nil))
    (dss_cons (ds_set (i := 3) nd (de_intC Z.n_int (da_cons (de_var 0) da_nil)))
    (dss_cons (ds_if (dt_ge (de_var 3) (de_pow de_int de_int))
    (dss_cons (ds_set (i := 3) nd (de_sub (de_var 3) (de_pow de_int de_int)))
    (dss_cons (ds_for L.own L.calm (di_any (de_var 1)) (dg_name (i := 4) nd)
    (dss_cons (ds_app 2 (de_mod (de_intC Z.n_int (da_cons (de_var 3) da_nil)) (de_var 4)))
    (dss_one (ds_set (i := 3) nd (de_fdv (de_intC Z.n_int (da_cons (de_var 3) da_nil)) (de_var 4))))))
    (dss_one (ds_retV 2))))
    dss_nil)
    (dss_cons (ds_set (i := 5) nd (de_mod (de_intC Z.n_int (da_cons (de_var 3) da_nil)) de_int))
    (dss_cons (ds_for L.own L.calm (di_range1 (de_len Z.n_len (da_cons (de_var 1) da_nil)) rfl Z.n_range) (dg_name (i := 6) nd)
    (dss_cons (ds_set (i := 5) nd (de_mod (de_intC Z.n_int (da_cons (de_add (de_add (de_mul (de_var 5) de_int) (de_mul de_int (de_var 6))) de_int) da_nil)) de_int))
    (dss_cons (ds_set (i := 7) nd (de_mod (de_intC Z.n_int (da_cons (de_mul (de_var 5) (de_add (de_fdv (de_var 5) de_int) de_int)) da_nil)) de_int))
    (dss_one (ds_app 2 (de_mod (de_fdv (de_var 7) de_int) (de_sub_ix (de_var 1) (de_var 6))))))))
    (dss_one (ds_retV 2)))))))
theorem bd_l_cell (Z : Fs P w K mg fds) : Binds K fds.l_cell ["_law_script", "_law_k"] [] := Z.f_l_cell.bindsN fun _ _ _ _ _ _ us hl => match us, hl with | [_, _], _ => rfl
theorem ok_l_cell (Z : Fs P w K mg fds) : FnOk P w K mg base (L2N.CX P w) 1 (He.ga K "_law_cell") fds.l_cell ["_law_script", "_law_k"] (spD ⟨P, w, K, mg, 0, none, .none⟩ 2 F_l_cell) := fn_d (k := 0) Z.f_l_cell sc_l_cell rfl fun cdv A outer s H E L => by
    have hu := L.u65
    have hu16 := L.u16
    have nd := sc_l_cell.nd
    exact (dss_cons (ds_if (dt_lt (de_var 1) (de_len Z.n_len (da_cons (de_var 0) da_nil)))
    (dss_one (ds_ret (de_sub_ix (de_var 0) (de_var 1))))
    dss_nil)
    (dss_cons (ds_set (i := 2) nd de_int)
    (dss_cons (ds_for L.own L.calm (di_any (de_var 0)) (dg_name (i := 3) nd)
    (dss_one (ds_set (i := 2) nd (de_mod (de_intC Z.n_int (da_cons (de_add (de_mul (de_var 2) de_int) (de_mod (de_intC Z.n_int (da_cons (de_var 3) da_nil)) de_int)) da_nil)) de_int))))
    (dss_one (ds_ret (de_mod (de_intC Z.n_int (da_cons (de_mul (de_mul (de_add (de_var 2) de_int) (de_add (de_var 1) de_int)) de_int) da_nil)) de_int))))))
theorem bd_l_strange (Z : Fs P w K mg fds) : Binds K fds.l_strange ["_law_names_here", "_law_digit"] [] := Z.f_l_strange.bindsN fun _ _ _ _ _ _ us hl => match us, hl with | [_, _], _ => rfl
theorem ok_l_strange (Z : Fs P w K mg fds) : FnOk P w K mg base (L2N.CX P w) 1 (He.ga K "_law_strange") fds.l_strange ["_law_names_here", "_law_digit"] (spD ⟨P, w, K, mg, 0, none, .none⟩ 2 F_l_strange) := fn_d (k := 0) Z.f_l_strange sc_l_strange rfl fun cdv A outer s H E L => by
    have hu := L.u65
    have hu16 := L.u16
    have nd := sc_l_strange.nd
    exact (dss_cons (ds_set (i := 2) nd (de_lst (da_cons de_str (da_cons de_str (da_cons de_str (da_cons de_str (da_cons de_str (da_cons (de_add (de_add (de_sub_ix (de_var 0) de_int) (de_sub_ix (de_var 0) (de_neg de_int))) de_str) (da_cons de_str (da_cons de_str (da_cons de_str da_nil)))))))))))
    (dss_frz 2 (dss_cons (ds_set (i := 3) nd (de_listC Z.n_list (da_cons (de_var 0) da_nil)))
    (dss_cons (ds_if (dw_t (dw_and (dt_lt (de_var 1) de_int) (dw_and1 (dt_notIn hu (de_sub_ix (de_var 2) (de_var 1)) (de_var 0)))))
    (dss_one (ds_lput 3 (de_mod (de_intC Z.n_int (da_cons (de_var 1) da_nil)) (de_len Z.n_len (da_cons (de_var 0) da_nil))) (de_sub_ix (de_var 2) (de_var 1))))
    dss_nil)
    (dss_one (ds_retV 3))))))
theorem bd_l_names (Z : Fs P w K mg fds) : Binds K fds.l_names ["_law_row", "_law_many"] [] := Z.f_l_names.bindsN fun _ _ _ _ _ _ us hl => match us, hl with | [_, _], _ => rfl
theorem ok_l_names (Z : Fs P w K mg fds) : FnOk P w K mg base (L2N.CX P w) 1 (He.ga K "_law_names") fds.l_names ["_law_row", "_law_many"] (spD ⟨P, w, K, mg, 0, none, .none⟩ 2 F_l_names) := fn_d (k := 0) Z.f_l_names sc_l_names rfl fun cdv A outer s H E L => by
    have hu := L.u65
    have hu16 := L.u16
    have nd := sc_l_names.nd
    exact (dss_cons (ds_if (dt_lt (de_sub_ix (de_var 0) de_int) de_int)
    (dss_cons (ds_set (i := 2) nd (de_lst (da_cons de_str (da_cons de_str (da_cons de_str (da_cons de_str (da_cons de_str (da_cons de_str (da_cons de_str (da_cons de_str da_nil))))))))))
    (dss_frz 2 (dss_one (ds_ret (de_lc [("_law_k", 6)] L.calm nd (di_range1 (de_var 1) rfl Z.n_range) rfl (fun s H C cl fp => (dg_name (i := 6) nd)) (fun s H C cl fp => dts_nil) (fun s H C cl fp => (de_sub_ix (de_var 2) (de_mod (de_intC Z.n_int (da_cons (de_add (de_mul (de_sub_ix (de_var 0) de_int) de_int) (de_mul (de_var 6) de_int)) da_nil)) de_int))))))))
    dss_nil)
    (dss_frz 2 (dss_cons (ds_set (i := 3) nd de_str)
    (dss_cons (ds_if (dw_t (dw_and (dt_eq hu (de_sub_ix (de_var 0) de_int) de_int) (dw_and1 (dt_gt (de_sub_ix (de_var 0) de_int) de_int))))
    (dss_one (ds_ret (de_lc [("_law_k", 6)] L.calm nd (di_range1 (de_var 1) rfl Z.n_range) rfl (fun s H C cl fp => (dg_name (i := 6) nd)) (fun s H C cl fp => dts_nil) (fun s H C cl fp => (de_mul (de_sub_ix (de_var 3) (de_intC Z.n_int (da_cons (de_sub_ix (de_var 0) de_int) da_nil))) (de_add de_int (de_mod (de_intC Z.n_int (da_cons (de_add (de_sub_ix (de_var 0) de_int) (de_mul de_int (de_var 6))) da_nil)) de_int)))))))
    dss_nil)
    (dss_cons (ds_set (i := 4) nd (de_sub_ix (de_lst (da_cons de_str (da_cons de_str (da_cons de_str (da_cons de_str (da_cons de_str da_nil)))))) (de_sub_ix (de_var 0) de_int)))
    (dss_frz 4 (dss_cons (ds_set (i := 5) nd (de_mod (de_intC Z.n_int (da_cons (de_sub_ix (de_var 0) de_int) da_nil)) (de_add (de_len Z.n_len (da_cons (de_var 4) da_nil)) de_int)))
    (dss_one (ds_ret (de_lc [("_law_k", 6)] L.calm nd (di_range1 (de_var 1) rfl Z.n_range) rfl (fun s H C cl fp => (dg_name (i := 6) nd)) (fun s H C cl fp => dts_nil) (fun s H C cl fp => (de_add (de_add (de_sl01 (de_var 4) (de_var 5)) (de_sub_ix (de_var 3) (de_mod (de_intC Z.n_int (da_cons (de_add (de_sub_ix (de_var 0) de_int) (de_mul de_int (de_var 6))) da_nil)) de_int))) (de_sl10 (de_var 4) (de_var 5))))))))))))))
theorem bd_l_event (Z : Fs P w K mg fds) : Binds K fds.l_event ["_law_names_here", "_law_row"] [] := Z.f_l_event.bindsN fun _ _ _ _ _ _ us hl => match us, hl with | [_, _], _ => rfl
theorem ok_l_event (Z : Fs P w K mg fds) : FnOk P w K mg base (L2N.CX P w) 1 (He.ga K "_law_event") fds.l_event ["_law_names_here", "_law_row"] (spD ⟨P, w, K, mg, 0, none, .none⟩ 2 F_l_event) := fn_d (k := 0) Z.f_l_event sc_l_event rfl fun cdv A outer s H E L => by
    have hu := L.u65
    have hu16 := L.u16
    have nd := sc_l_event.nd
    exact (dss_cons (ds_set (i := 2) nd (de_sub_ix (de_var 0) (de_mod (de_intC Z.n_int (da_cons (de_sub_ix (de_var 1) de_int) da_nil)) (de_len Z.n_len (da_cons (de_var 0) da_nil)))))
    (dss_frz 2 (dss_cons (ds_if (dt_eq hu (de_mod (de_intC Z.n_int (da_cons (de_sub_ix (de_var 1) de_int) da_nil)) de_int) de_int)
    (dss_one (ds_ret (de_tup (da_cons de_str (da_cons (de_var 2) da_nil)))))
    dss_nil)
    (dss_one (ds_ret (de_tup (da_cons de_str (da_cons (de_var 2) (da_cons (de_sub_ix (de_var 0) (de_mod (de_intC Z.n_int (da_cons (de_sub_ix (de_var 1) de_int) da_nil)) (de_len Z.n_len (da_cons (de_var 0) da_nil)))) da_nil)))))))))
theorem bd_l_rules (Z : Fs P w K mg fds) : Binds K fds.l_rules ["_law_script", "_law_names_here", "_law_many"] [] := Z.f_l_rules.bindsN fun _ _ _ _ _ _ us hl => match us, hl with | [_, _, _], _ => rfl
theorem ok_l_rules (Z : Fs P w K mg fds) : FnOk P w K mg base (L2N.CX P w) 2 (He.ga K "_law_rules") fds.l_rules ["_law_script", "_law_names_here", "_law_many"] (spD ⟨P, w, K, mg, 0, none, .none⟩ 3 F_l_rules) := fn_d (k := 1) Z.f_l_rules sc_l_rules rfl fun cdv A outer s H E L => by
    have hu := L.u65
    have hu16 := L.u16
    have nd := sc_l_rules.nd
    exact (dss_cons (ds_set (i := 3) nd (de_lst da_nil))
    (dss_cons (ds_set (i := 4) nd (de_lst (da_cons de_int da_nil)))
    (dss_cons (ds_for L.own L.calm (di_range1 (de_var 2) rfl Z.n_range) (dg_name (i := 5) nd)
    (dss_cons (ds_set (i := 6) nd (de_call (L.call (ok_l_digits Z) (by decide) Z.f_l_digits.kp (bd_l_digits Z) .nil (fun _ _ => .nil)) Z.m_l_digits (da_cons (de_call (L.call (ok_l_cell Z) (by decide) Z.f_l_cell.kp (bd_l_cell Z) .nil (fun _ _ => .nil)) Z.m_l_cell (da_cons (de_var 0) (da_cons (de_add de_int (de_var 5)) da_nil))) (da_cons (de_lst (da_cons de_int (da_cons de_int (da_cons de_int (da_cons de_int (da_cons de_int da_nil)))))) da_nil))))
    (dss_frz 6 (dss_cons (ds_set (i := 7) nd (de_sub_ix (de_var 4) (de_mod (de_intC Z.n_int (da_cons (de_sub_ix (de_var 6) de_int) da_nil)) (de_len Z.n_len (da_cons (de_var 4) da_nil)))))
    (dss_frz 7 (dss_cons (ds_if (dt_ge (de_sub_ix (de_var 6) de_int) de_int)
    (dss_one (ds_set (i := 7) nd (de_mod (de_intC Z.n_int (da_cons (de_sub_ix (de_var 6) de_int) da_nil)) de_int)))
    dss_nil)
    (dss_cons (ds_set (i := 8) nd (de_mod (de_intC Z.n_int (da_cons (de_sub_ix (de_var 6) de_int) da_nil)) de_int))
    (dss_cons (ds_if (dt_lt (de_sub_ix (de_var 6) de_int) de_int)
    (dss_one (ds_set (i := 8) nd (de_mod (de_add (de_var 7) (de_mod (de_intC Z.n_int (da_cons (de_sub_ix (de_var 6) de_int) da_nil)) de_int)) de_int)))
    dss_nil)
    (dss_cons (ds_app 3 (de_tup (da_cons (de_var 7) (da_cons (de_call (L.call (ok_l_event Z) (by decide) Z.f_l_event.kp (bd_l_event Z) .nil (fun _ _ => .nil)) Z.m_l_event (da_cons (de_var 1) (da_cons (de_var 6) da_nil))) (da_cons (de_var 8) da_nil)))))
    (dss_one (ds_app 4 (de_var 8))))))))))))
    (dss_frz 6 (dss_frz 7 (dss_one (ds_retV 3)))))))
theorem bd_l_double (Z : Fs P w K mg fds) : Binds K fds.l_double ["_law_rules_here"] [] := Z.f_l_double.bindsN fun _ _ _ _ _ _ us hl => match us, hl with | [_], _ => rfl
theorem ok_l_double (Z : Fs P w K mg fds) : FnOk P w K mg base (L2N.CX P w) 1 (He.ga K "_law_double") fds.l_double ["_law_rules_here"] (spD ⟨P, w, K, mg, 0, none, .none⟩ 1 F_l_double) := fn_d (k := 0) Z.f_l_double sc_l_double rfl fun cdv A outer s H E L => by
    have hu := L.u65
    have hu16 := L.u16
    have nd := sc_l_double.nd
    exact (dss_cons (ds_for L.own L.calm (di_range1 (de_len Z.n_len (da_cons (de_var 0) da_nil)) rfl Z.n_range) (dg_name (i := 1) nd)
    (dss_one (ds_for L.own L.calm (di_range1 (de_var 1) rfl Z.n_range) (dg_name (i := 2) nd)
    (dss_one (ds_if (dw_t (dw_and (dt_eq hu (de_sub_ix (de_sub_ix (de_var 0) (de_var 2)) de_int) (de_sub_ix (de_sub_ix (de_var 0) (de_var 1)) de_int)) (dw_and1 (dt_eq hu (de_sub_ix (de_sub_ix (de_var 0) (de_var 2)) de_int) (de_sub_ix (de_sub_ix (de_var 0) (de_var 1)) de_int)))))
    (dss_one (ds_retV 1))
    dss_nil)))))
    (dss_one (ds_ret de_non)))
theorem bd_frozen (Z : Fs P w K mg fds) : Binds K fds.frozen ["value"] [] := Z.f_frozen.bindsN fun _ _ _ _ _ _ us hl => match us, hl with | [_], _ => rfl
theorem ok_frozen : ∀ (n : Nat) (Z : Fs P w K mg fds), FnOk P w K mg base (L2N.CX P w) (0 + n) (He.ga K "frozen") fds.frozen ["value"] (spD ⟨P, w, K, mg, 0, none, .none⟩ 1 (F_frozen n))
  | 0, Z => fn_stuck rfl
  | n + 1, Z => fn_d (k := 0 + n) Z.f_frozen sc_frozen rfl fun cdv A outer s H E L => by
    have hu := L.u65
    have hu16 := L.u16
    have nd := sc_frozen.nd
    have ih := ok_frozen n Z
    have hrec := Nat.le_refl (0 + n)
    exact (dss_cons (ds_if (dt_tru (de_isi Z.n_isinstance (da_cons (de_var 0) (da_cons (de_tup (da_cons (de_ty rfl Z.n_list bt_list) (da_cons (de_ty rfl Z.n_tuple bt_tuple) da_nil))) da_nil))))
    (dss_one (ds_ret (de_tupleC Z.n_tuple (da_cons (de_lc [("item", 1)] L.calm nd (di_any (de_var 0)) rfl (fun s H C cl fp => (dg_name (i := 1) nd)) (fun s H C cl fp => dts_nil) (fun s H C cl fp => (de_call (L.callB ih hrec Z.f_frozen.kp (bd_frozen Z) .nil (fun _ _ => .nil)) Z.m_frozen (da_cons (de_var 1) da_nil)))) da_nil))))
    dss_nil)
    (dss_one (ds_retV 0)))
theorem bd_BadRule___init__ (Z : Fs P w K mg fds) : Binds K fds.BadRule___init__ ["self", "index"] [] := Z.f_BadRule___init__.bindsN fun _ _ _ _ _ _ us hl => match us, hl with | [_, _], _ => rfl
theorem ok_BadRule___init__ (Z : Fs P w K mg fds) : FnOk P w K mg base (L2N.CX P w) 1 (He.ma K (He.ga K "BadRule") "__init__") fds.BadRule___init__ ["self", "index"] (spO K (clOf mg "BadRule") "index") := fn_oex Z.f_BadRule___init__ sc_BadRule___init__ rfl rfl Z.ox_BadRule Z.nf_BadRule
theorem bd_Watch___init__ (Z : Fs P w K mg fds) : Binds K fds.Watch___init__ ["self", "rules", "good"] [] := Z.f_Watch___init__.bindsN fun _ _ _ _ _ _ us hl => match us, hl with | [_, _, _], _ => rfl
theorem ok_Watch___init__ (Z : Fs P w K mg fds) : FnOk P w K mg base (L2N.CX P w) 7 (He.ma K (He.ga K "Watch") "__init__") fds.Watch___init__ ["self", "rules", "good"] (spI ⟨P, w, K, mg, 0, none, .none⟩ "Watch" 2 F_Watch___init__) := fn_init (k := 6) Z.f_Watch___init__ sc_Watch___init__ rfl fun cdv A outer s H E L => by
    have hu := L.u65
    have hu16 := L.u16
    have nd := sc_Watch___init__.nd
    exact (dss_cons (ds_set (i := 3) nd (de_call (L.call (ok_frozen 6 Z) (by decide) Z.f_frozen.kp (bd_frozen Z) .nil (fun _ _ => .nil)) Z.m_frozen (da_cons (de_var 1) da_nil)))
    (dss_frz 3 (dss_cons (ds_newD (j := 4) nd)
    (dss_cons (ds_for L.own L.calm (di_enumT (de_var 3) Z.n_enumerate) (dg_tup L.calm (dgs_cons (dg_name (i := 5) nd) (dgs_cons (dg_tup L.calm (dgs_cons (dg_name (i := 6) nd) (dgs_cons (dg_name (i := 7) nd) (dgs_cons (dg_name (i := 8) nd) dgs_nil)))) dgs_nil)))
    (dss_cons (ds_if (dt_inN hu16 (de_tup (da_cons (de_var 6) (da_cons (de_var 7) da_nil))) (dk_var 4))
    (dss_one (ds_raise L Z.ox_BadRule Z.ii_BadRule Z.ti_BadRule (ok_BadRule___init__ Z) (by decide) (bd_BadRule___init__ Z) Z.c_BadRule (de_var 5)))
    dss_nil)
    (dss_one (ds_putD 4 hu16 (de_tup (da_cons (de_var 6) (da_cons (de_var 7) da_nil))) (de_var 8)))))
    (dss_cons (ds_fldSet 0 Z.cl_Watch Z.na_Watch_rules (de_var 3))
    (dss_cons (ds_fldSet 0 Z.cl_Watch Z.na_Watch_good (de_tupleC Z.n_tuple (da_cons (de_sortSet L.calm (de_call (L.call (ok_frozen 6 Z) (by decide) Z.f_frozen.kp (bd_frozen Z) .nil (fun _ _ => .nil)) Z.m_frozen (da_cons (de_var 2) da_nil)) Z.n_sorted Z.n_set) da_nil)))
    (dss_frzD 4 (dss_one (ds_fldSet 0 Z.cl_Watch Z.na_Watch_nexts (de_var 4))))))))))
theorem bd_l_whole (Z : Fs P w K mg fds) : Binds K fds.l_whole ["_law_value"] [] := Z.f_l_whole.bindsN fun _ _ _ _ _ _ us hl => match us, hl with | [_], _ => rfl
theorem ok_l_whole (Z : Fs P w K mg fds) : FnOk P w K mg base (L2N.CX P w) 1 (He.ga K "_law_whole") fds.l_whole ["_law_value"] (spD ⟨P, w, K, mg, 0, none, .none⟩ 1 F_l_whole) := fn_d (k := 0) Z.f_l_whole sc_l_whole rfl fun cdv A outer s H E L => by
    have hu := L.u65
    have hu16 := L.u16
    have nd := sc_l_whole.nd
    exact (dss_one (ds_ret (de_and (de_isi Z.n_isinstance (da_cons (de_var 0) (da_cons (de_ty rfl Z.n_int bt_int) da_nil))) (de_one (de_not (de_isi Z.n_isinstance (da_cons (de_var 0) (da_cons (de_ty rfl Z.n_bool bt_bool) da_nil))))))))
theorem okH_l_whole (Z : Fs P w K mg fds) : L2H.FnH P w K mg base (L2N.CX P w) 1 (He.ga K "_law_whole") fds.l_whole ["_law_value"] (spD ⟨P, w, K, mg, 0, none, .none⟩ 1 F_l_whole) := fn_dH (k := 0) Z.f_l_whole sc_l_whole rfl fun cdv A outer s H E p L => by
  have hu := L.u65
  have nd := sc_l_whole.nd
  exact (dss_one (ds_ret (de_and (de_isi Z.n_isinstance (da_cons (de_var 0) (da_cons (de_ty rfl Z.n_int bt_int) da_nil))) (de_one (de_not (de_isi Z.n_isinstance (da_cons (de_var 0) (da_cons (de_ty rfl Z.n_bool bt_bool) da_nil))))))))
theorem bd_l_bad_rule (Z : Fs P w K mg fds) : Binds K fds.l_bad_rule ["_law_rules_here", "_law_good", "_law_index"] [] := Z.f_l_bad_rule.bindsN fun _ _ _ _ _ _ us hl => match us, hl with | [_, _, _], _ => rfl
theorem ok_l_bad_rule (Z : Fs P w K mg fds) : FnOk P w K mg base (L2N.CX P w) 9 (He.ga K "_law_bad_rule") fds.l_bad_rule ["_law_rules_here", "_law_good", "_law_index"] (spD ⟨P, w, K, mg, 0, none, .none⟩ 3 F_l_bad_rule) := fn_d (k := 8) Z.f_l_bad_rule sc_l_bad_rule rfl fun cdv A outer s H E L => by
    have hu := L.u65
    have hu16 := L.u16
    have nd := sc_l_bad_rule.nd
    exact (dss_cons (ds_tryAs (hit := (fun (n : Str) => if n == "BadRule" then some true else none)) L nd (c := .ref (clOf mg "LeaveError")) ⟨rfl, by decide, .inl Z.c_LeaveError⟩ Z.em_LeaveError (fun W1 pn1 xe1 L =>
    (dss_one (ds_drop (de_call (L.make Z.mk_Watch (ok_Watch___init__ Z) (by decide) (bd_Watch___init__ Z) .nil (fun _ _ => .nil)) Z.c_Watch (da_cons (de_lc [("_law_rule", 4)] L.calm nd (di_any (de_var 0)) rfl (fun s H C cl fp => (dg_name (i := 4) nd)) (fun s H C cl fp => dts_nil) (fun s H C cl fp => (de_lst (da_cons (de_sub_ix (de_var 4) de_int) (da_cons (de_listC Z.n_list (da_cons (de_sub_ix (de_var 4) de_int) da_nil)) (da_cons (de_sub_ix (de_var 4) de_int) da_nil)))))) (da_cons (de_var 1) da_nil)))))) (fun a1 oe1 pn1 hf LS => have hu := LS.u65
    (dss_cons (ds_if (dw_t (dw_or (dt_not (dt_tru (de_isX (X := (cxOf (L2N.CX P w) P w K mg base _ _ _ _ cdv A outer s H E)) 3 (cv := (.ref (clOf mg "BadRule"))) hf (pe_glob (v := .ref (clOf mg "BadRule")) rfl Z.c_BadRule rfl) (fun _ h => h) Z.ki_BadRule Z.n_isinstance))) (dw_or1 (dt_not (dt_tru (de_isX (X := (cxOf (L2N.CX P w) P w K mg base _ _ _ _ cdv A outer s H E)) 3 (cv := (.type "ValueError")) hf (pe_bltn (v := .ty "ValueError") rfl Z.n_ValueError bt_ve rfl) (fun _ h => h) Z.ki_ValueError Z.n_isinstance))))))
    (dss_one (ds_ret de_bl))
    dss_nil)
    (dss_cons (ds_if (dw_t (dw_or (dt_tru (de_isX (X := (cxOf (L2N.CX P w) P w K mg base _ _ _ _ cdv A outer s H E)) 3 (cv := (.ref (clOf mg "BadStep"))) hf (pe_glob (v := .ref (clOf mg "BadStep")) rfl Z.c_BadStep rfl) (fun _ h => h) Z.ki_BadStep Z.n_isinstance)) (dw_or (dt_tru (de_isX (X := (cxOf (L2N.CX P w) P w K mg base _ _ _ _ cdv A outer s H E)) 3 (cv := (.ref (clOf mg "NoEvening"))) hf (pe_glob (v := .ref (clOf mg "NoEvening")) rfl Z.c_NoEvening rfl) (fun _ h => h) Z.ki_NoEvening Z.n_isinstance)) (dw_or1 (dt_tru (de_isX (X := (cxOf (L2N.CX P w) P w K mg base _ _ _ _ cdv A outer s H E)) 3 (cv := (.ref (clOf mg "UnknownGuest"))) hf (pe_glob (v := .ref (clOf mg "UnknownGuest")) rfl Z.c_UnknownGuest rfl) (fun _ h => h) Z.ki_UnknownGuest Z.n_isinstance))))))
    (dss_one (ds_ret de_bl))
    dss_nil)
    (dss_one (ds_ret (de_and (de_call (LS.call (okH_l_whole Z) (by decide) Z.f_l_whole.kp (bd_l_whole Z) .nil (fun _ _ => .nil)) Z.m_l_whole (da_cons (de_xf (X := (cxOf (L2N.CX P w) P w K mg base _ _ _ _ cdv A outer s H E)) 3 hf Z.xf_index) da_nil)) (de_one (de_eq hu (de_xf (X := (cxOf (L2N.CX P w) P w K mg base _ _ _ _ cdv A outer s H E)) 3 hf Z.xf_index) (de_var 2))))))))))
    (dss_one (ds_ret de_bl)))
theorem bd_l_single (Z : Fs P w K mg fds) : Binds K fds.l_single ["_law_rules_here"] [] := Z.f_l_single.bindsN fun _ _ _ _ _ _ us hl => match us, hl with | [_], _ => rfl
theorem ok_l_single (Z : Fs P w K mg fds) : FnOk P w K mg base (L2N.CX P w) 2 (He.ga K "_law_single") fds.l_single ["_law_rules_here"] (spD ⟨P, w, K, mg, 0, none, .none⟩ 1 F_l_single) := fn_d (k := 1) Z.f_l_single sc_l_single rfl fun cdv A outer s H E L => by
    have hu := L.u65
    have hu16 := L.u16
    have nd := sc_l_single.nd
    exact (dss_cons (ds_set (i := 1) nd (de_lst da_nil))
    (dss_cons (ds_for L.own L.calm (di_any (de_var 0)) (dg_name (i := 2) nd)
    (dss_one (ds_if (dt_isN (de_call (L.call (ok_l_double Z) (by decide) Z.f_l_double.kp (bd_l_double Z) .nil (fun _ _ => .nil)) Z.m_l_double (da_cons (de_add (de_var 1) (de_lst (da_cons (de_var 2) da_nil))) da_nil)))
    (dss_one (ds_app 1 (de_var 2)))
    dss_nil)))
    (dss_one (ds_retV 1))))
theorem bd_l_drawn_moves (Z : Fs P w K mg fds) : Binds K fds.l_drawn_moves ["_law_names_here", "_law_rules_here", "_law_row"] [] := Z.f_l_drawn_moves.bindsN fun _ _ _ _ _ _ us hl => match us, hl with | [_, _, _], _ => rfl
theorem ok_l_drawn_moves (Z : Fs P w K mg fds) : FnOk P w K mg base (L2N.CX P w) 1 (He.ga K "_law_drawn_moves") fds.l_drawn_moves ["_law_names_here", "_law_rules_here", "_law_row"] (spD ⟨P, w, K, mg, 0, none, .none⟩ 3 F_l_drawn_moves) := fn_d (k := 0) Z.f_l_drawn_moves sc_l_drawn_moves rfl fun cdv A outer s H E L => by
    have hu := L.u65
    have hu16 := L.u16
    have nd := sc_l_drawn_moves.nd
    exact (dss_cons (ds_set (i := 3) nd (de_add (de_lc [("_law_rule", 7)] L.calm nd (di_any (de_var 1)) rfl (fun s H C cl fp => (dg_name (i := 7) nd)) (fun s H C cl fp => dts_nil) (fun s H C cl fp => (de_sub_ix (de_var 7) de_int))) (de_lst (da_cons (de_tup (da_cons de_str (da_cons (de_sub_ix (de_var 0) de_int) da_nil))) (da_cons (de_tup (da_cons de_str (da_cons (de_sub_ix (de_var 0) (de_neg de_int)) (da_cons (de_sub_ix (de_var 0) de_int) da_nil)))) da_nil)))))
    (dss_frz 3 (dss_cons (ds_set (i := 4) nd (de_lst da_nil))
    (dss_cons (ds_for L.own L.calm (di_any (de_var 2)) (dg_name (i := 5) nd)
    (dss_cons (ds_set (i := 6) nd (de_sub_ix (de_var 3) (de_mod (de_intC Z.n_int (da_cons (de_var 5) da_nil)) (de_len Z.n_len (da_cons (de_var 3) da_nil)))))
    (dss_frz 6 (dss_cons (ds_if (dt_eq hu (de_sub_ix (de_var 6) de_int) de_str)
    (dss_one (ds_set (i := 6) nd (de_tup (da_cons de_str (da_cons (de_sub_ix (de_var 6) de_int) (da_cons (de_mod (de_intC Z.n_int (da_cons (de_var 5) da_nil)) de_int) da_nil))))))
    dss_nil)
    (dss_one (ds_app 4 (de_var 6)))))))
    (dss_frz 6 (dss_one (ds_retV 4)))))))
theorem bd_l_same (Z : Fs P w K mg fds) : Binds K fds.l_same ["_law_told", "_law_due"] [] := Z.f_l_same.bindsN fun _ _ _ _ _ _ us hl => match us, hl with | [_, _], _ => rfl
theorem ok_l_same : ∀ (n : Nat) (Z : Fs P w K mg fds), FnOk P w K mg base (L2N.CX P w) (1 + n) (He.ga K "_law_same") fds.l_same ["_law_told", "_law_due"] (spD ⟨P, w, K, mg, 0, none, .none⟩ 2 (F_l_same n))
  | 0, Z => fn_stuck rfl
  | n + 1, Z => fn_d (k := 1 + n) Z.f_l_same sc_l_same rfl fun cdv A outer s H E L => by
    have hu := L.u65
    have hu16 := L.u16
    have nd := sc_l_same.nd
    have ih := ok_l_same n Z
    have hrec := Nat.le_refl (1 + n)
    exact (dss_cons (ds_if (dt_tru (de_isi Z.n_isinstance (da_cons (de_var 1) (da_cons (de_ty rfl Z.n_tuple bt_tuple) da_nil))))
    (dss_cons (ds_if (dw_t (dw_or (dt_not (dt_tru (de_isi Z.n_isinstance (da_cons (de_var 0) (da_cons (de_ty rfl Z.n_tuple bt_tuple) da_nil))))) (dw_or1 (dt_ne hu (de_len Z.n_len (da_cons (de_var 0) da_nil)) (de_len Z.n_len (da_cons (de_var 1) da_nil))))))
    (dss_one (ds_ret de_bl))
    dss_nil)
    (dss_cons (ds_for L.own L.calm (di_range1 (de_len Z.n_len (da_cons (de_var 1) da_nil)) rfl Z.n_range) (dg_name (i := 2) nd)
    (dss_one (ds_if (dt_not (dt_tru (de_call (L.call ih hrec Z.f_l_same.kp (bd_l_same Z) .nil (fun _ _ => .nil)) Z.m_l_same (da_cons (de_sub_ix (de_var 0) (de_var 2)) (da_cons (de_sub_ix (de_var 1) (de_var 2)) da_nil)))))
    (dss_one (ds_ret de_bl))
    dss_nil)))
    (dss_one (ds_ret de_bl))))
    dss_nil)
    (dss_cons (ds_if (dt_isN (de_var 1))
    (dss_one (ds_ret (de_isN (de_var 0))))
    dss_nil)
    (dss_cons (ds_if (dt_tru (de_isi Z.n_isinstance (da_cons (de_var 1) (da_cons (de_ty rfl Z.n_str bt_str) da_nil))))
    (dss_one (ds_ret (de_and (de_isi Z.n_isinstance (da_cons (de_var 0) (da_cons (de_ty rfl Z.n_str bt_str) da_nil))) (de_one (de_eq hu (de_var 0) (de_var 1))))))
    dss_nil)
    (dss_cons (ds_if (dt_tru (de_isi Z.n_isinstance (da_cons (de_var 1) (da_cons (de_ty rfl Z.n_bool bt_bool) da_nil))))
    (dss_one (ds_ret (de_and (de_isi Z.n_isinstance (da_cons (de_var 0) (da_cons (de_ty rfl Z.n_bool bt_bool) da_nil))) (de_one (de_eq hu (de_var 0) (de_var 1))))))
    dss_nil)
    (dss_one (ds_ret (de_and (de_call (L.call (ok_l_whole Z) (Nat.le_trans (by decide) (Nat.le_add_right 1 n)) Z.f_l_whole.kp (bd_l_whole Z) .nil (fun _ _ => .nil)) Z.m_l_whole (da_cons (de_var 0) da_nil)) (de_one (de_eq hu (de_var 0) (de_var 1))))))))))
theorem bd_l_next (Z : Fs P w K mg fds) : Binds K fds.l_next ["_law_rules_here", "_law_state", "_law_event_here"] [] := Z.f_l_next.bindsN fun _ _ _ _ _ _ us hl => match us, hl with | [_, _, _], _ => rfl
theorem ok_l_next (Z : Fs P w K mg fds) : FnOk P w K mg base (L2N.CX P w) 1 (He.ga K "_law_next") fds.l_next ["_law_rules_here", "_law_state", "_law_event_here"] (spD ⟨P, w, K, mg, 0, none, .none⟩ 3 F_l_next) := fn_d (k := 0) Z.f_l_next sc_l_next rfl fun cdv A outer s H E L => by
    have hu := L.u65
    have hu16 := L.u16
    have nd := sc_l_next.nd
    exact (dss_cons (ds_for L.own L.calm (di_any (de_var 0)) (dg_name (i := 3) nd)
    (dss_one (ds_if (dw_t (dw_and (dt_eq hu (de_sub_ix (de_var 3) de_int) (de_var 1)) (dw_and1 (dt_eq hu (de_sub_ix (de_var 3) de_int) (de_var 2)))))
    (dss_one (ds_ret (de_sub_ix (de_var 3) de_int)))
    dss_nil)))
    (dss_one (ds_retV 1)))
theorem bd_Watch_state_after (Z : Fs P w K mg fds) : Binds K fds.Watch_state_after ["self", "state", "event"] [] := Z.f_Watch_state_after.bindsN fun _ _ _ _ _ _ us hl => match us, hl with | [_, _, _], _ => rfl
theorem ok_Watch_state_after (Z : Fs P w K mg fds) : FnOk P w K mg base (L2N.CX P w) 7 (He.ma K (He.ga K "Watch") "state_after") fds.Watch_state_after ["self", "state", "event"] (spD ⟨P, w, K, mg, 0, none, .none⟩ 3 F_Watch_state_after) := fn_d (k := 6) Z.f_Watch_state_after sc_Watch_state_after rfl fun cdv A outer s H E L => by
    have hu := L.u65
    have hu16 := L.u16
    have nd := sc_Watch_state_after.nd
    exact (dss_one (ds_ret (de_get2N hu16 (dk_of (de_fld (de_var 0) Z.cl_Watch Z.na_Watch_nexts)) (de_tup (da_cons (de_var 1) (da_cons (de_call (L.call (ok_frozen 6 Z) (by decide) Z.f_frozen.kp (bd_frozen Z) .nil (fun _ _ => .nil)) Z.m_frozen (da_cons (de_var 2) da_nil)) da_nil))) (de_var 1))))
theorem bd_event_of_move (Z : Fs P w K mg fds) : Binds K fds.event_of_move ["move"] [] := Z.f_event_of_move.bindsN fun _ _ _ _ _ _ us hl => match us, hl with | [_], _ => rfl
theorem ok_event_of_move (Z : Fs P w K mg fds) : FnOk P w K mg base (L2N.CX P w) 1 (He.ga K "event_of_move") fds.event_of_move ["move"] (spD ⟨P, w, K, mg, 0, none, .none⟩ 1 F_event_of_move) := fn_d (k := 0) Z.f_event_of_move sc_event_of_move rfl fun cdv A outer s H E L => by
    have hu := L.u65
    have hu16 := L.u16
    have nd := sc_event_of_move.nd
    exact (dss_cons (ds_if (dt_eq hu (de_sub_ix (de_var 0) de_int) de_str)
    (dss_one (ds_ret (de_tup (da_cons de_str (da_cons (de_sub_ix (de_var 0) de_int) da_nil)))))
    dss_nil)
    (dss_one (ds_retV 0)))
theorem bd_Watch___call__ (Z : Fs P w K mg fds) : Binds K fds.Watch___call__ ["self", "moves"] [] := Z.f_Watch___call__.bindsN fun _ _ _ _ _ _ us hl => match us, hl with | [_, _], _ => rfl
theorem ok_Watch___call__ (Z : Fs P w K mg fds) : FnOk P w K mg base (L2N.CX P w) 8 (He.ma K (He.ga K "Watch") "__call__") fds.Watch___call__ ["self", "moves"] (spD ⟨P, w, K, mg, 0, none, .none⟩ 2 F_Watch___call__) := fn_d (k := 7) Z.f_Watch___call__ sc_Watch___call__ rfl fun cdv A outer s H E L => by
    have hu := L.u65
    have hu16 := L.u16
    have nd := sc_Watch___call__.nd
    exact (dss_cons (ds_set (i := 2) nd de_int)
    (dss_cons (ds_for L.own L.calm (di_any (de_call (L.call (ok_frozen 6 Z) (by decide) Z.f_frozen.kp (bd_frozen Z) .nil (fun _ _ => .nil)) Z.m_frozen (da_cons (de_var 1) da_nil))) (dg_name (i := 3) nd)
    (dss_one (ds_set (i := 2) nd (de_meth (de_var 0) Z.cl_Watch Z.me_Watch_state_after (L.call (ok_Watch_state_after Z) (by decide) Z.f_Watch_state_after.kp (bd_Watch_state_after Z) .nil (fun _ _ => .nil)) (da_cons (de_var 2) (da_cons (de_call (L.call (ok_event_of_move Z) (by decide) Z.f_event_of_move.kp (bd_event_of_move Z) .nil (fun _ _ => .nil)) Z.m_event_of_move (da_cons (de_var 3) da_nil)) da_nil))))))
    (dss_one (ds_ret (de_in hu (de_var 2) (de_fld (de_var 0) Z.cl_Watch Z.na_Watch_good))))))
theorem bd_l_of_move (Z : Fs P w K mg fds) : Binds K fds.l_of_move ["_law_move"] [] := Z.f_l_of_move.bindsN fun _ _ _ _ _ _ us hl => match us, hl with | [_], _ => rfl
theorem ok_l_of_move (Z : Fs P w K mg fds) : FnOk P w K mg base (L2N.CX P w) 1 (He.ga K "_law_of_move") fds.l_of_move ["_law_move"] (spD ⟨P, w, K, mg, 0, none, .none⟩ 1 F_l_of_move) := fn_d (k := 0) Z.f_l_of_move sc_l_of_move rfl fun cdv A outer s H E L => by
    have hu := L.u65
    have hu16 := L.u16
    have nd := sc_l_of_move.nd
    exact (dss_cons (ds_if (dt_eq hu (de_sub_ix (de_var 0) de_int) de_str)
    (dss_one (ds_ret (de_tup (da_cons de_str (da_cons (de_sub_ix (de_var 0) de_int) da_nil)))))
    dss_nil)
    (dss_one (ds_retV 0)))
theorem bd_l_watch_right (Z : Fs P w K mg fds) : Binds K fds.l_watch_right ["_law_watch", "_law_rules_here", "_law_good", "_law_names_here", "_law_moves"] [] := Z.f_l_watch_right.bindsN fun _ _ _ _ _ _ us hl => match us, hl with | [_, _, _, _, _], _ => rfl
theorem ok_l_watch_right (Z : Fs P w K mg fds) : FnOk P w K mg base (L2N.CX P w) 9 (He.ga K "_law_watch_right") fds.l_watch_right ["_law_watch", "_law_rules_here", "_law_good", "_law_names_here", "_law_moves"] (spD ⟨P, w, K, mg, 0, none, .none⟩ 5 F_l_watch_right) := fn_d (k := 8) Z.f_l_watch_right sc_l_watch_right rfl fun cdv A outer s H E L => by
    have hu := L.u65
    have hu16 := L.u16
    have nd := sc_l_watch_right.nd
    exact (dss_cons (ds_set (i := 5) nd (de_tupleC Z.n_tuple (da_cons (de_lc [("_law_state", 8)] L.calm nd (di_range1 de_int rfl Z.n_range) rfl (fun s H C cl fp => (dg_name (i := 8) nd)) (fun s H C cl fp => (dts_one (dt_in hu (de_var 8) (de_var 2)))) (fun s H C cl fp => (de_var 8))) da_nil)))
    (dss_cons (ds_if (dw_t (dw_or (dt_not (dt_tru (de_call (L.call (ok_l_same 5 Z) (by decide) Z.f_l_same.kp (bd_l_same Z) .nil (fun _ _ => .nil)) Z.m_l_same (da_cons (de_fld (de_var 0) Z.cl_Watch Z.na_Watch_rules) (da_cons (de_tupleC Z.n_tuple (da_cons (de_var 1) da_nil)) da_nil))))) (dw_or1 (dt_not (dt_tru (de_call (L.call (ok_l_same 5 Z) (by decide) Z.f_l_same.kp (bd_l_same Z) .nil (fun _ _ => .nil)) Z.m_l_same (da_cons (de_fld (de_var 0) Z.cl_Watch Z.na_Watch_good) (da_cons (de_var 5) da_nil))))))))
    (dss_one (ds_ret de_bl))
    dss_nil)
    (dss_cons (ds_setLc (i := 6) [("_law_name", 7)] L.calm nd (di_any (de_var 3)) rfl (fun s H C cl fp => (dg_name (i := 7) nd)) (fun s H C cl fp => dts_nil) (fun s H C cl fp => (de_tup (da_cons de_str (da_cons (de_var 7) da_nil)))) rfl)
    (dss_frz 6 (dss_cons (ds_for L.own L.calm (di_any (de_var 3)) (dg_name (i := 7) nd)
    (dss_one (ds_set (i := 6) nd (de_add (de_var 6) (de_lc [("_law_cloak", 14)] L.calm nd (di_any (de_var 3)) rfl (fun s H C cl fp => (dg_name (i := 14) nd)) (fun s H C cl fp => dts_nil) (fun s H C cl fp => (de_tup (da_cons de_str (da_cons (de_var 7) (da_cons (de_var 14) da_nil))))))))))
    (dss_frz 6 (dss_cons (ds_for L.own L.calm (di_range1 de_int rfl Z.n_range) (dg_name (i := 8) nd)
    (dss_one (ds_for L.own L.calm (di_any (de_var 6)) (dg_name (i := 9) nd)
    (dss_cons (ds_set (i := 10) nd (de_call (L.call (ok_l_next Z) (by decide) Z.f_l_next.kp (bd_l_next Z) .nil (fun _ _ => .nil)) Z.m_l_next (da_cons (de_var 1) (da_cons (de_var 8) (da_cons (de_var 9) da_nil)))))
    (dss_frz 10 (dss_cons (ds_set (i := 11) nd (de_listC Z.n_list (da_cons (de_var 9) da_nil)))
    (dss_frz 11 (dss_cons (ds_if (dt_not (dt_tru (de_call (L.call (ok_l_same 5 Z) (by decide) Z.f_l_same.kp (bd_l_same Z) .nil (fun _ _ => .nil)) Z.m_l_same (da_cons (de_meth (de_var 0) Z.cl_Watch Z.me_Watch_state_after (L.call (ok_Watch_state_after Z) (by decide) Z.f_Watch_state_after.kp (bd_Watch_state_after Z) .nil (fun _ _ => .nil)) (da_cons (de_var 8) (da_cons (de_var 9) da_nil))) (da_cons (de_var 10) da_nil)))))
    (dss_one (ds_ret de_bl))
    dss_nil)
    (dss_one (ds_if (dw_t (dw_or (dt_not (dt_tru (de_call (L.call (ok_l_same 5 Z) (by decide) Z.f_l_same.kp (bd_l_same Z) .nil (fun _ _ => .nil)) Z.m_l_same (da_cons (de_meth (de_var 0) Z.cl_Watch Z.me_Watch_state_after (L.call (ok_Watch_state_after Z) (by decide) Z.f_Watch_state_after.kp (bd_Watch_state_after Z) .nil (fun _ _ => .nil)) (da_cons (de_var 8) (da_cons (de_var 11) da_nil))) (da_cons (de_var 10) da_nil))))) (dw_or1 (dt_ne hu (de_var 11) (de_listC Z.n_list (da_cons (de_var 9) da_nil))))))
    (dss_one (ds_ret de_bl))
    dss_nil))))))))))
    (dss_frz 10 (dss_frz 11 (dss_cons (ds_set (i := 8) nd de_int)
    (dss_cons (ds_for L.own L.calm (di_range1 (de_add (de_len Z.n_len (da_cons (de_var 4) da_nil)) de_int) rfl Z.n_range) (dg_name (i := 12) nd)
    (dss_cons (ds_set (i := 13) nd (de_callI (C := "Watch") (de_var 0) Z.co_Watch (L.call (ok_Watch___call__ Z) (by decide) Z.f_Watch___call__.kp (bd_Watch___call__ Z) .nil (fun _ _ => .nil)) (da_cons (de_sl01 (de_var 4) (de_var 12)) da_nil)))
    (dss_frz 13 (dss_cons (ds_if (dw_t (dw_or (dt_not (dt_tru (de_isi Z.n_isinstance (da_cons (de_var 13) (da_cons (de_ty rfl Z.n_bool bt_bool) da_nil))))) (dw_or1 (dt_ne hu (de_var 13) (de_in hu (de_var 8) (de_var 2))))))
    (dss_one (ds_ret de_bl))
    dss_nil)
    (dss_one (ds_if (dt_lt (de_var 12) (de_len Z.n_len (da_cons (de_var 4) da_nil)))
    (dss_one (ds_set (i := 8) nd (de_call (L.call (ok_l_next Z) (by decide) Z.f_l_next.kp (bd_l_next Z) .nil (fun _ _ => .nil)) Z.m_l_next (da_cons (de_var 1) (da_cons (de_var 8) (da_cons (de_call (L.call (ok_l_of_move Z) (by decide) Z.f_l_of_move.kp (bd_l_of_move Z) .nil (fun _ _ => .nil)) Z.m_l_of_move (da_cons (de_sub_ix (de_var 4) (de_var 12)) da_nil)) da_nil))))))
    dss_nil))))))
    (dss_frz 13 (dss_frz 8 (dss_cons (ds_setLc (i := 11) [("_law_move", 15)] L.calm nd (di_any (de_var 4)) rfl (fun s H C cl fp => (dg_name (i := 15) nd)) (fun s H C cl fp => dts_nil) (fun s H C cl fp => (de_listC Z.n_list (da_cons (de_var 15) da_nil))) rfl)
    (dss_frz 11 (dss_one (ds_ret (de_and (de_call (L.call (ok_l_same 5 Z) (by decide) Z.f_l_same.kp (bd_l_same Z) .nil (fun _ _ => .nil)) Z.m_l_same (da_cons (de_callI (C := "Watch") (de_var 0) Z.co_Watch (L.call (ok_Watch___call__ Z) (by decide) Z.f_Watch___call__.kp (bd_Watch___call__ Z) .nil (fun _ _ => .nil)) (da_cons (de_var 11) da_nil)) (da_cons (de_in hu (de_var 8) (de_var 2)) da_nil))) (de_one (de_eq hu (de_var 11) (de_lc [("_law_move", 15)] L.calm nd (di_any (de_var 4)) rfl (fun s H C cl fp => (dg_name (i := 15) nd)) (fun s H C cl fp => dts_nil) (fun s H C cl fp => (de_listC Z.n_list (da_cons (de_var 15) da_nil))))))))))))))))))))))))
theorem bd_Watch___invert__ (Z : Fs P w K mg fds) : Binds K fds.Watch___invert__ ["self"] [] := Z.f_Watch___invert__.bindsN fun _ _ _ _ _ _ us hl => match us, hl with | [_], _ => rfl
theorem ok_Watch___invert__ (Z : Fs P w K mg fds) : FnOk P w K mg base (L2N.CX P w) 9 (He.ma K (He.ga K "Watch") "__invert__") fds.Watch___invert__ ["self"] (spD ⟨P, w, K, mg, 0, none, .none⟩ 1 F_Watch___invert__) := fn_d (k := 8) Z.f_Watch___invert__ sc_Watch___invert__ rfl fun cdv A outer s H E L => by
    have hu := L.u65
    have hu16 := L.u16
    have nd := sc_Watch___invert__.nd
    exact (dss_one (ds_ret (de_call (L.make Z.mk_Watch (ok_Watch___init__ Z) (by decide) (bd_Watch___init__ Z) .nil (fun _ _ => .nil)) Z.c_Watch (da_cons (de_fld (de_var 0) Z.cl_Watch Z.na_Watch_rules) (da_cons (de_lc [("state", 1)] L.calm nd (di_range1 de_int rfl Z.n_range) rfl (fun s H C cl fp => (dg_name (i := 1) nd)) (fun s H C cl fp => (dts_one (dt_notIn hu (de_var 1) (de_fld (de_var 0) Z.cl_Watch Z.na_Watch_good)))) (fun s H C cl fp => (de_var 1))) da_nil)))))
theorem bd_Watch_never (Z : Fs P w K mg fds) : Binds K fds.Watch_never ["event"] [] := Z.f_Watch_never.bindsN fun _ _ _ _ _ _ us hl => match us, hl with | [_], _ => rfl
theorem ok_Watch_never (Z : Fs P w K mg fds) : FnOk P w K mg base (L2N.CX P w) 9 (He5.wf K (He.ga K "Watch") "staticmethod" "never") fds.Watch_never ["event"] (spD ⟨P, w, K, mg, 0, none, .none⟩ 1 F_Watch_never) := fn_d (k := 8) Z.f_Watch_never sc_Watch_never rfl fun cdv A outer s H E L => by
    have hu := L.u65
    have hu16 := L.u16
    have nd := sc_Watch_never.nd
    exact (dss_one (ds_ret (de_call (L.make Z.mk_Watch (ok_Watch___init__ Z) (by decide) (bd_Watch___init__ Z) .nil (fun _ _ => .nil)) Z.c_Watch (da_cons (de_lst (da_cons (de_tup (da_cons de_int (da_cons (de_var 0) (da_cons de_int da_nil)))) da_nil)) (da_cons (de_lst (da_cons de_int da_nil)) da_nil)))))
theorem bd_Watch_follows (Z : Fs P w K mg fds) : Binds K fds.Watch_follows ["event", "other"] [] := Z.f_Watch_follows.bindsN fun _ _ _ _ _ _ us hl => match us, hl with | [_, _], _ => rfl
theorem ok_Watch_follows (Z : Fs P w K mg fds) : FnOk P w K mg base (L2N.CX P w) 9 (He5.wf K (He.ga K "Watch") "staticmethod" "follows") fds.Watch_follows ["event", "other"] (spD ⟨P, w, K, mg, 0, none, .none⟩ 2 F_Watch_follows) := fn_d (k := 8) Z.f_Watch_follows sc_Watch_follows rfl fun cdv A outer s H E L => by
    have hu := L.u65
    have hu16 := L.u16
    have nd := sc_Watch_follows.nd
    exact (dss_one (ds_ret (de_call (L.make Z.mk_Watch (ok_Watch___init__ Z) (by decide) (bd_Watch___init__ Z) .nil (fun _ _ => .nil)) Z.c_Watch (da_cons (de_lst (da_cons (de_tup (da_cons de_int (da_cons (de_var 0) (da_cons de_int da_nil)))) (da_cons (de_tup (da_cons de_int (da_cons (de_var 1) (da_cons de_int da_nil)))) da_nil))) (da_cons (de_lst (da_cons de_int da_nil)) da_nil)))))
theorem bd_l_meant (Z : Fs P w K mg fds) : Binds K fds.l_meant ["_law_event_here", "_law_other", "_law_names_here", "_law_moves"] [] := Z.f_l_meant.bindsN fun _ _ _ _ _ _ us hl => match us, hl with | [_, _, _, _], _ => rfl
theorem ok_l_meant (Z : Fs P w K mg fds) : FnOk P w K mg base (L2N.CX P w) 10 (He.ga K "_law_meant") fds.l_meant ["_law_event_here", "_law_other", "_law_names_here", "_law_moves"] (spD ⟨P, w, K, mg, 0, none, .none⟩ 4 F_l_meant) := fn_d (k := 9) Z.f_l_meant sc_l_meant rfl fun cdv A outer s H E L => by
    have hu := L.u65
    have hu16 := L.u16
    have nd := sc_l_meant.nd
    exact (dss_cons (ds_set (i := 4) nd (de_smeth Z.st_Watch_never Z.c_Watch (L.call (ok_Watch_never Z) (by decide) Z.f_Watch_never.kp (bd_Watch_never Z) .nil (fun _ _ => .nil)) (da_cons (de_listC Z.n_list (da_cons (de_var 0) da_nil)) da_nil)))
    (dss_cons (ds_set (i := 5) nd (de_smeth Z.st_Watch_follows Z.c_Watch (L.call (ok_Watch_follows Z) (by decide) Z.f_Watch_follows.kp (bd_Watch_follows Z) .nil (fun _ _ => .nil)) (da_cons (de_var 0) (da_cons (de_listC Z.n_list (da_cons (de_var 1) da_nil)) da_nil))))
    (dss_cons (ds_if (dt_not (dt_tru (de_call (L.call (ok_l_watch_right Z) (by decide) Z.f_l_watch_right.kp (bd_l_watch_right Z) .nil (fun _ _ => .nil)) Z.m_l_watch_right (da_cons (de_var 4) (da_cons (de_lst (da_cons (de_tup (da_cons de_int (da_cons (de_var 0) (da_cons de_int da_nil)))) da_nil)) (da_cons (de_lst (da_cons de_int da_nil)) (da_cons (de_var 2) (da_cons (de_var 3) da_nil))))))))
    (dss_one (ds_ret de_bl))
    dss_nil)
    (dss_cons (ds_if (dt_not (dt_tru (de_call (L.call (ok_l_watch_right Z) (by decide) Z.f_l_watch_right.kp (bd_l_watch_right Z) .nil (fun _ _ => .nil)) Z.m_l_watch_right (da_cons (de_var 5) (da_cons (de_lst (da_cons (de_tup (da_cons de_int (da_cons (de_var 0) (da_cons de_int da_nil)))) (da_cons (de_tup (da_cons de_int (da_cons (de_var 1) (da_cons de_int da_nil)))) da_nil))) (da_cons (de_lst (da_cons de_int da_nil)) (da_cons (de_var 2) (da_cons (de_var 3) da_nil))))))))
    (dss_one (ds_ret de_bl))
    dss_nil)
    (dss_cons (ds_set (i := 6) nd (de_lc [("_law_move", 8)] L.calm nd (di_any (de_var 3)) rfl (fun s H C cl fp => (dg_name (i := 8) nd)) (fun s H C cl fp => dts_nil) (fun s H C cl fp => (de_call (L.callB (ok_l_of_move Z) (by decide) Z.f_l_of_move.kp (bd_l_of_move Z) .nil (fun _ _ => .nil)) Z.m_l_of_move (da_cons (de_var 8) da_nil)))))
    (dss_frz 6 (dss_cons (ds_setLc (i := 7) [("_law_k", 9)] L.calm nd (di_range1 (de_len Z.n_len (da_cons (de_var 6) da_nil)) rfl Z.n_range) rfl (fun s H C cl fp => (dg_name (i := 9) nd)) (fun s H C cl fp => (dts_one (dw_t (dw_and (dt_eq hu (de_sub_ix (de_var 6) (de_var 9)) (de_var 0)) (dw_and1 (dt_notIn hu (de_var 1) (de_sl10 (de_var 6) (de_add (de_var 9) de_int)))))))) (fun s H C cl fp => (de_var 9)) rfl)
    (dss_frz 7 (dss_one (ds_ret (de_and (de_call (L.call (ok_l_same 5 Z) (by decide) Z.f_l_same.kp (bd_l_same Z) .nil (fun _ _ => .nil)) Z.m_l_same (da_cons (de_callI (C := "Watch") (de_var 4) Z.co_Watch (L.call (ok_Watch___call__ Z) (by decide) Z.f_Watch___call__.kp (bd_Watch___call__ Z) .nil (fun _ _ => .nil)) (da_cons (de_tupleC Z.n_tuple (da_cons (de_var 3) da_nil)) da_nil)) (da_cons (de_notIn hu (de_var 0) (de_var 6)) da_nil))) (de_one (de_call (L.call (ok_l_same 5 Z) (by decide) Z.f_l_same.kp (bd_l_same Z) .nil (fun _ _ => .nil)) Z.m_l_same (da_cons (de_callI (C := "Watch") (de_var 5) Z.co_Watch (L.call (ok_Watch___call__ Z) (by decide) Z.f_Watch___call__.kp (bd_Watch___call__ Z) .nil (fun _ _ => .nil)) (da_cons (de_listC Z.n_list (da_cons (de_var 3) da_nil)) da_nil)) (da_cons (de_eq hu (de_len Z.n_len (da_cons (de_var 7) da_nil)) de_int) da_nil)))))))))))))))
theorem bd_law (Z : Fs P w K mg fds) : Binds K fds.law ["_law_script"] [] := Z.f_law.bindsN fun _ _ _ _ _ _ us hl => match us, hl with | [_], _ => rfl
theorem ok_law (Z : Fs P w K mg fds) : FnOk P w K mg base (L2N.CX P w) 11 (He.ga K "law") fds.law ["_law_script"] (spD ⟨P, w, K, mg, 0, none, .none⟩ 1 F_law) := fn_d (k := 10) Z.f_law sc_law rfl fun cdv A outer s H E L => by
    have hu := L.u65
    have hu16 := L.u16
    have nd := sc_law.nd
    exact (dss_cons (ds_set (i := 1) nd (de_call (L.call (ok_l_digits Z) (by decide) Z.f_l_digits.kp (bd_l_digits Z) .nil (fun _ _ => .nil)) Z.m_l_digits (da_cons (de_call (L.call (ok_l_cell Z) (by decide) Z.f_l_cell.kp (bd_l_cell Z) .nil (fun _ _ => .nil)) Z.m_l_cell (da_cons (de_var 0) (da_cons de_int da_nil))) (da_cons (de_lst (da_cons de_int (da_cons de_int (da_cons de_int (da_cons de_int (da_cons de_int (da_cons de_int (da_cons de_int (da_cons de_int (da_cons de_int (da_cons de_int (da_cons de_int da_nil)))))))))))) da_nil))))
    (dss_frz 1 (dss_cons (ds_set (i := 2) nd (de_call (L.call (ok_l_strange Z) (by decide) Z.f_l_strange.kp (bd_l_strange Z) .nil (fun _ _ => .nil)) Z.m_l_strange (da_cons (de_call (L.call (ok_l_names Z) (by decide) Z.f_l_names.kp (bd_l_names Z) .nil (fun _ _ => .nil)) Z.m_l_names (da_cons (de_sl01 (de_var 1) de_int) (da_cons (de_add de_int (de_sub_ix (de_var 1) de_int)) da_nil))) (da_cons (de_sub_ix (de_var 1) de_int) da_nil))))
    (dss_frz 2 (dss_cons (ds_set (i := 3) nd (de_call (L.call (ok_l_rules Z) (by decide) Z.f_l_rules.kp (bd_l_rules Z) .nil (fun _ _ => .nil)) Z.m_l_rules (da_cons (de_var 0) (da_cons (de_var 2) (da_cons (de_sub_ix (de_lst (da_cons de_int (da_cons de_int (da_cons de_int (da_cons de_int (da_cons de_int (da_cons de_int (da_cons de_int (da_cons de_int (da_cons de_int (da_cons de_int (da_cons de_int (da_cons de_int da_nil))))))))))))) (de_sub_ix (de_var 1) de_int)) da_nil)))))
    (dss_frz 3 (dss_cons (ds_set (i := 4) nd (de_call (L.call (ok_l_digits Z) (by decide) Z.f_l_digits.kp (bd_l_digits Z) .nil (fun _ _ => .nil)) Z.m_l_digits (da_cons (de_call (L.call (ok_l_cell Z) (by decide) Z.f_l_cell.kp (bd_l_cell Z) .nil (fun _ _ => .nil)) Z.m_l_cell (da_cons (de_var 0) (da_cons de_int da_nil))) (da_cons (de_add (de_mul (de_lst (da_cons de_int da_nil)) de_int) (de_lst (da_cons de_int da_nil))) da_nil))))
    (dss_frz 4 (dss_cons (ds_set (i := 5) nd (de_sl01 (de_var 4) (de_sub_ix (de_var 4) de_int)))
    (dss_frz 5 (dss_cons (ds_if (dw_t (dw_and (dt_eq hu (de_sub_ix (de_var 1) de_int) de_int) (dw_and1 (dt_gt (de_len Z.n_len (da_cons (de_var 3) da_nil)) de_int))))
    (dss_cons (ds_set (i := 6) nd (de_mod (de_intC Z.n_int (da_cons (de_sub_ix (de_var 1) de_int) da_nil)) (de_len Z.n_len (da_cons (de_var 3) da_nil))))
    (dss_cons (ds_set (i := 7) nd (de_tup (da_cons (de_sub_ix (de_sub_ix (de_var 3) (de_var 6)) de_int) (da_cons (de_sub_ix (de_sub_ix (de_var 3) (de_var 6)) de_int) (da_cons (de_sub_ix (de_lst (da_cons (de_sub_ix (de_sub_ix (de_var 3) (de_var 6)) de_int) (da_cons (de_mod (de_intC Z.n_int (da_cons (de_sub_ix (de_var 1) de_int) da_nil)) de_int) da_nil))) (de_mod (de_intC Z.n_int (da_cons (de_sub_ix (de_var 1) de_int) da_nil)) de_int)) da_nil)))))
    (dss_cons (ds_set (i := 8) nd (de_add (de_add (de_var 6) de_int) (de_mod (de_intC Z.n_int (da_cons (de_sub_ix (de_var 1) de_int) da_nil)) (de_sub (de_len Z.n_len (da_cons (de_var 3) da_nil)) (de_var 6)))))
    (dss_frz 8 (dss_one (ds_set (i := 3) nd (de_add (de_add (de_sl01 (de_var 3) (de_var 8)) (de_lst (da_cons (de_var 7) da_nil))) (de_sl10 (de_var 3) (de_var 8)))))))))
    dss_nil)
    (dss_frz 8 (dss_frz 3 (dss_cons (ds_set (i := 9) nd (de_call (L.call (ok_l_double Z) (by decide) Z.f_l_double.kp (bd_l_double Z) .nil (fun _ _ => .nil)) Z.m_l_double (da_cons (de_var 3) da_nil)))
    (dss_frz 9 (dss_cons (ds_if (dt_notN (de_var 9))
    (dss_cons (ds_if (dt_not (dt_tru (de_call (L.call (ok_l_bad_rule Z) (by decide) Z.f_l_bad_rule.kp (bd_l_bad_rule Z) .nil (fun _ _ => .nil)) Z.m_l_bad_rule (da_cons (de_var 3) (da_cons (de_listC Z.n_list (da_cons (de_var 5) da_nil)) (da_cons (de_var 9) da_nil))))))
    (dss_one (ds_ret de_bl))
    dss_nil)
    (dss_one (ds_set (i := 3) nd (de_call (L.call (ok_l_single Z) (by decide) Z.f_l_single.kp (bd_l_single Z) .nil (fun _ _ => .nil)) Z.m_l_single (da_cons (de_var 3) da_nil)))))
    dss_nil)
    (dss_frz 3 (dss_cons (ds_set (i := 10) nd (de_call (L.call (ok_l_digits Z) (by decide) Z.f_l_digits.kp (bd_l_digits Z) .nil (fun _ _ => .nil)) Z.m_l_digits (da_cons (de_call (L.call (ok_l_cell Z) (by decide) Z.f_l_cell.kp (bd_l_cell Z) .nil (fun _ _ => .nil)) Z.m_l_cell (da_cons (de_var 0) (da_cons de_int da_nil))) (da_cons (de_add (de_lst (da_cons de_int da_nil)) (de_mul (de_lst (da_cons de_int da_nil)) de_int)) da_nil))))
    (dss_frz 10 (dss_cons (ds_set (i := 11) nd (de_sub_ix (de_lst (da_cons de_int (da_cons de_int (da_cons de_int (da_cons de_int (da_cons de_int (da_cons de_int (da_cons de_int (da_cons de_int (da_cons de_int (da_cons de_int (da_cons de_int (da_cons de_int (da_cons de_int (da_cons de_int (da_cons de_int (da_cons de_int da_nil))))))))))))))))) (de_sub_ix (de_var 10) de_int)))
    (dss_frz 11 (dss_cons (ds_set (i := 12) nd (de_call (L.call (ok_l_drawn_moves Z) (by decide) Z.f_l_drawn_moves.kp (bd_l_drawn_moves Z) .nil (fun _ _ => .nil)) Z.m_l_drawn_moves (da_cons (de_var 2) (da_cons (de_var 3) (da_cons (de_sl11 (de_var 10) de_int (de_add de_int (de_var 11))) da_nil)))))
    (dss_frz 12 (dss_cons (ds_setLc (i := 13) [("_law_rule", 16)] L.calm nd (di_any (de_var 3)) rfl (fun s H C cl fp => (dg_name (i := 16) nd)) (fun s H C cl fp => dts_nil) (fun s H C cl fp => (de_lst (da_cons (de_sub_ix (de_var 16) de_int) (da_cons (de_listC Z.n_list (da_cons (de_sub_ix (de_var 16) de_int) da_nil)) (da_cons (de_sub_ix (de_var 16) de_int) da_nil))))) rfl)
    (dss_cons (ds_set (i := 14) nd (de_listC Z.n_list (da_cons (de_var 5) da_nil)))
    (dss_cons (ds_set (i := 15) nd (de_call (L.make Z.mk_Watch (ok_Watch___init__ Z) (by decide) (bd_Watch___init__ Z) .nil (fun _ _ => .nil)) Z.c_Watch (da_cons (de_var 13) (da_cons (de_var 14) da_nil))))
    (dss_frz 15 (dss_cons (ds_if (dw_t (dw_or (dt_ne hu (de_var 13) (de_lc [("_law_rule", 16)] L.calm nd (di_any (de_var 3)) rfl (fun s H C cl fp => (dg_name (i := 16) nd)) (fun s H C cl fp => dts_nil) (fun s H C cl fp => (de_lst (da_cons (de_sub_ix (de_var 16) de_int) (da_cons (de_listC Z.n_list (da_cons (de_sub_ix (de_var 16) de_int) da_nil)) (da_cons (de_sub_ix (de_var 16) de_int) da_nil))))))) (dw_or1 (dt_ne hu (de_var 14) (de_listC Z.n_list (da_cons (de_var 5) da_nil))))))
    (dss_one (ds_ret de_bl))
    dss_nil)
    (dss_cons (ds_forIdx 13 16 L.own L.calm nd (pe_subE 16 9 2) (hte_subE 16 9 2))
    (dss_cons (ds_app 13 (de_lst (da_cons de_int (da_cons (de_lst (da_cons de_str (da_cons (de_sub_ix (de_var 2) de_int) da_nil))) (da_cons de_int da_nil)))))
    (dss_cons (ds_app 14 de_int)
    (dss_cons (ds_app 14 de_int)
    (dss_cons (ds_if (dt_not (dt_tru (de_call (L.call (ok_l_watch_right Z) (by decide) Z.f_l_watch_right.kp (bd_l_watch_right Z) .nil (fun _ _ => .nil)) Z.m_l_watch_right (da_cons (de_var 15) (da_cons (de_var 3) (da_cons (de_var 5) (da_cons (de_var 2) (da_cons (de_var 12) da_nil))))))))
    (dss_one (ds_ret de_bl))
    dss_nil)
    (dss_cons (ds_setLc (i := 17) [("_law_state", 22)] L.calm nd (di_range1 de_int rfl Z.n_range) rfl (fun s H C cl fp => (dg_name (i := 22) nd)) (fun s H C cl fp => (dts_one (dt_notIn hu (de_var 22) (de_var 5)))) (fun s H C cl fp => (de_var 22)) rfl)
    (dss_frz 17 (dss_cons (ds_if (dt_not (dt_tru (de_call (L.call (ok_l_watch_right Z) (by decide) Z.f_l_watch_right.kp (bd_l_watch_right Z) .nil (fun _ _ => .nil)) Z.m_l_watch_right (da_cons (de_inv (C := "Watch") (de_var 15) Z.iv_Watch Z.ivf_Watch (L.call (ok_Watch___invert__ Z) (by decide) Z.f_Watch___invert__.kp (bd_Watch___invert__ Z) .nil (fun _ _ => .nil))) (da_cons (de_var 3) (da_cons (de_var 17) (da_cons (de_var 2) (da_cons (de_var 12) da_nil))))))))
    (dss_one (ds_ret de_bl))
    dss_nil)
    (dss_cons (ds_set (i := 18) nd (de_call (L.call (ok_l_digits Z) (by decide) Z.f_l_digits.kp (bd_l_digits Z) .nil (fun _ _ => .nil)) Z.m_l_digits (da_cons (de_call (L.call (ok_l_cell Z) (by decide) Z.f_l_cell.kp (bd_l_cell Z) .nil (fun _ _ => .nil)) Z.m_l_cell (da_cons (de_var 0) (da_cons de_int da_nil))) (da_cons (de_lst (da_cons de_int (da_cons de_int da_nil))) da_nil))))
    (dss_frz 18 (dss_cons (ds_set (i := 19) nd (de_add (de_lc [("_law_rule", 16)] L.calm nd (di_any (de_var 3)) rfl (fun s H C cl fp => (dg_name (i := 16) nd)) (fun s H C cl fp => dts_nil) (fun s H C cl fp => (de_sub_ix (de_var 16) de_int))) (de_lst (da_cons (de_tup (da_cons de_str (da_cons (de_sub_ix (de_var 2) de_int) da_nil))) (da_cons (de_tup (da_cons de_str (da_cons (de_sub_ix (de_var 2) (de_neg de_int)) (da_cons (de_sub_ix (de_var 2) de_int) da_nil)))) da_nil)))))
    (dss_frz 19 (dss_cons (ds_set (i := 20) nd (de_sub_ix (de_var 19) (de_mod (de_intC Z.n_int (da_cons (de_sub_ix (de_var 18) de_int) da_nil)) (de_len Z.n_len (da_cons (de_var 19) da_nil)))))
    (dss_frz 20 (dss_cons (ds_setLc (i := 21) [("_law_one", 23)] L.calm nd (di_any (de_var 19)) rfl (fun s H C cl fp => (dg_name (i := 23) nd)) (fun s H C cl fp => (dts_one (dt_ne hu (de_var 23) (de_var 20)))) (fun s H C cl fp => (de_var 23)) rfl)
    (dss_frz 21 (dss_cons (ds_if (dt_not (dt_tru (de_call (L.call (ok_l_meant Z) (by decide) Z.f_l_meant.kp (bd_l_meant Z) .nil (fun _ _ => .nil)) Z.m_l_meant (da_cons (de_var 20) (da_cons (de_sub_ix (de_var 21) (de_mod (de_intC Z.n_int (da_cons (de_sub_ix (de_var 18) de_int) da_nil)) (de_len Z.n_len (da_cons (de_var 21) da_nil)))) (da_cons (de_var 2) (da_cons (de_var 12) da_nil)))))))
    (dss_one (ds_ret de_bl))
    dss_nil)
    (dss_one (ds_ret (de_and (de_call (L.call (ok_l_watch_right Z) (by decide) Z.f_l_watch_right.kp (bd_l_watch_right Z) .nil (fun _ _ => .nil)) Z.m_l_watch_right (da_cons (de_inv (C := "Watch") (de_inv (C := "Watch") (de_var 15) Z.iv_Watch Z.ivf_Watch (L.call (ok_Watch___invert__ Z) (by decide) Z.f_Watch___invert__.kp (bd_Watch___invert__ Z) .nil (fun _ _ => .nil))) Z.iv_Watch Z.ivf_Watch (L.call (ok_Watch___invert__ Z) (by decide) Z.f_Watch___invert__.kp (bd_Watch___invert__ Z) .nil (fun _ _ => .nil))) (da_cons (de_var 3) (da_cons (de_var 5) (da_cons (de_var 2) (da_cons (de_var 12) da_nil)))))) (de_one (de_call (L.call (ok_l_watch_right Z) (by decide) Z.f_l_watch_right.kp (bd_l_watch_right Z) .nil (fun _ _ => .nil)) Z.m_l_watch_right (da_cons (de_var 15) (da_cons (de_var 3) (da_cons (de_var 5) (da_cons (de_var 2) (da_cons (de_var 12) da_nil)))))))))))))))))))))))))))))))))))))))))))))))))))))))
end
end K75
set_option Elab.async false
set_option linter.all false
set_option maxRecDepth 100000
set_option maxHeartbeats 0
namespace K75
open PySem PySem.Spec PyProof.Rows L2 Dl
/-! ### the head -/
def d_l_digits : DefA := ⟨fun K => (He.ga K "_law_digits"), "_law_digits", "_law_digits", defArgs s_l_digits, defBody s_l_digits, defScope s_l_digits, []⟩
def d_l_cell : DefA := ⟨fun K => (He.ga K "_law_cell"), "_law_cell", "_law_cell", defArgs s_l_cell, defBody s_l_cell, defScope s_l_cell, []⟩
def d_l_strange : DefA := ⟨fun K => (He.ga K "_law_strange"), "_law_strange", "_law_strange", defArgs s_l_strange, defBody s_l_strange, defScope s_l_strange, []⟩
def d_l_names : DefA := ⟨fun K => (He.ga K "_law_names"), "_law_names", "_law_names", defArgs s_l_names, defBody s_l_names, defScope s_l_names, []⟩
def d_l_event : DefA := ⟨fun K => (He.ga K "_law_event"), "_law_event", "_law_event", defArgs s_l_event, defBody s_l_event, defScope s_l_event, []⟩
def d_l_rules : DefA := ⟨fun K => (He.ga K "_law_rules"), "_law_rules", "_law_rules", defArgs s_l_rules, defBody s_l_rules, defScope s_l_rules, []⟩
def d_l_double : DefA := ⟨fun K => (He.ga K "_law_double"), "_law_double", "_law_double", defArgs s_l_double, defBody s_l_double, defScope s_l_double, []⟩
def d_frozen : DefA := ⟨fun K => (He.ga K "frozen"), "frozen", "frozen", defArgs s_frozen, defBody s_frozen, defScope s_frozen, []⟩
def d_BadRule___init__ : DefA := ⟨fun K => (He.ma K (He.ga K "BadRule") "__init__"), "__init__", "BadRule.__init__", defArgs s_BadRule___init__, defBody s_BadRule___init__, defScope s_BadRule___init__, []⟩
def d_Watch___init__ : DefA := ⟨fun K => (He.ma K (He.ga K "Watch") "__init__"), "__init__", "Watch.__init__", defArgs s_Watch___init__, defBody s_Watch___init__, defScope s_Watch___init__, []⟩
def d_l_whole : DefA := ⟨fun K => (He.ga K "_law_whole"), "_law_whole", "_law_whole", defArgs s_l_whole, defBody s_l_whole, defScope s_l_whole, []⟩
def d_l_bad_rule : DefA := ⟨fun K => (He.ga K "_law_bad_rule"), "_law_bad_rule", "_law_bad_rule", defArgs s_l_bad_rule, defBody s_l_bad_rule, defScope s_l_bad_rule, []⟩
def d_l_single : DefA := ⟨fun K => (He.ga K "_law_single"), "_law_single", "_law_single", defArgs s_l_single, defBody s_l_single, defScope s_l_single, []⟩
def d_l_drawn_moves : DefA := ⟨fun K => (He.ga K "_law_drawn_moves"), "_law_drawn_moves", "_law_drawn_moves", defArgs s_l_drawn_moves, defBody s_l_drawn_moves, defScope s_l_drawn_moves, []⟩
def d_l_same : DefA := ⟨fun K => (He.ga K "_law_same"), "_law_same", "_law_same", defArgs s_l_same, defBody s_l_same, defScope s_l_same, []⟩
def d_l_next : DefA := ⟨fun K => (He.ga K "_law_next"), "_law_next", "_law_next", defArgs s_l_next, defBody s_l_next, defScope s_l_next, []⟩
def d_Watch_state_after : DefA := ⟨fun K => (He.ma K (He.ga K "Watch") "state_after"), "state_after", "Watch.state_after", defArgs s_Watch_state_after, defBody s_Watch_state_after, defScope s_Watch_state_after, []⟩
def d_event_of_move : DefA := ⟨fun K => (He.ga K "event_of_move"), "event_of_move", "event_of_move", defArgs s_event_of_move, defBody s_event_of_move, defScope s_event_of_move, []⟩
def d_Watch___call__ : DefA := ⟨fun K => (He.ma K (He.ga K "Watch") "__call__"), "__call__", "Watch.__call__", defArgs s_Watch___call__, defBody s_Watch___call__, defScope s_Watch___call__, []⟩
def d_l_of_move : DefA := ⟨fun K => (He.ga K "_law_of_move"), "_law_of_move", "_law_of_move", defArgs s_l_of_move, defBody s_l_of_move, defScope s_l_of_move, []⟩
def d_l_watch_right : DefA := ⟨fun K => (He.ga K "_law_watch_right"), "_law_watch_right", "_law_watch_right", defArgs s_l_watch_right, defBody s_l_watch_right, defScope s_l_watch_right, []⟩
def d_Watch___invert__ : DefA := ⟨fun K => (He.ma K (He.ga K "Watch") "__invert__"), "__invert__", "Watch.__invert__", defArgs s_Watch___invert__, defBody s_Watch___invert__, defScope s_Watch___invert__, []⟩
def d_Watch_never : DefA := ⟨fun K => (He5.wf K (He.ga K "Watch") "staticmethod" "never"), "never", "Watch.never", defArgs s_Watch_never, defBody s_Watch_never, defScope s_Watch_never, []⟩
def d_Watch_follows : DefA := ⟨fun K => (He5.wf K (He.ga K "Watch") "staticmethod" "follows"), "follows", "Watch.follows", defArgs s_Watch_follows, defBody s_Watch_follows, defScope s_Watch_follows, []⟩
def d_l_meant : DefA := ⟨fun K => (He.ga K "_law_meant"), "_law_meant", "_law_meant", defArgs s_l_meant, defBody s_l_meant, defScope s_l_meant, []⟩
def d_law : DefA := ⟨fun K => (He.ga K "law"), "law", "law", defArgs s_law, defBody s_law, defScope s_law, []⟩
def fn : List DefA := [d_l_digits, d_l_cell, d_l_strange, d_l_names, d_l_event, d_l_rules, d_l_double, d_frozen, d_BadRule___init__, d_Watch___init__, d_l_whole, d_l_bad_rule, d_l_single, d_l_drawn_moves, d_l_same, d_l_next, d_Watch_state_after, d_event_of_move, d_Watch___call__, d_l_of_move, d_l_watch_right, d_Watch___invert__, d_Watch_never, d_Watch_follows, d_l_meant, d_law]
def fa : List (PySem.W.Frag → Bool) := [
  fun K => (He.Fa.glo "law").ok K,
  fun K => (He.Fa.glo "BadRule").ok K,
  fun K => (He.Fa.glo "BadStep").ok K,
  fun K => (He.Fa.glo "LeaveError").ok K,
  fun K => (He.Fa.glo "NoEvening").ok K,
  fun K => (He.Fa.glo "UnknownGuest").ok K,
  fun K => (He.Fa.glo "Watch").ok K,
  fun K => (He.Fa.free "int").ok K,
  fun K => (He.Fa.free "len").ok K,
  fun K => (He.Fa.free "range").ok K,
  fun K => (He.Fa.glo "_law_cell").ok K,
  fun K => (He.Fa.glo "_law_digits").ok K,
  fun K => (He.Fa.free "list").ok K,
  fun K => (He.Fa.glo "_law_names").ok K,
  fun K => (He.Fa.glo "_law_strange").ok K,
  fun K => (He.Fa.glo "_law_event").ok K,
  fun K => (He.Fa.glo "_law_rules").ok K,
  fun K => (He.Fa.glo "_law_double").ok K,
  fun K => decide (PySem.W.exmOne K (.ref (He.ga K "BadRule")) (.ref (He.ga K "LeaveError")) = some true),
  fun K => (He.Fa.free "tuple").ok K,
  fun K => (He.Fa.free "isinstance").ok K,
  fun K => (He.Fa.glo "frozen").ok K,
  fun K => (He.Fa.free "enumerate").ok K,
  fun K => oxB K (He.ga K "BadRule"),
  fun K => He.eqO (PySem.W.findIn K (.ref (He.ga K "BadRule")) "index") (some none),
  fun K => He.eqO (PySem.W.findIn K (.ref (He.ga K "BadRule")) "__init__") (some (some (.ref (He.ma K (He.ga K "BadRule") "__init__")))),
  fun K => decide (PySem.W.typeIn K (.ref (He.ma K (He.ga K "BadRule") "__init__")) = some (.type "function")),
  fun K => (He.Fa.cls "Watch").ok K,
  fun K => (He.Fa.noat "Watch" "rules").ok K,
  fun K => (He.Fa.free "sorted").ok K,
  fun K => (He.Fa.free "set").ok K,
  fun K => (He.Fa.noat "Watch" "good").ok K,
  fun K => (He.Fa.noat "Watch" "nexts").ok K,
  fun K => (He.Fa.mkr "Watch").ok K,
  fun K => decide (PySem.W.kitOne K (.ref (He.ga K "BadRule")) (.ref (He.ga K "BadRule")) = some true),
  fun K => ecB K (He.ga K "BadRule"),
  fun K => (He.Fa.free "ValueError").ok K,
  fun K => decide (PySem.W.kitOne K (.ref (He.ga K "BadRule")) (.type "ValueError") = some true),
  fun K => decide (PySem.W.kitOne K (.ref (He.ga K "BadRule")) (.ref (He.ga K "BadStep")) = some false),
  fun K => decide (PySem.W.kitOne K (.ref (He.ga K "BadRule")) (.ref (He.ga K "NoEvening")) = some false),
  fun K => decide (PySem.W.kitOne K (.ref (He.ga K "BadRule")) (.ref (He.ga K "UnknownGuest")) = some false),
  fun K => (He.Fa.free "bool").ok K,
  fun K => xfB K (He.ga K "BadRule"),
  fun K => (He.Fa.glo "_law_whole").ok K,
  fun K => (He.Fa.glo "_law_bad_rule").ok K,
  fun K => (He.Fa.glo "_law_single").ok K,
  fun K => (He.Fa.glo "_law_drawn_moves").ok K,
  fun K => (He.Fa.glo "_law_same").ok K,
  fun K => (He.Fa.free "str").ok K,
  fun K => (He.Fa.glo "_law_next").ok K,
  fun K => (He.Fa.meth "Watch" "state_after").ok K,
  fun K => (He.Fa.glo "event_of_move").ok K,
  fun K => coB K (He.ga K "Watch") (He.ma K (He.ga K "Watch") "__call__"),
  fun K => (He.Fa.glo "_law_of_move").ok K,
  fun K => (He.Fa.glo "_law_watch_right").ok K,
  fun K => He.eqO (PySem.W.findIn K (.ref (He.ga K "Watch")) "__invert__") (some (some (.ref (He.ma K (He.ga K "Watch") "__invert__")))),
  fun K => PySem.W.isFn K (.ref (He.ma K (He.ga K "Watch") "__invert__")),
  fun K => stB K (He.ga K "Watch") "never",
  fun K => stB K (He.ga K "Watch") "follows",
  fun K => (He.Fa.glo "_law_meant").ok K]
theorem facts {P : Program} {w : World} {K : PySem.W.Frag} {h : Heap} {mg : Str → Option Value} (X : K.In h) (G : h.Ns mainGlobals mg) (c : SaysM fa fn K) : ∃ fds : Fds, Fs P w K mg fds := by
  obtain ⟨fd_0, F_0⟩ := c.def_ 0 (d := d_l_digits) rfl
  obtain ⟨fd_1, F_1⟩ := c.def_ 1 (d := d_l_cell) rfl
  obtain ⟨fd_2, F_2⟩ := c.def_ 2 (d := d_l_strange) rfl
  obtain ⟨fd_3, F_3⟩ := c.def_ 3 (d := d_l_names) rfl
  obtain ⟨fd_4, F_4⟩ := c.def_ 4 (d := d_l_event) rfl
  obtain ⟨fd_5, F_5⟩ := c.def_ 5 (d := d_l_rules) rfl
  obtain ⟨fd_6, F_6⟩ := c.def_ 6 (d := d_l_double) rfl
  obtain ⟨fd_7, F_7⟩ := c.def_ 7 (d := d_frozen) rfl
  obtain ⟨fd_8, F_8⟩ := c.def_ 8 (d := d_BadRule___init__) rfl
  obtain ⟨fd_9, F_9⟩ := c.def_ 9 (d := d_Watch___init__) rfl
  obtain ⟨fd_10, F_10⟩ := c.def_ 10 (d := d_l_whole) rfl
  obtain ⟨fd_11, F_11⟩ := c.def_ 11 (d := d_l_bad_rule) rfl
  obtain ⟨fd_12, F_12⟩ := c.def_ 12 (d := d_l_single) rfl
  obtain ⟨fd_13, F_13⟩ := c.def_ 13 (d := d_l_drawn_moves) rfl
  obtain ⟨fd_14, F_14⟩ := c.def_ 14 (d := d_l_same) rfl
  obtain ⟨fd_15, F_15⟩ := c.def_ 15 (d := d_l_next) rfl
  obtain ⟨fd_16, F_16⟩ := c.def_ 16 (d := d_Watch_state_after) rfl
  obtain ⟨fd_17, F_17⟩ := c.def_ 17 (d := d_event_of_move) rfl
  obtain ⟨fd_18, F_18⟩ := c.def_ 18 (d := d_Watch___call__) rfl
  obtain ⟨fd_19, F_19⟩ := c.def_ 19 (d := d_l_of_move) rfl
  obtain ⟨fd_20, F_20⟩ := c.def_ 20 (d := d_l_watch_right) rfl
  obtain ⟨fd_21, F_21⟩ := c.def_ 21 (d := d_Watch___invert__) rfl
  obtain ⟨fd_22, F_22⟩ := c.def_ 22 (d := d_Watch_never) rfl
  obtain ⟨fd_23, F_23⟩ := c.def_ 23 (d := d_Watch_follows) rfl
  obtain ⟨fd_24, F_24⟩ := c.def_ 24 (d := d_l_meant) rfl
  obtain ⟨fd_25, F_25⟩ := c.def_ 25 (d := d_law) rfl
  have E_BadRule : clOf mg "BadRule" = He.ga K "BadRule" := clOf_eq (He.glo_ok X G (c.fact 1))
  have E_BadStep : clOf mg "BadStep" = He.ga K "BadStep" := clOf_eq (He.glo_ok X G (c.fact 2))
  have E_LeaveError : clOf mg "LeaveError" = He.ga K "LeaveError" := clOf_eq (He.glo_ok X G (c.fact 3))
  have E_NoEvening : clOf mg "NoEvening" = He.ga K "NoEvening" := clOf_eq (He.glo_ok X G (c.fact 4))
  have E_UnknownGuest : clOf mg "UnknownGuest" = He.ga K "UnknownGuest" := clOf_eq (He.glo_ok X G (c.fact 5))
  have E_Watch : clOf mg "Watch" = He.ga K "Watch" := clOf_eq (He.glo_ok X G (c.fact 6))
  exact ⟨⟨fd_0, fd_1, fd_2, fd_3, fd_4, fd_5, fd_6, fd_7, fd_8, fd_9, fd_10, fd_11, fd_12, fd_13, fd_14, fd_15, fd_16, fd_17, fd_18, fd_19, fd_20, fd_21, fd_22, fd_23, fd_24, fd_25⟩, {
    n_int := He.free_ok X G (c.fact 7)
    n_len := He.free_ok X G (c.fact 8)
    n_range := He.free_ok X G (c.fact 9)
    m_l_cell := He.glo_ok X G (c.fact 10)
    m_l_digits := He.glo_ok X G (c.fact 11)
    n_list := He.free_ok X G (c.fact 12)
    m_l_names := He.glo_ok X G (c.fact 13)
    m_l_strange := He.glo_ok X G (c.fact 14)
    m_l_event := He.glo_ok X G (c.fact 15)
    m_l_rules := He.glo_ok X G (c.fact 16)
    m_l_double := He.glo_ok X G (c.fact 17)
    em_LeaveError := fun n b h => by
      by_cases e : (n == "BadRule") = true
      · simp only [e, if_true] at h
        have e := eq_of_beq e
        subst e
        cases h
        rw [E_BadRule, E_LeaveError]
        exact of_decide_eq_true (c.fact 18)
      · simp only [e] at h
        cases h
    n_tuple := He.free_ok X G (c.fact 19)
    n_isinstance := He.free_ok X G (c.fact 20)
    m_frozen := He.glo_ok X G (c.fact 21)
    n_enumerate := He.free_ok X G (c.fact 22)
    ox_BadRule := by rw [E_BadRule]; exact oxB_ok (c.fact 23)
    nf_BadRule := by rw [E_BadRule]; exact He.eqO_ok (c.fact 24)
    ii_BadRule := by rw [E_BadRule]; exact He.eqO_ok (c.fact 25)
    ti_BadRule := of_decide_eq_true (c.fact 26)
    c_BadRule := clOf_mg (He.glo_ok X G (c.fact 1))
    cl_Watch := by rw [E_Watch]; exact He.cls_ok (c.fact 27)
    na_Watch_rules := by rw [E_Watch]; exact He.noat_ok (c.fact 28)
    n_sorted := He.free_ok X G (c.fact 29)
    n_set := He.free_ok X G (c.fact 30)
    na_Watch_good := by rw [E_Watch]; exact He.noat_ok (c.fact 31)
    na_Watch_nexts := by rw [E_Watch]; exact He.noat_ok (c.fact 32)
    mk_Watch := by rw [E_Watch]; exact He.mkr_ok (c.fact 33)
    c_Watch := clOf_mg (He.glo_ok X G (c.fact 6))
    ki_BadRule := fun n b h => by
      by_cases e : (n == "BadRule") = true
      · simp only [e, if_true] at h
        have e := eq_of_beq e
        subst e
        cases h
        rw [E_BadRule]
        exact ⟨ecB_ok (c.fact 35), of_decide_eq_true (c.fact 34)⟩
      · simp only [e] at h
        cases h
    n_ValueError := He.free_ok X G (c.fact 36)
    ki_ValueError := fun n b h => by
      by_cases e : (n == "BadRule") = true
      · simp only [e, if_true] at h
        have e := eq_of_beq e
        subst e
        cases h
        rw [E_BadRule]
        exact ⟨ecB_ok (c.fact 35), of_decide_eq_true (c.fact 37)⟩
      · simp only [e] at h
        cases h
    c_BadStep := clOf_mg (He.glo_ok X G (c.fact 2))
    ki_BadStep := fun n b h => by
      by_cases e : (n == "BadRule") = true
      · simp only [e, if_true] at h
        have e := eq_of_beq e
        subst e
        cases h
        rw [E_BadRule, E_BadStep]
        exact ⟨ecB_ok (c.fact 35), of_decide_eq_true (c.fact 38)⟩
      · simp only [e] at h
        cases h
    c_NoEvening := clOf_mg (He.glo_ok X G (c.fact 4))
    ki_NoEvening := fun n b h => by
      by_cases e : (n == "BadRule") = true
      · simp only [e, if_true] at h
        have e := eq_of_beq e
        subst e
        cases h
        rw [E_BadRule, E_NoEvening]
        exact ⟨ecB_ok (c.fact 35), of_decide_eq_true (c.fact 39)⟩
      · simp only [e] at h
        cases h
    c_UnknownGuest := clOf_mg (He.glo_ok X G (c.fact 5))
    ki_UnknownGuest := fun n b h => by
      by_cases e : (n == "BadRule") = true
      · simp only [e, if_true] at h
        have e := eq_of_beq e
        subst e
        cases h
        rw [E_BadRule, E_UnknownGuest]
        exact ⟨ecB_ok (c.fact 35), of_decide_eq_true (c.fact 40)⟩
      · simp only [e] at h
        cases h
    n_bool := He.free_ok X G (c.fact 41)
    xf_index := fun n h => by
      have e : n = "BadRule" := eq_of_beq h
      subst e
      rw [E_BadRule]
      exact ⟨xfB_ok (c.fact 42), He.eqO_ok (c.fact 24)⟩
    m_l_whole := He.glo_ok X G (c.fact 43)
    c_LeaveError := clOf_mg (He.glo_ok X G (c.fact 3))
    m_l_bad_rule := He.glo_ok X G (c.fact 44)
    m_l_single := He.glo_ok X G (c.fact 45)
    m_l_drawn_moves := He.glo_ok X G (c.fact 46)
    m_l_same := He.glo_ok X G (c.fact 47)
    n_str := He.free_ok X G (c.fact 48)
    m_l_next := He.glo_ok X G (c.fact 49)
    me_Watch_state_after := by rw [E_Watch]; exact He.meth_ok (c.fact 50)
    m_event_of_move := He.glo_ok X G (c.fact 51)
    co_Watch := by rw [E_Watch]; exact coB_ok (c.fact 52)
    m_l_of_move := He.glo_ok X G (c.fact 53)
    m_l_watch_right := He.glo_ok X G (c.fact 54)
    iv_Watch := by rw [E_Watch]; exact He.eqO_ok (c.fact 55)
    ivf_Watch := (c.fact 56)
    st_Watch_never := by rw [E_Watch]; exact stB_ok (c.fact 57)
    st_Watch_follows := by rw [E_Watch]; exact stB_ok (c.fact 58)
    m_l_meant := He.glo_ok X G (c.fact 59)
    f_l_digits := F_0
    f_l_cell := F_1
    f_l_strange := F_2
    f_l_names := F_3
    f_l_event := F_4
    f_l_rules := F_5
    f_l_double := F_6
    f_frozen := F_7
    f_BadRule___init__ := F_8
    f_Watch___init__ := F_9
    f_l_whole := F_10
    f_l_bad_rule := F_11
    f_l_single := F_12
    f_l_drawn_moves := F_13
    f_l_same := F_14
    f_l_next := F_15
    f_Watch_state_after := F_16
    f_event_of_move := F_17
    f_Watch___call__ := F_18
    f_l_of_move := F_19
    f_l_watch_right := F_20
    f_Watch___invert__ := F_21
    f_Watch_never := F_22
    f_Watch_follows := F_23
    f_l_meant := F_24
    f_law := F_25
  }⟩
abbrev R : PySem.W.OpenRow := PySem.W.OpenLaw.row PySem.Challenge.rw_leavetaking_k75_watches
abbrev hk : PySem.W.Hook := hookM 6 fa fn
def ob (s : PySem.W.SharedT) : He.AlD := obsMG 6 fa fn (HandSHeadRun.getT s)
theorem ob_eq (s : PySem.W.SharedT) : ob s = hk.obs s.abs := obsMG_eq (HandSHeadRun.getT_eq s)
def names : List PySem.Str := ["LeaveError", "UnknownGuest", "BadStep", "NoEvening", "BadRule", "Watch", "frozen", "event_of_move", "_law_whole", "_law_cell", "_law_digits", "_law_names", "_law_same", "_law_strange", "_law_event", "_law_rules", "_law_double", "_law_single", "_law_bad_rule", "_law_next", "_law_of_move", "_law_drawn_moves", "_law_watch_right", "_law_meant"]
theorem run (w : World) : HandSHeadRun.RunEq R (PySem.W.view R.prog [29]) hk ob 4000 names w := by
  intro os
  kernel_rfl
end K75
set_option Elab.async false
set_option linter.all false
set_option maxRecDepth 100000
namespace K75
open PySem PySem.Spec PyProof.Rows L2 Dl
theorem toDs_map {α : Type} {h : α → D} {xs : List α} : T.toDs (xs.map (T.leaf ∘ h)) = xs.map h := by
  simp [T.toDs_eq, T.toD]
theorem filter_yes {α : Type} {xs : List α} : xs.filter (fun _ => true) = xs := by simp
theorem whole_int (n : Int) : F_l_whole [.int n] = .ok (.sh (.bl true)) := by
  simp [F_l_whole, g_l_whole]
/-! ### frozen -/
mutual
def pl : D → Bool
  | .non => true
  | .int _ => true
  | .str _ => true
  | .tup ds => decide (ds.length ≤ 1000) && pls ds
  | .lst ds => decide (ds.length ≤ 1000) && pls ds
  | _ => false
def pls : List D → Bool
  | [] => true
  | d :: ds => pl d && pls ds
end
mutual
def frz : D → D
  | .tup ds => .tup (frzs ds)
  | .lst ds => .tup (frzs ds)
  | d => d
def frzs : List D → List D
  | [] => []
  | d :: ds => frz d :: frzs ds
end
theorem frzs_map : ∀ ds : List D, frzs ds = ds.map frz
  | [] => rfl
  | d :: ds => by rw [frzs, frzs_map ds]; rfl
mutual
theorem frozen_ok : ∀ (d : D) (n : Nat), pl d = true → d.dep < n → F_frozen n [d] = .ok (.sh (frz d))
  | .non, n + 1, _, _ => by simp [F_frozen, g_frozen, frz]
  | .int i, n + 1, _, _ => by simp [F_frozen, g_frozen, frz]
  | .str s, n + 1, _, _ => by simp [F_frozen, g_frozen, frz]
  | .tup ds, n + 1, h, hd => by
    simp only [pl, Bool.and_eq_true, decide_eq_true_eq] at h
    have q := frozens_ok ds n h.2 (by rw [D.dep] at hd; omega)
    simp [F_frozen, g_frozen, frz]
    rw [x_lc_flat (p := fun _ => true) (h := frz) (by omega) (fun d hd => ⟨[.sh (.tup ds), .sh d], by simp [putR, SV.free], rfl, fun _ => by simp [q d hd]⟩)]
    simp [frzs_map, toDs_map, T.toDs_eq, filter_yes, Function.comp_def]
  | .lst ds, n + 1, h, hd => by
    simp only [pl, Bool.and_eq_true, decide_eq_true_eq] at h
    have q := frozens_ok ds n h.2 (by rw [D.dep] at hd; omega)
    simp [F_frozen, g_frozen, frz]
    rw [x_lc_flat (p := fun _ => true) (h := frz) (by omega) (fun d hd => ⟨[.sh (.lst ds), .sh d], by simp [putR, SV.free], rfl, fun _ => by simp [q d hd]⟩)]
    simp [frzs_map, toDs_map, T.toDs_eq, filter_yes, Function.comp_def]
  | .bl _, _ + 1, h, _ => by simp [pl] at h
  | .ty _, _ + 1, h, _ => by simp [pl] at h
  | .scr _, _ + 1, h, _ => by simp [pl] at h
  | .obj _ _, _ + 1, h, _ => by simp [pl] at h
  | .dic _, _ + 1, h, _ => by simp [pl] at h
  | _, 0, _, h => absurd h (Nat.not_lt_zero _)
theorem frozens_ok : ∀ (ds : List D) (n : Nat), pls ds = true → D.deps ds < n → ∀ d ∈ ds, F_frozen n [d] = .ok (.sh (frz d))
  | [], _, _, _ => fun _ h => by cases h
  | d :: ds, n, h, hd => fun x hx => by
    rw [pls, Bool.and_eq_true] at h
    rw [D.deps] at hd
    rcases List.mem_cons.mp hx with e | hx
    · rw [e]
      exact frozen_ok d n h.1 (by omega)
    · exact frozens_ok ds n h.2 (by omega) x hx
end
inductive Ev where
  | inn (n : Str) | out (n c : Str)
  deriving DecidableEq
def Ev.d : Ev → D
  | .inn n => .tup [.str "in", .str n]
  | .out n c => .tup [.str "out", .str n, .str c]
def Ev.ok : Ev → Bool
  | .inn n => PyData.strOk n
  | .out n c => PyData.strOk n && PyData.strOk c
theorem Ev.fine {e : Ev} (h : e.ok = true) : e.d.fine = true := by
  cases e with
  | inn n => simpa [Ev.d, D.fine, D.fines, Ev.ok] using ⟨by decide +kernel, h⟩
  | out n c =>
    simp only [Ev.ok, Bool.and_eq_true] at h
    simpa [Ev.d, D.fine, D.fines] using ⟨by decide +kernel, h.1, h.2⟩
theorem Ev.dep (e : Ev) : e.d.dep ≤ 64 := by cases e <;> simp [Ev.d, D.dep, D.deps]
theorem Ev.inj {e f : Ev} (h : e.d = f.d) : e = f := by
  cases e <;> cases f <;> simp [Ev.d] at h <;> simp [h]
theorem ev_eq {e f : Ev} (he : e.ok = true) (hf : f.ok = true) : gEq (.sh e.d) (.sh f.d) = .ok (.sh (.bl (decide (e = f)))) := by
  by_cases h : e = f
  · rw [x_eq_t (congrArg Ev.d h) (Ev.fine he) (Ev.dep e)]
    simp [h]
  · rw [x_eq_f (fun z => h (Ev.inj z)) (Ev.fine he) (Ev.fine hf) (Ev.dep e) (Ev.dep f)]
    simp [h]
structure Rl where
  s : Int
  e : Ev
  a : Int
  deriving DecidableEq
def Rl.d (r : Rl) : D := .tup [.int r.s, r.e.d, .int r.a]
@[simp] theorem rl0 {r : Rl} : gIx (.sh r.d) (.sh (.int 0)) = .ok (.sh (.int r.s)) := by simp [Rl.d]
@[simp] theorem rl1 {r : Rl} : gIx (.sh r.d) (.sh (.int 1)) = .ok (.sh r.e.d) := by simp [Rl.d]
@[simp] theorem rl2 {r : Rl} : gIx (.sh r.d) (.sh (.int 2)) = .ok (.sh (.int r.a)) := by simp [Rl.d]
/-- next state -/
def nxt (s : Int) (e : Ev) : List Rl → Int
  | [] => s
  | r :: rs => if r.s = s ∧ r.e = e then r.a else nxt s e rs
theorem next_ok {s : Int} {e : Ev} (he : e.ok = true) (all : D) : ∀ (rs : List Rl) (y : SV), (∀ r ∈ rs, r.e.ok = true) → y.free = true →
    runK (seqK (dRetV 1) (forD (bName 3) (dIf (dAndT (dT tBool (d2 gEq (d2 gIx (dVar 3) (dC (.int 0))) (dVar 1))) (dT tBool (d2 gEq (d2 gIx (dVar 3) (dC (.int 1))) (dVar 2)))) (dRet (d2 gIx (dVar 3) (dC (.int 2)))) dNext) (rs.map Rl.d) [.sh all, .sh (.int s), .sh e.d, y])) = .ok (.sh (.int (nxt s e rs)))
  | [], y, _, _ => by simp [nxt]
  | r :: rs, y, h, hy => by
    have hr := h r List.mem_cons_self
    rw [List.map_cons, x_forD_cons (ρ1 := [.sh all, .sh (.int s), .sh e.d, .sh r.d]) (by simp [putR, hy])]
    have ih := next_ok (s := s) he all rs (.sh r.d) (fun x hx => h x (List.mem_cons_of_mem _ hx)) rfl
    have q := ev_eq hr he
    by_cases h1 : r.s = s
    · by_cases h2 : r.e = e
      · rw [h2] at q
        simp [h1, q, h2, nxt]
      · simp [h1, q, h2, nxt]
        exact ih
    · simp [h1, nxt]
      exact ih
/-! ### moves -/
inductive Mv where
  | inn (n : Str) (k : Int) | out (n c : Str)
def Mv.d : Mv → D
  | .inn n k => .tup [.str "in", .str n, .int k]
  | .out n c => .tup [.str "out", .str n, .str c]
def Mv.e : Mv → Ev
  | .inn n _ => .inn n
  | .out n c => .out n c
def Mv.ok (m : Mv) : Bool := m.e.ok
theorem in_ok : PyData.strOk "in" = true := by decide +kernel
theorem out_ok : PyData.strOk "out" = true := by decide +kernel
theorem out_in : ("out" : Str) ≠ "in" := by decide
theorem of_move (m : Mv) : F_l_of_move [m.d] = .ok (.sh m.e.d) := by
  cases m with
  | inn n k => simp [F_l_of_move, g_l_of_move, Mv.d, Mv.e, Ev.d, x_eqS in_ok in_ok]
  | out n c => simp [F_l_of_move, g_l_of_move, Mv.d, Mv.e, Ev.d, x_eqS out_ok in_ok, out_in]
theorem event_of_move (m : Mv) : F_event_of_move [m.d] = .ok (.sh m.e.d) := by
  cases m with
  | inn n k => simp [F_event_of_move, g_event_of_move, Mv.d, Mv.e, Ev.d, x_eqS in_ok in_ok]
  | out n c => simp [F_event_of_move, g_event_of_move, Mv.d, Mv.e, Ev.d, x_eqS out_ok in_ok, out_in]
theorem l_next {rs : List Rl} {s : Int} {e : Ev} (hr : ∀ r ∈ rs, r.e.ok = true) (he : e.ok = true) : F_l_next [.lst (rs.map Rl.d), .int s, e.d] = .ok (.sh (.int (nxt s e rs))) := by
  have h := next_ok (s := s) he (.lst (rs.map Rl.d)) rs .no hr rfl
  simpa [F_l_next, g_l_next] using h
end K75
set_option Elab.async false
set_option linter.all false
set_option maxRecDepth 100000
namespace K75
open PySem PySem.Spec PyProof.Rows L2 Dl
/-! ### the table of a watch -/
def Ev.key : Ev → NestedKey
  | .inn n => .tup [.text "in", .text n]
  | .out n c => .tup [.text "out", .text n, .text c]
def keyOf (s : Int) (e : Ev) : NestedKey := .tup [.num s, e.key]
theorem Ev.key_inj {e f : Ev} : e.key = f.key ↔ e = f := by
  cases e <;> cases f <;> simp [Ev.key]
theorem keyOf_inj {s t : Int} {e f : Ev} : keyOf s e = keyOf t f ↔ s = t ∧ e = f := by
  simp [keyOf, Ev.key_inj]
theorem tupKey_of (s : Int) (e : Ev) : tupKey (.sh (.tup [.int s, e.d])) = some (keyOf s e) := by
  cases e <;> rfl
def tbl (rs : List Rl) : List (NestedKey × D) := rs.map fun r => (keyOf r.s r.e, .int r.a)
theorem find_tbl {s : Int} {e : Ev} : ∀ {rs : List Rl}, kFind (tbl rs) (keyOf s e) = (rs.find? fun r => decide (r.s = s ∧ r.e = e)).map fun r => .int r.a
  | [] => rfl
  | r :: rs => by
    have ih := find_tbl (s := s) (e := e) (rs := rs)
    unfold kFind tbl at ih
    unfold kFind tbl
    by_cases h : r.s = s ∧ r.e = e
    · simp [h, keyOf_inj]
    · simp only [List.map_cons, List.find?_cons, keyOf_inj, h, decide_false]
      exact ih
theorem nxt_find {s : Int} {e : Ev} : ∀ {rs : List Rl}, nxt s e rs = (match rs.find? fun r => decide (r.s = s ∧ r.e = e) with
  | some r => r.a
  | none => s)
  | [] => rfl
  | r :: rs => by
    have ih := nxt_find (s := s) (e := e) (rs := rs)
    by_cases h : r.s = s ∧ r.e = e
    · simp [h, nxt]
    · simp only [nxt, if_neg h, List.find?_cons, h, decide_false]
      exact ih
/-- is there a rule for it -/
def hasR (rs : List Rl) (r : Rl) : Bool := rs.any fun q => decide (q.s = r.s ∧ q.e = r.e)
theorem find_has {rs : List Rl} {r : Rl} : (kFind (tbl rs) (keyOf r.s r.e)).isSome = hasR rs r := by
  rw [find_tbl, Option.isSome_map, Bool.eq_iff_iff]
  simp only [hasR, List.find?_isSome, List.any_eq_true]
theorem put_tbl {rs : List Rl} {r : Rl} (h : hasR rs r = false) : kPut (tbl rs) (keyOf r.s r.e) (.int r.a) = tbl (rs ++ [r]) := by
  unfold kPut
  rw [find_has, h]
  simp [tbl]
/-- the first index whose rule stands further ahead -/
def dupAt (done : List Rl) (n : Nat) : List Rl → Option Nat
  | [] => none
  | r :: rs => if hasR done r then some n else dupAt (done ++ [r]) (n + 1) rs
def wbody : Stm := (dSeq (dIf (dtInN false (dTup (aCons (dVar 6) (aCons (dVar 7) aNil))) (kVar 4))
  (dRaise "BadRule" "index" (dVar 5))
  dNext)
  (dPutD 4 (dTup (aCons (dVar 6) (aCons (dVar 7) aNil))) (dVar 8)))
def wbnd : Bnd := bTup 2 (bCons (bName 5) (bCons (bTup 3 (bCons (bName 6) (bCons (bName 7) (bCons (bName 8) bNil)))) bNil))
theorem wbnd_ok {a0 a1 a2 a3 a4 x5 x6 x7 x8 : SV} {n : Nat} {r : Rl} (h5 : x5.free = true) (h6 : x6.free = true) (h7 : x7.free = true) (h8 : x8.free = true) :
    wbnd (.tup [.int n, r.d]) [a0, a1, a2, a3, a4, x5, x6, x7, x8] = some [a0, a1, a2, a3, a4, .sh (.int n), .sh (.int r.s), .sh r.e.d, .sh (.int r.a)] := by
  simp [wbnd, bTup, bCons, bNil, bName, putR, h5, h6, h7, h8, Rl.d]
theorem init_loop {a0 a1 a2 a3 : SV} : ∀ (rs done : List Rl) (n : Nat) (x5 x6 x7 x8 : SV), done.length + rs.length < 1000 → x5.free = true → x6.free = true → x7.free = true → x8.free = true →
    (dupAt done n rs = none ∧ ∃ y5 y6 y7 y8, forD wbnd wbody (enumD n (rs.map Rl.d)) [a0, a1, a2, a3, .dic (tbl done), x5, x6, x7, x8] = .ok (.nx [a0, a1, a2, a3, .dic (tbl (done ++ rs)), y5, y6, y7, y8])) ∨
    (∃ k ρ, dupAt done n rs = some k ∧ forD wbnd wbody (enumD n (rs.map Rl.d)) [a0, a1, a2, a3, .dic (tbl done), x5, x6, x7, x8] = .ok (.ex ⟨"BadRule", [("index", .int k)]⟩ ρ))
  | [], done, n, x5, x6, x7, x8, hl, h5, h6, h7, h8 => .inl ⟨rfl, x5, x6, x7, x8, by simp [enumD]⟩
  | r :: rs, done, n, x5, x6, x7, x8, hl, h5, h6, h7, h8 => by
    have hl' : done.length < 16777216 := by
      have := hl
      simp at this
      omega
    rw [List.map_cons, enumD, x_forD_cons (wbnd_ok h5 h6 h7 h8)]
    have t1 : (dTup (aCons (dVar 6) (aCons (dVar 7) aNil))) [a0, a1, a2, a3, .dic (tbl done), .sh (.int n), .sh (.int r.s), .sh r.e.d, .sh (.int r.a)] = .ok (.sh (.tup [.int r.s, r.e.d])) := by simp
    cases e : hasR done r with
    | true =>
      refine .inr ⟨n, [a0, a1, a2, a3, .dic (tbl done), .sh (.int n), .sh (.int r.s), .sh r.e.d, .sh (.int r.a)], by simp [dupAt, e], ?_⟩
      simp only [wbody, x_seq, x_if, dtInN, t1, kVar]
      simp [inN, tupKey_of, find_has, e, dRaise, turnK]
    | false =>
      have hb : wbody [a0, a1, a2, a3, .dic (tbl done), .sh (.int n), .sh (.int r.s), .sh r.e.d, .sh (.int r.a)] = .ok (.nx [a0, a1, a2, a3, .dic (tbl (done ++ [r])), .sh (.int n), .sh (.int r.s), .sh r.e.d, .sh (.int r.a)]) := by
        simp only [wbody, x_seq, x_if, dtInN, t1, kVar]
        simp [inN, tupKey_of, find_has, e]
        simp only [dPutD, t1]
        have hl2 : (tbl done).length < 16777216 := by simpa [tbl] using hl'
        simp [tupKey_of, hl2, put_tbl e]
      rw [hb, x_turn_nx]
      have ih := init_loop (a0 := a0) (a1 := a1) (a2 := a2) (a3 := a3) rs (done ++ [r]) (n + 1) (.sh (.int n)) (.sh (.int r.s)) (.sh r.e.d) (.sh (.int r.a)) (by simp at hl ⊢; omega) rfl rfl rfl rfl
      rw [List.append_assoc] at ih
      rw [dupAt, e]
      exact ih
def wobj (rs : List Rl) (g : List Int) : D := .obj "Watch" [("rules", .tup (rs.map Rl.d)), ("good", .tup (g.map D.int)), ("nexts", .dic (tbl rs))]
theorem ints_of : ∀ g : List Int, intsD (g.map D.int) = some g
  | [] => rfl
  | n :: g => by rw [List.map_cons, intsD, ints_of g]; rfl
theorem n_rg : ("rules" : Str) ≠ "good" := by decide
theorem n_rn : ("rules" : Str) ≠ "nexts" := by decide
theorem n_gn : ("good" : Str) ≠ "nexts" := by decide
theorem init_ok {R G : D} {rs : List Rl} {g : List Int} (hR : F_frozen 6 [R] = .ok (.sh (.tup (rs.map Rl.d)))) (hG : F_frozen 6 [G] = .ok (.sh (.tup (g.map D.int)))) (hl : rs.length < 1000) (hg : g.length < 64) :
    mkF "Watch" F_Watch___init__ [R, G] = (match dupAt [] 0 rs with
      | none => .ok (.sh (wobj rs (sortSet g)))
      | some k => .exc ⟨"BadRule", [("index", .int k)]⟩) := by
  have L := init_loop (a0 := .mk "Watch" []) (a1 := .sh R) (a2 := .sh G) (a3 := .sh (.tup (rs.map Rl.d))) rs [] 0 .no .no .no .no (by simpa using hl) rfl rfl rfl rfl
  have hb : F_Watch___init__ [R, G] = (match dupAt [] 0 rs with
      | none => .ok [("rules", .tup (rs.map Rl.d)), ("good", .tup ((sortSet g).map D.int)), ("nexts", .dic (tbl rs))]
      | some k => .exc ⟨"BadRule", [("index", .int k)]⟩) := by
    unfold F_Watch___init__ initD g_Watch___init__
    simp only [List.map_cons, List.map_nil, List.length_cons, List.length_nil, List.replicate, List.cons_append, List.nil_append]
    have hn : ∀ ρ0 : Dl.Env, dNewD 4 (SV.mk "Watch" [] :: .sh R :: .sh G :: .sh (.tup (rs.map Rl.d)) :: .no :: ρ0) = .ok (.nx (SV.mk "Watch" [] :: .sh R :: .sh G :: .sh (.tup (rs.map Rl.d)) :: .dic (tbl []) :: ρ0)) := fun ρ0 => by
      simp [dNewD, putR, SV.free, tbl]
    have he : ∀ ρ0 : Dl.Env, iEn (dVar 3) (SV.mk "Watch" [] :: .sh R :: .sh G :: .sh (.tup (rs.map Rl.d)) :: ρ0) = .ok (enumD 0 (rs.map Rl.d)) := fun ρ0 => by
      simp [iEn]
    rcases L with ⟨e1, y5, y6, y7, y8, e2⟩ | ⟨k, ρ, e1, e2⟩
    · unfold wbnd wbody at e2
      simp [hR, hn, he, e1, e2]
      simp [dFldSet, dSortSet, hG, ints_of, hg, dFrzD, putFD, n_rg, n_rn, n_gn, toDs_map, T.toDs_eq, T.toD, Function.comp_def]
    · unfold wbnd wbody at e2
      simp [hR, hn, he, e1, e2]
  unfold mkF
  rw [hb]
  cases dupAt [] 0 rs <;> rfl
end K75
set_option Elab.async false
set_option linter.all false
set_option maxRecDepth 100000
namespace K75
open PySem PySem.Spec PyProof.Rows L2 Dl
/-! ### a watch asked -/
def Ev.its : Ev → List D
  | .inn n => [.str "in", .str n]
  | .out n c => [.str "out", .str n, .str c]
theorem Ev.d_its (e : Ev) : e.d = .tup e.its := by cases e <;> rfl
theorem frz_ev (e : Ev) : F_frozen 6 [e.d] = .ok (.sh e.d) := by
  rw [frozen_ok e.d 6 (by cases e <;> simp [Ev.d, pl, pls]) (by cases e <;> simp [Ev.d, D.dep, D.deps])]
  cases e <;> rfl
theorem frz_evl (e : Ev) : F_frozen 6 [.lst e.its] = .ok (.sh e.d) := by
  rw [frozen_ok (.lst e.its) 6 (by cases e <;> simp [Ev.its, pl, pls]) (by cases e <;> simp [Ev.its, D.dep, D.deps])]
  cases e <;> rfl
theorem n_nr : ("nexts" : Str) ≠ "rules" := by decide
theorem n_ng : ("nexts" : Str) ≠ "good" := by decide
theorem n_gr : ("good" : Str) ≠ "rules" := by decide
theorem fld_rules {rs : List Rl} {g : List Int} : fldK "Watch" "rules" (.ok (.sh (wobj rs g))) = .ok (.sh (.tup (rs.map Rl.d))) := x_fld_ok rfl
theorem fld_good {rs : List Rl} {g : List Int} : fldK "Watch" "good" (.ok (.sh (wobj rs g))) = .ok (.sh (.tup (g.map D.int))) := x_fld_ok rfl
theorem fld_nexts {rs : List Rl} {g : List Int} : fldK "Watch" "nexts" (.ok (.sh (wobj rs g))) = .ok (.sh (.dic (tbl rs))) := x_fld_ok rfl
theorem state_after {rs : List Rl} {g : List Int} {s : Int} {E : D} {e : Ev} (h : F_frozen 6 [E] = .ok (.sh e.d)) : F_Watch_state_after [wobj rs g, .int s, E] = .ok (.sh (.int (nxt s e rs))) := by
  have ht : (dTup (aCons (dVar 1) (aCons (dCall 1 (F_frozen 6) [] (aCons (dVar 2) aNil)) aNil))) [.sh (wobj rs g), .sh (.int s), .sh E] = .ok (.sh (.tup [.int s, e.d])) := by simp [h]
  unfold F_Watch_state_after g_Watch_state_after
  simp only [x_run, List.map_cons, List.map_nil, List.length_cons, List.length_nil, List.replicate, List.cons_append, List.nil_append, x_ret]
  have hk : kOf (dFld "Watch" "nexts" (dVar 0)) [.sh (wobj rs g), .sh (.int s), .sh E] = .ok (tbl rs) := by
    simp [kOf, fld_nexts]
  have hf := find_tbl (s := s) (e := e) (rs := rs)
  rw [nxt_find]
  simp only [dGet2N, hk, ht]
  simp only [Res.ok_bind', x_var]
  cases q : rs.find? (fun r => decide (r.s = s ∧ r.e = e)) with
  | none =>
    rw [q] at hf
    simp [tupKey_of, hf, hk, h]
  | some r =>
    rw [q] at hf
    simp [tupKey_of, hf, hk, h]
/-- the state behind the moves -/
def fin (rs : List Rl) : Int → List Mv → Int
  | s, [] => s
  | s, m :: ms => fin rs (nxt s m.e rs) ms
theorem inI {s : Int} {g : List Int} : gIn (.sh (.int s)) (.sh (.tup (g.map D.int))) = .ok (.sh (.bl (decide (s ∈ g)))) := by
  have hf : ∀ g : List Int, D.fines (g.map D.int) = true ∧ D.deps (g.map D.int) = 0 := fun g => by
    induction g with
    | nil => exact ⟨rfl, rfl⟩
    | cons n g ih => simp [D.fines, D.fine, D.deps, D.dep, ih.1, ih.2]
  obtain ⟨b, h1, h2⟩ := inD_tup (a := .int s) (ds := g.map D.int) rfl (hf g).1 (by simp [D.dep]) (by rw [(hf g).2]; omega)
  have : b = decide (s ∈ g) := by
    rw [Bool.eq_iff_iff, h2]
    simp
  simp [gIn, gF, h1, this]
theorem inIL {s : Int} {g : List Int} : gIn (.sh (.int s)) (.sh (.lst (g.map D.int))) = .ok (.sh (.bl (decide (s ∈ g)))) := by
  have hf : ∀ g : List Int, D.fines (g.map D.int) = true ∧ D.deps (g.map D.int) = 0 := fun g => by
    induction g with
    | nil => exact ⟨rfl, rfl⟩
    | cons n g ih => simp [D.fines, D.fine, D.deps, D.dep, ih.1, ih.2]
  obtain ⟨b, h1, h2⟩ := inD_lst (a := .int s) (ds := g.map D.int) rfl (hf g).1 (by simp [D.dep]) (by rw [(hf g).2]; omega)
  have : b = decide (s ∈ g) := by
    rw [Bool.eq_iff_iff, h2]
    simp
  simp [gIn, gF, h1, this]
theorem ninI {s : Int} {g : List Int} : gNotIn (.sh (.int s)) (.sh (.tup (g.map D.int))) = .ok (.sh (.bl (!decide (s ∈ g)))) := by
  have h := inI (s := s) (g := g)
  unfold gIn gF at h
  unfold gNotIn gF
  simp only [x_d_sh] at h ⊢
  cases q : inD (.int s) (.tup (g.map D.int)) with
  | none => rw [q] at h; simp at h
  | some b => rw [q] at h; simp at h; simp [h]
theorem ninIL {s : Int} {g : List Int} : gNotIn (.sh (.int s)) (.sh (.lst (g.map D.int))) = .ok (.sh (.bl (!decide (s ∈ g)))) := by
  have h := inIL (s := s) (g := g)
  unfold gIn gF at h
  unfold gNotIn gF
  simp only [x_d_sh] at h ⊢
  cases q : inD (.int s) (.lst (g.map D.int)) with
  | none => rw [q] at h; simp at h
  | some b => rw [q] at h; simp at h; simp [h]
theorem call_loop {rs : List Rl} {g : List Int} {M : D} : ∀ (ms : List Mv) (s : Int) (y : SV), y.free = true →
    ∃ y', forD (bName 3) (dSet 2 (dMeth "Watch" "state_after" 3 F_Watch_state_after [] (dVar 0) (aCons (dVar 2) (aCons (dCall 1 F_event_of_move [] (aCons (dVar 3) aNil)) aNil)))) (ms.map Mv.d) [.sh (wobj rs g), .sh M, .sh (.int s), y] = .ok (.nx [.sh (wobj rs g), .sh M, .sh (.int (fin rs s ms)), y'])
  | [], s, y, _ => ⟨y, rfl⟩
  | m :: ms, s, y, hy => by
    obtain ⟨y', ih⟩ := call_loop (rs := rs) (g := g) (M := M) ms (nxt s m.e rs) (.sh m.d) rfl
    refine ⟨y', ?_⟩
    rw [List.map_cons, x_forD_cons (ρ1 := [.sh (wobj rs g), .sh M, .sh (.int s), .sh m.d]) (by simp [putR, hy])]
    have hm : ∀ xs : List EV, methK "Watch" "state_after" 3 F_Watch_state_after [] (.ok xs) (.ok (.sh (wobj rs g))) = callN 3 F_Watch_state_after [] (.sh (wobj rs g) :: xs) := fun xs => x_meth_ok rfl
    simp [event_of_move, hm, state_after (frz_ev _)]
    exact ih
theorem call_ok {rs : List Rl} {g : List Int} {M : D} {ms : List Mv} (hM : F_frozen 6 [M] = .ok (.sh (.tup (ms.map Mv.d)))) : F_Watch___call__ [wobj rs g, M] = .ok (.sh (.bl (decide (fin rs 0 ms ∈ g)))) := by
  obtain ⟨y', h⟩ := call_loop (rs := rs) (g := g) (M := M) ms 0 .no rfl
  simp [F_Watch___call__, g_Watch___call__, hM, h, fld_good, inI]
end K75
set_option Elab.async false
set_option linter.all false
set_option maxRecDepth 100000
namespace Dl
open PySem PySem.Spec PyProof.Rows L2
theorem forD_keep {b : Bnd} {g : Stm} {P : Dl.Env → Prop} : ∀ {ds : List D}, (∀ d ∈ ds, ∀ ρ, P ρ → ∃ ρ1 ρ2, b d ρ = some ρ1 ∧ g ρ1 = .ok (.nx ρ2) ∧ P ρ2) → ∀ ρ, P ρ → ∃ ρ', P ρ' ∧ forD b g ds ρ = .ok (.nx ρ')
  | [], _, ρ, h => ⟨ρ, h, rfl⟩
  | d :: ds, q, ρ, h => by
    obtain ⟨ρ1, ρ2, e1, e2, h2⟩ := q d List.mem_cons_self ρ h
    obtain ⟨ρ3, h3, e3⟩ := forD_keep (ds := ds) (fun x hx => q x (List.mem_cons_of_mem _ hx)) ρ2 h2
    exact ⟨ρ3, h3, by rw [x_forD_cons e1, e2, x_turn_nx, e3]⟩
theorem mem_range {n : Nat} {d : D} : d ∈ rangeD 0 n ↔ ∃ i : Nat, i < n ∧ d = .int (i : Int) := by
  simp only [rangeD, List.mem_map, List.mem_range]
  constructor
  · rintro ⟨i, h, rfl⟩
    exact ⟨i, h, by simp⟩
  · rintro ⟨i, h, rfl⟩
    exact ⟨i, h, by simp⟩
theorem x_rng {n : Int} (h : 0 ≤ n ∧ n < 1000000) {ρ : Dl.Env} {f : Dl.Env → Res EV} (hf : f ρ = .ok (.sh (.int n))) : iR1 f ρ = .ok (rangeD 0 n.toNat) := by
  have : -4611686018427387904 ≤ n ∧ n < 4611686018427387904 := by omega
  simp [iR1, hf, this]
@[simp] theorem x_eqB {k : Bool} : gEq (.sh (.bl k)) (.sh (.bl k)) = .ok (.sh (.bl true)) := by cases k <;> rfl
end Dl
namespace K75
open PySem PySem.Spec PyProof.Rows L2 Dl
/-! ### the same -/
mutual
def sm : D → Bool
  | .int _ => true
  | .bl _ => true
  | .str s => PyData.strOk s
  | .tup ds => decide (ds.length ≤ 1000) && sms ds
  | _ => false
def sms : List D → Bool
  | [] => true
  | d :: ds => sm d && sms ds
end
@[simp] theorem isN_bl {k : Bool} : nonK false (.ok (.sh (.bl k))) = .ok (.sh (.bl false)) := rfl
@[simp] theorem isN_str {k : Str} : nonK false (.ok (.sh (.str k))) = .ok (.sh (.bl false)) := rfl
@[simp] theorem isN_tup {k : List D} : nonK false (.ok (.sh (.tup k))) = .ok (.sh (.bl false)) := rfl
theorem sms_get : ∀ {ds : List D}, sms ds = true → ∀ d ∈ ds, sm d = true
  | [], _, _, h => by cases h
  | d :: ds, h, x, hx => by
    rw [sms, Bool.and_eq_true] at h
    rcases List.mem_cons.mp hx with rfl | hx
    · exact h.1
    · exact sms_get h.2 x hx
theorem dep_get : ∀ {ds : List D}, ∀ d ∈ ds, d.dep ≤ D.deps ds
  | [], _, h => by cases h
  | d :: ds, x, hx => by
    rw [D.deps]
    rcases List.mem_cons.mp hx with rfl | hx
    · omega
    · have := dep_get x hx
      omega
theorem same_int {n : Nat} {a b : Int} : F_l_same (n + 1) [.int a, .int b] = .ok (.sh (.bl (decide (a = b)))) := by
  simp [F_l_same, g_l_same, whole_int]
def sbody (n : Nat) : Stm := dIf (dNotT (dT tTru (dCall 2 (F_l_same n) [] (aCons (d2 gIx (dVar 0) (dVar 2)) (aCons (d2 gIx (dVar 1) (dVar 2)) aNil))))) (dRet (dC (.bl false))) dNext
theorem same_step {n i : Nat} {ds : List D} (hi : i < ds.length) (ih : ∀ d ∈ ds, F_l_same n [d, d] = .ok (.sh (.bl true))) : sbody n [.sh (.tup ds), .sh (.tup ds), .sh (.int i)] = .ok (.nx [.sh (.tup ds), .sh (.tup ds), .sh (.int i)]) := by
  have hx := x_ixT (ds := ds) (i := i) (List.getElem?_eq_getElem hi)
  simp [sbody, hx, ih _ (List.getElem_mem hi)]
theorem same_loop {n : Nat} {ds : List D} (ih : ∀ d ∈ ds, F_l_same n [d, d] = .ok (.sh (.bl true))) : ∃ y, forD (bName 2) (sbody n) (rangeD 0 ds.length) [.sh (.tup ds), .sh (.tup ds), .no] = .ok (.nx [.sh (.tup ds), .sh (.tup ds), y]) := by
  obtain ⟨ρ', ⟨y, _, e1⟩, e⟩ := forD_keep (b := bName 2) (g := sbody n)
    (P := fun ρ => ∃ y, y.free = true ∧ ρ = [.sh (.tup ds), .sh (.tup ds), y]) (ds := rangeD 0 ds.length) (by
      rintro d hm ρ ⟨y, hy, rfl⟩
      obtain ⟨i, hi, rfl⟩ := mem_range.mp hm
      exact ⟨_, _, by simp only [bName, putR, List.getElem?_cons_succ, List.getElem?_cons_zero, hy, if_true, List.set_cons_succ, List.set_cons_zero], same_step hi ih, _, rfl, rfl⟩) [.sh (.tup ds), .sh (.tup ds), .no] ⟨.no, rfl, rfl⟩
  exact ⟨y, by rw [e, e1]⟩
theorem same_rng {ds : List D} (h : ds.length ≤ 1000) : iR1 (dC1 gLen (aCons (dVar 1) aNil)) [.sh (.tup ds), .sh (.tup ds), .no] = .ok (rangeD 0 ds.length) := by
  have q : (dC1 gLen (aCons (dVar 1) aNil)) [.sh (.tup ds), .sh (.tup ds), .no] = .ok (.sh (.int ds.length)) := by simp
  have := x_rng (n := ds.length) (by omega) q
  rwa [Int.toNat_natCast] at this
theorem same_for {n : Nat} {ds : List D} (h : ds.length ≤ 1000) (ih : ∀ d ∈ ds, F_l_same n [d, d] = .ok (.sh (.bl true))) : ∃ y, dFor (iR1 (dC1 gLen (aCons (dVar 1) aNil))) (bName 2) (sbody n) [.sh (.tup ds), .sh (.tup ds), .no] = .ok (.nx [.sh (.tup ds), .sh (.tup ds), y]) := by
  obtain ⟨y, e⟩ := same_loop ih
  exact ⟨y, by rw [x_for, same_rng h, x_for_ok, e]⟩
theorem same_c1 {ds : List D} {ρ : Dl.Env} : dT tTru (dC1 gIsi (aCons (dVar 1) (aCons (dC (.ty "tuple")) aNil))) (.sh (.tup ds) :: .sh (.tup ds) :: ρ) = .ok true := by
  simp only [x_t, x_c1, x_cons, x_var, List.getElem?_cons_succ, List.getElem?_cons_zero, x_var_sh, x_c, x_nil, x_cons_ok, x_c1_ok, x_isi_tt, x_t_ok, x_tTru]
theorem same_c0 {ds : List D} {ρ : Dl.Env} : dT tTru (dC1 gIsi (aCons (dVar 0) (aCons (dC (.ty "tuple")) aNil))) (.sh (.tup ds) :: .sh (.tup ds) :: ρ) = .ok true := by
  simp only [x_t, x_c1, x_cons, x_var, List.getElem?_cons_succ, List.getElem?_cons_zero, x_var_sh, x_c, x_nil, x_cons_ok, x_c1_ok, x_isi_tt, x_t_ok, x_tTru]
theorem same_cl {ds : List D} {ρ : Dl.Env} : dT tBool (d2 gNe (dC1 gLen (aCons (dVar 0) aNil)) (dC1 gLen (aCons (dVar 1) aNil))) (.sh (.tup ds) :: .sh (.tup ds) :: ρ) = .ok false := by
  simp only [x_t, x_c1, x_cons, x_var, List.getElem?_cons_succ, List.getElem?_cons_zero, x_var_sh, x_c, x_nil, x_cons_ok, x_c1_ok, x_len_tup, x_d2, x_d2_ok, x_neI, x_t_ok, x_tBool, decide_true, Bool.not_true]
theorem same_tup {n : Nat} {ds : List D} (h : ds.length ≤ 1000) (ih : ∀ d ∈ ds, F_l_same n [d, d] = .ok (.sh (.bl true))) : F_l_same (n + 1) [.tup ds, .tup ds] = .ok (.sh (.bl true)) := by
  obtain ⟨y, hf⟩ := same_for h ih
  unfold sbody at hf
  rw [F_l_same, x_run, g_l_same, List.map_cons, List.map_cons, List.map_nil]
  simp only [List.length_cons, List.length_nil, List.cons_append, List.nil_append]
  rw [x_seq, x_if, same_c1, x_if_t, x_seq, x_if, x_orT, x_notT, same_c0, x_notT_ok, Bool.not_true, x_orT_f, same_cl, x_if_f, x_next, x_seq_nx, x_seq]
  have er : List.replicate (3 - (0 + 1 + 1)) SV.no = [SV.no] := rfl
  rw [er, hf, x_seq_nx, x_ret, x_c, x_ret_sh, x_seq_ret, x_run_ret]
theorem same_refl (n : Nat) : ∀ d : D, sm d = true → d.dep < n → F_l_same n [d, d] = .ok (.sh (.bl true)) := by
  induction n with
  | zero => exact fun _ _ h => absurd h (Nat.not_lt_zero _)
  | succ n ih =>
    intro d h hd
    cases d with
    | int a => rw [same_int]; simp
    | bl k => simp [F_l_same, g_l_same]
    | str s =>
      rw [sm] at h
      simp [F_l_same, g_l_same, x_eqS h h]
    | tup ds =>
      simp only [sm, Bool.and_eq_true, decide_eq_true_eq] at h
      rw [D.dep] at hd
      exact same_tup h.1 fun d hm => ih d (sms_get h.2 d hm) (by have := dep_get d hm; omega)
    | _ => simp [sm] at h
end K75
set_option Elab.async false
set_option linter.all false
set_option maxRecDepth 100000
namespace K75
open PySem PySem.Spec PyProof.Rows L2 Dl
/-! ### ~, never, follows -/
def asc (gd : List Int) : List Int := ((List.range 10).map fun (i : Nat) => (i : Int)).filter fun s => decide (s ∈ gd)
def rest (gd : List Int) : List Int := ((List.range 10).map fun (i : Nat) => (i : Int)).filter fun s => !decide (s ∈ gd)
theorem frz_rl (r : Rl) : frz r.d = r.d := by
  obtain ⟨s, e, a⟩ := r
  cases e <;> rfl
theorem pl_rl (r : Rl) : pl r.d = true := by
  obtain ⟨s, e, a⟩ := r
  cases e <;> simp [Rl.d, Ev.d, pl, pls]
theorem dep_rl (r : Rl) : r.d.dep = 2 := by
  obtain ⟨s, e, a⟩ := r
  cases e <;> simp [Rl.d, Ev.d, D.dep, D.deps]
theorem pls_map {α : Type} {h : α → D} : ∀ {xs : List α}, (∀ x ∈ xs, pl (h x) = true) → pls (xs.map h) = true
  | [], _ => rfl
  | x :: xs, q => by rw [List.map_cons, pls, q x List.mem_cons_self, pls_map fun y hy => q y (List.mem_cons_of_mem _ hy)]; rfl
theorem deps_map {α : Type} {h : α → D} {n : Nat} : ∀ {xs : List α}, (∀ x ∈ xs, (h x).dep ≤ n) → D.deps (xs.map h) ≤ n
  | [], _ => Nat.zero_le _
  | x :: xs, q => by
    rw [List.map_cons, D.deps]
    have h1 := q x List.mem_cons_self
    have h2 := deps_map fun y hy => q y (List.mem_cons_of_mem _ hy)
    omega
theorem frz_rules {rs : List Rl} (h : rs.length ≤ 1000) : F_frozen 6 [.tup (rs.map Rl.d)] = .ok (.sh (.tup (rs.map Rl.d))) := by
  have hd : D.deps (rs.map Rl.d) ≤ 2 := deps_map fun r _ => by rw [dep_rl]; omega
  rw [frozen_ok _ 6 (by rw [pl, pls_map fun r _ => pl_rl r]; simpa using h) (by rw [D.dep]; omega), frz, frzs_map, List.map_map]
  congr 4
  exact funext fun r => frz_rl r
theorem frz_ints {g : List Int} (h : g.length ≤ 1000) : F_frozen 6 [.lst (g.map D.int)] = .ok (.sh (.tup (g.map D.int))) := by
  have hd : D.deps (g.map D.int) ≤ 0 := deps_map fun r _ => by simp [D.dep]
  rw [frozen_ok _ 6 (by rw [pl, pls_map fun r _ => by rw [pl]]; simpa using h) (by rw [D.dep]; omega), frz, frzs_map, List.map_map]
  rfl
theorem asc_len {gd : List Int} : (asc gd).length ≤ 10 := by
  unfold asc
  exact Nat.le_trans (List.length_filter_le _ _) (by simp)
theorem rest_len {gd : List Int} : (rest gd).length ≤ 10 := by
  unfold rest
  exact Nat.le_trans (List.length_filter_le _ _) (by simp)
theorem range_lt : ((List.range 10).map fun (i : Nat) => (i : Int)).Pairwise (· < ·) := by decide
theorem sort_asc {gd : List Int} (h : ∀ s ∈ gd, 0 ≤ s ∧ s < 10) : sortSet gd = asc gd := by
  refine lt_unique sortSet_lt (List.Pairwise.filter _ range_lt) fun k => ?_
  rw [mem_sortSet]
  simp only [asc, List.mem_filter, List.mem_map, List.mem_range, decide_eq_true_eq]
  constructor
  · intro hk
    have := h k hk
    exact ⟨⟨k.toNat, by omega, by omega⟩, hk⟩
  · exact fun hk => hk.2
theorem lc_ints {b : Bnd} {t : Dl.Env → Res Bool} {f : Dl.Env → Res EV} {ρ : Dl.Env} {P : Int → Bool} {n : Nat} (hn : n ≤ 1000) (q : ∀ i : Nat, i < n → ∃ ρ1, b (.int i) ρ = some ρ1 ∧ t ρ1 = .ok (P i) ∧ f ρ1 = .ok (.sh (.int i))) :
    lcK b t f ρ (.ok (rangeD 0 n)) = .ok (.fr (((((List.range n).map fun (i : Nat) => (i : Int)).filter P).map D.int).map T.leaf)) := by
  rw [x_lc_flat (p := fun d => match d with
    | .int i => P i
    | _ => false) (h := id) (by simp [rangeD]; omega) (fun d hd => by
      obtain ⟨i, hi, rfl⟩ := mem_range.mp hd
      obtain ⟨ρ1, h1, h2, h3⟩ := q i hi
      exact ⟨ρ1, h1, h2, fun _ => h3⟩)]
  have e : rangeD 0 n = ((List.range n).map fun (i : Nat) => (i : Int)).map D.int := by
    simp [rangeD, Function.comp_def]
  rw [List.map_id, e, List.filter_map]
  rfl
theorem rest_asc {gd : List Int} : rest (asc gd) = rest gd := by
  unfold rest
  refine List.filter_congr fun s hs => ?_
  simp [asc, hs]
theorem invert_ok {rs : List Rl} {gd : List Int} (hn : dupAt [] 0 rs = none) (hl : rs.length < 1000) : F_Watch___invert__ [wobj rs (asc gd)] = .ok (.sh (wobj rs (rest gd))) := by
  have hr : ∀ ρ : Dl.Env, iR1 (dC (.int 10)) ρ = .ok (rangeD 0 10) := fun ρ => x_rng (n := 10) (by omega) rfl
  have hlc : ∀ ρ : Dl.Env, dLc (iR1 (dC (.int 10))) (bName 1) (dT tBool (d2 gNotIn (dVar 1) (dFld "Watch" "good" (dVar 0)))) (dVar 1) [1] [.sh (wobj rs (asc gd)), .no] = .ok (.fr (((rest gd).map D.int).map T.leaf)) := fun ρ => by
    rw [x_lc, hr, lc_ints (P := fun s => !decide (s ∈ asc gd)) (by omega)]
    · rw [← rest_asc]
      rfl
    · intro i hi
      refine ⟨[.sh (wobj rs (asc gd)), .sh (.int i)], by simp [putR, SV.free], ?_, by simp⟩
      simp [fld_good, ninI]
  have hm := init_ok (R := .tup (rs.map Rl.d)) (G := .lst ((rest gd).map D.int)) (frz_rules (by omega)) (frz_ints (by have := @rest_len gd; omega)) hl (by have := @rest_len gd; omega)
  rw [hn] at hm
  have hs : sortSet (rest gd) = rest gd := lt_unique sortSet_lt (List.Pairwise.filter _ range_lt) fun k => mem_sortSet
  rw [hs] at hm
  rw [F_Watch___invert__, x_run, g_Watch___invert__, List.map_cons, List.map_nil]
  have er : ([] : List SV) ++ List.replicate (2 - [wobj rs (asc gd)].length) SV.no = [.no] := rfl
  rw [List.cons_append, er, x_ret, x_call, x_cons, x_cons, x_nil, hlc [], x_fld, x_var, List.getElem?_cons_zero, x_var_sh, fld_rules, x_cons_ok, x_cons_ok, x_call_ok, callN_sf, x_leaves, hm]
  rfl
theorem never_ok {E : D} {e : Ev} (hp : pl E = true) (hd : E.dep ≤ 1) (hf : frz E = e.d) : F_Watch_never [E] = .ok (.sh (wobj [⟨0, e, 1⟩] [0])) := by
  have hR : F_frozen 6 [.lst [.tup [.int 0, E, .int 1]]] = .ok (.sh (.tup ([(⟨0, e, 1⟩ : Rl)].map Rl.d))) := by
    rw [frozen_ok _ 6 (by simp [pl, pls, hp]) (by simp [D.dep, D.deps]; omega)]
    simp [frz, frzs, hf, Rl.d]
  have hm := init_ok (g := [0]) hR (frz_ints (g := [0]) (by simp)) (by simp) (by simp)
  have hm2 : mkF "Watch" F_Watch___init__ [.lst [.tup [.int 0, E, .int 1]], .lst [.int 0]] = .ok (.sh (wobj [⟨0, e, 1⟩] [0])) := hm
  simp [F_Watch_never, g_Watch_never, hm2]
theorem follows_ok {E F : D} {e f : Ev} (hp : pl E = true) (hd : E.dep ≤ 1) (hf : frz E = e.d) (hp2 : pl F = true) (hd2 : F.dep ≤ 1) (hf2 : frz F = f.d) : F_Watch_follows [E, F] = .ok (.sh (wobj [⟨0, e, 1⟩, ⟨1, f, 0⟩] [0])) := by
  have hR : F_frozen 6 [.lst [.tup [.int 0, E, .int 1], .tup [.int 1, F, .int 0]]] = .ok (.sh (.tup ([(⟨0, e, 1⟩ : Rl), ⟨1, f, 0⟩].map Rl.d))) := by
    rw [frozen_ok _ 6 (by simp [pl, pls, hp, hp2]) (by simp [D.dep, D.deps]; omega)]
    simp [frz, frzs, hf, hf2, Rl.d]
  have hm := init_ok (g := [0]) hR (frz_ints (g := [0]) (by simp)) (by simp) (by simp)
  have hn : dupAt [] 0 [(⟨0, e, 1⟩ : Rl), ⟨1, f, 0⟩] = none := by simp [dupAt, hasR]
  rw [hn] at hm
  have hm2 : mkF "Watch" F_Watch___init__ [.lst [.tup [.int 0, E, .int 1], .tup [.int 1, F, .int 0]], .lst [.int 0]] = .ok (.sh (wobj [⟨0, e, 1⟩, ⟨1, f, 0⟩] [0])) := hm
  simp [F_Watch_follows, g_Watch_follows, hm2]
end K75
set_option Elab.async false
set_option linter.all false
set_option maxRecDepth 100000
namespace K75
open PySem PySem.Spec PyProof.Rows L2 Dl
/-! ### a watch is right: the parts -/
theorem sm_rl {r : Rl} (h : r.e.ok = true) : sm r.d = true := by
  obtain ⟨s, e, a⟩ := r
  cases e with
  | inn n =>
    have h : PyData.strOk n = true := h
    simp [Rl.d, Ev.d, sm, sms, h, in_ok]
  | out n c =>
    have h : (PyData.strOk n && PyData.strOk c) = true := h
    rw [Bool.and_eq_true] at h
    simp [Rl.d, Ev.d, sm, sms, h.1, h.2, out_ok]
theorem sms_map {α : Type} {h : α → D} : ∀ {xs : List α}, (∀ x ∈ xs, sm (h x) = true) → sms (xs.map h) = true
  | [], _ => rfl
  | x :: xs, q => by rw [List.map_cons, sms, q x List.mem_cons_self, sms_map fun y hy => q y (List.mem_cons_of_mem _ hy)]; rfl
theorem same_rules {rs : List Rl} (h : rs.length ≤ 1000) (hr : ∀ r ∈ rs, r.e.ok = true) : F_l_same 5 [.tup (rs.map Rl.d), .tup (rs.map Rl.d)] = .ok (.sh (.bl true)) := by
  have hd : D.deps (rs.map Rl.d) ≤ 2 := deps_map fun r _ => by rw [dep_rl]; omega
  exact same_refl 5 _ (by rw [sm, sms_map fun r hm => sm_rl (hr r hm)]; simpa using h) (by rw [D.dep]; omega)
theorem same_ints {g : List Int} (h : g.length ≤ 1000) : F_l_same 5 [.tup (g.map D.int), .tup (g.map D.int)] = .ok (.sh (.bl true)) := by
  have hd : D.deps (g.map D.int) ≤ 0 := deps_map fun r _ => by simp [D.dep]
  exact same_refl 5 _ (by rw [sm, sms_map fun r hm => by rw [sm]]; simpa using h) (by rw [D.dep]; omega)
theorem same_i (a : Int) : F_l_same 5 [.int a, .int a] = .ok (.sh (.bl true)) := by
  rw [same_int]
  simp
theorem same_b (a : Bool) : F_l_same 5 [.bl a, .bl a] = .ok (.sh (.bl true)) := same_refl 5 _ rfl (by simp [D.dep])
end K75
set_option Elab.async false
set_option linter.all false
set_option maxRecDepth 100000
namespace K75
open PySem PySem.Spec PyProof.Rows L2 Dl
/-! ### a watch is right -/
def wrIn : Stm := (dSeq (dSet 10 (dCall 3 F_l_next [] (aCons (dVar 1) (aCons (dVar 8) (aCons (dVar 9) aNil)))))
  (dFrz 10 (dSeq (dSet 11 (dC1 gList (aCons (dVar 9) aNil)))
  (dFrz 11 (dSeq (dIf (dNotT (dT tTru (dCall 2 (F_l_same 5) [] (aCons (dMeth "Watch" "state_after" 3 F_Watch_state_after [] (dVar 0) (aCons (dVar 8) (aCons (dVar 9) aNil))) (aCons (dVar 10) aNil)))))
  (dRet (dC (.bl false)))
  dNext)
  (dIf (dOrT (dNotT (dT tTru (dCall 2 (F_l_same 5) [] (aCons (dMeth "Watch" "state_after" 3 F_Watch_state_after [] (dVar 0) (aCons (dVar 8) (aCons (dVar 11) aNil))) (aCons (dVar 10) aNil))))) (dT tBool (d2 gNe (dVar 11) (dC1 gList (aCons (dVar 9) aNil)))))
  (dRet (dC (.bl false)))
  dNext))))))
theorem gNe_d {x y : EV} : gNe x y = gNe (.sh x.d) (.sh y.d) := rfl
theorem its_fine {e : Ev} (h : e.ok = true) : (D.lst e.its).fine = true := by
  have := Ev.fine h
  rw [Ev.d_its] at this
  exact this
theorem its_dep {e : Ev} : (D.lst e.its).dep ≤ 64 := by
  have := Ev.dep e
  rw [Ev.d_its] at this
  exact this
theorem ne_its {e : Ev} (h : e.ok = true) : gNe (.sh (.lst e.its)) (.fr (e.its.map T.leaf)) = .ok (.sh (.bl false)) := by
  rw [gNe_d]
  simp only [x_d_sh, x_d_fr, x_leaves]
  exact x_ne_t rfl (its_fine h) its_dep
theorem list_ev {e : Ev} : gList [.sh e.d] = .ok (.fr (e.its.map T.leaf)) := by rw [Ev.d_its]; rfl
theorem meth_sa {rs : List Rl} {g : List Int} {xs : List EV} : methK "Watch" "state_after" 3 F_Watch_state_after [] (.ok xs) (.ok (.sh (wobj rs g))) = callN 3 F_Watch_state_after [] (.sh (wobj rs g) :: xs) := x_meth_ok rfl
theorem wrIn_ok {rs : List Rl} {g : List Int} {s : Int} {e : Ev} {a2 a3 a4 a5 a6 a7 a10 a11 a12 a13 a14 a15 : SV} (hr : ∀ r ∈ rs, r.e.ok = true) (he : e.ok = true) (h10 : a10.free = true) (h11 : a11.free = true) :
    wrIn [.sh (wobj rs g), .sh (.lst (rs.map Rl.d)), a2, a3, a4, a5, a6, a7, .sh (.int s), .sh e.d, a10, a11, a12, a13, a14, a15] = .ok (.nx [.sh (wobj rs g), .sh (.lst (rs.map Rl.d)), a2, a3, a4, a5, a6, a7, .sh (.int s), .sh e.d, .sh (.int (nxt s e rs)), .sh (.lst e.its), a12, a13, a14, a15]) := by
  have p10 : ∀ {x : SV} {ρ : Dl.Env}, Dl.putK 0 x (a10 :: ρ) = .ok (.nx (x :: ρ)) := fun {x ρ} => x_put0 h10
  have p11 : ∀ {x : SV} {ρ : Dl.Env}, Dl.putK 0 x (a11 :: ρ) = .ok (.nx (x :: ρ)) := fun {x ρ} => x_put0 h11
  simp [wrIn, l_next hr he, p10, p11, list_ev, meth_sa, state_after (frz_ev e), state_after (frz_evl e), same_i, ne_its he]
def wrEv : Stm := dFor (iA (dVar 6)) (bName 9) wrIn
theorem wrEv_ok {rs : List Rl} {g : List Int} {s : Int} {es : List Ev} {a2 a3 a4 a5 a7 a9 a10 a11 a12 a13 a14 a15 : SV} (hr : ∀ r ∈ rs, r.e.ok = true) (he : ∀ e ∈ es, e.ok = true) (h9 : a9.free = true) (h10 : a10.free = true) (h11 : a11.free = true) :
    ∃ b9 b10 b11, b9.free = true ∧ b10.free = true ∧ b11.free = true ∧ wrEv [.sh (wobj rs g), .sh (.lst (rs.map Rl.d)), a2, a3, a4, a5, .sh (.lst (es.map Ev.d)), a7, .sh (.int s), a9, a10, a11, a12, a13, a14, a15] = .ok (.nx [.sh (wobj rs g), .sh (.lst (rs.map Rl.d)), a2, a3, a4, a5, .sh (.lst (es.map Ev.d)), a7, .sh (.int s), b9, b10, b11, a12, a13, a14, a15]) := by
  obtain ⟨ρ', ⟨b9, b10, b11, f9, f10, f11, e1⟩, e⟩ := forD_keep (b := bName 9) (g := wrIn) (ds := es.map Ev.d)
    (P := fun ρ => ∃ b9 b10 b11 : SV, b9.free = true ∧ b10.free = true ∧ b11.free = true ∧ ρ = [.sh (wobj rs g), .sh (.lst (rs.map Rl.d)), a2, a3, a4, a5, .sh (.lst (es.map Ev.d)), a7, .sh (.int s), b9, b10, b11, a12, a13, a14, a15]) (by
      rintro d hd ρ ⟨b9, b10, b11, f9, f10, f11, rfl⟩
      obtain ⟨ev, hev, rfl⟩ := List.mem_map.mp hd
      exact ⟨_, _, by simp only [bName, putR, List.getElem?_cons_succ, List.getElem?_cons_zero, f9, if_true, List.set_cons_succ, List.set_cons_zero], wrIn_ok hr (he ev hev) f10 f11, _, _, _, rfl, rfl, rfl, rfl⟩) _ ⟨a9, a10, a11, h9, h10, h11, rfl⟩
  refine ⟨b9, b10, b11, f9, f10, f11, ?_⟩
  have hi : iA (dVar 6) [.sh (wobj rs g), .sh (.lst (rs.map Rl.d)), a2, a3, a4, a5, .sh (.lst (es.map Ev.d)), a7, .sh (.int s), a9, a10, a11, a12, a13, a14, a15] = .ok (es.map Ev.d) := by simp
  rw [wrEv, x_for, hi, x_for_ok, e, e1]
def wrSt : Stm := dFor (iR1 (dC (.int 10))) (bName 8) wrEv
theorem wrSt_ok {rs : List Rl} {g : List Int} {es : List Ev} {a2 a3 a4 a5 a7 a8 a9 a10 a11 a12 a13 a14 a15 : SV} (hr : ∀ r ∈ rs, r.e.ok = true) (he : ∀ e ∈ es, e.ok = true) (h8 : a8.free = true) (h9 : a9.free = true) (h10 : a10.free = true) (h11 : a11.free = true) :
    ∃ b8 b9 b10 b11, b8.free = true ∧ b9.free = true ∧ b10.free = true ∧ b11.free = true ∧ wrSt [.sh (wobj rs g), .sh (.lst (rs.map Rl.d)), a2, a3, a4, a5, .sh (.lst (es.map Ev.d)), a7, a8, a9, a10, a11, a12, a13, a14, a15] = .ok (.nx [.sh (wobj rs g), .sh (.lst (rs.map Rl.d)), a2, a3, a4, a5, .sh (.lst (es.map Ev.d)), a7, b8, b9, b10, b11, a12, a13, a14, a15]) := by
  obtain ⟨ρ', ⟨b8, b9, b10, b11, f8, f9, f10, f11, e1⟩, e⟩ := forD_keep (b := bName 8) (g := wrEv) (ds := rangeD 0 10)
    (P := fun ρ => ∃ b8 b9 b10 b11 : SV, b8.free = true ∧ b9.free = true ∧ b10.free = true ∧ b11.free = true ∧ ρ = [.sh (wobj rs g), .sh (.lst (rs.map Rl.d)), a2, a3, a4, a5, .sh (.lst (es.map Ev.d)), a7, b8, b9, b10, b11, a12, a13, a14, a15]) (by
      rintro d hd ρ ⟨b8, b9, b10, b11, f8, f9, f10, f11, rfl⟩
      obtain ⟨i, hi, rfl⟩ := mem_range.mp hd
      obtain ⟨c9, c10, c11, k9, k10, k11, hc⟩ := wrEv_ok (s := i) (g := g) (a2 := a2) (a3 := a3) (a4 := a4) (a5 := a5) (a7 := a7) (a12 := a12) (a13 := a13) (a14 := a14) (a15 := a15) hr he f9 f10 f11
      exact ⟨_, _, by simp only [bName, putR, List.getElem?_cons_succ, List.getElem?_cons_zero, f8, if_true, List.set_cons_succ, List.set_cons_zero], hc, _, _, _, _, rfl, k9, k10, k11, rfl⟩) _ ⟨a8, a9, a10, a11, h8, h9, h10, h11, rfl⟩
  refine ⟨b8, b9, b10, b11, f8, f9, f10, f11, ?_⟩
  rw [wrSt, x_for, x_rng (n := 10) (by omega) rfl, x_for_ok]
  show forD (bName 8) wrEv (rangeD 0 10) _ = _
  rw [e, e1]
end K75
set_option Elab.async false
set_option linter.all false
set_option maxRecDepth 100000
namespace Dl
open PySem PySem.Spec PyProof.Rows L2
theorem forD_rangeA {b : Bnd} {g : Stm} {P : Nat → Dl.Env → Prop} : ∀ (m k : Nat), (∀ i, k ≤ i → i < k + m → ∀ ρ, P i ρ → ∃ ρ1 ρ2, b (.int i) ρ = some ρ1 ∧ g ρ1 = .ok (.nx ρ2) ∧ P (i + 1) ρ2) → ∀ ρ, P k ρ → ∃ ρ', P (k + m) ρ' ∧ forD b g ((List.range' k m).map fun (i : Nat) => D.int i) ρ = .ok (.nx ρ')
  | 0, k, _, ρ, h => ⟨ρ, h, rfl⟩
  | m + 1, k, q, ρ, h => by
    obtain ⟨ρ1, ρ2, e1, e2, h2⟩ := q k (by omega) (by omega) ρ h
    obtain ⟨ρ3, h3, e3⟩ := forD_rangeA m (k + 1) (fun i hi hj => q i (by omega) (by omega)) ρ2 h2
    refine ⟨ρ3, by rw [show k + (m + 1) = k + 1 + m by omega]; exact h3, ?_⟩
    rw [List.range'_succ, List.map_cons, x_forD_cons e1, e2, x_turn_nx, e3]
theorem forD_range {b : Bnd} {g : Stm} {P : Nat → Dl.Env → Prop} {n : Nat} (q : ∀ i, i < n → ∀ ρ, P i ρ → ∃ ρ1 ρ2, b (.int i) ρ = some ρ1 ∧ g ρ1 = .ok (.nx ρ2) ∧ P (i + 1) ρ2) (ρ : Dl.Env) (h : P 0 ρ) : ∃ ρ', P n ρ' ∧ forD b g (rangeD 0 n) ρ = .ok (.nx ρ') := by
  obtain ⟨ρ', h1, h2⟩ := forD_rangeA (P := P) n 0 (fun i _ hi => q i (by omega)) ρ h
  refine ⟨ρ', by rwa [Nat.zero_add] at h1, ?_⟩
  have e : rangeD 0 n = (List.range' 0 n).map fun (i : Nat) => D.int i := by
    simp [rangeD, List.range_eq_range']
  rw [e, h2]
@[simp] theorem x_neB {k : Bool} : gNe (.sh (.bl k)) (.sh (.bl k)) = .ok (.sh (.bl false)) := by cases k <;> rfl
end Dl
namespace K75
open PySem PySem.Spec PyProof.Rows L2 Dl
def Mv.its : Mv → List D
  | .inn n k => [.str "in", .str n, .int k]
  | .out n c => [.str "out", .str n, .str c]
theorem Mv.d_its (m : Mv) : m.d = .tup m.its := by cases m <;> rfl
theorem frz_mv (m : Mv) : frz m.d = m.d := by cases m <;> rfl
theorem frz_mvl (m : Mv) : frz (.lst m.its) = m.d := by cases m <;> rfl
theorem pl_mv (m : Mv) : pl m.d = true := by cases m <;> simp [Mv.d, pl, pls]
theorem pl_mvl (m : Mv) : pl (.lst m.its) = true := by cases m <;> simp [Mv.its, pl, pls]
theorem dep_mv (m : Mv) : m.d.dep ≤ 1 := by cases m <;> simp [Mv.d, D.dep, D.deps]
theorem dep_mvl (m : Mv) : (D.lst m.its).dep ≤ 1 := by cases m <;> simp [Mv.its, D.dep, D.deps]
theorem frz_moves {ms : List Mv} (h : ms.length ≤ 1000) : F_frozen 6 [.lst (ms.map Mv.d)] = .ok (.sh (.tup (ms.map Mv.d))) := by
  have hd : D.deps (ms.map Mv.d) ≤ 1 := deps_map fun r _ => dep_mv r
  rw [frozen_ok _ 6 (by rw [pl, pls_map fun r _ => pl_mv r]; simpa using h) (by rw [D.dep]; omega), frz, frzs_map, List.map_map]
  congr 4
  exact funext fun r => frz_mv r
theorem frz_movest {ms : List Mv} (h : ms.length ≤ 1000) : F_frozen 6 [.tup (ms.map Mv.d)] = .ok (.sh (.tup (ms.map Mv.d))) := by
  have hd : D.deps (ms.map Mv.d) ≤ 1 := deps_map fun r _ => dep_mv r
  rw [frozen_ok _ 6 (by rw [pl, pls_map fun r _ => pl_mv r]; simpa using h) (by rw [D.dep]; omega), frz, frzs_map, List.map_map]
  congr 4
  exact funext fun r => frz_mv r
theorem frz_movesl {ms : List Mv} (h : ms.length ≤ 1000) : F_frozen 6 [.lst (ms.map fun m => .lst m.its)] = .ok (.sh (.tup (ms.map Mv.d))) := by
  have hd : D.deps (ms.map fun m => D.lst m.its) ≤ 1 := deps_map fun r _ => dep_mvl r
  rw [frozen_ok _ 6 (by rw [pl, pls_map fun r _ => pl_mvl r]; simpa using h) (by rw [D.dep]; omega), frz, frzs_map, List.map_map]
  congr 4
  exact funext fun r => frz_mvl r
def wrCl : Stm := (dSeq (dSet 13 (dCallI "Watch" 2 F_Watch___call__ [] (dVar 0) (aCons (dSl (dVar 4) none (some (dVar 12))) aNil)))
  (dFrz 13 (dSeq (dIf (dOrT (dNotT (dT tTru (dC1 gIsi (aCons (dVar 13) (aCons (dC (.ty "bool")) aNil))))) (dT tBool (d2 gNe (dVar 13) (d2 gIn (dVar 8) (dVar 2)))))
  (dRet (dC (.bl false)))
  dNext)
  (dIf (dT tBool (d2 gLt (dVar 12) (dC1 gLen (aCons (dVar 4) aNil))))
  (dSet 8 (dCall 3 F_l_next [] (aCons (dVar 1) (aCons (dVar 8) (aCons (dCall 1 F_l_of_move [] (aCons (d2 gIx (dVar 4) (dVar 12)) aNil)) aNil)))))
  dNext))))
theorem fin_snoc {rs : List Rl} {m : Mv} : ∀ {ms : List Mv} {s : Int}, fin rs s (ms ++ [m]) = nxt (fin rs s ms) m.e rs
  | [], _ => rfl
  | x :: ms, s => fin_snoc (ms := ms)
theorem mem_asc {gd : List Int} (h : ∀ s ∈ gd, 0 ≤ s ∧ s < 10) {k : Int} : k ∈ asc gd ↔ k ∈ gd := by
  rw [← sort_asc h]
  exact mem_sortSet
theorem wrCl_ok {rs : List Rl} {gd : List Int} {ms : List Mv} {i : Nat} {a3 a5 a6 a7 a9 a10 a11 a13 a14 a15 : SV} (hr : ∀ r ∈ rs, r.e.ok = true) (hm : ∀ m ∈ ms, m.e.ok = true) (hl : ms.length ≤ 1000) (hi : i ≤ ms.length) (hg : ∀ s ∈ gd, 0 ≤ s ∧ s < 10) (h13 : a13.free = true) :
    ∃ b13, b13.free = true ∧ wrCl [.sh (wobj rs (asc gd)), .sh (.lst (rs.map Rl.d)), .sh (.lst (gd.map D.int)), a3, .sh (.lst (ms.map Mv.d)), a5, a6, a7, .sh (.int (fin rs 0 (ms.take i))), a9, a10, a11, .sh (.int i), a13, a14, a15] = .ok (.nx [.sh (wobj rs (asc gd)), .sh (.lst (rs.map Rl.d)), .sh (.lst (gd.map D.int)), a3, .sh (.lst (ms.map Mv.d)), a5, a6, a7, .sh (.int (fin rs 0 (ms.take (i + 1)))), a9, a10, a11, .sh (.int i), b13, a14, a15]) := by
  have hs : ∀ ρ : Dl.Env, gSl (.sh (.lst (ms.map Mv.d))) none (some (i : Int)) = .ok (.fr (((ms.take i).map Mv.d).map T.leaf)) := fun ρ => by
    rw [x_sl_lst, cut_take, ← List.map_take]
  have hc := call_ok (rs := rs) (g := asc gd) (frz_moves (ms := ms.take i) (by simp; omega))
  have p13 : ∀ {x : SV} {ρ : Dl.Env}, Dl.putK 0 x (a13 :: ρ) = .ok (.nx (x :: ρ)) := fun {x ρ} => x_put0 h13
  have hci : ∀ xs : List EV, ciK "Watch" 2 F_Watch___call__ [] (.ok xs) (.ok (.sh (wobj rs (asc gd)))) = callN 2 F_Watch___call__ [] (.sh (wobj rs (asc gd)) :: xs) := fun xs => x_callI_ok
  refine ⟨.sh (.bl (decide (fin rs 0 (ms.take i) ∈ asc gd))), rfl, ?_⟩
  · by_cases h : i < ms.length
    · have hx := x_ixL (ds := ms.map Mv.d) (i := i) (d := (ms[i]'h).d) (by simp [h])
      have ht : ms.take (i + 1) = ms.take i ++ [ms[i]'h] := by simp
      have hn := l_next (rs := rs) (s := fin rs 0 (ms.take i)) (e := (ms[i]'h).e) hr (hm _ (List.getElem_mem h))
      rw [ht, fin_snoc]
      simp [-List.map_take, -List.map_map, wrCl, x_sl, slK, dSl, hs [], hc, p13, hci, inIL, mem_asc hg, h, hx, of_move, hn]
    · have e : i = ms.length := by omega
      have ht : ms.take (i + 1) = ms.take i := by rw [List.take_of_length_le (by omega), List.take_of_length_le (by omega)]
      rw [ht]
      simp [-List.map_take, -List.map_map, wrCl, x_sl, slK, dSl, hs [], hc, p13, hci, inIL, mem_asc hg, h]
def wrCls : Stm := dFor (iR1 (d2 gAdd (dC1 gLen (aCons (dVar 4) aNil)) (dC (.int 1)))) (bName 12) wrCl
theorem wrCls_ok {rs : List Rl} {gd : List Int} {ms : List Mv} {a3 a5 a6 a7 a9 a10 a11 a12 a13 a14 a15 : SV} (hr : ∀ r ∈ rs, r.e.ok = true) (hm : ∀ m ∈ ms, m.e.ok = true) (hl : ms.length ≤ 1000) (hg : ∀ s ∈ gd, 0 ≤ s ∧ s < 10) (h12 : a12.free = true) (h13 : a13.free = true) :
    ∃ b12 b13, b12.free = true ∧ b13.free = true ∧ wrCls [.sh (wobj rs (asc gd)), .sh (.lst (rs.map Rl.d)), .sh (.lst (gd.map D.int)), a3, .sh (.lst (ms.map Mv.d)), a5, a6, a7, .sh (.int 0), a9, a10, a11, a12, a13, a14, a15] = .ok (.nx [.sh (wobj rs (asc gd)), .sh (.lst (rs.map Rl.d)), .sh (.lst (gd.map D.int)), a3, .sh (.lst (ms.map Mv.d)), a5, a6, a7, .sh (.int (fin rs 0 ms)), a9, a10, a11, b12, b13, a14, a15]) := by
  obtain ⟨ρ', ⟨b12, b13, f12, f13, e1⟩, e⟩ := forD_range (b := bName 12) (g := wrCl) (n := ms.length + 1)
    (P := fun i ρ => ∃ b12 b13 : SV, b12.free = true ∧ b13.free = true ∧ ρ = [.sh (wobj rs (asc gd)), .sh (.lst (rs.map Rl.d)), .sh (.lst (gd.map D.int)), a3, .sh (.lst (ms.map Mv.d)), a5, a6, a7, .sh (.int (fin rs 0 (ms.take i))), a9, a10, a11, b12, b13, a14, a15]) (by
      rintro i hi ρ ⟨b12, b13, f12, f13, rfl⟩
      obtain ⟨c13, k13, hc⟩ := wrCl_ok (a3 := a3) (a5 := a5) (a6 := a6) (a7 := a7) (a9 := a9) (a10 := a10) (a11 := a11) (a14 := a14) (a15 := a15) hr hm hl (by omega : i ≤ ms.length) hg f13
      exact ⟨_, _, by simp only [bName, putR, List.getElem?_cons_succ, List.getElem?_cons_zero, f12, if_true, List.set_cons_succ, List.set_cons_zero], hc, _, _, rfl, k13, rfl⟩) _ ⟨a12, a13, h12, h13, rfl⟩
  refine ⟨b12, b13, f12, f13, ?_⟩
  have hn : (d2 gAdd (dC1 gLen (aCons (dVar 4) aNil)) (dC (.int 1))) [.sh (wobj rs (asc gd)), .sh (.lst (rs.map Rl.d)), .sh (.lst (gd.map D.int)), a3, .sh (.lst (ms.map Mv.d)), a5, a6, a7, .sh (.int 0), a9, a10, a11, a12, a13, a14, a15] = .ok (.sh (.int ((ms.length + 1 : Nat) : Int))) := by simp
  rw [wrCls, x_for, x_rng (by omega) hn, x_for_ok, Int.toNat_natCast]
  have e0 : fin rs 0 (ms.take 0) = 0 := rfl
  rw [e0] at e
  rw [e, e1, List.take_of_length_le (by omega)]
end K75
set_option Elab.async false
set_option linter.all false
set_option maxRecDepth 100000
namespace K75
open PySem PySem.Spec PyProof.Rows L2 Dl
def nmD (names : List Str) : D := .lst (names.map D.str)
def wrN : Stm := dSet 6 (d2 gAdd (dVar 6) (dLc (iA (dVar 3)) (bName 14) dYes (dTup (aCons (dC (.str "out")) (aCons (dVar 7) (aCons (dVar 14) aNil)))) [14]))
theorem lc_out {names : List Str} {n : Str} (hl : names.length ≤ 1000) {a0 a1 a2 a4 a5 a6 a8 a9 a10 a11 a12 a13 a14 a15 : SV} :
    dLc (iA (dVar 3)) (bName 14) dYes (dTup (aCons (dC (.str "out")) (aCons (dVar 7) (aCons (dVar 14) aNil)))) [14] [a0, a1, a2, .sh (nmD names), a4, a5, a6, .sh (.str n), a8, a9, a10, a11, a12, a13, a14, a15] = .ok (.fr (((names.map fun c => Ev.out n c).map Ev.d).map T.leaf)) := by
  rw [x_lc]
  have hi : iA (dVar 3) [a0, a1, a2, .sh (nmD names), a4, a5, a6, .sh (.str n), a8, a9, a10, a11, a12, a13, a14, a15] = .ok (names.map D.str) := by simp [nmD]
  rw [hi, x_lc_flat (p := fun _ => true) (h := fun d => .tup [.str "out", .str n, d]) (by simp; omega) (fun d hd => ⟨[a0, a1, a2, .sh (nmD names), a4, a5, a6, .sh (.str n), a8, a9, a10, a11, a12, a13, .sh d, a15], by simp [putR, SV.free], rfl, fun _ => by simp⟩), filter_yes, List.map_map, List.map_map, List.map_map, List.map_map]
  rfl
theorem lc_in {names : List Str} (hl : names.length ≤ 1000) {a0 a1 a2 a4 a5 a6 a7 a8 a9 a10 a11 a12 a13 a14 a15 : SV} :
    dLc (iA (dVar 3)) (bName 7) dYes (dTup (aCons (dC (.str "in")) (aCons (dVar 7) aNil))) [7] [a0, a1, a2, .sh (nmD names), a4, a5, a6, a7, a8, a9, a10, a11, a12, a13, a14, a15] = .ok (.fr (((names.map fun n => Ev.inn n).map Ev.d).map T.leaf)) := by
  rw [x_lc]
  have hi : iA (dVar 3) [a0, a1, a2, .sh (nmD names), a4, a5, a6, a7, a8, a9, a10, a11, a12, a13, a14, a15] = .ok (names.map D.str) := by simp [nmD]
  rw [hi, x_lc_flat (p := fun _ => true) (h := fun d => .tup [.str "in", d]) (by simp; omega) (fun d hd => ⟨[a0, a1, a2, .sh (nmD names), a4, a5, a6, .sh d, a8, a9, a10, a11, a12, a13, a14, a15], by simp [putR, SV.free], rfl, fun _ => by simp⟩), filter_yes, List.map_map, List.map_map, List.map_map, List.map_map]
  rfl
theorem leaves_map : ∀ ds : List D, leaves? (ds.map T.leaf) = some ds
  | [] => rfl
  | d :: ds => by rw [List.map_cons, leaves?, leaves_map ds]; rfl
theorem add_lst {ds es : List D} (h : ds.length + es.length ≤ 16777216) : gAdd (.sh (.lst ds)) (.fr (es.map T.leaf)) = .ok (.fr ((ds ++ es).map T.leaf)) := by
  simp only [gAdd, EV.lvs, toDs_leaves, h, if_true]
theorem add_own {ds es : List D} (h : ds.length + es.length ≤ 16777216) : gAdd (.bo (ds.map T.leaf)) (.fr (es.map T.leaf)) = .ok (.fr ((ds ++ es).map T.leaf)) := by
  simp only [gAdd, EV.lvs, toDs_leaves, leaves_map, h, if_true]
def evSlot (es : List Ev) (x : SV) : Prop := x = .sh (.lst (es.map Ev.d)) ∨ x = .own ((es.map Ev.d).map T.leaf)
theorem wrN_ok {names : List Str} {n : Str} {es : List Ev} {a0 a1 a2 a4 a5 x6 a8 a9 a10 a11 a12 a13 a14 a15 : SV} (hl : names.length ≤ 1000) (h6 : evSlot es x6) (he : es.length ≤ 1000000) :
    wrN [a0, a1, a2, .sh (nmD names), a4, a5, x6, .sh (.str n), a8, a9, a10, a11, a12, a13, a14, a15] = .ok (.nx [a0, a1, a2, .sh (nmD names), a4, a5, .own (((es ++ names.map fun c => Ev.out n c).map Ev.d).map T.leaf), .sh (.str n), a8, a9, a10, a11, a12, a13, a14, a15]) := by
  have hb : (es.map Ev.d).length + ((names.map fun c => Ev.out n c).map Ev.d).length ≤ 16777216 := by simp; omega
  rw [wrN, x_set, x_d2, lc_out hl, List.map_append]
  rcases h6 with rfl | rfl
  · have hv : dVar 6 [a0, a1, a2, .sh (nmD names), a4, a5, .sh (.lst (es.map Ev.d)), .sh (.str n), a8, a9, a10, a11, a12, a13, a14, a15] = .ok (.sh (.lst (es.map Ev.d))) := rfl
    rw [hv, x_d2_ok, add_lst hb, x_set_fr]
    rfl
  · have hv : dVar 6 [a0, a1, a2, .sh (nmD names), a4, a5, .own ((es.map Ev.d).map T.leaf), .sh (.str n), a8, a9, a10, a11, a12, a13, a14, a15] = .ok (.bo ((es.map Ev.d).map T.leaf)) := rfl
    rw [hv, x_d2_ok, add_own hb, x_set_fr]
    rfl
theorem wrN_loop {names : List Str} {a0 a1 a2 a4 a5 a8 a9 a10 a11 a12 a13 a14 a15 : SV} (hl : names.length ≤ 1000) (hn : ∀ n ∈ names, PyData.strOk n = true) : ∀ (ns : List Str) (es : List Ev) (x6 x7 : SV), x7.free = true → evSlot es x6 → (∀ e ∈ es, e.ok = true) → (∀ n ∈ ns, PyData.strOk n = true) → es.length + ns.length * names.length ≤ 1000000 →
    ∃ es' x6' x7', (∀ e ∈ es', e.ok = true) ∧ evSlot es' x6' ∧ x7'.free = true ∧ forD (bName 7) wrN (ns.map D.str) [a0, a1, a2, .sh (nmD names), a4, a5, x6, x7, a8, a9, a10, a11, a12, a13, a14, a15] = .ok (.nx [a0, a1, a2, .sh (nmD names), a4, a5, x6', x7', a8, a9, a10, a11, a12, a13, a14, a15])
  | [], es, x6, x7, h7, h6, he, _, _ => ⟨es, x6, x7, he, h6, h7, rfl⟩
  | n :: ns, es, x6, x7, h7, h6, he, hns, hb => by
    have hlen : es.length + names.length + ns.length * names.length ≤ 1000000 := by
      rw [List.length_cons, Nat.succ_mul] at hb
      omega
    obtain ⟨es', x6', x7', q1, q2, q3, q4⟩ := wrN_loop (a0 := a0) (a1 := a1) (a2 := a2) (a4 := a4) (a5 := a5) (a8 := a8) (a9 := a9) (a10 := a10) (a11 := a11) (a12 := a12) (a13 := a13) (a14 := a14) (a15 := a15) hl hn ns (es ++ names.map fun c => Ev.out n c) (.own (((es ++ names.map fun c => Ev.out n c).map Ev.d).map T.leaf)) (.sh (.str n)) rfl (.inr rfl) (by
      intro e h
      rcases List.mem_append.mp h with h | h
      · exact he e h
      · obtain ⟨c, hc, rfl⟩ := List.mem_map.mp h
        show (PyData.strOk n && PyData.strOk c) = true
        rw [hns n List.mem_cons_self, hn c hc]
        rfl) (fun m hm => hns m (List.mem_cons_of_mem _ hm)) (by simp; omega)
    refine ⟨es', x6', x7', q1, q2, q3, ?_⟩
    rw [List.map_cons, x_forD_cons (ρ1 := [a0, a1, a2, .sh (nmD names), a4, a5, x6, .sh (.str n), a8, a9, a10, a11, a12, a13, a14, a15]) (by simp [putR, h7]), wrN_ok hl h6 (by omega), x_turn_nx]
    exact q4
end K75
set_option Elab.async false
set_option linter.all false
set_option maxRecDepth 100000
namespace Dl
open PySem PySem.Spec PyProof.Rows L2
theorem x_frz_any {i : Nat} {g : Stm} {ρ : Dl.Env} {b : SV} (h : ρ[i]? = some b) (hf : b.free = true) : ∃ b' : SV, b'.free = true ∧ dFrz i g ρ = g (ρ.set i b') := by
  have hs : ρ.set i b = ρ := by
    obtain ⟨hi, e⟩ := List.getElem?_eq_some_iff.mp h
    rw [← e]
    exact List.set_getElem_self hi
  cases b with
  | own ts => exact ⟨.sh (.lst (T.toDs ts)), rfl, by rw [x_frz, h]; rfl⟩
  | no => exact ⟨.no, rfl, by rw [x_frz, h, hs]; rfl⟩
  | sh d => exact ⟨.sh d, rfl, by rw [x_frz, h, hs]; rfl⟩
  | dic k => exact ⟨.dic k, rfl, by rw [x_frz, h, hs]; rfl⟩
  | xc z => exact ⟨.xc z, rfl, by rw [x_frz, h, hs]; rfl⟩
  | lk ts => cases hf
  | mk C fs => cases hf
theorem gEq_d {x y : EV} : gEq x y = gEq (.sh x.d) (.sh y.d) := rfl
theorem gNotIn_d {x y : EV} : gNotIn x y = gNotIn (.sh x.d) (.sh y.d) := rfl
end Dl
namespace K75
open PySem PySem.Spec PyProof.Rows L2 Dl
def wrA : Stm := dSet 5 (dC1 gTuple (aCons (dLc (iR1 (dC (.int 10))) (bName 8) (dT tBool (d2 gIn (dVar 8) (dVar 2))) (dVar 8) [8]) aNil))
theorem wrA_ok {w r n m : D} {gd : List Int} : wrA [.sh w, .sh r, .sh (.lst (gd.map D.int)), .sh n, .sh m, .no, .no, .no, .no, .no, .no, .no, .no, .no, .no, .no] = .ok (.nx [.sh w, .sh r, .sh (.lst (gd.map D.int)), .sh n, .sh m, .sh (.tup ((asc gd).map D.int)), .no, .no, .no, .no, .no, .no, .no, .no, .no, .no]) := by
  have hr : ∀ ρ : Dl.Env, iR1 (dC (.int 10)) ρ = .ok (rangeD 0 10) := fun ρ => x_rng (n := 10) (by omega) rfl
  rw [wrA, x_set, x_c1, x_cons, x_nil, x_lc, hr, lc_ints (P := fun s => decide (s ∈ gd)) (by omega)]
  · simp only [x_cons_ok, x_c1_ok, x_tuple_fr, x_leaves, x_set_sh, x_put5, x_put4, x_put3, x_put2, x_put1, x_put0n, x_consK]
    rfl
  · intro i hi
    exact ⟨[.sh w, .sh r, .sh (.lst (gd.map D.int)), .sh n, .sh m, .no, .no, .no, .sh (.int i), .no, .no, .no, .no, .no, .no, .no], by simp [putR, SV.free], by simp [inIL], by simp⟩
def wrB : Stm := dIf (dOrT (dNotT (dT tTru (dCall 2 (F_l_same 5) [] (aCons (dFld "Watch" "rules" (dVar 0)) (aCons (dC1 gTuple (aCons (dVar 1) aNil)) aNil))))) (dNotT (dT tTru (dCall 2 (F_l_same 5) [] (aCons (dFld "Watch" "good" (dVar 0)) (aCons (dVar 5) aNil)))))) (dRet (dC (.bl false))) dNext
theorem wrB_ok {rs : List Rl} {gd : List Int} {a2 a3 a4 : SV} {ρ : Dl.Env} (hl : rs.length ≤ 1000) (hr : ∀ r ∈ rs, r.e.ok = true) : wrB (.sh (wobj rs (asc gd)) :: .sh (.lst (rs.map Rl.d)) :: a2 :: a3 :: a4 :: .sh (.tup ((asc gd).map D.int)) :: ρ) = .ok (.nx (.sh (wobj rs (asc gd)) :: .sh (.lst (rs.map Rl.d)) :: a2 :: a3 :: a4 :: .sh (.tup ((asc gd).map D.int)) :: ρ)) := by
  have ha := same_ints (g := asc gd) (by have := @asc_len gd; omega)
  simp [wrB, fld_rules, fld_good, same_rules hl hr, ha]
def wrC : Stm := dSet 6 (dLc (iA (dVar 3)) (bName 7) dYes (dTup (aCons (dC (.str "in")) (aCons (dVar 7) aNil))) [7])
theorem wrC_ok {names : List Str} (hl : names.length ≤ 1000) {a0 a1 a2 a4 a5 a7 a8 a9 a10 a11 a12 a13 a14 a15 : SV} : wrC [a0, a1, a2, .sh (nmD names), a4, a5, .no, a7, a8, a9, a10, a11, a12, a13, a14, a15] = .ok (.nx [a0, a1, a2, .sh (nmD names), a4, a5, .own (((names.map fun n => Ev.inn n).map Ev.d).map T.leaf), a7, a8, a9, a10, a11, a12, a13, a14, a15]) := by
  rw [wrC, x_set, lc_in hl, x_set_fr]
  simp only [x_put6, x_put5, x_put4, x_put3, x_put2, x_put1, x_put0n, x_consK]
theorem frz_slot {g : Stm} {es : List Ev} {a0 a1 a2 a3 a4 a5 x6 a7 a8 a9 a10 a11 a12 a13 a14 a15 : SV} (h : evSlot es x6) : dFrz 6 g [a0, a1, a2, a3, a4, a5, x6, a7, a8, a9, a10, a11, a12, a13, a14, a15] = g [a0, a1, a2, a3, a4, a5, .sh (.lst (es.map Ev.d)), a7, a8, a9, a10, a11, a12, a13, a14, a15] := by
  rcases h with rfl | rfl
  · rfl
  · rw [x_frz]
    show g _ = _
    rw [x_leaves]
    rfl
theorem lc_mv {ms : List Mv} (hl : ms.length ≤ 1000) {a0 a1 a2 a3 a5 a6 a7 a8 a9 a10 a11 a12 a13 a14 a15 : SV} :
    dLc (iA (dVar 4)) (bName 15) dYes (dC1 gList (aCons (dVar 15) aNil)) [15] [a0, a1, a2, a3, .sh (.lst (ms.map Mv.d)), a5, a6, a7, a8, a9, a10, a11, a12, a13, a14, a15] = .ok (.fr (ms.map fun m => T.node (m.its.map T.leaf))) := by
  rw [x_lc]
  have hi : iA (dVar 4) [a0, a1, a2, a3, .sh (.lst (ms.map Mv.d)), a5, a6, a7, a8, a9, a10, a11, a12, a13, a14, a15] = .ok (ms.map Mv.d) := by simp
  rw [hi, x_lc_tree (h := fun d => match d with
    | .tup ds => T.node (ds.map T.leaf)
    | _ => T.node []) (by simp; omega) (fun d hd => by
      obtain ⟨m, hm, rfl⟩ := List.mem_map.mp hd
      exact ⟨[a0, a1, a2, a3, .sh (.lst (ms.map Mv.d)), a5, a6, a7, a8, a9, a10, a11, a12, a13, a14, .sh m.d], .fr (m.its.map T.leaf), by simp [putR, SV.free], rfl, by simp [Mv.d_its], by rw [Mv.d_its]; rfl⟩), List.map_map]
  congr 2
  refine List.map_congr_left fun m _ => ?_
  cases m <;> rfl
def wrE : Stm := dSet 11 (dLc (iA (dVar 4)) (bName 15) dYes (dC1 gList (aCons (dVar 15) aNil)) [15])
def wrF : Stm := dRet (dAnd (dCall 2 (F_l_same 5) [] (aCons (dCallI "Watch" 2 F_Watch___call__ [] (dVar 0) (aCons (dVar 11) aNil)) (aCons (d2 gIn (dVar 8) (dVar 2)) aNil))) (d2 gEq (dVar 11) (dLc (iA (dVar 4)) (bName 15) dYes (dC1 gList (aCons (dVar 15) aNil)) [15])))
theorem nodes_d {ms : List Mv} : T.toDs (ms.map fun m => T.node (m.its.map T.leaf)) = ms.map fun m => D.lst m.its := by
  rw [T.toDs_eq, List.map_map]
  refine List.map_congr_left fun m _ => ?_
  simp
theorem mits_fine {m : Mv} (h : m.e.ok = true) : D.fines m.its = true := by
  cases m with
  | inn n k =>
    have h : PyData.strOk n = true := h
    simp [Mv.its, D.fines, D.fine, h, in_ok]
  | out n c =>
    have h : (PyData.strOk n && PyData.strOk c) = true := h
    rw [Bool.and_eq_true] at h
    simp [Mv.its, D.fines, D.fine, h.1, h.2, out_ok]
theorem mits_fines : ∀ {ms : List Mv}, (∀ m ∈ ms, m.e.ok = true) → D.fines (ms.map fun m => D.lst m.its) = true
  | [], _ => rfl
  | m :: ms, h => by
    rw [List.map_cons, D.fines, D.fine, mits_fine (h m List.mem_cons_self), mits_fines fun x hx => h x (List.mem_cons_of_mem _ hx)]
    rfl
theorem wrF_ok {rs : List Rl} {gd : List Int} {ms : List Mv} {a1 a3 a5 a6 a7 a9 a10 a12 a13 a14 a15 : SV} (hm : ∀ m ∈ ms, m.e.ok = true) (hl : ms.length ≤ 1000) (hg : ∀ s ∈ gd, 0 ≤ s ∧ s < 10) :
    wrF [.sh (wobj rs (asc gd)), a1, .sh (.lst (gd.map D.int)), a3, .sh (.lst (ms.map Mv.d)), a5, a6, a7, .sh (.int (fin rs 0 ms)), a9, a10, .sh (.lst (ms.map fun m => D.lst m.its)), a12, a13, a14, a15] = .ok (.ret (.sh (.bl true))) := by
  have hc := call_ok (rs := rs) (g := asc gd) (frz_movesl hl)
  have hb := same_b (decide (fin rs 0 ms ∈ gd))
  have hd : D.deps (ms.map fun m => D.lst m.its) ≤ 1 := deps_map fun r _ => dep_mvl r
  have he : gEq (.sh (.lst (ms.map fun m => D.lst m.its))) (.fr (ms.map fun m => T.node (m.its.map T.leaf))) = .ok (.sh (.bl true)) := by
    rw [gEq_d, x_d_sh, x_d_fr, nodes_d]
    exact x_eq_t rfl (by rw [D.fine]; exact mits_fines hm) (by rw [D.dep]; omega)
  have hci : ∀ xs : List EV, ciK "Watch" 2 F_Watch___call__ [] (.ok xs) (.ok (.sh (wobj rs (asc gd)))) = callN 2 F_Watch___call__ [] (.sh (wobj rs (asc gd)) :: xs) := fun xs => x_callI_ok
  have q := lc_mv (ms := ms) (a0 := .sh (wobj rs (asc gd))) (a1 := a1) (a2 := .sh (.lst (gd.map D.int))) (a3 := a3) (a5 := a5) (a6 := a6) (a7 := a7) (a8 := .sh (.int (fin rs 0 ms))) (a9 := a9) (a10 := a10) (a11 := .sh (.lst (ms.map fun m => D.lst m.its))) (a12 := a12) (a13 := a13) (a14 := a14) (a15 := a15) hl
  simp [-List.map_map, -x_lc, wrF, q, hci, hc, inIL, mem_asc hg, hb, he]
def wrT3 : Stm := dFrz 8 (dSeq wrE (dFrz 11 wrF))
theorem wrT3_ok {rs : List Rl} {gd : List Int} {ms : List Mv} {a1 a3 a5 a6 a7 a9 a10 a11 a12 a13 a14 a15 : SV} (hm : ∀ m ∈ ms, m.e.ok = true) (hl : ms.length ≤ 1000) (hg : ∀ s ∈ gd, 0 ≤ s ∧ s < 10) (h11 : a11.free = true) :
    wrT3 [.sh (wobj rs (asc gd)), a1, .sh (.lst (gd.map D.int)), a3, .sh (.lst (ms.map Mv.d)), a5, a6, a7, .sh (.int (fin rs 0 ms)), a9, a10, a11, a12, a13, a14, a15] = .ok (.ret (.sh (.bl true))) := by
  have p11 : ∀ {x : SV} {ρ : Dl.Env}, Dl.putK 0 x (a11 :: ρ) = .ok (.nx (x :: ρ)) := fun {x ρ} => x_put0 h11
  have hE : wrE [.sh (wobj rs (asc gd)), a1, .sh (.lst (gd.map D.int)), a3, .sh (.lst (ms.map Mv.d)), a5, a6, a7, .sh (.int (fin rs 0 ms)), a9, a10, a11, a12, a13, a14, a15] = .ok (.nx [.sh (wobj rs (asc gd)), a1, .sh (.lst (gd.map D.int)), a3, .sh (.lst (ms.map Mv.d)), a5, a6, a7, .sh (.int (fin rs 0 ms)), a9, a10, .own (ms.map fun m => T.node (m.its.map T.leaf)), a12, a13, a14, a15]) := by
    rw [wrE, x_set, lc_mv hl, x_set_fr]
    simp only [x_put11, x_put10, x_put9, x_put8, x_put7, x_put6, x_put5, x_put4, x_put3, x_put2, x_put1, p11, x_consK]
  rw [wrT3, x_frz]
  show dSeq wrE (dFrz 11 wrF) _ = _
  rw [x_seq, hE, x_seq_nx, x_frz]
  show wrF [_, _, _, _, _, _, _, _, _, _, _, .sh (.lst (T.toDs _)), _, _, _, _] = _
  rw [nodes_d]
  exact wrF_ok hm hl hg
def wrT1 : Stm := dSeq (dSet 8 (dC (.int 0))) (dSeq wrCls (dFrz 13 wrT3))
theorem wrT1_ok {rs : List Rl} {gd : List Int} {ms : List Mv} {a3 a5 a6 a7 a8 a9 a10 a11 a12 a13 a14 a15 : SV} (hr : ∀ r ∈ rs, r.e.ok = true) (hm : ∀ m ∈ ms, m.e.ok = true) (hl : ms.length ≤ 1000) (hg : ∀ s ∈ gd, 0 ≤ s ∧ s < 10) (h8 : a8.free = true) (h11 : a11.free = true) (h12 : a12.free = true) (h13 : a13.free = true) :
    wrT1 [.sh (wobj rs (asc gd)), .sh (.lst (rs.map Rl.d)), .sh (.lst (gd.map D.int)), a3, .sh (.lst (ms.map Mv.d)), a5, a6, a7, a8, a9, a10, a11, a12, a13, a14, a15] = .ok (.ret (.sh (.bl true))) := by
  have p8 : ∀ {x : SV} {ρ : Dl.Env}, Dl.putK 0 x (a8 :: ρ) = .ok (.nx (x :: ρ)) := fun {x ρ} => x_put0 h8
  have h0 : dSet 8 (dC (.int 0)) [.sh (wobj rs (asc gd)), .sh (.lst (rs.map Rl.d)), .sh (.lst (gd.map D.int)), a3, .sh (.lst (ms.map Mv.d)), a5, a6, a7, a8, a9, a10, a11, a12, a13, a14, a15] = .ok (.nx [.sh (wobj rs (asc gd)), .sh (.lst (rs.map Rl.d)), .sh (.lst (gd.map D.int)), a3, .sh (.lst (ms.map Mv.d)), a5, a6, a7, .sh (.int 0), a9, a10, a11, a12, a13, a14, a15]) := by
    rw [x_set, x_c, x_set_sh]
    simp only [x_put8, x_put7, x_put6, x_put5, x_put4, x_put3, x_put2, x_put1, p8, x_consK]
  obtain ⟨b12, b13, f12, f13, e1⟩ := wrCls_ok (rs := rs) (gd := gd) (ms := ms) (a3 := a3) (a5 := a5) (a6 := a6) (a7 := a7) (a9 := a9) (a10 := a10) (a11 := a11) (a14 := a14) (a15 := a15) hr hm hl hg h12 h13
  rw [wrT1, x_seq, h0, x_seq_nx, x_seq, e1, x_seq_nx]
  obtain ⟨c13, k13, e2⟩ := x_frz_any (i := 13) (g := wrT3) (ρ := [.sh (wobj rs (asc gd)), .sh (.lst (rs.map Rl.d)), .sh (.lst (gd.map D.int)), a3, .sh (.lst (ms.map Mv.d)), a5, a6, a7, .sh (.int (fin rs 0 ms)), a9, a10, a11, b12, b13, a14, a15]) rfl f13
  rw [e2]
  exact wrT3_ok hm hl hg h11
def wrT0 : Stm := dFrz 10 (dFrz 11 wrT1)
theorem wrT0_ok {rs : List Rl} {gd : List Int} {ms : List Mv} {a3 a5 a6 a7 a8 a9 a10 a11 a12 a13 a14 a15 : SV} (hr : ∀ r ∈ rs, r.e.ok = true) (hm : ∀ m ∈ ms, m.e.ok = true) (hl : ms.length ≤ 1000) (hg : ∀ s ∈ gd, 0 ≤ s ∧ s < 10) (h8 : a8.free = true) (h10 : a10.free = true) (h11 : a11.free = true) (h12 : a12.free = true) (h13 : a13.free = true) :
    wrT0 [.sh (wobj rs (asc gd)), .sh (.lst (rs.map Rl.d)), .sh (.lst (gd.map D.int)), a3, .sh (.lst (ms.map Mv.d)), a5, a6, a7, a8, a9, a10, a11, a12, a13, a14, a15] = .ok (.ret (.sh (.bl true))) := by
  obtain ⟨b10, f10, e1⟩ := x_frz_any (i := 10) (g := dFrz 11 wrT1) (ρ := [.sh (wobj rs (asc gd)), .sh (.lst (rs.map Rl.d)), .sh (.lst (gd.map D.int)), a3, .sh (.lst (ms.map Mv.d)), a5, a6, a7, a8, a9, a10, a11, a12, a13, a14, a15]) rfl h10
  rw [wrT0, e1]
  obtain ⟨b11, f11, e2⟩ := x_frz_any (i := 11) (g := wrT1) (ρ := [.sh (wobj rs (asc gd)), .sh (.lst (rs.map Rl.d)), .sh (.lst (gd.map D.int)), a3, .sh (.lst (ms.map Mv.d)), a5, a6, a7, a8, a9, b10, a11, a12, a13, a14, a15]) rfl h11
  show dFrz 11 wrT1 [_, _, _, _, _, _, _, _, _, _, _, _, _, _, _, _] = _
  rw [e2]
  exact wrT1_ok hr hm hl hg h8 f11 h12 h13
theorem g_right : g_l_watch_right = dSeq wrA (dSeq wrB (dSeq wrC (dFrz 6 (dSeq (dFor (iA (dVar 3)) (bName 7) wrN) (dFrz 6 (dSeq wrSt wrT0)))))) := rfl
theorem right_ok {rs : List Rl} {gd : List Int} {names : List Str} {ms : List Mv} (hr : ∀ r ∈ rs, r.e.ok = true) (hl : rs.length ≤ 1000) (hn : ∀ n ∈ names, PyData.strOk n = true) (hnl : names.length ≤ 100) (hm : ∀ m ∈ ms, m.e.ok = true) (hml : ms.length ≤ 1000) (hg : ∀ s ∈ gd, 0 ≤ s ∧ s < 10) :
    F_l_watch_right [wobj rs (asc gd), .lst (rs.map Rl.d), .lst (gd.map D.int), nmD names, .lst (ms.map Mv.d)] = .ok (.sh (.bl true)) := by
  have hq : names.length * names.length ≤ 100 * 100 := Nat.mul_le_mul hnl hnl
  obtain ⟨es, x6, x7, he, h6, h7, eN⟩ := wrN_loop (names := names) (a0 := .sh (wobj rs (asc gd))) (a1 := .sh (.lst (rs.map Rl.d))) (a2 := .sh (.lst (gd.map D.int))) (a4 := .sh (.lst (ms.map Mv.d))) (a5 := .sh (.tup ((asc gd).map D.int))) (a8 := .no) (a9 := .no) (a10 := .no) (a11 := .no) (a12 := .no) (a13 := .no) (a14 := .no) (a15 := .no) (by omega) hn names (names.map fun n => Ev.inn n) (.sh (.lst ((names.map fun n => Ev.inn n).map Ev.d))) .no rfl (.inl rfl) (by
      intro e h
      obtain ⟨n, h1, rfl⟩ := List.mem_map.mp h
      exact hn n h1) hn (by rw [List.length_map]; omega)
  obtain ⟨b8, b9, b10, b11, f8, f9, f10, f11, eS⟩ := wrSt_ok (rs := rs) (g := asc gd) (es := es) (a2 := .sh (.lst (gd.map D.int))) (a3 := .sh (nmD names)) (a4 := .sh (.lst (ms.map Mv.d))) (a5 := .sh (.tup ((asc gd).map D.int))) (a7 := x7) (a8 := .no) (a9 := .no) (a10 := .no) (a11 := .no) (a12 := .no) (a13 := .no) (a14 := .no) (a15 := .no) hr he rfl rfl rfl rfl
  have e0 : [wobj rs (asc gd), .lst (rs.map Rl.d), .lst (gd.map D.int), nmD names, .lst (ms.map Mv.d)].map SV.sh ++ List.replicate (16 - [wobj rs (asc gd), .lst (rs.map Rl.d), .lst (gd.map D.int), nmD names, .lst (ms.map Mv.d)].length) SV.no = [.sh (wobj rs (asc gd)), .sh (.lst (rs.map Rl.d)), .sh (.lst (gd.map D.int)), .sh (nmD names), .sh (.lst (ms.map Mv.d)), .no, .no, .no, .no, .no, .no, .no, .no, .no, .no, .no] := rfl
  have hi : ∀ {a0 a1 a2 : SV} {ρ : Dl.Env}, iA (dVar 3) (a0 :: a1 :: a2 :: .sh (nmD names) :: ρ) = .ok (names.map D.str) := rfl
  rw [F_l_watch_right, x_run, g_right, e0, x_seq, wrA_ok, x_seq_nx, x_seq, wrB_ok hl hr, x_seq_nx, x_seq, wrC_ok (by omega), x_seq_nx, frz_slot (es := names.map fun n => Ev.inn n) (.inr rfl), x_seq, x_for, hi, x_for_ok, eN, x_seq_nx, frz_slot h6, x_seq, eS, x_seq_nx, wrT0_ok hr hm hml hg f8 f10 f11 rfl rfl, x_run_ret]
end K75
set_option Elab.async false
set_option linter.all false
set_option maxRecDepth 100000
namespace Dl
open PySem PySem.Spec PyProof.Rows L2
theorem forD_firstA {b : Bnd} {g : Stm} {P : Dl.Env → Prop} {r : Nat → Option EV} : ∀ (m k : Nat), (∀ i, k ≤ i → i < k + m → ∀ ρ, P ρ → ∃ ρ1, b (.int i) ρ = some ρ1 ∧ ((∃ x, r i = some x ∧ g ρ1 = .ok (.ret x)) ∨ (r i = none ∧ ∃ ρ2, g ρ1 = .ok (.nx ρ2) ∧ P ρ2))) → ∀ ρ, P ρ →
    (∃ x, (List.range' k m).findSome? r = some x ∧ forD b g ((List.range' k m).map fun (i : Nat) => D.int i) ρ = .ok (.ret x)) ∨ ((List.range' k m).findSome? r = none ∧ ∃ ρ', P ρ' ∧ forD b g ((List.range' k m).map fun (i : Nat) => D.int i) ρ = .ok (.nx ρ'))
  | 0, k, _, ρ, h => .inr ⟨rfl, ρ, h, rfl⟩
  | m + 1, k, q, ρ, h => by
    obtain ⟨ρ1, e1, c⟩ := q k (by omega) (by omega) ρ h
    rw [List.range'_succ, List.map_cons, x_forD_cons e1, List.findSome?_cons]
    rcases c with ⟨x, h1, h2⟩ | ⟨h1, ρ2, h2, h3⟩
    · exact .inl ⟨x, by rw [h1], by rw [h2, x_turn_ret]⟩
    · rw [h1, h2, x_turn_nx]
      exact forD_firstA m (k + 1) (fun i hi hj => q i (by omega) (by omega)) ρ2 h3
theorem forD_first {b : Bnd} {g : Stm} {P : Dl.Env → Prop} {r : Nat → Option EV} {n : Nat} (q : ∀ i, i < n → ∀ ρ, P ρ → ∃ ρ1, b (.int i) ρ = some ρ1 ∧ ((∃ x, r i = some x ∧ g ρ1 = .ok (.ret x)) ∨ (r i = none ∧ ∃ ρ2, g ρ1 = .ok (.nx ρ2) ∧ P ρ2))) (ρ : Dl.Env) (h : P ρ) :
    (∃ x, (List.range n).findSome? r = some x ∧ forD b g (rangeD 0 n) ρ = .ok (.ret x)) ∨ ((List.range n).findSome? r = none ∧ ∃ ρ', P ρ' ∧ forD b g (rangeD 0 n) ρ = .ok (.nx ρ')) := by
  have e : rangeD 0 n = (List.range' 0 n).map fun (i : Nat) => D.int i := by
    simp [rangeD, List.range_eq_range']
  rw [e, List.range_eq_range']
  exact forD_firstA n 0 (fun i _ hi => q i (by omega)) ρ h
theorem find_const {p : Nat → Bool} {c : EV} : ∀ {l : List Nat}, l.findSome? (fun j => if p j then some c else none) = if l.any p then some c else none
  | [] => rfl
  | j :: l => by
    rw [List.findSome?_cons, List.any_cons]
    have ih := find_const (p := p) (c := c) (l := l)
    cases h : p j with
    | true => rfl
    | false => exact ih
end Dl
namespace K75
open PySem PySem.Spec PyProof.Rows L2 Dl
/-! ### the first double rule -/
def dbIn : Stm := dIf (dAndT (dT tBool (d2 gEq (d2 gIx (d2 gIx (dVar 0) (dVar 2)) (dC (.int 0))) (d2 gIx (d2 gIx (dVar 0) (dVar 1)) (dC (.int 0))))) (dT tBool (d2 gEq (d2 gIx (d2 gIx (dVar 0) (dVar 2)) (dC (.int 1))) (d2 gIx (d2 gIx (dVar 0) (dVar 1)) (dC (.int 1))))))
  (dRetV 1)
  dNext
def dbOut : Stm := dFor (iR1 (dVar 1)) (bName 2) dbIn
def dbB (rs : List Rl) (k j : Nat) : Bool := match rs[j]?, rs[k]? with
  | some a, some b => decide (a.s = b.s ∧ a.e = b.e)
  | _, _ => false
def dbR (rs : List Rl) (k : Nat) : Option EV := match rs[k]? with
  | some q => if hasR (rs.take k) q then some (.sh (.int k)) else none
  | none => none
theorem dbIn_ok {rs : List Rl} {k j : Nat} (hr : ∀ r ∈ rs, r.e.ok = true) (hk : k < rs.length) (hj : j < rs.length) : dbIn [.sh (.lst (rs.map Rl.d)), .sh (.int k), .sh (.int j)] = if dbB rs k j then .ok (.ret (.sh (.int k))) else .ok (.nx [.sh (.lst (rs.map Rl.d)), .sh (.int k), .sh (.int j)]) := by
  have hx := x_ixL (ds := rs.map Rl.d) (i := j) (d := (rs[j]'hj).d) (by simp [hj])
  have hy := x_ixL (ds := rs.map Rl.d) (i := k) (d := (rs[k]'hk).d) (by simp [hk])
  have q := ev_eq (hr _ (List.getElem_mem hj)) (hr _ (List.getElem_mem hk))
  have hb : dbB rs k j = decide ((rs[j]'hj).s = (rs[k]'hk).s ∧ (rs[j]'hj).e = (rs[k]'hk).e) := by
    unfold dbB
    rw [List.getElem?_eq_getElem hj, List.getElem?_eq_getElem hk]
  rw [hb]
  generalize rs[j]'hj = a at *
  generalize rs[k]'hk = b at *
  by_cases h1 : a.s = b.s
  · by_cases h2 : a.e = b.e
    · rw [h2] at q
      simp [dbIn, hx, hy, q, h1, h2]
    · simp [dbIn, hx, hy, q, h1, h2]
  · simp [dbIn, hx, hy, q, h1]
theorem any_has {rs : List Rl} {k : Nat} (hk : k < rs.length) : (List.range k).any (dbB rs k) = hasR (rs.take k) (rs[k]'hk) := by
  rw [Bool.eq_iff_iff, hasR, List.any_eq_true, List.any_eq_true]
  constructor
  · rintro ⟨j, hj, h⟩
    rw [List.mem_range] at hj
    have hj' : j < rs.length := by omega
    unfold dbB at h
    rw [List.getElem?_eq_getElem hj', List.getElem?_eq_getElem hk] at h
    refine ⟨rs[j]'hj', ?_, h⟩
    rw [List.mem_iff_getElem?]
    exact ⟨j, by rw [List.getElem?_take, if_pos hj, List.getElem?_eq_getElem hj']⟩
  · rintro ⟨q, hq, h⟩
    obtain ⟨j, hj⟩ := List.mem_iff_getElem?.mp hq
    rw [List.getElem?_take] at hj
    by_cases hjk : j < k
    · rw [if_pos hjk] at hj
      refine ⟨j, List.mem_range.mpr hjk, ?_⟩
      unfold dbB
      rw [hj, List.getElem?_eq_getElem hk]
      exact h
    · rw [if_neg hjk] at hj
      cases hj
theorem dbOut_ok {rs : List Rl} {k : Nat} {y : SV} (hr : ∀ r ∈ rs, r.e.ok = true) (hl : rs.length ≤ 1000) (hk : k < rs.length) (hy : y.free = true) :
    (∃ x, dbR rs k = some x ∧ dbOut [.sh (.lst (rs.map Rl.d)), .sh (.int k), y] = .ok (.ret x)) ∨ (dbR rs k = none ∧ ∃ y', y'.free = true ∧ dbOut [.sh (.lst (rs.map Rl.d)), .sh (.int k), y] = .ok (.nx [.sh (.lst (rs.map Rl.d)), .sh (.int k), y'])) := by
  have hi : iR1 (dVar 1) [.sh (.lst (rs.map Rl.d)), .sh (.int k), y] = .ok (rangeD 0 k) := x_rng (n := k) (by omega) rfl
  have e : dbR rs k = (List.range k).findSome? fun j => if dbB rs k j then some (.sh (.int k)) else none := by
    rw [find_const, any_has hk]
    unfold dbR
    rw [List.getElem?_eq_getElem hk]
  have q := forD_first (b := bName 2) (g := dbIn) (n := k) (r := fun j => if dbB rs k j then some (.sh (.int k)) else none)
    (P := fun ρ => ∃ y : SV, y.free = true ∧ ρ = [.sh (.lst (rs.map Rl.d)), .sh (.int k), y]) (by
      rintro j hj ρ ⟨y, hy, rfl⟩
      refine ⟨[.sh (.lst (rs.map Rl.d)), .sh (.int k), .sh (.int j)], by simp only [bName, putR, List.getElem?_cons_succ, List.getElem?_cons_zero, hy, if_true, List.set_cons_succ, List.set_cons_zero], ?_⟩
      rw [dbIn_ok hr hk (by omega)]
      cases dbB rs k j with
      | true => exact .inl ⟨_, rfl, rfl⟩
      | false => exact .inr ⟨rfl, _, rfl, _, rfl, rfl⟩) [.sh (.lst (rs.map Rl.d)), .sh (.int k), y] ⟨y, hy, rfl⟩
  rw [← e] at q
  have hd : dbOut [.sh (.lst (rs.map Rl.d)), .sh (.int k), y] = forD (bName 2) dbIn (rangeD 0 k) [.sh (.lst (rs.map Rl.d)), .sh (.int k), y] := by rw [dbOut, x_for, hi, x_for_ok]
  rcases q with ⟨x, h1, h2⟩ | ⟨h1, ρ', ⟨y', f, rfl⟩, h2⟩
  · exact .inl ⟨x, h1, by rw [hd, h2]⟩
  · exact .inr ⟨h1, y', f, by rw [hd, h2]⟩
theorem dup_find : ∀ (rs done : List Rl), (List.range' done.length rs.length).findSome? (dbR (done ++ rs)) = (dupAt done done.length rs).map fun (k : Nat) => EV.sh (.int k)
  | [], done => rfl
  | r :: rs, done => by
    rw [List.length_cons, List.range'_succ, List.findSome?_cons]
    have e1 : (done ++ r :: rs)[done.length]? = some r := by simp
    have e2 : (done ++ r :: rs).take done.length = done := by simp
    have e3 : dbR (done ++ r :: rs) done.length = if hasR done r then some (.sh (.int done.length)) else none := by
      unfold dbR
      rw [e1, e2]
    rw [e3, dupAt]
    cases hasR done r with
    | true => rfl
    | false =>
      have ih := dup_find rs (done ++ [r])
      rw [List.append_assoc, List.length_append, List.length_cons, List.length_nil] at ih
      simpa using ih
theorem double_ok {rs : List Rl} (hr : ∀ r ∈ rs, r.e.ok = true) (hl : rs.length ≤ 1000) : F_l_double [.lst (rs.map Rl.d)] = .ok (match dupAt [] 0 rs with
    | some k => .sh (.int k)
    | none => .sh .non) := by
  have hi : iR1 (dC1 gLen (aCons (dVar 0) aNil)) [.sh (.lst (rs.map Rl.d)), .no, .no] = .ok (rangeD 0 rs.length) := by
    have q : (dC1 gLen (aCons (dVar 0) aNil)) [.sh (.lst (rs.map Rl.d)), .no, .no] = .ok (.sh (.int rs.length)) := by simp
    have := x_rng (n := rs.length) (by omega) q
    rwa [Int.toNat_natCast] at this
  have e := dup_find rs []
  rw [List.length_nil, List.nil_append, ← List.range_eq_range'] at e
  have q := forD_first (b := bName 1) (g := dbOut) (n := rs.length) (r := dbR rs)
    (P := fun ρ => ∃ x y : SV, x.free = true ∧ y.free = true ∧ ρ = [.sh (.lst (rs.map Rl.d)), x, y]) (by
      rintro k hk ρ ⟨x, y, hx, hy, rfl⟩
      refine ⟨[.sh (.lst (rs.map Rl.d)), .sh (.int k), y], by simp only [bName, putR, List.getElem?_cons_succ, List.getElem?_cons_zero, hx, if_true, List.set_cons_succ, List.set_cons_zero], ?_⟩
      rcases dbOut_ok hr hl hk hy with ⟨x, h1, h2⟩ | ⟨h1, y', f, h2⟩
      · exact .inl ⟨x, h1, h2⟩
      · exact .inr ⟨h1, _, h2, _, y', rfl, f, rfl⟩) [.sh (.lst (rs.map Rl.d)), .no, .no] ⟨.no, .no, rfl, rfl, rfl⟩
  rw [e] at q
  have eg : g_l_double = dSeq (dFor (iR1 (dC1 gLen (aCons (dVar 0) aNil))) (bName 1) dbOut) (dRet (dC .non)) := rfl
  rw [F_l_double, x_run, eg]
  show runK (dSeq _ _ [.sh (.lst (rs.map Rl.d)), .no, .no]) = _
  rw [x_seq, x_for, hi, x_for_ok]
  rcases q with ⟨x, h1, h2⟩ | ⟨h1, ρ', _, h2⟩
  · rw [h2]
    cases z : dupAt [] 0 rs with
    | none => rw [z] at h1; cases h1
    | some k => rw [z] at h1; cases h1; rfl
  · rw [h2]
    cases z : dupAt [] 0 rs with
    | none => rfl
    | some k => rw [z] at h1; cases h1
/-! ### the rules without double ones -/
def sgB : Stm := dIf (dT tBool (dIsN (dCall 1 F_l_double [] (aCons (d2 gAdd (dVar 1) (dLst (aCons (dVar 2) aNil))) aNil))))
  (dApp 1 (dVar 2))
  dNext
theorem sgB_ok {L : D} {kept : List Rl} {r : Rl} (hr : ∀ r ∈ kept, r.e.ok = true) (he : r.e.ok = true) (hl : kept.length + 1 ≤ 1000) :
    sgB [.sh L, .own ((kept.map Rl.d).map T.leaf), .sh r.d] = .ok (.nx [.sh L, .own (((if dupAt [] 0 (kept ++ [r]) = none then kept ++ [r] else kept).map Rl.d).map T.leaf), .sh r.d]) := by
  have ha : gAdd (.bo ((kept.map Rl.d).map T.leaf)) (.fr [.leaf r.d]) = .ok (.fr (((kept ++ [r]).map Rl.d).map T.leaf)) := by
    have := add_own (ds := kept.map Rl.d) (es := [r.d]) (by simp; omega)
    rw [List.map_append (l₁ := kept)]
    exact this
  have hd := double_ok (rs := kept ++ [r]) (by
    intro x hx
    rcases List.mem_append.mp hx with hx | hx
    · exact hr x hx
    · rw [List.mem_singleton.mp hx]; exact he) (by simp; omega)
  have ht : dT tBool (dIsN (dCall 1 F_l_double [] (aCons (d2 gAdd (dVar 1) (dLst (aCons (dVar 2) aNil))) aNil))) [.sh L, .own ((kept.map Rl.d).map T.leaf), .sh r.d] = .ok (decide (dupAt [] 0 (kept ++ [r]) = none)) := by
    have hb : d2 gAdd (dVar 1) (dLst (aCons (dVar 2) aNil)) [.sh L, .own ((kept.map Rl.d).map T.leaf), .sh r.d] = .ok (.fr (((kept ++ [r]).map Rl.d).map T.leaf)) := ha
    rw [x_t, x_isN, x_call, x_cons, hb, x_nil, x_cons_ok, x_call_ok, callN_f, x_leaves, hd]
    cases dupAt [] 0 (kept ++ [r]) <;> rfl
  rw [sgB, x_if, ht]
  by_cases h : dupAt [] 0 (kept ++ [r]) = none
  · rw [if_pos h, decide_eq_true h, x_if_t, x_app]
    show appK 1 _ (some (.own _)) (.ok (.sh r.d)) = _
    rw [x_app_sh (by simp; omega), List.map_append (l₁ := kept), List.map_append]
    rfl
  · rw [if_neg h, decide_eq_false h, x_if_f]
    rfl
theorem single_loop {L : D} {Q : Rl → Prop} : ∀ (todo kept : List Rl) (y : SV), y.free = true → kept.length + todo.length ≤ 900 → dupAt [] 0 kept = none → (∀ r ∈ kept, r.e.ok = true ∧ Q r) → (∀ r ∈ todo, r.e.ok = true ∧ Q r) →
    ∃ kept' y', dupAt [] 0 kept' = none ∧ (∀ r ∈ kept', r.e.ok = true ∧ Q r) ∧ kept'.length ≤ kept.length + todo.length ∧ forD (bName 2) sgB (todo.map Rl.d) [.sh L, .own ((kept.map Rl.d).map T.leaf), y] = .ok (.nx [.sh L, .own ((kept'.map Rl.d).map T.leaf), y'])
  | [], kept, y, _, _, hd, hk, _ => ⟨kept, y, hd, hk, by simp, rfl⟩
  | r :: todo, kept, y, hy, hl, hd, hk, ht => by
    have hr := ht r List.mem_cons_self
    rw [List.length_cons] at hl
    have hb := sgB_ok (L := L) (kept := kept) (r := r) (fun x hx => (hk x hx).1) hr.1 (by omega)
    by_cases h : dupAt [] 0 (kept ++ [r]) = none
    · rw [if_pos h] at hb
      obtain ⟨k', y', h1, h2, h3, h4⟩ := single_loop (L := L) (Q := Q) todo (kept ++ [r]) (.sh r.d) rfl (by simp; omega) h (by
        intro x hx
        rcases List.mem_append.mp hx with hx | hx
        · exact hk x hx
        · rw [List.mem_singleton.mp hx]; exact hr) (fun x hx => ht x (List.mem_cons_of_mem _ hx))
      refine ⟨k', y', h1, h2, by simp at h3 ⊢; omega, ?_⟩
      rw [List.map_cons, x_forD_cons (ρ1 := [.sh L, .own ((kept.map Rl.d).map T.leaf), .sh r.d]) (by simp [putR, hy]), hb, x_turn_nx]
      exact h4
    · rw [if_neg h] at hb
      obtain ⟨k', y', h1, h2, h3, h4⟩ := single_loop (L := L) (Q := Q) todo kept (.sh r.d) rfl (by omega) hd hk (fun x hx => ht x (List.mem_cons_of_mem _ hx))
      refine ⟨k', y', h1, h2, by simp at h3 ⊢; omega, ?_⟩
      rw [List.map_cons, x_forD_cons (ρ1 := [.sh L, .own ((kept.map Rl.d).map T.leaf), .sh r.d]) (by simp [putR, hy]), hb, x_turn_nx]
      exact h4
theorem single_ok {rs : List Rl} {Q : Rl → Prop} (hr : ∀ r ∈ rs, r.e.ok = true ∧ Q r) (hl : rs.length ≤ 900) : ∃ kept, dupAt [] 0 kept = none ∧ (∀ r ∈ kept, r.e.ok = true ∧ Q r) ∧ kept.length ≤ rs.length ∧ F_l_single [.lst (rs.map Rl.d)] = .ok (.fr ((kept.map Rl.d).map T.leaf)) := by
  obtain ⟨kept, y', h1, h2, h3, h4⟩ := single_loop (L := .lst (rs.map Rl.d)) (Q := Q) rs [] .no rfl (by simpa using hl) rfl (fun _ h => by cases h) hr
  refine ⟨kept, h1, h2, by simpa using h3, ?_⟩
  have eg : g_l_single = dSeq (dSet 1 (dLst aNil)) (dSeq (dFor (iA (dVar 0)) (bName 2) sgB) (dRetV 1)) := rfl
  have hi : ∀ {ρ : Dl.Env}, iA (dVar 0) (.sh (.lst (rs.map Rl.d)) :: ρ) = .ok (rs.map Rl.d) := rfl
  have h0 : dSet 1 (dLst aNil) [.sh (.lst (rs.map Rl.d)), .no, .no] = .ok (.nx [.sh (.lst (rs.map Rl.d)), .own (([] : List Rl).map Rl.d |>.map T.leaf), .no]) := rfl
  rw [F_l_single, x_run, eg]
  show runK (dSeq _ _ [.sh (.lst (rs.map Rl.d)), .no, .no]) = _
  rw [x_seq, h0, x_seq_nx, x_seq, x_for, hi, x_for_ok, h4, x_seq_nx]
  rfl
end K75
set_option Elab.async false
set_option linter.all false
set_option maxRecDepth 100000
namespace Dl
open PySem PySem.Spec PyProof.Rows L2
theorem lcD_of {α : Type} {b : Bnd} {t : Dl.Env → Res Bool} {f : Dl.Env → Res EV} {ρ : Dl.Env} {c k : α → D} {p : α → Bool} : ∀ {xs : List α}, (∀ x ∈ xs, ∃ ρ1, b (c x) ρ = some ρ1 ∧ t ρ1 = .ok (p x) ∧ (p x = true → f ρ1 = .ok (.sh (k x)))) → lcD b t f (xs.map c) ρ = .ok (((xs.filter p).map k).map T.leaf)
  | [], _ => rfl
  | x :: xs, q => by
    obtain ⟨ρ1, q1, q2, q3⟩ := q x List.mem_cons_self
    have ih := lcD_of (xs := xs) fun y hy => q y (List.mem_cons_of_mem _ hy)
    rw [List.map_cons, lcD, q1]
    simp only [q2]
    cases e : p x with
    | false => simp [noX, e, ih]
    | true => simp [noX, e, ih, q3 e, EV.t?]
theorem x_lc_of {α : Type} {b : Bnd} {t : Dl.Env → Res Bool} {f : Dl.Env → Res EV} {ρ : Dl.Env} {c k : α → D} {p : α → Bool} {xs : List α} (hl : xs.length ≤ 16777216) (q : ∀ x ∈ xs, ∃ ρ1, b (c x) ρ = some ρ1 ∧ t ρ1 = .ok (p x) ∧ (p x = true → f ρ1 = .ok (.sh (k x)))) : lcK b t f ρ (.ok (xs.map c)) = .ok (.fr (((xs.filter p).map k).map T.leaf)) := by
  rw [lcK, if_pos (by simpa using hl), lcD_of q]
  rfl
theorem callN_sffss {F : List D → Res EV} {d k l : D} {us vs : List T} : callN 5 F [] [.sh d, .fr us, .fr vs, .sh k, .sh l] = F [d, .lst (T.toDs us), .lst (T.toDs vs), k, l] := callN_nb rfl rfl
end Dl
namespace K75
open PySem PySem.Spec PyProof.Rows L2 Dl
/-! ### never and follows, by what they mean -/
def late (e f : Ev) : List Ev → Bool
  | [] => false
  | x :: xs => (decide (x = e) && !decide (f ∈ xs)) || late e f xs
theorem late_iff {e f : Ev} : ∀ {xs : List Ev}, late e f xs = true ↔ ∃ i : Nat, xs[i]? = some e ∧ f ∉ xs.drop (i + 1)
  | [] => by simp [late]
  | x :: xs => by
    rw [late, Bool.or_eq_true, Bool.and_eq_true, late_iff]
    constructor
    · rintro (⟨h1, h2⟩ | ⟨i, h1, h2⟩)
      · exact ⟨0, by simpa using h1, by simpa using h2⟩
      · exact ⟨i + 1, by simpa using h1, by simpa using h2⟩
    · rintro ⟨i, h1, h2⟩
      cases i with
      | zero => exact .inl ⟨by simpa using h1, by simpa using h2⟩
      | succ i => exact .inr ⟨i, by simpa using h1, by simpa using h2⟩
theorem fin_never {e : Ev} : ∀ {ms : List Mv}, fin [⟨0, e, 1⟩] 1 ms = 1
  | [] => rfl
  | m :: ms => by
    rw [fin]
    have : nxt 1 m.e [⟨0, e, 1⟩] = 1 := by simp [nxt]
    rw [this]
    exact fin_never
theorem fin_never0 {e : Ev} : ∀ {ms : List Mv}, fin [⟨0, e, 1⟩] 0 ms = if e ∈ ms.map Mv.e then 1 else 0
  | [] => rfl
  | m :: ms => by
    rw [fin]
    by_cases h : e = m.e
    · have : nxt 0 m.e [⟨0, e, 1⟩] = 1 := by simp [nxt, h]
      rw [this, fin_never]
      simp [h]
    · have : nxt 0 m.e [⟨0, e, 1⟩] = 0 := by simp [nxt, h]
      rw [this, fin_never0]
      simp [h]
theorem fin_follows {e f : Ev} (hef : e ≠ f) : ∀ (ms : List Mv) (s : Int), (s = 0 ∨ s = 1) → (fin [⟨0, e, 1⟩, ⟨1, f, 0⟩] s ms = 0 ∨ fin [⟨0, e, 1⟩, ⟨1, f, 0⟩] s ms = 1) ∧ (fin [⟨0, e, 1⟩, ⟨1, f, 0⟩] s ms = 1 ↔ (s = 1 ∧ f ∉ ms.map Mv.e) ∨ late e f (ms.map Mv.e) = true)
  | [], s, h => ⟨h, by simp [fin, late]⟩
  | m :: ms, s, h => by
    have hn : nxt s m.e [⟨0, e, 1⟩, ⟨1, f, 0⟩] = if m.e = e then 1 else if m.e = f then 0 else s := by
      by_cases h1 : m.e = e
      · have h2 : f ≠ e := fun z => hef z.symm
        rcases h with rfl | rfl <;> simp [nxt, h1, h2]
      · by_cases h2 : m.e = f
        · rcases h with rfl | rfl <;> simp [nxt, h2, hef, Ne.symm hef]
        · rcases h with rfl | rfl <;> simp [nxt, h1, h2, Ne.symm h1, Ne.symm h2, eq_comm]
    rw [fin, hn, List.map_cons, late, Bool.or_eq_true, Bool.and_eq_true]
    by_cases h1 : m.e = e
    · rw [if_pos h1]
      obtain ⟨i1, i2⟩ := fin_follows hef ms 1 (.inr rfl)
      refine ⟨i1, i2.trans ?_⟩
      have h2 : f ≠ e := fun z => hef z.symm
      simp [h1, h2]
      intro a b
      exact .inl b
    · rw [if_neg h1]
      by_cases h2 : m.e = f
      · rw [if_pos h2]
        obtain ⟨i1, i2⟩ := fin_follows hef ms 0 (.inl rfl)
        refine ⟨i1, i2.trans ?_⟩
        have h3 : f ≠ e := fun z => hef z.symm
        simp [h2, h3]
      · rw [if_neg h2]
        obtain ⟨i1, i2⟩ := fin_follows hef ms s h
        refine ⟨i1, i2.trans ?_⟩
        have h3 : ¬ f = m.e := fun z => h2 z.symm
        simp [h1, h3]
theorem evs_fines : ∀ {es : List Ev}, (∀ e ∈ es, e.ok = true) → D.fines (es.map Ev.d) = true
  | [], _ => rfl
  | e :: es, h => by
    rw [List.map_cons, D.fines, Ev.fine (h e List.mem_cons_self), evs_fines fun x hx => h x (List.mem_cons_of_mem _ hx)]
    rfl
theorem ev_dep1 (e : Ev) : e.d.dep ≤ 1 := by cases e <;> simp [Ev.d, D.dep, D.deps]
theorem ninE {f : Ev} {es : List Ev} (hf : f.ok = true) (he : ∀ e ∈ es, e.ok = true) : gNotIn (.sh f.d) (.sh (.lst (es.map Ev.d))) = .ok (.sh (.bl (!decide (f ∈ es)))) := by
  have hd : D.deps (es.map Ev.d) ≤ 1 := deps_map fun r _ => ev_dep1 r
  obtain ⟨b, h1, h2⟩ := inD_lst (a := f.d) (ds := es.map Ev.d) (Ev.fine hf) (evs_fines he) (Ev.dep f) (by omega)
  have : b = decide (f ∈ es) := by
    rw [Bool.eq_iff_iff, h2, decide_eq_true_eq, List.mem_map]
    exact ⟨fun ⟨x, hx, e⟩ => by rw [← Ev.inj e]; exact hx, fun h => ⟨f, h, rfl⟩⟩
  simp [gNotIn, gF, h1, this]
theorem pl_its (e : Ev) : pl (.lst e.its) = true := by cases e <;> simp [Ev.its, pl, pls]
theorem pl_ev (e : Ev) : pl e.d = true := by cases e <;> simp [Ev.d, pl, pls]
theorem dep_its (e : Ev) : (D.lst e.its).dep ≤ 1 := by cases e <;> simp [Ev.its, D.dep, D.deps]
theorem frz_its' (e : Ev) : frz (.lst e.its) = e.d := by cases e <;> rfl
theorem frz_ev' (e : Ev) : frz e.d = e.d := by cases e <;> rfl
def mtA : Stm := dSet 4 (dCall 1 F_Watch_never [] (aCons (dC1 gList (aCons (dVar 0) aNil)) aNil))
def mtB : Stm := dSet 5 (dCall 2 F_Watch_follows [] (aCons (dVar 0) (aCons (dC1 gList (aCons (dVar 1) aNil)) aNil)))
def mtC : Stm := dIf (dNotT (dT tTru (dCall 5 F_l_watch_right [] (aCons (dVar 4) (aCons (dLst (aCons (dTup (aCons (dC (.int 0)) (aCons (dVar 0) (aCons (dC (.int 1)) aNil)))) aNil)) (aCons (dLst (aCons (dC (.int 0)) aNil)) (aCons (dVar 2) (aCons (dVar 3) aNil))))))))
  (dRet (dC (.bl false)))
  dNext
def mtD : Stm := dIf (dNotT (dT tTru (dCall 5 F_l_watch_right [] (aCons (dVar 5) (aCons (dLst (aCons (dTup (aCons (dC (.int 0)) (aCons (dVar 0) (aCons (dC (.int 1)) aNil)))) (aCons (dTup (aCons (dC (.int 1)) (aCons (dVar 1) (aCons (dC (.int 0)) aNil)))) aNil))) (aCons (dLst (aCons (dC (.int 0)) aNil)) (aCons (dVar 2) (aCons (dVar 3) aNil))))))))
  (dRet (dC (.bl false)))
  dNext
def mtE : Stm := dSet 6 (dLc (iA (dVar 3)) (bName 8) dYes (dCall 1 F_l_of_move [] (aCons (dVar 8) aNil)) [8])
def mtG : Stm := dSet 7 (dLc (iR1 (dC1 gLen (aCons (dVar 6) aNil))) (bName 9) (dAndT (dT tBool (d2 gEq (d2 gIx (dVar 6) (dVar 9)) (dVar 0))) (dT tBool (d2 gNotIn (dVar 1) (dSl (dVar 6) (some (d2 gAdd (dVar 9) (dC (.int 1)))) none)))) (dVar 9) [9])
def mtH : Stm := dRet (dAnd (dCall 2 (F_l_same 5) [] (aCons (dCallI "Watch" 2 F_Watch___call__ [] (dVar 4) (aCons (dC1 gTuple (aCons (dVar 3) aNil)) aNil)) (aCons (d2 gNotIn (dVar 0) (dVar 6)) aNil))) (dCall 2 (F_l_same 5) [] (aCons (dCallI "Watch" 2 F_Watch___call__ [] (dVar 5) (aCons (dC1 gList (aCons (dVar 3) aNil)) aNil)) (aCons (d2 gEq (dC1 gLen (aCons (dVar 7) aNil)) (dC (.int 0))) aNil))))
theorem g_meant : g_l_meant = dSeq mtA (dSeq mtB (dSeq mtC (dSeq mtD (dSeq mtE (dFrz 6 (dSeq mtG (dFrz 7 mtH))))))) := rfl
def wN (e : Ev) : D := wobj [⟨0, e, 1⟩] [0]
def wF (e f : Ev) : D := wobj [⟨0, e, 1⟩, ⟨1, f, 0⟩] [0]
theorem mtA_ok {e : Ev} {ρ : Dl.Env} {a1 a2 a3 : SV} : mtA (.sh e.d :: a1 :: a2 :: a3 :: .no :: ρ) = .ok (.nx (.sh e.d :: a1 :: a2 :: a3 :: .sh (wN e) :: ρ)) := by
  have h : F_Watch_never [.lst e.its] = .ok (.sh (wN e)) := never_ok (pl_its e) (dep_its e) (frz_its' e)
  simp [mtA, list_ev, h]
theorem mtB_ok {e f : Ev} {ρ : Dl.Env} {a2 a3 a4 : SV} : mtB (.sh e.d :: .sh f.d :: a2 :: a3 :: a4 :: .no :: ρ) = .ok (.nx (.sh e.d :: .sh f.d :: a2 :: a3 :: a4 :: .sh (wF e f) :: ρ)) := by
  have h : F_Watch_follows [e.d, .lst f.its] = .ok (.sh (wF e f)) := follows_ok (pl_ev e) (ev_dep1 e) (frz_ev' e) (pl_its f) (dep_its f) (frz_its' f)
  simp [mtB, list_ev, h]
theorem mtC_ok {e : Ev} {names : List Str} {ms : List Mv} {ρ : Dl.Env} {a1 : SV} (he : e.ok = true) (hn : ∀ n ∈ names, PyData.strOk n = true) (hnl : names.length ≤ 100) (hm : ∀ m ∈ ms, m.e.ok = true) (hml : ms.length ≤ 1000) :
    mtC (.sh e.d :: a1 :: .sh (nmD names) :: .sh (.lst (ms.map Mv.d)) :: .sh (wN e) :: ρ) = .ok (.nx (.sh e.d :: a1 :: .sh (nmD names) :: .sh (.lst (ms.map Mv.d)) :: .sh (wN e) :: ρ)) := by
  have h : F_l_watch_right [wN e, .lst [.tup [.int 0, e.d, .int 1]], .lst [.int 0], nmD names, .lst (ms.map Mv.d)] = .ok (.sh (.bl true)) := right_ok (rs := [⟨0, e, 1⟩]) (gd := [0]) (by simpa using he) (by simp) hn hnl hm hml (by simp)
  simp [mtC, callN_sffss, h]
theorem mtD_ok {e f : Ev} {names : List Str} {ms : List Mv} {ρ : Dl.Env} {a4 : SV} (he : e.ok = true) (hf : f.ok = true) (hn : ∀ n ∈ names, PyData.strOk n = true) (hnl : names.length ≤ 100) (hm : ∀ m ∈ ms, m.e.ok = true) (hml : ms.length ≤ 1000) :
    mtD (.sh e.d :: .sh f.d :: .sh (nmD names) :: .sh (.lst (ms.map Mv.d)) :: a4 :: .sh (wF e f) :: ρ) = .ok (.nx (.sh e.d :: .sh f.d :: .sh (nmD names) :: .sh (.lst (ms.map Mv.d)) :: a4 :: .sh (wF e f) :: ρ)) := by
  have h : F_l_watch_right [wF e f, .lst [.tup [.int 0, e.d, .int 1], .tup [.int 1, f.d, .int 0]], .lst [.int 0], nmD names, .lst (ms.map Mv.d)] = .ok (.sh (.bl true)) := right_ok (rs := [⟨0, e, 1⟩, ⟨1, f, 0⟩]) (gd := [0]) (by simpa using ⟨he, hf⟩) (by simp) hn hnl hm hml (by simp)
  simp [mtD, callN_sffss, h]
theorem mtE_ok {ms : List Mv} {a0 a1 a2 a4 a5 : SV} (hml : ms.length ≤ 1000) : mtE [a0, a1, a2, .sh (.lst (ms.map Mv.d)), a4, a5, .no, .no, .no, .no] = .ok (.nx [a0, a1, a2, .sh (.lst (ms.map Mv.d)), a4, a5, .own (((ms.map Mv.e).map Ev.d).map T.leaf), .no, .no, .no]) := by
  have hi : iA (dVar 3) [a0, a1, a2, .sh (.lst (ms.map Mv.d)), a4, a5, .no, .no, .no, .no] = .ok (ms.map Mv.d) := by simp
  rw [mtE, x_set, x_lc, hi, x_lc_of (p := fun _ => true) (k := fun m => m.e.d) (by omega) (fun m hm => ⟨[a0, a1, a2, .sh (.lst (ms.map Mv.d)), a4, a5, .no, .no, .sh m.d, .no], by simp [putR, SV.free], rfl, fun _ => by simp [of_move]⟩), filter_yes, x_set_fr, List.map_map (f := Mv.e)]
  simp only [x_put6, x_put5, x_put4, x_put3, x_put2, x_put1, x_put0n, x_consK]
  rfl
def lateI (e f : Ev) (es : List Ev) : List Int := ((List.range es.length).map fun (i : Nat) => (i : Int)).filter fun i => decide (es[i.toNat]? = some e) && !decide (f ∈ es.drop (i.toNat + 1))
theorem lateI_nil {e f : Ev} {es : List Ev} : lateI e f es = [] ↔ late e f es = false := by
  rw [← Bool.not_eq_true, late_iff, lateI, List.filter_eq_nil_iff]
  constructor
  · rintro h ⟨i, h1, h2⟩
    have hl := (List.getElem?_eq_some_iff.mp h1).1
    exact h (i : Int) (List.mem_map.mpr ⟨i, List.mem_range.mpr hl, rfl⟩) (by simp [h1, h2])
  · intro h i hi
    obtain ⟨j, hj, rfl⟩ := List.mem_map.mp hi
    intro z
    rw [Bool.and_eq_true] at z
    exact h ⟨j, by simpa using z.1, by simpa using z.2⟩
theorem mtG_ok {e f : Ev} {es : List Ev} {a2 a3 a4 a5 : SV} (he : e.ok = true) (hf : f.ok = true) (hes : ∀ x ∈ es, x.ok = true) (hl : es.length ≤ 1000) : mtG [.sh e.d, .sh f.d, a2, a3, a4, a5, .sh (.lst (es.map Ev.d)), .no, .no, .no] = .ok (.nx [.sh e.d, .sh f.d, a2, a3, a4, a5, .sh (.lst (es.map Ev.d)), .own (((lateI e f es).map D.int).map T.leaf), .no, .no]) := by
  have hi : iR1 (dC1 gLen (aCons (dVar 6) aNil)) [.sh e.d, .sh f.d, a2, a3, a4, a5, .sh (.lst (es.map Ev.d)), .no, .no, .no] = .ok (rangeD 0 es.length) := by
    have q : (dC1 gLen (aCons (dVar 6) aNil)) [.sh e.d, .sh f.d, a2, a3, a4, a5, .sh (.lst (es.map Ev.d)), .no, .no, .no] = .ok (.sh (.int es.length)) := by simp
    have := x_rng (n := es.length) (by omega) q
    rwa [Int.toNat_natCast] at this
  rw [mtG, x_set, x_lc, hi, lc_ints (P := fun i => decide (es[i.toNat]? = some e) && !decide (f ∈ es.drop (i.toNat + 1))) hl]
  · rw [x_set_fr]
    simp only [x_put7, x_put6, x_put5, x_put4, x_put3, x_put2, x_put1, x_put0n, x_consK]
    rfl
  · intro i hi
    refine ⟨[.sh e.d, .sh f.d, a2, a3, a4, a5, .sh (.lst (es.map Ev.d)), .no, .no, .sh (.int i)], by simp [putR, SV.free], ?_, by simp⟩
    have hx := x_ixL (ds := es.map Ev.d) (i := i) (d := (es[i]'hi).d) (by simp [hi])
    have q := ev_eq (hes _ (List.getElem_mem hi)) he
    have hs : dSl (dVar 6) (some (d2 gAdd (dVar 9) (dC (.int 1)))) none [.sh e.d, .sh f.d, a2, a3, a4, a5, .sh (.lst (es.map Ev.d)), .no, .no, .sh (.int i)] = .ok (.fr (((es.drop (i + 1)).map Ev.d).map T.leaf)) := by
      have h1 : d2 gAdd (dVar 9) (dC (.int 1)) [.sh e.d, .sh f.d, a2, a3, a4, a5, .sh (.lst (es.map Ev.d)), .no, .no, .sh (.int i)] = .ok (.sh (.int ((i + 1 : Nat) : Int))) := rfl
      have h2 : dVar 6 [.sh e.d, .sh f.d, a2, a3, a4, a5, .sh (.lst (es.map Ev.d)), .no, .no, .sh (.int i)] = .ok (.sh (.lst (es.map Ev.d))) := rfl
      rw [x_sl, h2, x_sl_lo h1, x_sl_lst, cut_drop, List.map_drop, List.map_drop, List.map_drop]
    have hn : gNotIn (.sh f.d) (.fr (((es.drop (i + 1)).map Ev.d).map T.leaf)) = .ok (.sh (.bl (!decide (f ∈ es.drop (i + 1))))) := by
      rw [gNotIn_d, x_d_sh, x_d_fr, x_leaves]
      exact ninE hf fun x hx => hes x (List.mem_of_mem_drop hx)
    have e1 : (es[i]? = some e) = (es[i]'hi = e) := by rw [List.getElem?_eq_getElem hi, Option.some.injEq]
    have t1 : dT tBool (d2 gEq (d2 gIx (dVar 6) (dVar 9)) (dVar 0)) [.sh e.d, .sh f.d, a2, a3, a4, a5, .sh (.lst (es.map Ev.d)), .no, .no, .sh (.int i)] = .ok (decide (es[i]'hi = e)) := by
      have : d2 gIx (dVar 6) (dVar 9) [.sh e.d, .sh f.d, a2, a3, a4, a5, .sh (.lst (es.map Ev.d)), .no, .no, .sh (.int i)] = .ok (.sh (es[i]'hi).d) := hx
      have h0 : dVar 0 [.sh e.d, .sh f.d, a2, a3, a4, a5, .sh (.lst (es.map Ev.d)), .no, .no, .sh (.int i)] = .ok (.sh e.d) := rfl
      rw [x_t, x_d2, this, h0, x_d2_ok, q, x_t_ok, x_tBool]
    have t2 : dT tBool (d2 gNotIn (dVar 1) (dSl (dVar 6) (some (d2 gAdd (dVar 9) (dC (.int 1)))) none)) [.sh e.d, .sh f.d, a2, a3, a4, a5, .sh (.lst (es.map Ev.d)), .no, .no, .sh (.int i)] = .ok (!decide (f ∈ es.drop (i + 1))) := by
      have h0 : dVar 1 [.sh e.d, .sh f.d, a2, a3, a4, a5, .sh (.lst (es.map Ev.d)), .no, .no, .sh (.int i)] = .ok (.sh f.d) := rfl
      rw [x_t, x_d2, hs, h0, x_d2_ok, hn, x_t_ok, x_tBool]
    rw [x_andT, t1, Int.toNat_natCast]
    by_cases h : es[i]'hi = e
    · have h' : es[i]? = some e := by rw [e1]; exact h
      rw [decide_eq_true h, decide_eq_true h', x_andT_t, t2, Bool.true_and]
    · have h' : ¬ es[i]? = some e := by rw [e1]; exact h
      rw [decide_eq_false h, decide_eq_false h', x_andT_f, Bool.false_and]
theorem mtH_ok {e f : Ev} {ms : List Mv} {a2 a8 a9 : SV} (he : e.ok = true) (hef : e ≠ f) (hm : ∀ m ∈ ms, m.e.ok = true) (hml : ms.length ≤ 1000) :
    mtH [.sh e.d, .sh f.d, a2, .sh (.lst (ms.map Mv.d)), .sh (wN e), .sh (wF e f), .sh (.lst ((ms.map Mv.e).map Ev.d)), .sh (.lst ((lateI e f (ms.map Mv.e)).map D.int)), a8, a9] = .ok (.ret (.sh (.bl true))) := by
  have c1 : F_Watch___call__ [wN e, .tup (ms.map Mv.d)] = .ok (.sh (.bl (decide (fin [⟨0, e, 1⟩] 0 ms ∈ [(0 : Int)])))) := call_ok (frz_movest hml)
  have c2 : F_Watch___call__ [wF e f, .lst (ms.map Mv.d)] = .ok (.sh (.bl (decide (fin [⟨0, e, 1⟩, ⟨1, f, 0⟩] 0 ms ∈ [(0 : Int)])))) := call_ok (frz_moves hml)
  have i1 : decide (fin [⟨0, e, 1⟩] 0 ms ∈ [(0 : Int)]) = !decide (e ∈ ms.map Mv.e) := by
    rw [fin_never0]
    by_cases h : e ∈ ms.map Mv.e
    · simp only [if_pos h, h]; decide
    · simp only [if_neg h, h]; decide
  have i2 : decide (fin [⟨0, e, 1⟩, ⟨1, f, 0⟩] 0 ms ∈ [(0 : Int)]) = decide (((lateI e f (ms.map Mv.e)).map D.int).length = 0) := by
    obtain ⟨k1, k2⟩ := fin_follows hef ms 0 (.inl rfl)
    rw [List.length_map, decide_eq_decide, List.mem_singleton, List.length_eq_zero_iff, lateI_nil]
    rcases k1 with k1 | k1
    · rw [k1] at k2 ⊢
      simp at k2
      simp [k2]
    · rw [k1] at k2 ⊢
      simp at k2
      simp [k2]
  have hb1 := same_b (!decide (e ∈ ms.map Mv.e))
  have hb2 := same_b (decide (((lateI e f (ms.map Mv.e)).map D.int).length = 0))
  rw [i1] at c1
  rw [i2] at c2
  have hni := ninE (f := e) (es := ms.map Mv.e) he (by
    intro x hx
    obtain ⟨m, h1, rfl⟩ := List.mem_map.mp hx
    exact hm m h1)
  have hN : ∀ xs : List EV, ciK "Watch" 2 F_Watch___call__ [] (.ok xs) (.ok (.sh (wN e))) = callN 2 F_Watch___call__ [] (.sh (wN e) :: xs) := fun xs => x_callI_ok
  have hF : ∀ xs : List EV, ciK "Watch" 2 F_Watch___call__ [] (.ok xs) (.ok (.sh (wF e f))) = callN 2 F_Watch___call__ [] (.sh (wF e f) :: xs) := fun xs => x_callI_ok
  have x1 : dCall 2 (F_l_same 5) [] (aCons (dCallI "Watch" 2 F_Watch___call__ [] (dVar 4) (aCons (dC1 gTuple (aCons (dVar 3) aNil)) aNil)) (aCons (d2 gNotIn (dVar 0) (dVar 6)) aNil)) [.sh e.d, .sh f.d, a2, .sh (.lst (ms.map Mv.d)), .sh (wN e), .sh (wF e f), .sh (.lst ((ms.map Mv.e).map Ev.d)), .sh (.lst ((lateI e f (ms.map Mv.e)).map D.int)), a8, a9] = .ok (.sh (.bl true)) := by
    have q1 : dCallI "Watch" 2 F_Watch___call__ [] (dVar 4) (aCons (dC1 gTuple (aCons (dVar 3) aNil)) aNil) [.sh e.d, .sh f.d, a2, .sh (.lst (ms.map Mv.d)), .sh (wN e), .sh (wF e f), .sh (.lst ((ms.map Mv.e).map Ev.d)), .sh (.lst ((lateI e f (ms.map Mv.e)).map D.int)), a8, a9] = .ok (.sh (.bl (!decide (e ∈ ms.map Mv.e)))) := by
      rw [x_callI, ← c1]
      exact (hN [.sh (.tup (ms.map Mv.d))]).trans callN_ss
    have q2 : d2 gNotIn (dVar 0) (dVar 6) [.sh e.d, .sh f.d, a2, .sh (.lst (ms.map Mv.d)), .sh (wN e), .sh (wF e f), .sh (.lst ((ms.map Mv.e).map Ev.d)), .sh (.lst ((lateI e f (ms.map Mv.e)).map D.int)), a8, a9] = .ok (.sh (.bl (!decide (e ∈ ms.map Mv.e)))) := hni
    rw [x_call, x_cons, q1, x_cons, q2, x_nil, x_cons_ok, x_cons_ok, x_call_ok, callN_ss, hb1]
  have x2 : dCall 2 (F_l_same 5) [] (aCons (dCallI "Watch" 2 F_Watch___call__ [] (dVar 5) (aCons (dC1 gList (aCons (dVar 3) aNil)) aNil)) (aCons (d2 gEq (dC1 gLen (aCons (dVar 7) aNil)) (dC (.int 0))) aNil)) [.sh e.d, .sh f.d, a2, .sh (.lst (ms.map Mv.d)), .sh (wN e), .sh (wF e f), .sh (.lst ((ms.map Mv.e).map Ev.d)), .sh (.lst ((lateI e f (ms.map Mv.e)).map D.int)), a8, a9] = .ok (.sh (.bl true)) := by
    have q1 : dCallI "Watch" 2 F_Watch___call__ [] (dVar 5) (aCons (dC1 gList (aCons (dVar 3) aNil)) aNil) [.sh e.d, .sh f.d, a2, .sh (.lst (ms.map Mv.d)), .sh (wN e), .sh (wF e f), .sh (.lst ((ms.map Mv.e).map Ev.d)), .sh (.lst ((lateI e f (ms.map Mv.e)).map D.int)), a8, a9] = .ok (.sh (.bl (decide (((lateI e f (ms.map Mv.e)).map D.int).length = 0)))) := by
      rw [x_callI, ← c2]
      have := (hF [.fr ((ms.map Mv.d).map T.leaf)]).trans callN_sf
      rw [x_leaves] at this
      exact this
    have q2 : d2 gEq (dC1 gLen (aCons (dVar 7) aNil)) (dC (.int 0)) [.sh e.d, .sh f.d, a2, .sh (.lst (ms.map Mv.d)), .sh (wN e), .sh (wF e f), .sh (.lst ((ms.map Mv.e).map Ev.d)), .sh (.lst ((lateI e f (ms.map Mv.e)).map D.int)), a8, a9] = .ok (.sh (.bl (decide (((lateI e f (ms.map Mv.e)).map D.int).length = 0)))) := by
      rw [x_d2, x_c]
      have : dC1 gLen (aCons (dVar 7) aNil) [.sh e.d, .sh f.d, a2, .sh (.lst (ms.map Mv.d)), .sh (wN e), .sh (wF e f), .sh (.lst ((ms.map Mv.e).map Ev.d)), .sh (.lst ((lateI e f (ms.map Mv.e)).map D.int)), a8, a9] = .ok (.sh (.int ((lateI e f (ms.map Mv.e)).map D.int).length)) := rfl
      rw [this, x_d2_ok, x_eqI]
      simp only [Int.natCast_eq_zero]
    rw [x_call, x_cons, q1, x_cons, q2, x_nil, x_cons_ok, x_cons_ok, x_call_ok, callN_ss, hb2]
  rw [mtH, x_ret, x_and, x1, x_and_t, x2, x_ret_sh]
theorem meant_ok {e f : Ev} {names : List Str} {ms : List Mv} (he : e.ok = true) (hf : f.ok = true) (hef : e ≠ f) (hn : ∀ n ∈ names, PyData.strOk n = true) (hnl : names.length ≤ 100) (hm : ∀ m ∈ ms, m.e.ok = true) (hml : ms.length ≤ 1000) :
    F_l_meant [e.d, f.d, nmD names, .lst (ms.map Mv.d)] = .ok (.sh (.bl true)) := by
  have hes : ∀ x ∈ ms.map Mv.e, x.ok = true := by
    intro x hx
    obtain ⟨m, h1, rfl⟩ := List.mem_map.mp hx
    exact hm m h1
  rw [F_l_meant, x_run, g_meant]
  show runK (dSeq _ _ [.sh e.d, .sh f.d, .sh (nmD names), .sh (.lst (ms.map Mv.d)), .no, .no, .no, .no, .no, .no]) = _
  rw [x_seq, mtA_ok, x_seq_nx, x_seq, mtB_ok, x_seq_nx, x_seq, mtC_ok he hn hnl hm hml, x_seq_nx, x_seq, mtD_ok he hf hn hnl hm hml, x_seq_nx, x_seq, mtE_ok hml, x_seq_nx, x_frz]
  show runK (dSeq mtG (dFrz 7 mtH) [_, _, _, _, _, _, .sh (.lst (T.toDs (((ms.map Mv.e).map Ev.d).map T.leaf))), _, _, _]) = _
  rw [x_leaves, x_seq, mtG_ok he hf hes (by simpa using hml), x_seq_nx, x_frz]
  show runK (mtH [_, _, _, _, _, _, _, .sh (.lst (T.toDs (((lateI e f (ms.map Mv.e)).map D.int).map T.leaf))), _, _]) = _
  rw [x_leaves, mtH_ok he hef hm hml, x_run_ret]
end K75
set_option Elab.async false
set_option linter.all false
set_option maxRecDepth 100000
namespace Dl
open PySem PySem.Spec PyProof.Rows L2
theorem lcT_of {α : Type} {b : Bnd} {t : Dl.Env → Res Bool} {f : Dl.Env → Res EV} {ρ : Dl.Env} {c : α → D} {k : α → T} : ∀ {xs : List α}, (∀ x ∈ xs, ∃ ρ1 y, b (c x) ρ = some ρ1 ∧ t ρ1 = .ok true ∧ f ρ1 = .ok y ∧ y.t? = some (k x)) → lcD b t f (xs.map c) ρ = .ok (xs.map k)
  | [], _ => rfl
  | x :: xs, q => by
    obtain ⟨ρ1, y, q1, q2, q3, q4⟩ := q x List.mem_cons_self
    have ih := lcT_of (xs := xs) fun y hy => q y (List.mem_cons_of_mem _ hy)
    rw [List.map_cons, lcD, q1]
    simp [q2, noX, q3, q4, ih]
theorem x_lcT_of {α : Type} {b : Bnd} {t : Dl.Env → Res Bool} {f : Dl.Env → Res EV} {ρ : Dl.Env} {c : α → D} {k : α → T} {xs : List α} (hl : xs.length ≤ 16777216) (q : ∀ x ∈ xs, ∃ ρ1 y, b (c x) ρ = some ρ1 ∧ t ρ1 = .ok true ∧ f ρ1 = .ok y ∧ y.t? = some (k x)) : lcK b t f ρ (.ok (xs.map c)) = .ok (.fr (xs.map k)) := by
  rw [lcK, if_pos (by simpa using hl), lcT_of q]
  rfl
end Dl
namespace K75
open PySem PySem.Spec PyProof.Rows L2 Dl
/-! ### rules handed as lists -/
def Rl.t (r : Rl) : T := .node [.leaf (.int r.s), .node (r.e.its.map T.leaf), .leaf (.int r.a)]
def Rl.h (r : Rl) : D := .lst [.int r.s, .lst r.e.its, .int r.a]
theorem Rl.t_d (r : Rl) : r.t.toD = r.h := by simp [Rl.t, Rl.h]
theorem ts_h {rs : List Rl} : T.toDs (rs.map Rl.t) = rs.map Rl.h := by
  rw [T.toDs_eq, List.map_map]
  exact List.map_congr_left fun r _ => Rl.t_d r
theorem pl_h (r : Rl) : pl r.h = true := by
  obtain ⟨s, e, a⟩ := r
  cases e <;> simp [Rl.h, Ev.its, pl, pls]
theorem dep_h (r : Rl) : r.h.dep ≤ 2 := by
  obtain ⟨s, e, a⟩ := r
  cases e <;> simp [Rl.h, Ev.its, D.dep, D.deps]
theorem frz_h (r : Rl) : frz r.h = r.d := by
  obtain ⟨s, e, a⟩ := r
  cases e <;> rfl
theorem frz_hands {rs : List Rl} (h : rs.length ≤ 1000) : F_frozen 6 [.lst (rs.map Rl.h)] = .ok (.sh (.tup (rs.map Rl.d))) := by
  have hd : D.deps (rs.map Rl.h) ≤ 2 := deps_map fun r _ => dep_h r
  rw [frozen_ok _ 6 (by rw [pl, pls_map fun r _ => pl_h r]; simpa using h) (by rw [D.dep]; omega), frz, frzs_map, List.map_map]
  congr 4
  exact funext fun r => frz_h r
def hdE (i : Nat) : Dl.Env → Res EV := dLst (aCons (d2 gIx (dVar i) (dC (.int 0))) (aCons (dC1 gList (aCons (d2 gIx (dVar i) (dC (.int 1))) aNil)) (aCons (d2 gIx (dVar i) (dC (.int 2))) aNil)))
theorem hdE_ok {i : Nat} {ρ : Dl.Env} {r : Rl} (h : ρ[i]? = some (.sh r.d)) : hdE i ρ = .ok (.fr [.leaf (.int r.s), .node (r.e.its.map T.leaf), .leaf (.int r.a)]) := by
  simp [hdE, h, list_ev]
theorem made_ok {rs : List Rl} {gd : List Int} (hl : rs.length < 1000) (hg : gd.length < 64) : mkF "Watch" F_Watch___init__ [.lst (rs.map Rl.h), .lst (gd.map D.int)] = (match dupAt [] 0 rs with
      | none => .ok (.sh (wobj rs (sortSet gd)))
      | some k => .exc ⟨"BadRule", [("index", .int k)]⟩) := init_ok (frz_hands (by omega)) (frz_ints (by omega)) hl hg
/-! ### the bad rule -/
def brT : Dl.Env → Res EV := dCall 2 (mkF "Watch" F_Watch___init__) [] (aCons (dLc (iA (dVar 0)) (bName 4) dYes (hdE 4) [4]) (aCons (dVar 1) aNil))
def hitT : Str → Option Bool := fun (n : Str) => if n == "BadRule" then some true else none
def hitF : Str → Option Bool := fun (n : Str) => if n == "BadRule" then some false else none
def hitB : Str → Bool := fun (n : Str) => n == "BadRule"
def brS : Stm := (dSeq (dIf (dOrT (dNotT (dT tTru (dIsX 3 hitT))) (dNotT (dT tTru (dIsX 3 hitT))))
  (dRet (dC (.bl false)))
  dNext)
  (dSeq (dIf (dOrT (dT tTru (dIsX 3 hitF)) (dOrT (dT tTru (dIsX 3 hitF)) (dT tTru (dIsX 3 hitF))))
  (dRet (dC (.bl false)))
  dNext)
  (dRet (dAnd (dCall 1 F_l_whole [] (aCons (dXf 3 hitB "index") aNil)) (d2 gEq (dXf 3 hitB "index") (dVar 2))))))
theorem g_bad : g_l_bad_rule = dSeq (dTryAs hitT 3 (dDrop brT) brS) (dRet (dC (.bl false))) := rfl
theorem brT_ok {rs : List Rl} {gd : List Int} {k : Nat} {K : D} (hl : rs.length < 1000) (hg : gd.length < 64) (hk : dupAt [] 0 rs = some k) : brT [.sh (.lst (rs.map Rl.d)), .sh (.lst (gd.map D.int)), .sh K, .no, .no] = .exc ⟨"BadRule", [("index", .int k)]⟩ := by
  have hm := made_ok (rs := rs) (gd := gd) hl hg
  rw [hk] at hm
  have hi : iA (dVar 0) [.sh (.lst (rs.map Rl.d)), .sh (.lst (gd.map D.int)), .sh K, .no, .no] = .ok (rs.map Rl.d) := by simp
  have hlc : dLc (iA (dVar 0)) (bName 4) dYes (hdE 4) [4] [.sh (.lst (rs.map Rl.d)), .sh (.lst (gd.map D.int)), .sh K, .no, .no] = .ok (.fr (rs.map Rl.t)) := by
    rw [x_lc, hi, x_lcT_of (k := Rl.t) (by omega) (fun r hr => ⟨[.sh (.lst (rs.map Rl.d)), .sh (.lst (gd.map D.int)), .sh K, .no, .sh r.d], _, by simp [putR, SV.free], rfl, hdE_ok rfl, rfl⟩)]
  have hv : dVar 1 [.sh (.lst (rs.map Rl.d)), .sh (.lst (gd.map D.int)), .sh K, .no, .no] = .ok (.sh (.lst (gd.map D.int))) := rfl
  rw [brT, x_call, x_cons, hlc, x_cons, hv, x_nil, x_cons_ok, x_cons_ok, x_call_ok, callN_fs, ts_h, hm]
theorem brS_ok {a0 a1 a4 : SV} {k : Nat} : brS [a0, a1, .sh (.int k), .xc ⟨"BadRule", [("index", .int k)]⟩, a4] = .ok (.ret (.sh (.bl true))) := by
  have h1 : dIsX 3 hitT [a0, a1, .sh (.int k), .xc ⟨"BadRule", [("index", .int k)]⟩, a4] = .ok (.sh (.bl true)) := by
    simp [dIsX, hitT]
  have h2 : dIsX 3 hitF [a0, a1, .sh (.int k), .xc ⟨"BadRule", [("index", .int k)]⟩, a4] = .ok (.sh (.bl false)) := by
    simp [dIsX, hitF]
  have h3 : dXf 3 hitB "index" [a0, a1, .sh (.int k), .xc ⟨"BadRule", [("index", .int k)]⟩, a4] = .ok (.sh (.int k)) := by
    simp [dXf, hitB]
  simp [brS, h1, h2, h3, whole_int]
theorem bad_ok {rs : List Rl} {gd : List Int} {k : Nat} (hl : rs.length < 1000) (hg : gd.length < 64) (hk : dupAt [] 0 rs = some k) : F_l_bad_rule [.lst (rs.map Rl.d), .lst (gd.map D.int), .int k] = .ok (.sh (.bl true)) := by
  have h1 := brT_ok (K := .int k) hl hg hk
  have hd : dDrop brT [.sh (.lst (rs.map Rl.d)), .sh (.lst (gd.map D.int)), .sh (.int k), .no, .no] = .ok (.ex ⟨"BadRule", [("index", .int k)]⟩ [.sh (.lst (rs.map Rl.d)), .sh (.lst (gd.map D.int)), .sh (.int k), .no, .no]) := by
    rw [dDrop, h1]
    rfl
  have ht : dTryAs hitT 3 (dDrop brT) brS [.sh (.lst (rs.map Rl.d)), .sh (.lst (gd.map D.int)), .sh (.int k), .no, .no] = .ok (.ret (.sh (.bl true))) := by
    have hp : putR 3 (.xc ⟨"BadRule", [("index", .int k)]⟩) [SV.sh (.lst (rs.map Rl.d)), .sh (.lst (gd.map D.int)), .sh (.int k), .no, .no] = some [.sh (.lst (rs.map Rl.d)), .sh (.lst (gd.map D.int)), .sh (.int k), .xc ⟨"BadRule", [("index", .int k)]⟩, .no] := by simp [putR, SV.free]
    have hx : List.all [SV.sh (.lst (rs.map Rl.d)), .sh (.lst (gd.map D.int)), .sh (.int k), .no, .no] SV.noXc = true := rfl
    rw [dTryAs, hd]
    have hh : hitT "BadRule" = some true := by simp [hitT]
    simp only [hh, hx, if_true, hp, brS_ok, leaveX]
  rw [F_l_bad_rule, x_run, g_bad]
  show runK (dSeq _ _ [.sh (.lst (rs.map Rl.d)), .sh (.lst (gd.map D.int)), .sh (.int k), .no, .no]) = _
  rw [x_seq, ht, x_seq_ret, x_run_ret]
/-! ### digits -/
def okRow (row sizes : List Int) : Prop := row.length = sizes.length ∧ ∀ (i : Nat) (d s : Int), row[i]? = some d → sizes[i]? = some s → 0 ≤ d ∧ d < s
theorem okRow.nil : okRow [] [] := ⟨rfl, fun i d s h _ => by simp at h⟩
theorem okRow.snoc {row sizes : List Int} {d s : Int} (h : okRow row sizes) (hd : 0 ≤ d ∧ d < s) : okRow (row ++ [d]) (sizes ++ [s]) := by
  refine ⟨by simp [h.1], fun i x y hx hy => ?_⟩
  rcases Nat.lt_trichotomy i row.length with hi | hi | hi
  · rw [List.getElem?_append_left hi] at hx
    rw [List.getElem?_append_left (by rw [← h.1]; exact hi)] at hy
    exact h.2 i x y hx hy
  · subst hi
    rw [List.getElem?_append_right (Nat.le_refl _)] at hx
    rw [h.1, List.getElem?_append_right (Nat.le_refl _)] at hy
    simp at hx hy
    subst hx hy
    exact hd
  · rw [List.getElem?_append_right (by omega)] at hx
    have := (List.getElem?_eq_some_iff.mp hx).1
    simp at this
    omega
theorem okRow.at {row sizes : List Int} {i : Nat} {s : Int} (h : okRow row sizes) (hs : sizes[i]? = some s) : ∃ d, row[i]? = some d ∧ 0 ≤ d ∧ d < s := by
  have hl := (List.getElem?_eq_some_iff.mp hs).1
  have hi : i < row.length := by rw [h.1]; exact hl
  exact ⟨row[i]'hi, List.getElem?_eq_getElem hi, h.2 i _ s (List.getElem?_eq_getElem hi) hs⟩
def dgA : Stm := dSeq (dApp 2 (d2 gMod (dC1 gInt (aCons (dVar 3) aNil)) (dVar 4))) (dSet 3 (d2 gFdv (dC1 gInt (aCons (dVar 3) aNil)) (dVar 4)))
theorem dgA_loop {a0 a1 a5 a6 a7 : SV} : ∀ (todo done row : List Int) (n : Int) (y : SV), y.free = true → okRow row done → (∀ s ∈ todo, 0 < s ∧ s < 1073741824) → row.length + todo.length ≤ 1000 →
    ∃ row' n' y', okRow row' (done ++ todo) ∧ forD (bName 4) dgA (todo.map D.int) [a0, a1, .own ((row.map D.int).map T.leaf), .sh (.int n), y, a5, a6, a7] = .ok (.nx [a0, a1, .own ((row'.map D.int).map T.leaf), .sh (.int n'), y', a5, a6, a7])
  | [], done, row, n, y, hy, hr, _, _ => ⟨row, n, y, by rw [List.append_nil]; exact hr, rfl⟩
  | s :: todo, done, row, n, y, hy, hr, hs, hl => by
    rw [List.length_cons] at hl
    obtain ⟨s0, s1⟩ := hs s List.mem_cons_self
    have hd : 0 ≤ n % s ∧ n % s < s := ⟨Int.emod_nonneg n (by omega), Int.emod_lt_of_pos n s0⟩
    obtain ⟨row', n', y', h1, h2⟩ := dgA_loop (a0 := a0) (a1 := a1) (a5 := a5) (a6 := a6) (a7 := a7) todo (done ++ [s]) (row ++ [n % s]) (n / s) (.sh (.int s)) rfl (hr.snoc hd) (fun x hx => hs x (List.mem_cons_of_mem _ hx)) (by simp; omega)
    refine ⟨row', n', y', by rw [List.append_assoc] at h1; exact h1, ?_⟩
    rw [List.map_cons, x_forD_cons (ρ1 := [a0, a1, .own ((row.map D.int).map T.leaf), .sh (.int n), .sh (.int s), a5, a6, a7]) (by simp [putR, hy])]
    have hb : dgA [a0, a1, .own ((row.map D.int).map T.leaf), .sh (.int n), .sh (.int s), a5, a6, a7] = .ok (.nx [a0, a1, .own (((row ++ [n % s]).map D.int).map T.leaf), .sh (.int (n / s)), .sh (.int s), a5, a6, a7]) := by
      have hlen : ((row.map D.int).map T.leaf).length < 16777216 := by simp; omega
      rw [dgA, x_seq, x_app]
      have e1 : d2 gMod (dC1 gInt (aCons (dVar 3) aNil)) (dVar 4) [a0, a1, .own ((row.map D.int).map T.leaf), .sh (.int n), .sh (.int s), a5, a6, a7] = .ok (.sh (.int (n % s))) := by simp [x_mod s0]
      rw [e1]
      show seqK _ (appK 2 _ (some (.own _)) _) = _
      rw [x_app_sh hlen, x_seq_nx]
      show dSet 3 _ [a0, a1, .own _, .sh (.int n), .sh (.int s), a5, a6, a7] = _
      have e2 : ∀ {a2 : SV}, d2 gFdv (dC1 gInt (aCons (dVar 3) aNil)) (dVar 4) [a0, a1, a2, .sh (.int n), .sh (.int s), a5, a6, a7] = .ok (.sh (.int (n / s))) := by simp [x_fdv s0 s1]
      rw [x_set, e2, x_set_sh]
      simp
    rw [hb, x_turn_nx]
    exact h2
def dgB : Stm := (dSeq (dSet 5 (d2 gMod (dC1 gInt (aCons (d2 gAdd (d2 gAdd (d2 gMul (dVar 5) (dC (.int 48271))) (d2 gMul (dC (.int 974711)) (dVar 6))) (dC (.int 12345))) aNil)) (dC (.int 2147483647))))
  (dSeq (dSet 7 (d2 gMod (dC1 gInt (aCons (d2 gMul (dVar 5) (d2 gAdd (d2 gFdv (dVar 5) (dC (.int 65537))) (dC (.int 3)))) aNil)) (dC (.int 2147483629))))
  (dApp 2 (d2 gMod (d2 gFdv (dVar 7) (dC (.int 19))) (d2 gIx (dVar 1) (dVar 6))))))
theorem dgB_ok {a0 a3 a4 x7 : SV} {sizes row : List Int} {i : Nat} {n s : Int} (h7 : x7.free = true) (hs : sizes[i]? = some s) (s0 : 0 < s) (hl : row.length < 1000) (hn : 0 ≤ n ∧ n < 2147483647) :
    ∃ n' d m, (0 ≤ n' ∧ n' < 2147483647) ∧ (0 ≤ d ∧ d < s) ∧ dgB [a0, .sh (.lst (sizes.map D.int)), .own ((row.map D.int).map T.leaf), a3, a4, .sh (.int n), .sh (.int i), x7] = .ok (.nx [a0, .sh (.lst (sizes.map D.int)), .own (((row ++ [d]).map D.int).map T.leaf), a3, a4, .sh (.int n'), .sh (.int i), .sh (.int m)]) := by
  have p7 : ∀ {x : SV} {ρ : Dl.Env}, Dl.putK 0 x (x7 :: ρ) = .ok (.nx (x :: ρ)) := fun {x ρ} => x_put0 h7
  have hlen : (row.map (T.leaf ∘ D.int)).length < 16777216 := by simp; omega
  have hx := x_ixL (ds := sizes.map D.int) (i := i) (d := .int s) (by simp [hs])
  refine ⟨(n * 48271 + 974711 * i + 12345) % 2147483647, ((n * 48271 + 974711 * i + 12345) % 2147483647) * (((n * 48271 + 974711 * i + 12345) % 2147483647) / 65537 + 3) % 2147483629 / 19 % s, ((n * 48271 + 974711 * i + 12345) % 2147483647) * (((n * 48271 + 974711 * i + 12345) % 2147483647) / 65537 + 3) % 2147483629, ⟨Int.emod_nonneg _ (by omega), Int.emod_lt_of_pos _ (by omega)⟩, ⟨Int.emod_nonneg _ (by omega), Int.emod_lt_of_pos _ s0⟩, ?_⟩
  generalize e : (n * 48271 + 974711 * (i : Int) + 12345) % 2147483647 = z
  have hz : 0 ≤ z ∧ z < 2147483647 := by rw [← e]; exact ⟨Int.emod_nonneg _ (by omega), Int.emod_lt_of_pos _ (by omega)⟩
  have m1 : gMul (.sh (.int n)) (.sh (.int 48271)) = .ok (.sh (.int (n * 48271))) := x_mulR (by omega)
  have m2 : gMul (.sh (.int 974711)) (.sh (.int i)) = .ok (.sh (.int (974711 * (i : Int)))) := x_mulL (by omega)
  have m3 : ∀ y : Int, gMul (.sh (.int z)) (.sh (.int y)) = .ok (.sh (.int (z * y))) := fun y => x_mulL (by omega)
  have o1 : ∀ y : Int, gMod (.sh (.int y)) (.sh (.int 2147483647)) = .ok (.sh (.int (y % 2147483647))) := fun y => x_mod (by omega)
  have o2 : ∀ y : Int, gMod (.sh (.int y)) (.sh (.int 2147483629)) = .ok (.sh (.int (y % 2147483629))) := fun y => x_mod (by omega)
  have o3 : ∀ y : Int, gFdv (.sh (.int y)) (.sh (.int 65537)) = .ok (.sh (.int (y / 65537))) := fun y => x_fdv (by omega) (by omega)
  have o4 : ∀ y : Int, gFdv (.sh (.int y)) (.sh (.int 19)) = .ok (.sh (.int (y / 19))) := fun y => x_fdv (by omega) (by omega)
  simp [dgB, m1, m2, o1, e, m3, o2, o3, o4, p7, hx, x_mod s0, x_app_sh hlen]
theorem pow18 : gPow (.sh (.int 10)) (.sh (.int 18)) = .ok (.sh (.int 1000000000000000000)) := by
  simp [gPow, gF, iI]
theorem dgB_loop {a0 a3 a4 y6 y7 : SV} {sizes : List Int} {n : Int} (hs : ∀ s ∈ sizes, 0 < s ∧ s < 1073741824) (hl : sizes.length ≤ 1000) (hn : 0 ≤ n ∧ n < 2147483647) (h6 : y6.free = true) (h7 : y7.free = true) :
    ∃ row z6 z7 n', okRow row sizes ∧ forD (bName 6) dgB (rangeD 0 sizes.length) [a0, .sh (.lst (sizes.map D.int)), .own (([] : List T)), a3, a4, .sh (.int n), y6, y7] = .ok (.nx [a0, .sh (.lst (sizes.map D.int)), .own ((row.map D.int).map T.leaf), a3, a4, .sh (.int n'), z6, z7]) := by
  obtain ⟨ρ', ⟨row, n', z6, z7, q1, q2, q3, q4, q5⟩, e⟩ := forD_range (b := bName 6) (g := dgB) (n := sizes.length)
    (P := fun i ρ => ∃ (row : List Int) (n : Int) (z6 z7 : SV), okRow row (sizes.take i) ∧ (0 ≤ n ∧ n < 2147483647) ∧ z6.free = true ∧ z7.free = true ∧ ρ = [a0, .sh (.lst (sizes.map D.int)), .own ((row.map D.int).map T.leaf), a3, a4, .sh (.int n), z6, z7]) (by
      rintro i hi ρ ⟨row, n, z6, z7, q1, q2, q3, q4, rfl⟩
      have hsi : sizes[i]? = some (sizes[i]'hi) := List.getElem?_eq_getElem hi
      have hrl : row.length < 1000 := by
        rw [q1.1, List.length_take]
        omega
      obtain ⟨n', d, m, h1, h2, h3⟩ := dgB_ok (a0 := a0) (a3 := a3) (a4 := a4) (row := row) q4 hsi (hs _ (List.getElem_mem hi)).1 hrl q2
      refine ⟨_, _, by simp only [bName, putR, List.getElem?_cons_succ, List.getElem?_cons_zero, q3, if_true, List.set_cons_succ, List.set_cons_zero], h3, _, _, _, _, ?_, h1, rfl, rfl, rfl⟩
      have := q1.snoc h2
      rwa [List.take_append_getElem hi] at this) _ ⟨[], n, y6, y7, okRow.nil, hn, h6, h7, rfl⟩
  rw [List.take_of_length_le (Nat.le_refl _)] at q1
  refine ⟨row, z6, z7, n', q1, ?_⟩
  rw [← q5]
  exact e
theorem digits_ok {c : Int} {sizes : List Int} (hs : ∀ s ∈ sizes, 0 < s ∧ s < 1073741824) (hl : sizes.length ≤ 1000) : ∃ row, okRow row sizes ∧ F_l_digits [.int c, .lst (sizes.map D.int)] = .ok (.fr ((row.map D.int).map T.leaf)) := by
  have eg : g_l_digits = dSeq (dSet 2 (dLst aNil)) (dSeq (dSet 3 (dC1 gInt (aCons (dVar 0) aNil))) (dSeq (dIf (dT tBool (d2 gGe (dVar 3) (d2 gPow (dC (.int 10)) (dC (.int 18)))))
      (dSeq (dSet 3 (d2 gSub (dVar 3) (d2 gPow (dC (.int 10)) (dC (.int 18))))) (dSeq (dFor (iA (dVar 1)) (bName 4) dgA) (dRetV 2))) dNext)
      (dSeq (dSet 5 (d2 gMod (dC1 gInt (aCons (dVar 3) aNil)) (dC (.int 2147483629)))) (dSeq (dFor (iR1 (dC1 gLen (aCons (dVar 1) aNil))) (bName 6) dgB) (dRetV 2))))) := rfl
  have h0 : dSet 2 (dLst aNil) [.sh (.int c), .sh (.lst (sizes.map D.int)), .no, .no, .no, .no, .no, .no] = .ok (.nx [.sh (.int c), .sh (.lst (sizes.map D.int)), .own [], .no, .no, .no, .no, .no]) := rfl
  have h1 : dSet 3 (dC1 gInt (aCons (dVar 0) aNil)) [.sh (.int c), .sh (.lst (sizes.map D.int)), .own [], .no, .no, .no, .no, .no] = .ok (.nx [.sh (.int c), .sh (.lst (sizes.map D.int)), .own [], .sh (.int c), .no, .no, .no, .no]) := rfl
  have h2 : dT tBool (d2 gGe (dVar 3) (d2 gPow (dC (.int 10)) (dC (.int 18)))) [.sh (.int c), .sh (.lst (sizes.map D.int)), .own [], .sh (.int c), .no, .no, .no, .no] = .ok (decide (1000000000000000000 ≤ c)) := by
    simp [pow18]
  rw [F_l_digits, x_run, eg]
  by_cases h : 1000000000000000000 ≤ c
  · have h3 : dSet 3 (d2 gSub (dVar 3) (d2 gPow (dC (.int 10)) (dC (.int 18)))) [.sh (.int c), .sh (.lst (sizes.map D.int)), .own [], .sh (.int c), .no, .no, .no, .no] = .ok (.nx [.sh (.int c), .sh (.lst (sizes.map D.int)), .own [], .sh (.int (c - 1000000000000000000)), .no, .no, .no, .no]) := by
      simp [pow18]
    obtain ⟨row, n', y', q1, q2⟩ := dgA_loop (a0 := .sh (.int c)) (a1 := .sh (.lst (sizes.map D.int))) (a5 := .no) (a6 := .no) (a7 := .no) sizes [] [] (c - 1000000000000000000) .no rfl okRow.nil hs (by simpa using hl)
    refine ⟨row, q1, ?_⟩
    have hi : iA (dVar 1) [.sh (.int c), .sh (.lst (sizes.map D.int)), .own [], .sh (.int (c - 1000000000000000000)), .no, .no, .no, .no] = .ok (sizes.map D.int) := rfl
    show runK (dSeq _ _ [.sh (.int c), .sh (.lst (sizes.map D.int)), .no, .no, .no, .no, .no, .no]) = _
    rw [x_seq, h0, x_seq_nx, x_seq, h1, x_seq_nx, x_seq, x_if, h2, decide_eq_true h, x_if_t, x_seq, h3, x_seq_nx, x_seq, x_for, hi, x_for_ok]
    rw [List.map_nil, List.map_nil] at q2
    rw [q2, x_seq_nx]
    rfl
  · have h3 : dSet 5 (d2 gMod (dC1 gInt (aCons (dVar 3) aNil)) (dC (.int 2147483629))) [.sh (.int c), .sh (.lst (sizes.map D.int)), .own [], .sh (.int c), .no, .no, .no, .no] = .ok (.nx [.sh (.int c), .sh (.lst (sizes.map D.int)), .own [], .sh (.int c), .no, .sh (.int (c % 2147483629)), .no, .no]) := by
      have o2 : ∀ y : Int, gMod (.sh (.int y)) (.sh (.int 2147483629)) = .ok (.sh (.int (y % 2147483629))) := fun y => x_mod (by omega)
      simp [o2]
    have hb : 0 ≤ c % 2147483629 ∧ c % 2147483629 < 2147483647 := by omega
    obtain ⟨row, z6, z7, n', q1, q2⟩ := dgB_loop (a0 := .sh (.int c)) (a3 := .sh (.int c)) (a4 := .no) (y6 := .no) (y7 := .no) hs hl hb rfl rfl
    refine ⟨row, q1, ?_⟩
    have hi : iR1 (dC1 gLen (aCons (dVar 1) aNil)) [.sh (.int c), .sh (.lst (sizes.map D.int)), .own [], .sh (.int c), .no, .sh (.int (c % 2147483629)), .no, .no] = .ok (rangeD 0 sizes.length) := by
      have q : (dC1 gLen (aCons (dVar 1) aNil)) [.sh (.int c), .sh (.lst (sizes.map D.int)), .own [], .sh (.int c), .no, .sh (.int (c % 2147483629)), .no, .no] = .ok (.sh (.int sizes.length)) := by simp
      have := x_rng (n := sizes.length) (by omega) q
      rwa [Int.toNat_natCast] at this
    show runK (dSeq _ _ [.sh (.int c), .sh (.lst (sizes.map D.int)), .no, .no, .no, .no, .no, .no]) = _
    rw [x_seq, h0, x_seq_nx, x_seq, h1, x_seq_nx, x_seq, x_if, h2, decide_eq_false h, x_if_f, x_next, x_seq_nx, x_seq, h3, x_seq_nx, x_seq, x_for, hi, x_for_ok, q2, x_seq_nx]
    rfl
/-! ### cells -/
def ceB : Stm := dSet 2 (d2 gMod (dC1 gInt (aCons (d2 gAdd (d2 gMul (dVar 2) (dC (.int 31))) (d2 gMod (dC1 gInt (aCons (dVar 3) aNil)) (dC (.int 1000003)))) aNil)) (dC (.int 1000003)))
theorem ceB_loop {a0 a1 : SV} : ∀ (ns : List Int) (n : Int) (y : SV), y.free = true → ∃ n' y', forD (bName 3) ceB (ns.map D.int) [a0, a1, .sh (.int n), y] = .ok (.nx [a0, a1, .sh (.int n'), y'])
  | [], n, y, _ => ⟨n, y, rfl⟩
  | m :: ns, n, y, hy => by
    have m1 : gMul (.sh (.int n)) (.sh (.int 31)) = .ok (.sh (.int (n * 31))) := x_mulR (by omega)
    have o1 : ∀ y : Int, gMod (.sh (.int y)) (.sh (.int 1000003)) = .ok (.sh (.int (y % 1000003))) := fun y => x_mod (by omega)
    obtain ⟨n', y', h⟩ := ceB_loop (a0 := a0) (a1 := a1) ns ((n * 31 + m % 1000003) % 1000003) (.sh (.int m)) rfl
    refine ⟨n', y', ?_⟩
    have hb : ceB [a0, a1, .sh (.int n), .sh (.int m)] = .ok (.nx [a0, a1, .sh (.int ((n * 31 + m % 1000003) % 1000003)), .sh (.int m)]) := by simp [ceB, m1, o1]
    rw [List.map_cons, x_forD_cons (ρ1 := [a0, a1, .sh (.int n), .sh (.int m)]) (by simp [putR, hy]), hb, x_turn_nx]
    exact h
theorem cell_ok {ns : List Int} {k : Nat} (hk : k < 1000) : ∃ c, F_l_cell [.scr ns, .int k] = .ok (.sh (.int c)) := by
  have eg : g_l_cell = dSeq (dIf (dT tBool (d2 gLt (dVar 1) (dC1 gLen (aCons (dVar 0) aNil)))) (dRet (d2 gIx (dVar 0) (dVar 1))) dNext) (dSeq (dSet 2 (dC (.int 17))) (dSeq (dFor (iA (dVar 0)) (bName 3) ceB)
      (dRet (d2 gMod (dC1 gInt (aCons (d2 gMul (d2 gMul (d2 gAdd (dVar 2) (dC (.int 7))) (d2 gAdd (dVar 1) (dC (.int 3)))) (dC (.int 69621))) aNil)) (dC (.int 2147483647)))))) := rfl
  have h1 : dT tBool (d2 gLt (dVar 1) (dC1 gLen (aCons (dVar 0) aNil))) [.sh (.scr ns), .sh (.int k), .no, .no] = .ok (decide ((k : Int) < ns.length)) := by simp
  rw [F_l_cell, x_run, eg]
  show ∃ c, runK (dSeq _ _ [.sh (.scr ns), .sh (.int k), .no, .no]) = _
  rw [x_seq, x_if, h1]
  by_cases h : (k : Int) < ns.length
  · have hk' : k < ns.length := by omega
    have e : d2 gIx (dVar 0) (dVar 1) [.sh (.scr ns), .sh (.int k), .no, .no] = .ok (.sh (.int (ns[k]'hk'))) := by
      simp [gIx, atI, ixN, hk']
    exact ⟨ns[k]'hk', by rw [decide_eq_true h, x_if_t, x_ret, e]; rfl⟩
  · obtain ⟨n', y', q⟩ := ceB_loop (a0 := .sh (.scr ns)) (a1 := .sh (.int k)) ns 17 .no rfl
    have h2 : dSet 2 (dC (.int 17)) [.sh (.scr ns), .sh (.int k), .no, .no] = .ok (.nx [.sh (.scr ns), .sh (.int k), .sh (.int 17), .no]) := rfl
    have hi : iA (dVar 0) [.sh (.scr ns), .sh (.int k), .sh (.int 17), .no] = .ok (ns.map D.int) := rfl
    have m1 : gMul (.sh (.int (n' + 7))) (.sh (.int (k + 3))) = .ok (.sh (.int ((n' + 7) * (k + 3)))) := x_mulR (by omega)
    have m2 : ∀ z : Int, gMul (.sh (.int z)) (.sh (.int 69621)) = .ok (.sh (.int (z * 69621))) := fun z => x_mulR (by omega)
    have o1 : ∀ y : Int, gMod (.sh (.int y)) (.sh (.int 2147483647)) = .ok (.sh (.int (y % 2147483647))) := fun y => x_mod (by omega)
    rw [decide_eq_false h, x_if_f, x_next, x_seq_nx, x_seq, h2, x_seq_nx, x_seq, x_for, hi, x_for_ok, q, x_seq_nx]
    exact ⟨_, by simp [m1, m2, o1]; rfl⟩
end K75
set_option Elab.async false
set_option linter.all false
set_option maxRecDepth 100000
namespace Dl
open PySem PySem.Spec PyProof.Rows L2
@[simp] theorem x_neg {f : Dl.Env → Res EV} {ρ : Dl.Env} : dNeg f ρ = (f ρ).bind fun x => match x with
  | .sh (.int i) => .ok (.sh (.int (-i)))
  | _ => .stuck := rfl
theorem range_map {n : Nat} : rangeD 0 n = (List.range n).map fun (i : Nat) => D.int i := by simp [rangeD]
/-- x[i] for 0 <= i -/
theorem x_ixLz {ds : List D} {i : Int} {d : D} (h0 : 0 ≤ i) (h : ds[i.toNat]? = some d) : gIx (.sh (.lst ds)) (.sh (.int i)) = .ok (.sh d) := by
  have := x_ixL h
  rwa [Int.toNat_of_nonneg h0] at this
theorem x_ixSz {z : Str} {i : Int} {c : Nat} (hz : z.length ≤ 16777216) (h0 : 0 ≤ i) (h : z.cps.toList[i.toNat]? = some c) : gIx (.sh (.str z)) (.sh (.int i)) = .ok (.sh (.str ⟨#[c]⟩)) := by
  have hl := (List.getElem?_eq_some_iff.mp h).1
  have e : ixN z.cps.toList.length i = some i.toNat := by
    unfold ixN
    rw [if_pos h0, if_pos (by omega)]
  simp only [gIx, if_pos hz, atI, e, Option.bind_some, h]
theorem x_len_str {z : Str} (h : z.length ≤ 16777216) : gLen [.sh (.str z)] = .ok (.sh (.int z.length)) := by
  simp [gLen, g1F, D.len?, h]
theorem x_addS {s t : Str} (h : s.length + t.length ≤ 16777216) : gAdd (.sh (.str s)) (.sh (.str t)) = .ok (.sh (.str (s ++ t))) := by
  simp [gAdd, h]
theorem x_mulS {z : Str} {k : Int} (h : 1 ≤ k ∧ k < 1000) (hz : z.length ≤ 1000) : gMul (.sh (.str z)) (.sh (.int k)) = .ok (.sh (.str (strMul z k.toNat))) := by
  simp [gMul, h, hz]
theorem x_slS {z : Str} {lo hi : Option Int} (h : z.length ≤ 16777216) : gSl (.sh (.str z)) lo hi = .ok (.sh (.str (cutS z lo hi))) := by
  simp [gSl, h]
end Dl
namespace K75
open PySem PySem.Spec PyProof.Rows L2 Dl
/-! ### names -/
def nm (s : Str) : Prop := PyData.strOk s = true ∧ s.length ≤ 10000
theorem so_iff {s : Str} : PyData.strOk s = true ↔ ∀ c ∈ s.cps.toList, c < 0x110000 := by
  unfold PyData.strOk
  rw [← Array.all_toList, List.all_eq_true]
  simp
theorem so_app {a b : Str} (ha : PyData.strOk a = true) (hb : PyData.strOk b = true) : PyData.strOk (a ++ b) = true := by
  rw [so_iff] at *
  intro c hc
  have e : (a ++ b).cps.toList = a.cps.toList ++ b.cps.toList := Array.toList_append
  rw [e] at hc
  rcases List.mem_append.mp hc with h | h
  · exact ha c h
  · exact hb c h
theorem len_app {a b : Str} : (a ++ b).length = a.length + b.length := Array.size_append
theorem so_one {c : Nat} (h : c < 0x110000) : PyData.strOk ⟨#[c]⟩ = true := by
  rw [so_iff]
  intro d hd
  have : d = c := by simpa using hd
  rw [this]
  exact h
theorem so_mul {s : Str} {n : Nat} (h : PyData.strOk s = true) : PyData.strOk (strMul s n) = true := by
  rw [so_iff] at *
  intro c hc
  have hc : c ∈ (List.replicate n s.cps.toList).flatten := hc
  obtain ⟨l, h1, h2⟩ := List.mem_flatten.mp hc
  rw [(List.mem_replicate.mp h1).2] at h2
  exact h c h2
theorem so_cut {s : Str} {lo hi : Option Int} (h : PyData.strOk s = true) : PyData.strOk (cutS s lo hi) = true := by
  rw [so_iff] at *
  intro c hc
  have hc : c ∈ (s.cps.toList.drop (HT.sIx s.length 0 lo)).take (HT.sIx s.length s.length hi - HT.sIx s.length 0 lo) := hc
  exact h c (List.mem_of_mem_drop (List.mem_of_mem_take hc))
theorem nm_cut {s : Str} {lo hi : Option Int} (h : nm s) : nm (cutS s lo hi) := ⟨so_cut h.1, Nat.le_trans (cutS_length s lo hi) h.2⟩
def nm8 : List Str := ["ada", "b2", "cleo", "z", "eve9", "in", "gus4gus8", "out"]
theorem nm8_ok : ∀ s ∈ nm8, PyData.strOk s = true ∧ s.length ≤ 1000 := by decide +kernel
def sgs : Str := "abcdefghijklmnopqrstuvwxyz"
theorem sgs_ok : ∀ c ∈ sgs.cps.toList, c < 0x110000 := by decide +kernel
theorem sgs_len : sgs.cps.toList.length = 26 := by decide +kernel
def stems : List Str := ["", "out", "kk", "zz9zz9z", "in"]
theorem stems_ok : ∀ s ∈ stems, PyData.strOk s = true ∧ s.length ≤ 1000 := by decide +kernel
def sg (i : Int) : Nat := sgs.cps.toList[i.toNat]?.getD 0
theorem sg_lt {i : Int} : sg i < 0x110000 := by
  unfold sg
  cases h : sgs.cps.toList[i.toNat]? with
  | none => simp
  | some c => exact sgs_ok c (List.mem_of_getElem? h)
theorem sg_ix {i : Int} (h : 0 ≤ i ∧ i < 26) : gIx (.sh (.str sgs)) (.sh (.int i)) = .ok (.sh (.str ⟨#[sg i]⟩)) := by
  have hi : i.toNat < sgs.cps.toList.length := by rw [sgs_len]; omega
  refine x_ixSz (by decide +kernel) h.1 ?_
  unfold sg
  rw [List.getElem?_eq_getElem hi]
  rfl
def nA (d0 : Int) (k : Nat) : Str := nm8[((d0 * 3 + k * 5) % 8).toNat]?.getD "in"
def nB (d2 d3 : Int) (k : Nat) : Str := strMul ⟨#[sg d3]⟩ (1 + (d2 + 3 * k) % 4).toNat
def nC (stem : Str) (a d3 : Int) (k : Nat) : Str := cutS stem none (some a) ++ ⟨#[sg ((d3 + 7 * k) % 26)]⟩ ++ cutS stem (some a) none
theorem nA_ok {d0 : Int} {k : Nat} : nm (nA d0 k) := by
  unfold nA
  cases h : nm8[((d0 * 3 + k * 5) % 8).toNat]? with
  | none => exact ⟨in_ok, by decide +kernel⟩
  | some s =>
    obtain ⟨h1, h2⟩ := nm8_ok s (List.mem_of_getElem? h)
    exact ⟨h1, by simp; omega⟩
theorem nB_ok {d2 d3 : Int} {k : Nat} : nm (nB d2 d3 k) := by
  refine ⟨so_mul (so_one sg_lt), ?_⟩
  show ((List.replicate _ _).flatten).toArray.size ≤ _
  have : (1 + (d2 + 3 * k) % 4).toNat ≤ 4 := by omega
  simp
  omega
theorem nC_ok {stem : Str} {a d3 : Int} {k : Nat} (h : PyData.strOk stem = true ∧ stem.length ≤ 1000) : nm (nC stem a d3 k) := by
  refine ⟨so_app (so_app (so_cut h.1) (so_one sg_lt)) (so_cut h.1), ?_⟩
  have h1 := cutS_length stem none (some a)
  have h2 := cutS_length stem (some a) none
  have h3 : (⟨#[sg ((d3 + 7 * k) % 26)]⟩ : Str).length = 1 := rfl
  rw [nC, len_app, len_app, h3]
  omega
theorem lc_names {f : Dl.Env → Res EV} {ρ : Dl.Env} {g : Nat → Str} {many : Nat} {hi : Itf} (h : hi ρ = .ok (rangeD 0 many)) (hm : many ≤ 1000)
    (q : ∀ k : Nat, k < many → ∃ ρ1, bName 6 (.int k) (ρ.set 6 .no) = some ρ1 ∧ f ρ1 = .ok (.sh (.str (g k)))) :
    dLc hi (bName 6) dYes f [6] ρ = .ok (.fr ((((List.range many).map g).map D.str).map T.leaf)) := by
  rw [x_lc, x_wipe1, h, Dl.range_map, x_lc_of (p := fun _ => true) (k := fun i => D.str (g i)) (by simp; omega) (fun k hk => by
    obtain ⟨ρ1, h1, h2⟩ := q k (List.mem_range.mp hk)
    exact ⟨ρ1, h1, rfl, fun _ => h2⟩), filter_yes, List.map_map (f := g)]
  rfl
def naM : Stm := dSet 2 (dLst (aCons (dC (.str "ada")) (aCons (dC (.str "b2")) (aCons (dC (.str "cleo")) (aCons (dC (.str "z")) (aCons (dC (.str "eve9")) (aCons (dC (.str "in")) (aCons (dC (.str "gus4gus8")) (aCons (dC (.str "out")) aNil)))))))))
def naE : Dl.Env → Res EV := d2 gIx (dVar 2) (d2 gMod (dC1 gInt (aCons (d2 gAdd (d2 gMul (d2 gIx (dVar 0) (dC (.int 0))) (dC (.int 3))) (d2 gMul (dVar 6) (dC (.int 5)))) aNil)) (dC (.int 8)))
def nbE : Dl.Env → Res EV := d2 gMul (d2 gIx (dVar 3) (dC1 gInt (aCons (d2 gIx (dVar 0) (dC (.int 3))) aNil))) (d2 gAdd (dC (.int 1)) (d2 gMod (dC1 gInt (aCons (d2 gAdd (d2 gIx (dVar 0) (dC (.int 2))) (d2 gMul (dC (.int 3)) (dVar 6))) aNil)) (dC (.int 4))))
def ncE : Dl.Env → Res EV := d2 gAdd (d2 gAdd (dSl (dVar 4) none (some (dVar 5))) (d2 gIx (dVar 3) (d2 gMod (dC1 gInt (aCons (d2 gAdd (d2 gIx (dVar 0) (dC (.int 3))) (d2 gMul (dC (.int 7)) (dVar 6))) aNil)) (dC (.int 26))))) (dSl (dVar 4) (some (dVar 5)) none)
def naC : Dl.Env → Res Bool := dT tBool (d2 gLt (d2 gIx (dVar 0) (dC (.int 0))) (dC (.int 8)))
def nbC : Dl.Env → Res Bool := dAndT (dT tBool (d2 gEq (d2 gIx (dVar 0) (dC (.int 1))) (dC (.int 0)))) (dT tBool (d2 gGt (d2 gIx (dVar 0) (dC (.int 2))) (dC (.int 3))))
def ncS : Stm := dSet 4 (d2 gIx (dLst (aCons (dC (.str "")) (aCons (dC (.str "out")) (aCons (dC (.str "kk")) (aCons (dC (.str "zz9zz9z")) (aCons (dC (.str "in")) aNil)))))) (d2 gIx (dVar 0) (dC (.int 1))))
def ncA : Stm := dSet 5 (d2 gMod (dC1 gInt (aCons (d2 gIx (dVar 0) (dC (.int 2))) aNil)) (d2 gAdd (dC1 gLen (aCons (dVar 4) aNil)) (dC (.int 1))))
theorem g_names : g_l_names = dSeq (dIf naC (dSeq naM (dFrz 2 (dRet (dLc (iR1 (dVar 1)) (bName 6) dYes naE [6])))) dNext)
    (dFrz 2 (dSeq (dSet 3 (dC (.str sgs))) (dSeq (dIf nbC (dRet (dLc (iR1 (dVar 1)) (bName 6) dYes nbE [6])) dNext) (dSeq ncS (dFrz 4 (dSeq ncA (dRet (dLc (iR1 (dVar 1)) (bName 6) dYes ncE [6])))))))) := rfl
section
variable {q0 q1 q2 q3 : Int}
theorem r4_0 {ds : List D} {d : D} : gIx (.sh (.lst (d :: ds))) (.sh (.int 0)) = .ok (.sh d) := x_ixLz (by omega) rfl
theorem r4_1 {ds : List D} {a d : D} : gIx (.sh (.lst (a :: d :: ds))) (.sh (.int 1)) = .ok (.sh d) := x_ixLz (by omega) rfl
theorem r4_2 {ds : List D} {a b d : D} : gIx (.sh (.lst (a :: b :: d :: ds))) (.sh (.int 2)) = .ok (.sh d) := x_ixLz (by omega) rfl
theorem r4_3 {ds : List D} {a b c d : D} : gIx (.sh (.lst (a :: b :: c :: d :: ds))) (.sh (.int 3)) = .ok (.sh d) := x_ixLz (by omega) rfl
theorem r4_4 {ds : List D} {a b c d e : D} : gIx (.sh (.lst (a :: b :: c :: e :: d :: ds))) (.sh (.int 4)) = .ok (.sh d) := x_ixLz (by omega) rfl
abbrev nv (q0 q1 q2 q3 : Int) (many : Nat) (x2 x3 x4 x5 x6 : SV) : Dl.Env := [.sh (.lst [.int q0, .int q1, .int q2, .int q3]), .sh (.int many), x2, x3, x4, x5, x6]
theorem nm_rng {a0 : SV} {ρ : Dl.Env} {many : Nat} (hm : many ≤ 1000) : iR1 (dVar 1) (a0 :: .sh (.int many) :: ρ) = .ok (rangeD 0 many) := by
  have := x_rng (n := many) (f := dVar 1) (ρ := a0 :: .sh (.int many) :: ρ) (by omega) rfl
  rwa [Int.toNat_natCast] at this
theorem o8 (y : Int) : gMod (.sh (.int y)) (.sh (.int 8)) = .ok (.sh (.int (y % 8))) := x_mod (by omega)
theorem o4 (y : Int) : gMod (.sh (.int y)) (.sh (.int 4)) = .ok (.sh (.int (y % 4))) := x_mod (by omega)
theorem o26 (y : Int) : gMod (.sh (.int y)) (.sh (.int 26)) = .ok (.sh (.int (y % 26))) := x_mod (by omega)
theorem m3 (y : Int) : gMul (.sh (.int y)) (.sh (.int 3)) = .ok (.sh (.int (y * 3))) := x_mulR (by omega)
theorem m5 (y : Int) : gMul (.sh (.int y)) (.sh (.int 5)) = .ok (.sh (.int (y * 5))) := x_mulR (by omega)
theorem m3l (y : Int) : gMul (.sh (.int 3)) (.sh (.int y)) = .ok (.sh (.int (3 * y))) := x_mulL (by omega)
theorem m7l (y : Int) : gMul (.sh (.int 7)) (.sh (.int y)) = .ok (.sh (.int (7 * y))) := x_mulL (by omega)
theorem naM_ok {many : Nat} : naM (nv q0 q1 q2 q3 many .no .no .no .no .no) = .ok (.nx (nv q0 q1 q2 q3 many (.own ((nm8.map D.str).map T.leaf)) .no .no .no .no)) := rfl
theorem naE_gen {many k : Nat} {L : List D} {z : Str} (hx : gIx (.sh (.lst L)) (.sh (.int ((q0 * 3 + k * 5) % 8))) = .ok (.sh (.str z))) : naE (nv q0 q1 q2 q3 many (.sh (.lst L)) .no .no .no (.sh (.int k))) = .ok (.sh (.str z)) := by
  have v0 : dVar 0 (nv q0 q1 q2 q3 many (.sh (.lst L)) .no .no .no (.sh (.int k))) = .ok (.sh (.lst [.int q0, .int q1, .int q2, .int q3])) := rfl
  have v2 : dVar 2 (nv q0 q1 q2 q3 many (.sh (.lst L)) .no .no .no (.sh (.int k))) = .ok (.sh (.lst L)) := rfl
  have v6 : dVar 6 (nv q0 q1 q2 q3 many (.sh (.lst L)) .no .no .no (.sh (.int k))) = .ok (.sh (.int k)) := rfl
  rw [naE, x_d2, v2, x_d2, x_c1, x_cons, x_d2, x_d2, x_d2, v0, x_c, x_d2_ok, r4_0, x_c, x_d2_ok, m3, x_d2, v6, x_c, x_d2_ok, m5, x_d2_ok, x_add, x_nil, x_cons_ok, x_c1_ok, x_int1, x_c, x_d2_ok, o8, x_d2_ok, hx]
theorem nm8_len : nm8.length = 8 := rfl
theorem nA_ix {k : Nat} : (nm8.map D.str)[((q0 * 3 + k * 5) % 8).toNat]? = some (D.str (nA q0 k)) := by
  have hi : ((q0 * 3 + k * 5) % 8).toNat < nm8.length := by
    rw [nm8_len]
    omega
  rw [nA, List.getElem?_map, List.getElem?_eq_getElem hi, Option.map_some, Option.getD_some]
theorem naE_ok {many k : Nat} : naE (nv q0 q1 q2 q3 many (.sh (.lst (nm8.map D.str))) .no .no .no (.sh (.int k))) = .ok (.sh (.str (nA q0 k))) :=
  naE_gen (x_ixLz (by omega) nA_ix)
theorem nbE_ok {many k : Nat} (h3 : 0 ≤ q3 ∧ q3 < 26) : nbE (nv q0 q1 q2 q3 many .no (.sh (.str sgs)) .no .no (.sh (.int k))) = .ok (.sh (.str (nB q2 q3 k))) := by
  have hx := sg_ix (i := q3) h3
  have h1 : (⟨#[sg q3]⟩ : Str).length ≤ 1000 := by
    have : (⟨#[sg q3]⟩ : Str).length = 1 := rfl
    omega
  have hmu := x_mulS (z := ⟨#[sg q3]⟩) (k := 1 + (q2 + 3 * k) % 4) (by omega) h1
  simp [nbE, r4_2, r4_3, hx, m3l, o4, hmu, nB]
theorem ncE_ok {many k : Nat} {stem : Str} {a : Int} (hst : stem.length ≤ 1000) : ncE (nv q0 q1 q2 q3 many .no (.sh (.str sgs)) (.sh (.str stem)) (.sh (.int a)) (.sh (.int k))) = .ok (.sh (.str (nC stem a q3 k))) := by
  have hx := sg_ix (i := (q3 + 7 * k) % 26) (by omega)
  have hl1 : stem.length ≤ 16777216 := by omega
  have k1 := cutS_length stem none (some a)
  have k2 := cutS_length stem (some a) none
  have k3 : (⟨#[sg ((q3 + 7 * k) % 26)]⟩ : Str).length = 1 := rfl
  have a1 := x_addS (s := cutS stem none (some a)) (t := ⟨#[sg ((q3 + 7 * k) % 26)]⟩) (by rw [k3]; omega)
  have a2 := x_addS (s := cutS stem none (some a) ++ ⟨#[sg ((q3 + 7 * k) % 26)]⟩) (t := cutS stem (some a) none) (by rw [len_app, k3]; omega)
  simp [ncE, x_sl, slK, dSl, x_slS hl1, r4_3, m7l, o26, hx, a1, a2, nC]
def stem (i : Int) : Str := stems[i.toNat]?.getD "in"
theorem stem_ok {i : Int} : PyData.strOk (stem i) = true ∧ (stem i).length ≤ 1000 := by
  unfold stem
  cases h : stems[i.toNat]? with
  | none => exact ⟨in_ok, by decide +kernel⟩
  | some s => exact stems_ok s (List.mem_of_getElem? h)
theorem ncS_ok {many : Nat} (h1 : 0 ≤ q1 ∧ q1 < 5) : ncS (nv q0 q1 q2 q3 many .no (.sh (.str sgs)) .no .no .no) = .ok (.nx (nv q0 q1 q2 q3 many .no (.sh (.str sgs)) (.sh (.str (stem q1))) .no .no)) := by
  have hd1 : q1.toNat < stems.length := by
    show _ < 5
    omega
  have e1 : dLst (aCons (dC (.str "")) (aCons (dC (.str "out")) (aCons (dC (.str "kk")) (aCons (dC (.str "zz9zz9z")) (aCons (dC (.str "in")) aNil))))) (nv q0 q1 q2 q3 many .no (.sh (.str sgs)) .no .no .no) = .ok (.fr ((stems.map D.str).map T.leaf)) := rfl
  have e2 : d2 gIx (dVar 0) (dC (.int 1)) (nv q0 q1 q2 q3 many .no (.sh (.str sgs)) .no .no .no) = .ok (.sh (.int q1)) := (show d2 gIx (dVar 0) (dC (.int 1)) (nv q0 q1 q2 q3 many .no (.sh (.str sgs)) .no .no .no) = gIx (.sh (.lst [.int q0, .int q1, .int q2, .int q3])) (.sh (.int 1)) from rfl).trans r4_1
  have hl : ((stems.map D.str).map T.leaf).length = 5 := rfl
  have ei : ixN 5 q1 = some q1.toNat := by
    unfold ixN
    rw [if_pos h1.1, if_pos (by omega)]
  have es : stem q1 = stems[q1.toNat]'hd1 := by
    unfold stem
    rw [List.getElem?_eq_getElem hd1, Option.getD_some]
  have e3 : gIx (.fr ((stems.map D.str).map T.leaf)) (.sh (.int q1)) = .ok (.sh (.str (stem q1))) := by
    rw [es]
    simp only [gIx, tAt, atI, hl, ei, Option.bind_some, List.getElem?_map, List.getElem?_eq_getElem hd1, Option.map_some]
  rw [ncS, x_set, x_d2, e1, e2, x_d2_ok, e3]
  rfl
theorem ncA_ok {many : Nat} {stem : Str} (hst : stem.length ≤ 1000) : ncA (nv q0 q1 q2 q3 many .no (.sh (.str sgs)) (.sh (.str stem)) .no .no) = .ok (.nx (nv q0 q1 q2 q3 many .no (.sh (.str sgs)) (.sh (.str stem)) (.sh (.int (q2 % (stem.length + 1)))) .no)) := by
  have hl1 : stem.length ≤ 16777216 := by omega
  have o : gMod (.sh (.int q2)) (.sh (.int ((stem.length : Int) + 1))) = .ok (.sh (.int (q2 % (stem.length + 1)))) := x_mod (by omega)
  simp [ncA, r4_2, x_len_str hl1, o]
theorem naC_ok {many : Nat} : naC (nv q0 q1 q2 q3 many .no .no .no .no .no) = .ok (decide (q0 < 8)) := by simp [naC, r4_0]
theorem nbC_ok {many : Nat} : nbC (nv q0 q1 q2 q3 many .no (.sh (.str sgs)) .no .no .no) = .ok (decide (q1 = 0) && decide (3 < q2)) := by
  by_cases c1 : q1 = 0
  · simp [nbC, r4_1, r4_2, c1]
  · simp [nbC, r4_1, r4_2, c1]
theorem nmW {many : Nat} {x2 x3 x4 x5 : SV} {f : Dl.Env → Res EV} {g : Nat → Str} (hm : many ≤ 1000) (q : ∀ k : Nat, f (nv q0 q1 q2 q3 many x2 x3 x4 x5 (.sh (.int k))) = .ok (.sh (.str (g k)))) :
    dRet (dLc (iR1 (dVar 1)) (bName 6) dYes f [6]) (nv q0 q1 q2 q3 many x2 x3 x4 x5 .no) = .ok (.ret (.fr ((((List.range many).map g).map D.str).map T.leaf))) := by
  rw [x_ret, lc_names (g := g) (nm_rng hm) hm fun k hk => ⟨nv q0 q1 q2 q3 many x2 x3 x4 x5 (.sh (.int k)), by simp [putR, SV.free], q k⟩]
  rfl
theorem names_ok {many : Nat} (h0 : 0 ≤ q0) (h1 : 0 ≤ q1 ∧ q1 < 5) (h2 : 0 ≤ q2 ∧ q2 < 8) (h3 : 0 ≤ q3 ∧ q3 < 26) (hm : many ≤ 1000) :
    ∃ names : List Str, names.length = many ∧ (∀ n ∈ names, nm n) ∧ F_l_names [.lst [.int q0, .int q1, .int q2, .int q3], .int many] = .ok (.fr ((names.map D.str).map T.leaf)) := by
  have hF : F_l_names [.lst [.int q0, .int q1, .int q2, .int q3], .int many] = runK (g_l_names (nv q0 q1 q2 q3 many .no .no .no .no .no)) := rfl
  rw [hF, g_names, x_seq, x_if, naC_ok]
  by_cases c0 : q0 < 8
  · refine ⟨(List.range many).map (nA q0), by simp, fun n hn => ?_, ?_⟩
    · obtain ⟨k, _, rfl⟩ := List.mem_map.mp hn
      exact nA_ok
    have hf : ∀ g : Stm, dFrz 2 g (nv q0 q1 q2 q3 many (.own ((nm8.map D.str).map T.leaf)) .no .no .no .no) = g (nv q0 q1 q2 q3 many (.sh (.lst (T.toDs ((nm8.map D.str).map T.leaf)))) .no .no .no .no) := fun g => rfl
    rw [decide_eq_true c0, x_if_t, x_seq, naM_ok, x_seq_nx, hf, x_leaves, nmW hm fun k => naE_ok]
    rfl
  · have hf : ∀ g : Stm, dFrz 2 g (nv q0 q1 q2 q3 many .no .no .no .no .no) = g (nv q0 q1 q2 q3 many .no .no .no .no .no) := fun g => rfl
    have hs : dSet 3 (dC (.str sgs)) (nv q0 q1 q2 q3 many .no .no .no .no .no) = .ok (.nx (nv q0 q1 q2 q3 many .no (.sh (.str sgs)) .no .no .no)) := rfl
    rw [decide_eq_false c0, x_if_f, x_next, x_seq_nx, hf, x_seq, hs, x_seq_nx, x_seq, x_if, nbC_ok]
    by_cases c1 : (decide (q1 = 0) && decide (3 < q2)) = true
    · refine ⟨(List.range many).map (nB q2 q3), by simp, fun n hn => ?_, ?_⟩
      · obtain ⟨k, _, rfl⟩ := List.mem_map.mp hn
        exact nB_ok
      rw [c1, x_if_t, nmW hm fun k => nbE_ok h3]
      rfl
    · rw [Bool.not_eq_true] at c1
      refine ⟨(List.range many).map (nC (stem q1) (q2 % ((stem q1).length + 1)) q3), by simp, fun n hn => ?_, ?_⟩
      · obtain ⟨k, _, rfl⟩ := List.mem_map.mp hn
        exact nC_ok stem_ok
      have hf4 : ∀ (g : Stm) (s : Str), dFrz 4 g (nv q0 q1 q2 q3 many .no (.sh (.str sgs)) (.sh (.str s)) .no .no) = g (nv q0 q1 q2 q3 many .no (.sh (.str sgs)) (.sh (.str s)) .no .no) := fun g s => rfl
      rw [c1, x_if_f, x_next, x_seq_nx, x_seq, ncS_ok h1, x_seq_nx, hf4, x_seq, ncA_ok stem_ok.2, x_seq_nx, nmW hm fun k => ncE_ok stem_ok.2]
      rfl
end
end K75
set_option Elab.async false
set_option linter.all false
set_option maxRecDepth 100000
namespace Dl
open PySem PySem.Spec PyProof.Rows L2
@[simp] theorem x_len_bo {us : List T} : gLen [.bo us] = .ok (.sh (.int (T.toDs us).length)) := rfl
theorem x_ixBo {ds : List D} {i : Int} {d : D} (h0 : 0 ≤ i) (h : ds[i.toNat]? = some d) : gIx (.bo (ds.map T.leaf)) (.sh (.int i)) = .ok (.sh d) := by
  have hl := (List.getElem?_eq_some_iff.mp h).1
  have e : ixN (ds.map T.leaf).length i = some i.toNat := by
    unfold ixN
    rw [if_pos h0, if_pos (by simp; omega)]
  simp only [gIx, tAt, atI, e, Option.bind_some, List.getElem?_map, h, Option.map_some]
theorem x_lput {i j : Nat} {k : Int} {ts : List T} {t : T} {x : EV} {fk fv : Dl.Env → Res EV} {ρ : Dl.Env} (hv : fv ρ = .ok x) (ht : x.t? = some t) (hi : ρ[i]? = some (.own ts)) (hk : fk ρ = .ok (.sh (.int k))) (hx : ixN ts.length k = some j) : dLPut i fk fv ρ = .ok (.nx (ρ.set i (.own (ts.set j t)))) := by
  unfold dLPut
  rw [hv]
  simp [hi, ht, hk, hx]
end Dl
namespace K75
open PySem PySem.Spec PyProof.Rows L2 Dl
/-! ### a strange name among them -/
theorem strs_fines : ∀ {ss : List Str}, (∀ s ∈ ss, PyData.strOk s = true) → D.fines (ss.map D.str) = true
  | [], _ => rfl
  | s :: ss, h => by
    rw [List.map_cons, D.fines, D.fine, h s List.mem_cons_self, strs_fines fun x hx => h x (List.mem_cons_of_mem _ hx)]
    rfl
theorem ninS {s : Str} {names : List Str} (hs : PyData.strOk s = true) (hn : ∀ n ∈ names, PyData.strOk n = true) : gNotIn (.sh (.str s)) (.sh (nmD names)) = .ok (.sh (.bl (!decide (s ∈ names)))) := by
  have hd : D.deps (names.map D.str) ≤ 0 := deps_map fun r _ => by simp [D.dep]
  obtain ⟨b, h1, h2⟩ := inD_lst (a := .str s) (ds := names.map D.str) hs (strs_fines hn) (by simp [D.dep]) (by omega)
  have : b = decide (s ∈ names) := by
    rw [Bool.eq_iff_iff, h2, decide_eq_true_eq, List.mem_map]
    exact ⟨fun ⟨x, hx, e⟩ => by rw [← D.str.inj e]; exact hx, fun h => ⟨s, h, rfl⟩⟩
  simp [nmD, gNotIn, gF, h1, this]
def mn (a b : Str) : List Str := ["", "in", "out", "A b", "ada\nbob", a ++ b ++ "zzzzzzzz", "(0)", "9", "~"]
theorem mn_ok {a b : Str} (ha : PyData.strOk a = true) (hb : PyData.strOk b = true) : ∀ s ∈ mn a b, PyData.strOk s = true := by
  have h : ∀ s ∈ (["", "in", "out", "A b", "ada\nbob", "(0)", "9", "~"] : List Str), PyData.strOk s = true := by decide +kernel
  have hz : PyData.strOk (a ++ b ++ "zzzzzzzz") = true := so_app (so_app ha hb) (by decide +kernel)
  intro s hs
  simp only [mn, List.mem_cons, List.not_mem_nil, or_false] at hs
  simp only [List.mem_cons, List.not_mem_nil, or_false] at h
  rcases hs with e | e | e | e | e | e | e | e | e
  · exact h s (.inl e)
  · exact h s (.inr (.inl e))
  · exact h s (.inr (.inr (.inl e)))
  · exact h s (.inr (.inr (.inr (.inl e))))
  · exact h s (.inr (.inr (.inr (.inr (.inl e)))))
  · rw [e]; exact hz
  · exact h s (.inr (.inr (.inr (.inr (.inr (.inl e))))))
  · exact h s (.inr (.inr (.inr (.inr (.inr (.inr (.inl e)))))))
  · exact h s (.inr (.inr (.inr (.inr (.inr (.inr (.inr e)))))))
theorem mn_len {a b : Str} : (mn a b).length = 9 := rfl
def stM : Stm := dSet 2 (dLst (aCons (dC (.str "")) (aCons (dC (.str "in")) (aCons (dC (.str "out")) (aCons (dC (.str "A b")) (aCons (dC (.str "ada\nbob")) (aCons (d2 gAdd (d2 gAdd (d2 gIx (dVar 0) (dC (.int 0))) (d2 gIx (dVar 0) (dNeg (dC (.int 1))))) (dC (.str "zzzzzzzz"))) (aCons (dC (.str "(0)")) (aCons (dC (.str "9")) (aCons (dC (.str "~")) aNil))))))))))
def stI : Dl.Env → Res Bool := dAndT (dT tBool (d2 gLt (dVar 1) (dC (.int 9)))) (dT tBool (d2 gNotIn (d2 gIx (dVar 2) (dVar 1)) (dVar 0)))
def stP : Stm := dLPut 3 (d2 gMod (dC1 gInt (aCons (dVar 1) aNil)) (dC1 gLen (aCons (dVar 0) aNil))) (d2 gIx (dVar 2) (dVar 1))
theorem g_strange : g_l_strange = dSeq stM (dFrz 2 (dSeq (dSet 3 (dC1 gList (aCons (dVar 0) aNil))) (dSeq (dIf stI stP dNext) (dRetV 3)))) := rfl
theorem x_last {names : List Str} {b : Str} (hb : names.getLast? = some b) : gIx (.sh (nmD names)) (.sh (.int (-1))) = .ok (.sh (.str b)) := x_ixLast (by rw [List.getLast?_map, hb]; rfl)
theorem x_first {names : List Str} {a : Str} (ha : names[0]? = some a) : gIx (.sh (nmD names)) (.sh (.int 0)) = .ok (.sh (.str a)) := x_ixLz (by omega) (by
  show (names.map D.str)[0]? = _
  rw [List.getElem?_map, ha]; rfl)
theorem stM_ok {names : List Str} {a b : Str} {x1 : SV} (ha : names[0]? = some a) (hb : names.getLast? = some b) (na : nm a) (nb : nm b) :
    stM [.sh (nmD names), x1, .no, .no] = .ok (.nx [.sh (nmD names), x1, .own (((mn a b).map D.str).map T.leaf), .no]) := by
  have k8 : (("zzzzzzzz" : Str)).length = 8 := by decide +kernel
  have n1 := na.2
  have n2 := nb.2
  have a1 := x_addS (s := a) (t := b) (by omega)
  have a2 := x_addS (s := a ++ b) (t := "zzzzzzzz") (by rw [len_app, k8]; omega)
  have e1 : d2 gIx (dVar 0) (dC (.int 0)) [.sh (nmD names), x1, .no, .no] = .ok (.sh (.str a)) := by
    rw [← x_first ha]
    rfl
  have e2 : d2 gIx (dVar 0) (dNeg (dC (.int 1))) [.sh (nmD names), x1, .no, .no] = .ok (.sh (.str b)) := by
    rw [← x_last hb]
    rfl
  have e3 : d2 gAdd (d2 gAdd (d2 gIx (dVar 0) (dC (.int 0))) (d2 gIx (dVar 0) (dNeg (dC (.int 1))))) (dC (.str "zzzzzzzz")) [.sh (nmD names), x1, .no, .no] = .ok (.sh (.str (a ++ b ++ "zzzzzzzz"))) := by
    rw [x_d2, x_d2, e1, e2, x_d2_ok, a1, x_c, x_d2_ok, a2]
  rw [stM, x_set, x_lst, x_cons, x_cons, x_cons, x_cons, x_cons, x_cons, e3]
  rfl
theorem strange_ok {names : List Str} {dg : Int} (hn : ∀ n ∈ names, nm n) (hne : names ≠ []) (hl : names.length ≤ 1000) (h0 : 0 ≤ dg) :
    ∃ names' : List Str, names'.length = names.length ∧ (∀ n ∈ names', PyData.strOk n = true) ∧ F_l_strange [nmD names, .int dg] = .ok (.fr ((names'.map D.str).map T.leaf)) := by
  have hp : 0 < names.length := List.length_pos_iff.mpr hne
  have ha : names[0]? = some (names[0]'hp) := List.getElem?_eq_getElem hp
  have hb : names.getLast? = some (names.getLast hne) := List.getLast?_eq_some_getLast hne
  have na := hn _ (List.getElem_mem hp)
  have nb := hn _ (List.getLast_mem hne)
  generalize names[0]'hp = a at *
  generalize names.getLast hne = b at *
  have hm := mn_ok na.1 nb.1
  have hml := mn_len (a := a) (b := b)
  have hM := stM_ok (x1 := .sh (.int dg)) ha hb na nb
  generalize mn a b = menu at *
  have hF : F_l_strange [nmD names, .int dg] = runK (g_l_strange [.sh (nmD names), .sh (.int dg), .no, .no]) := rfl
  have hf : ∀ g : Stm, dFrz 2 g [.sh (nmD names), .sh (.int dg), .own ((menu.map D.str).map T.leaf), .no] = g [.sh (nmD names), .sh (.int dg), .sh (.lst (T.toDs ((menu.map D.str).map T.leaf))), .no] := fun g => rfl
  have hs : dSet 3 (dC1 gList (aCons (dVar 0) aNil)) [.sh (nmD names), .sh (.int dg), .sh (.lst (menu.map D.str)), .no] = .ok (.nx [.sh (nmD names), .sh (.int dg), .sh (.lst (menu.map D.str)), .own ((names.map D.str).map T.leaf)]) := rfl
  have h9 : dT tBool (d2 gLt (dVar 1) (dC (.int 9))) [.sh (nmD names), .sh (.int dg), .sh (.lst (menu.map D.str)), .own ((names.map D.str).map T.leaf)] = .ok (decide (dg < 9)) := rfl
  rw [hF, g_strange, x_seq, hM, x_seq_nx, hf, x_leaves, x_seq, hs, x_seq_nx, x_seq, x_if, stI, x_andT, h9]
  by_cases c : dg < 9
  · have hi : dg.toNat < menu.length := by omega
    have hx : gIx (.sh (.lst (menu.map D.str))) (.sh (.int dg)) = .ok (.sh (.str (menu[dg.toNat]'hi))) := x_ixLz h0 (by rw [List.getElem?_map, List.getElem?_eq_getElem hi, Option.map_some])
    have hz := hm _ (List.getElem_mem hi)
    generalize menu[dg.toNat]'hi = z at *
    have ht : d2 gIx (dVar 2) (dVar 1) [.sh (nmD names), .sh (.int dg), .sh (.lst (menu.map D.str)), .own ((names.map D.str).map T.leaf)] = .ok (.sh (.str z)) := by
      rw [← hx]
      rfl
    have hv : dVar 0 [.sh (nmD names), .sh (.int dg), .sh (.lst (menu.map D.str)), .own ((names.map D.str).map T.leaf)] = .ok (.sh (nmD names)) := rfl
    have hni : dT tBool (d2 gNotIn (d2 gIx (dVar 2) (dVar 1)) (dVar 0)) [.sh (nmD names), .sh (.int dg), .sh (.lst (menu.map D.str)), .own ((names.map D.str).map T.leaf)] = .ok (!decide (z ∈ names)) := by
      rw [x_t, x_d2, ht, hv, x_d2_ok, ninS hz fun n h => (hn n h).1, x_t_ok, x_tBool]
    rw [decide_eq_true c, x_andT_t, hni]
    by_cases c2 : z ∈ names
    · refine ⟨names, rfl, fun n h => (hn n h).1, ?_⟩
      rw [decide_eq_true c2, Bool.not_true, x_if_f]
      rfl
    · have hmod : d2 gMod (dC1 gInt (aCons (dVar 1) aNil)) (dC1 gLen (aCons (dVar 0) aNil)) [.sh (nmD names), .sh (.int dg), .sh (.lst (menu.map D.str)), .own ((names.map D.str).map T.leaf)] = .ok (.sh (.int (dg % names.length))) := by
        have e1 : dC1 gInt (aCons (dVar 1) aNil) [.sh (nmD names), .sh (.int dg), .sh (.lst (menu.map D.str)), .own ((names.map D.str).map T.leaf)] = .ok (.sh (.int dg)) := rfl
        have e2 : dC1 gLen (aCons (dVar 0) aNil) [.sh (nmD names), .sh (.int dg), .sh (.lst (menu.map D.str)), .own ((names.map D.str).map T.leaf)] = .ok (.sh (.int names.length)) := by
          have : dC1 gLen (aCons (dVar 0) aNil) [.sh (nmD names), .sh (.int dg), .sh (.lst (menu.map D.str)), .own ((names.map D.str).map T.leaf)] = .ok (.sh (.int (names.map D.str).length)) := rfl
          rw [this, List.length_map]
        rw [x_d2, e1, e2, x_d2_ok, x_mod (by omega)]
      have hj1 : 0 ≤ dg % (names.length : Int) := Int.emod_nonneg _ (by omega)
      have hj2 : dg % (names.length : Int) < names.length := Int.emod_lt_of_pos _ (by omega)
      have hix : ixN ((names.map D.str).map T.leaf).length (dg % names.length) = some (dg % (names.length : Int)).toNat := by
        unfold ixN
        rw [if_pos hj1, if_pos (by simpa using hj2)]
      refine ⟨names.set (dg % (names.length : Int)).toNat z, by simp, fun n h => ?_, ?_⟩
      · rcases List.mem_or_eq_of_mem_set h with h | h
        · exact (hn n h).1
        · rw [h]; exact hz
      have hP : stP [.sh (nmD names), .sh (.int dg), .sh (.lst (menu.map D.str)), .own ((names.map D.str).map T.leaf)] = .ok (.nx [.sh (nmD names), .sh (.int dg), .sh (.lst (menu.map D.str)), .own (((names.set (dg % (names.length : Int)).toNat z).map D.str).map T.leaf)]) := by
        rw [stP, x_lput ht rfl rfl hmod hix, List.map_set, List.map_set]
        rfl
      rw [decide_eq_false c2, Bool.not_false, x_if_t, hP]
      rfl
  · refine ⟨names, rfl, fun n h => (hn n h).1, ?_⟩
    rw [decide_eq_false c, x_andT_f, x_if_f]
    rfl
/-! ### events -/
theorem x_nm {names : List Str} (hne : names ≠ []) (hl : names.length ≤ 1000) (y : Int) : ∃ n ∈ names, gIx (.sh (nmD names)) (.sh (.int (y % names.length))) = .ok (.sh (.str n)) := by
  have hp : 0 < names.length := List.length_pos_iff.mpr hne
  have hj1 : 0 ≤ y % (names.length : Int) := Int.emod_nonneg _ (by omega)
  have hj2 : y % (names.length : Int) < names.length := Int.emod_lt_of_pos _ (by omega)
  have hi : (y % (names.length : Int)).toNat < names.length := by omega
  exact ⟨names[(y % (names.length : Int)).toNat]'hi, List.getElem_mem hi, x_ixLz hj1 (by rw [List.getElem?_map, List.getElem?_eq_getElem hi, Option.map_some])⟩
def evN (k : Nat) : Dl.Env → Res EV := d2 gIx (dVar 0) (d2 gMod (dC1 gInt (aCons (d2 gIx (dVar 1) (dC (.int k))) aNil)) (dC1 gLen (aCons (dVar 0) aNil)))
theorem evN_ok {names : List Str} {row : List D} {k : Nat} {y : Int} {x2 : SV} (hne : names ≠ []) (hl : names.length ≤ 1000) (hy : row[k]? = some (.int y)) : ∃ n ∈ names, evN k [.sh (nmD names), .sh (.lst row), x2] = .ok (.sh (.str n)) := by
  have hp : 0 < names.length := List.length_pos_iff.mpr hne
  obtain ⟨n, h1, h2⟩ := x_nm hne hl y
  refine ⟨n, h1, ?_⟩
  have v0 : dVar 0 [.sh (nmD names), .sh (.lst row), x2] = .ok (.sh (nmD names)) := rfl
  have v1 : dVar 1 [.sh (nmD names), .sh (.lst row), x2] = .ok (.sh (.lst row)) := rfl
  have hlen : gLen [.sh (nmD names)] = .ok (.sh (.int names.length)) := by
    have : gLen [.sh (nmD names)] = .ok (.sh (.int (names.map D.str).length)) := rfl
    rw [this, List.length_map]
  rw [evN, x_d2, v0, x_d2, x_c1, x_cons, x_d2, v1, x_c, x_d2_ok, x_ixL hy, x_nil, x_cons_ok, x_c1_ok, x_int1, x_c1, x_cons, v0, x_nil, x_cons_ok, x_c1_ok, hlen, x_d2_ok, x_mod (by omega), x_d2_ok, h2]
theorem event_ok {names : List Str} {row : List D} {y0 y1 y2 : Int} (hn : ∀ n ∈ names, PyData.strOk n = true) (hne : names ≠ []) (hl : names.length ≤ 1000) (h0 : row[0]? = some (.int y0)) (h1 : row[1]? = some (.int y1)) (h2 : row[2]? = some (.int y2)) :
    ∃ e : Ev, e.ok = true ∧ F_l_event [nmD names, .lst row] = .ok (.sh e.d) := by
  obtain ⟨n, n1, n2⟩ := evN_ok (x2 := .no) hne hl h1
  obtain ⟨m, m1, m2⟩ := evN_ok (x2 := .sh (.str n)) hne hl h2
  have eg : g_l_event = dSeq (dSet 2 (evN 1)) (dFrz 2 (dSeq (dIf (dT tBool (d2 gEq (d2 gMod (dC1 gInt (aCons (d2 gIx (dVar 1) (dC (.int 0))) aNil)) (dC (.int 3))) (dC (.int 0))))
      (dRet (dTup (aCons (dC (.str "in")) (aCons (dVar 2) aNil)))) dNext) (dRet (dTup (aCons (dC (.str "out")) (aCons (dVar 2) (aCons (evN 2) aNil))))))) := rfl
  have hF : F_l_event [nmD names, .lst row] = runK (g_l_event [.sh (nmD names), .sh (.lst row), .no]) := rfl
  have hs : dSet 2 (evN 1) [.sh (nmD names), .sh (.lst row), .no] = .ok (.nx [.sh (nmD names), .sh (.lst row), .sh (.str n)]) := by
    rw [x_set, n2]
    rfl
  have hf : ∀ g : Stm, dFrz 2 g [.sh (nmD names), .sh (.lst row), .sh (.str n)] = g [.sh (nmD names), .sh (.lst row), .sh (.str n)] := fun g => rfl
  have v1 : dVar 1 [.sh (nmD names), .sh (.lst row), .sh (.str n)] = .ok (.sh (.lst row)) := rfl
  have i0 : gIx (.sh (.lst row)) (.sh (.int 0)) = .ok (.sh (.int y0)) := x_ixLz (by omega) h0
  have hc : dT tBool (d2 gEq (d2 gMod (dC1 gInt (aCons (d2 gIx (dVar 1) (dC (.int 0))) aNil)) (dC (.int 3))) (dC (.int 0))) [.sh (nmD names), .sh (.lst row), .sh (.str n)] = .ok (decide (y0 % 3 = 0)) := by
    rw [x_t, x_d2, x_d2, x_c1, x_cons, x_d2, v1, x_c, x_d2_ok, i0, x_nil, x_cons_ok, x_c1_ok, x_int1, x_c, x_d2_ok, x_mod (by omega), x_d2_ok, x_eqI, x_t_ok, x_tBool]
  rw [hF, eg, x_seq, hs, x_seq_nx, hf, x_seq, x_if, hc]
  by_cases c : y0 % 3 = 0
  · refine ⟨.inn n, hn n n1, ?_⟩
    rw [decide_eq_true c, x_if_t]
    rfl
  · refine ⟨.out n m, ?_, ?_⟩
    · show (PyData.strOk n && PyData.strOk m) = true
      rw [hn n n1, hn m m1]
      rfl
    · have ht : dTup (aCons (dC (.str "out")) (aCons (dVar 2) (aCons (evN 2) aNil))) [.sh (nmD names), .sh (.lst row), .sh (.str n)] = .ok (.sh (Ev.out n m).d) := by
        rw [x_tup, x_cons, x_cons, x_cons, m2]
        rfl
      rw [decide_eq_false c, x_if_f, x_next, x_seq_nx, x_ret, ht]
      rfl
end K75
set_option Elab.async false
set_option linter.all false
set_option maxRecDepth 100000
namespace K75
open PySem PySem.Spec PyProof.Rows L2 Dl
/-! ### drawn rules -/
def ruD : Dl.Env → Res EV := dCall 2 F_l_digits [] (aCons (dCall 2 F_l_cell [] (aCons (dVar 0) (aCons (d2 gAdd (dC (.int 2)) (dVar 5)) aNil))) (aCons (dLst (aCons (dC (.int 60)) (aCons (dC (.int 12)) (aCons (dC (.int 12)) (aCons (dC (.int 60)) (aCons (dC (.int 60)) aNil)))))) aNil))
theorem ruD_ok {ns : List Int} {i : Nat} {a1 a2 a3 a4 a6 a7 a8 : SV} (hi : i < 500) : ∃ r0 r1 r2 r3 r4 : Int, (0 ≤ r3 ∧ 0 ≤ r4) ∧ ruD [.sh (.scr ns), a1, a2, a3, a4, .sh (.int i), a6, a7, a8] = .ok (.fr (([.int r0, .int r1, .int r2, .int r3, .int r4] : List D).map T.leaf)) := by
  obtain ⟨c, hc⟩ := cell_ok (ns := ns) (k := 2 + i) (by omega)
  obtain ⟨row, h1, h2⟩ := digits_ok (c := c) (sizes := [60, 12, 12, 60, 60]) (by
    intro s hs
    simp only [List.mem_cons, List.not_mem_nil, or_false] at hs
    omega) (by decide)
  have hcall : dCall 2 F_l_cell [] (aCons (dVar 0) (aCons (d2 gAdd (dC (.int 2)) (dVar 5)) aNil)) [.sh (.scr ns), a1, a2, a3, a4, .sh (.int i), a6, a7, a8] = .ok (.sh (.int c)) := by
    have : d2 gAdd (dC (.int 2)) (dVar 5) [.sh (.scr ns), a1, a2, a3, a4, .sh (.int i), a6, a7, a8] = .ok (.sh (.int ((2 + i : Nat) : Int))) := by
      have e : d2 gAdd (dC (.int 2)) (dVar 5) [.sh (.scr ns), a1, a2, a3, a4, .sh (.int i), a6, a7, a8] = .ok (.sh (.int (2 + (i : Int)))) := rfl
      rw [e]
      simp
    have v0 : dVar 0 [.sh (.scr ns), a1, a2, a3, a4, .sh (.int i), a6, a7, a8] = .ok (.sh (.scr ns)) := rfl
    rw [x_call, x_cons, v0, x_cons, this, x_nil, x_cons_ok, x_cons_ok, x_call_ok, callN_ss, hc]
  have hl : dLst (aCons (dC (.int 60)) (aCons (dC (.int 12)) (aCons (dC (.int 12)) (aCons (dC (.int 60)) (aCons (dC (.int 60)) aNil))))) [.sh (.scr ns), a1, a2, a3, a4, .sh (.int i), a6, a7, a8] = .ok (.fr (([60, 12, 12, 60, 60] : List Int).map D.int |>.map T.leaf)) := rfl
  have hl5 : row.length = 5 := h1.1
  have hall : ruD [.sh (.scr ns), a1, a2, a3, a4, .sh (.int i), a6, a7, a8] = .ok (.fr ((row.map D.int).map T.leaf)) := by
    rw [ruD, x_call, x_cons, hcall, x_cons, hl, x_nil, x_cons_ok, x_cons_ok, x_call_ok, callN_sf, x_leaves, h2]
  match row, hl5, h1, hall with
  | [r0, r1, r2, r3, r4], _, h1, hall => exact ⟨r0, r1, r2, r3, r4, ⟨(h1.2 3 r3 60 rfl rfl).1, (h1.2 4 r4 60 rfl rfl).1⟩, hall⟩
def ruP : Dl.Env → Res EV := d2 gIx (dVar 4) (d2 gMod (dC1 gInt (aCons (d2 gIx (dVar 6) (dC (.int 3))) aNil)) (dC1 gLen (aCons (dVar 4) aNil)))
theorem ruP_ok {a0 a1 a2 a3 a5 a7 a8 : SV} {r0 r1 r2 r3 r4 : Int} {pool : List Int} (hp : pool ≠ []) (hl : pool.length ≤ 1000) : ∃ s : Int, ruP [a0, a1, a2, a3, .own ((pool.map D.int).map T.leaf), a5, .sh (.lst [.int r0, .int r1, .int r2, .int r3, .int r4]), a7, a8] = .ok (.sh (.int s)) := by
  have hp : 0 < pool.length := List.length_pos_iff.mpr hp
  have hj1 : 0 ≤ r3 % (pool.length : Int) := Int.emod_nonneg _ (by omega)
  have hj2 : r3 % (pool.length : Int) < pool.length := Int.emod_lt_of_pos _ (by omega)
  have hi : (r3 % (pool.length : Int)).toNat < pool.length := by omega
  refine ⟨pool[(r3 % (pool.length : Int)).toNat]'hi, ?_⟩
  have v4 : dVar 4 [a0, a1, a2, a3, .own ((pool.map D.int).map T.leaf), a5, .sh (.lst [.int r0, .int r1, .int r2, .int r3, .int r4]), a7, a8] = .ok (.bo ((pool.map D.int).map T.leaf)) := rfl
  have v6 : dVar 6 [a0, a1, a2, a3, .own ((pool.map D.int).map T.leaf), a5, .sh (.lst [.int r0, .int r1, .int r2, .int r3, .int r4]), a7, a8] = .ok (.sh (.lst [.int r0, .int r1, .int r2, .int r3, .int r4])) := rfl
  rw [ruP, x_d2, v4, x_d2, x_c1, x_cons, x_d2, v6, x_c, x_d2_ok, r4_3, x_nil, x_cons_ok, x_c1_ok, x_int1, x_c1, x_cons, v4, x_nil, x_cons_ok, x_c1_ok, x_len_bo, x_leaves, List.length_map, x_d2_ok, x_mod (by omega), x_d2_ok]
  exact x_ixBo hj1 (by rw [List.getElem?_map, List.getElem?_eq_getElem hi, Option.map_some])
def ruS : Stm := dIf (dT tBool (d2 gGe (d2 gIx (dVar 6) (dC (.int 3))) (dC (.int 48)))) (dSet 7 (d2 gMod (dC1 gInt (aCons (d2 gIx (dVar 6) (dC (.int 3))) aNil)) (dC (.int 10)))) dNext
theorem ruS_ok {a0 a1 a2 a3 a4 a5 a8 : SV} {r0 r1 r2 r3 r4 s : Int} : ∃ s' : Int, ruS [a0, a1, a2, a3, a4, a5, .sh (.lst [.int r0, .int r1, .int r2, .int r3, .int r4]), .sh (.int s), a8] = .ok (.nx [a0, a1, a2, a3, a4, a5, .sh (.lst [.int r0, .int r1, .int r2, .int r3, .int r4]), .sh (.int s'), a8]) := by
  have v6 : dVar 6 [a0, a1, a2, a3, a4, a5, .sh (.lst [.int r0, .int r1, .int r2, .int r3, .int r4]), .sh (.int s), a8] = .ok (.sh (.lst [.int r0, .int r1, .int r2, .int r3, .int r4])) := rfl
  have hc : dT tBool (d2 gGe (d2 gIx (dVar 6) (dC (.int 3))) (dC (.int 48))) [a0, a1, a2, a3, a4, a5, .sh (.lst [.int r0, .int r1, .int r2, .int r3, .int r4]), .sh (.int s), a8] = .ok (decide (48 ≤ r3)) := by
    rw [x_t, x_d2, x_d2, v6, x_c, x_d2_ok, r4_3, x_c, x_d2_ok, x_ge, x_t_ok, x_tBool]
  rw [ruS, x_if, hc]
  cases decide (48 ≤ r3) with
  | true =>
    refine ⟨r3 % 10, ?_⟩
    rw [x_if_t, x_set, x_d2, x_c1, x_cons, x_d2, v6, x_c, x_d2_ok, r4_3, x_nil, x_cons_ok, x_c1_ok, x_int1, x_c, x_d2_ok, x_mod (by omega)]
    rfl
  | false => exact ⟨s, by rw [x_if_f]; rfl⟩
def ruA : Stm := dSet 8 (d2 gMod (dC1 gInt (aCons (d2 gIx (dVar 6) (dC (.int 4))) aNil)) (dC (.int 10)))
theorem ruA_ok {a0 a1 a2 a3 a4 a5 a7 a8 : SV} {r0 r1 r2 r3 r4 : Int} (h8 : a8.free = true) : ruA [a0, a1, a2, a3, a4, a5, .sh (.lst [.int r0, .int r1, .int r2, .int r3, .int r4]), a7, a8] = .ok (.nx [a0, a1, a2, a3, a4, a5, .sh (.lst [.int r0, .int r1, .int r2, .int r3, .int r4]), a7, .sh (.int (r4 % 10))]) := by
  have v6 : dVar 6 [a0, a1, a2, a3, a4, a5, .sh (.lst [.int r0, .int r1, .int r2, .int r3, .int r4]), a7, a8] = .ok (.sh (.lst [.int r0, .int r1, .int r2, .int r3, .int r4])) := rfl
  have p8 : ∀ {x : SV} {ρ : Dl.Env}, Dl.putK 0 x (a8 :: ρ) = .ok (.nx (x :: ρ)) := fun {x ρ} => x_put0 h8
  rw [ruA, x_set, x_d2, x_c1, x_cons, x_d2, v6, x_c, x_d2_ok, r4_4, x_nil, x_cons_ok, x_c1_ok, x_int1, x_c, x_d2_ok, x_mod (by omega), x_set_sh]
  simp only [x_put8, x_put7, x_put6, x_put5, x_put4, x_put3, x_put2, x_put1, p8, x_consK]
def ruB : Stm := dIf (dT tBool (d2 gLt (d2 gIx (dVar 6) (dC (.int 4))) (dC (.int 36)))) (dSet 8 (d2 gMod (d2 gAdd (dVar 7) (d2 gMod (dC1 gInt (aCons (d2 gIx (dVar 6) (dC (.int 4))) aNil)) (dC (.int 3)))) (dC (.int 10)))) dNext
theorem ruB_ok {a0 a1 a2 a3 a4 a5 : SV} {r0 r1 r2 r3 r4 s b : Int} : ∃ b' : Int, ruB [a0, a1, a2, a3, a4, a5, .sh (.lst [.int r0, .int r1, .int r2, .int r3, .int r4]), .sh (.int s), .sh (.int b)] = .ok (.nx [a0, a1, a2, a3, a4, a5, .sh (.lst [.int r0, .int r1, .int r2, .int r3, .int r4]), .sh (.int s), .sh (.int b')]) := by
  have v6 : dVar 6 [a0, a1, a2, a3, a4, a5, .sh (.lst [.int r0, .int r1, .int r2, .int r3, .int r4]), .sh (.int s), .sh (.int b)] = .ok (.sh (.lst [.int r0, .int r1, .int r2, .int r3, .int r4])) := rfl
  have v7 : dVar 7 [a0, a1, a2, a3, a4, a5, .sh (.lst [.int r0, .int r1, .int r2, .int r3, .int r4]), .sh (.int s), .sh (.int b)] = .ok (.sh (.int s)) := rfl
  have hc : dT tBool (d2 gLt (d2 gIx (dVar 6) (dC (.int 4))) (dC (.int 36))) [a0, a1, a2, a3, a4, a5, .sh (.lst [.int r0, .int r1, .int r2, .int r3, .int r4]), .sh (.int s), .sh (.int b)] = .ok (decide (r4 < 36)) := by
    rw [x_t, x_d2, x_d2, v6, x_c, x_d2_ok, r4_4, x_c, x_d2_ok, x_lt, x_t_ok, x_tBool]
  rw [ruB, x_if, hc]
  cases decide (r4 < 36) with
  | true =>
    refine ⟨(s + r4 % 3) % 10, ?_⟩
    have e : d2 gMod (dC1 gInt (aCons (d2 gIx (dVar 6) (dC (.int 4))) aNil)) (dC (.int 3)) [a0, a1, a2, a3, a4, a5, .sh (.lst [.int r0, .int r1, .int r2, .int r3, .int r4]), .sh (.int s), .sh (.int b)] = .ok (.sh (.int (r4 % 3))) := by
      rw [x_d2, x_c1, x_cons, x_d2, v6, x_c, x_d2_ok, r4_4, x_nil, x_cons_ok, x_c1_ok, x_int1, x_c, x_d2_ok, x_mod (by omega)]
    rw [x_if_t, x_set, x_d2, x_d2, v7, e, x_d2_ok, x_add, x_c, x_d2_ok, x_mod (by omega)]
    rfl
  | false => exact ⟨b, by rw [x_if_f]; rfl⟩
def ruT : Stm := dApp 3 (dTup (aCons (dVar 7) (aCons (dCall 2 F_l_event [] (aCons (dVar 1) (aCons (dVar 6) aNil))) (aCons (dVar 8) aNil))))
theorem ruT_ok {a0 a2 a4 a5 : SV} {names : List Str} {r0 r1 r2 r3 r4 s b : Int} {rs : List Rl} (hn : ∀ n ∈ names, PyData.strOk n = true) (hne : names ≠ []) (hl : names.length ≤ 1000) (hrs : rs.length ≤ 1000) : ∃ e : Ev, e.ok = true ∧
    ruT [a0, .sh (nmD names), a2, .own ((rs.map Rl.d).map T.leaf), a4, a5, .sh (.lst [.int r0, .int r1, .int r2, .int r3, .int r4]), .sh (.int s), .sh (.int b)] = .ok (.nx [a0, .sh (nmD names), a2, .own (((rs ++ [(⟨s, e, b⟩ : Rl)]).map Rl.d).map T.leaf), a4, a5, .sh (.lst [.int r0, .int r1, .int r2, .int r3, .int r4]), .sh (.int s), .sh (.int b)]) := by
  obtain ⟨e, h1, h2⟩ := event_ok (row := [.int r0, .int r1, .int r2, .int r3, .int r4]) hn hne hl rfl rfl rfl
  refine ⟨e, h1, ?_⟩
  have hc : dCall 2 F_l_event [] (aCons (dVar 1) (aCons (dVar 6) aNil)) [a0, .sh (nmD names), a2, .own ((rs.map Rl.d).map T.leaf), a4, a5, .sh (.lst [.int r0, .int r1, .int r2, .int r3, .int r4]), .sh (.int s), .sh (.int b)] = .ok (.sh e.d) := by
    rw [← h2]
    exact callN_ss
  have ht : dTup (aCons (dVar 7) (aCons (dCall 2 F_l_event [] (aCons (dVar 1) (aCons (dVar 6) aNil))) (aCons (dVar 8) aNil))) [a0, .sh (nmD names), a2, .own ((rs.map Rl.d).map T.leaf), a4, a5, .sh (.lst [.int r0, .int r1, .int r2, .int r3, .int r4]), .sh (.int s), .sh (.int b)] = .ok (.sh (Rl.d ⟨s, e, b⟩)) := by
    rw [x_tup, x_cons, x_cons, hc]
    rfl
  rw [ruT, x_app, ht]
  show appK 3 _ (some (.own _)) _ = _
  rw [x_app_sh (by simp; omega), List.map_append (l₁ := rs), List.map_append]
  rfl
def ruU : Stm := dApp 4 (dVar 8)
theorem ruU_ok {a0 a1 a2 a3 a5 a6 a7 : SV} {b : Int} {pool : List Int} (hp : pool.length ≤ 1000) : ruU [a0, a1, a2, a3, .own ((pool.map D.int).map T.leaf), a5, a6, a7, .sh (.int b)] = .ok (.nx [a0, a1, a2, a3, .own (((pool ++ [b]).map D.int).map T.leaf), a5, a6, a7, .sh (.int b)]) := by
  rw [ruU, x_app]
  show appK 4 _ (some (.own _)) (.ok (.sh (.int b))) = _
  rw [x_app_sh (by simp; omega), List.map_append (l₁ := pool), List.map_append]
  rfl
def ruL : Stm := dSeq (dSet 6 ruD) (dFrz 6 (dSeq (dSet 7 ruP) (dFrz 7 (dSeq ruS (dSeq ruA (dSeq ruB (dSeq ruT ruU)))))))
theorem ruL_ok {ns : List Int} {i : Nat} {a2 x6 x7 x8 : SV} {names : List Str} {rs : List Rl} {pool : List Int} (hi : i < 500) (hn : ∀ n ∈ names, PyData.strOk n = true) (hne : names ≠ []) (hl : names.length ≤ 1000) (hrs : rs.length ≤ 900) (hp : pool ≠ []) (hpl : pool.length ≤ 1000) (h6 : x6.free = true) (h7 : x7.free = true) (h8 : x8.free = true) :
    ∃ (r : Rl) (b : Int) (y6 y7 y8 : SV), r.e.ok = true ∧ y6.free = true ∧ y7.free = true ∧ y8.free = true ∧
    ruL [.sh (.scr ns), .sh (nmD names), a2, .own ((rs.map Rl.d).map T.leaf), .own ((pool.map D.int).map T.leaf), .sh (.int i), x6, x7, x8] = .ok (.nx [.sh (.scr ns), .sh (nmD names), a2, .own (((rs ++ [r]).map Rl.d).map T.leaf), .own (((pool ++ [b]).map D.int).map T.leaf), .sh (.int i), y6, y7, y8]) := by
  have p6 : ∀ {x : SV} {ρ : Dl.Env}, Dl.putK 0 x (x6 :: ρ) = .ok (.nx (x :: ρ)) := fun {x ρ} => x_put0 h6
  have p7 : ∀ {x : SV} {ρ : Dl.Env}, Dl.putK 0 x (x7 :: ρ) = .ok (.nx (x :: ρ)) := fun {x ρ} => x_put0 h7
  obtain ⟨r0, r1, r2, r3, r4, hr, e1⟩ := ruD_ok (ns := ns) (a1 := .sh (nmD names)) (a2 := a2) (a3 := .own ((rs.map Rl.d).map T.leaf)) (a4 := .own ((pool.map D.int).map T.leaf)) (a6 := x6) (a7 := x7) (a8 := x8) hi
  obtain ⟨s, e2⟩ := ruP_ok (a0 := .sh (.scr ns)) (a1 := .sh (nmD names)) (a2 := a2) (a3 := .own ((rs.map Rl.d).map T.leaf)) (a5 := .sh (.int i)) (a7 := x7) (a8 := x8) (r0 := r0) (r1 := r1) (r2 := r2) (r3 := r3) (r4 := r4) hp hpl
  obtain ⟨s', e3⟩ := ruS_ok (a0 := .sh (.scr ns)) (a1 := .sh (nmD names)) (a2 := a2) (a3 := .own ((rs.map Rl.d).map T.leaf)) (a4 := .own ((pool.map D.int).map T.leaf)) (a5 := .sh (.int i)) (a8 := x8) (r0 := r0) (r1 := r1) (r2 := r2) (r3 := r3) (r4 := r4) (s := s)
  obtain ⟨b, e4⟩ := ruB_ok (a0 := .sh (.scr ns)) (a1 := .sh (nmD names)) (a2 := a2) (a3 := .own ((rs.map Rl.d).map T.leaf)) (a4 := .own ((pool.map D.int).map T.leaf)) (a5 := .sh (.int i)) (r0 := r0) (r1 := r1) (r2 := r2) (r3 := r3) (r4 := r4) (s := s') (b := r4 % 10)
  obtain ⟨e, he, e5⟩ := ruT_ok (a0 := .sh (.scr ns)) (a2 := a2) (a4 := .own ((pool.map D.int).map T.leaf)) (a5 := .sh (.int i)) (r0 := r0) (r1 := r1) (r2 := r2) (r3 := r3) (r4 := r4) (s := s') (b := b) (rs := rs) hn hne hl (by omega)
  refine ⟨⟨s', e, b⟩, b, .sh (.lst [.int r0, .int r1, .int r2, .int r3, .int r4]), .sh (.int s'), .sh (.int b), he, rfl, rfl, rfl, ?_⟩
  have s1 : dSet 6 ruD [.sh (.scr ns), .sh (nmD names), a2, .own ((rs.map Rl.d).map T.leaf), .own ((pool.map D.int).map T.leaf), .sh (.int i), x6, x7, x8] = .ok (.nx [.sh (.scr ns), .sh (nmD names), a2, .own ((rs.map Rl.d).map T.leaf), .own ((pool.map D.int).map T.leaf), .sh (.int i), .own (([.int r0, .int r1, .int r2, .int r3, .int r4] : List D).map T.leaf), x7, x8]) := by
    rw [x_set, e1, x_set_fr]
    simp only [x_put6, x_put5, x_put4, x_put3, x_put2, x_put1, p6, x_consK]
  have f1 : ∀ (g : Stm) (a0 a1 a2 a3 a4 a5 a7 a8 : SV), dFrz 6 g [a0, a1, a2, a3, a4, a5, .own (([.int r0, .int r1, .int r2, .int r3, .int r4] : List D).map T.leaf), a7, a8] = g [a0, a1, a2, a3, a4, a5, .sh (.lst [.int r0, .int r1, .int r2, .int r3, .int r4]), a7, a8] := fun g _ _ _ _ _ _ _ _ => rfl
  have s2 : dSet 7 ruP [.sh (.scr ns), .sh (nmD names), a2, .own ((rs.map Rl.d).map T.leaf), .own ((pool.map D.int).map T.leaf), .sh (.int i), .sh (.lst [.int r0, .int r1, .int r2, .int r3, .int r4]), x7, x8] = .ok (.nx [.sh (.scr ns), .sh (nmD names), a2, .own ((rs.map Rl.d).map T.leaf), .own ((pool.map D.int).map T.leaf), .sh (.int i), .sh (.lst [.int r0, .int r1, .int r2, .int r3, .int r4]), .sh (.int s), x8]) := by
    rw [x_set, e2, x_set_sh]
    simp only [x_put7, x_put6, x_put5, x_put4, x_put3, x_put2, x_put1, p7, x_consK]
  have f2 : ∀ (g : Stm) (a0 a1 a2 a3 a4 a5 a6 a8 : SV), dFrz 7 g [a0, a1, a2, a3, a4, a5, a6, .sh (.int s), a8] = g [a0, a1, a2, a3, a4, a5, a6, .sh (.int s), a8] := fun g _ _ _ _ _ _ _ _ => rfl
  rw [ruL, x_seq, s1, x_seq_nx, f1, x_seq, s2, x_seq_nx, f2, x_seq, e3, x_seq_nx, x_seq, ruA_ok h8, x_seq_nx, x_seq, e4, x_seq_nx, x_seq, e5, x_seq_nx, ruU_ok hpl]
theorem g_rules : g_l_rules = dSeq (dSet 3 (dLst aNil)) (dSeq (dSet 4 (dLst (aCons (dC (.int 0)) aNil))) (dSeq (dFor (iR1 (dVar 2)) (bName 5) ruL) (dFrz 6 (dFrz 7 (dRetV 3))))) := rfl
theorem rules_ok {ns : List Int} {names : List Str} {many : Nat} (hm : many ≤ 400) (hn : ∀ n ∈ names, PyData.strOk n = true) (hne : names ≠ []) (hl : names.length ≤ 1000) :
    ∃ rs : List Rl, rs.length = many ∧ (∀ r ∈ rs, r.e.ok = true) ∧ F_l_rules [.scr ns, nmD names, .int many] = .ok (.fr ((rs.map Rl.d).map T.leaf)) := by
  have s1 : dSet 3 (dLst aNil) [.sh (.scr ns), .sh (nmD names), .sh (.int many), .no, .no, .no, .no, .no, .no] = .ok (.nx [.sh (.scr ns), .sh (nmD names), .sh (.int many), .own [], .no, .no, .no, .no, .no]) := rfl
  have s2 : dSet 4 (dLst (aCons (dC (.int 0)) aNil)) [.sh (.scr ns), .sh (nmD names), .sh (.int many), .own [], .no, .no, .no, .no, .no] = .ok (.nx [.sh (.scr ns), .sh (nmD names), .sh (.int many), .own (([] : List Rl).map Rl.d |>.map T.leaf), .own (([0] : List Int).map D.int |>.map T.leaf), .no, .no, .no, .no]) := rfl
  have hi : iR1 (dVar 2) [.sh (.scr ns), .sh (nmD names), .sh (.int many), .own (([] : List Rl).map Rl.d |>.map T.leaf), .own (([0] : List Int).map D.int |>.map T.leaf), .no, .no, .no, .no] = .ok (rangeD 0 many) := by
    have := x_rng (n := many) (f := dVar 2) (ρ := [.sh (.scr ns), .sh (nmD names), .sh (.int many), .own (([] : List Rl).map Rl.d |>.map T.leaf), .own (([0] : List Int).map D.int |>.map T.leaf), .no, .no, .no, .no]) (by omega) rfl
    rwa [Int.toNat_natCast] at this
  obtain ⟨ρ', ⟨rs, pool, x5, y6, y7, y8, q1, q2, q3, q4, q5, q6, q7, q8, q9⟩, e⟩ := forD_range (b := bName 5) (g := ruL) (n := many)
    (P := fun i ρ => ∃ (rs : List Rl) (pool : List Int) (x5 y6 y7 y8 : SV), rs.length = i ∧ (∀ r ∈ rs, r.e.ok = true) ∧ pool ≠ [] ∧ pool.length = i + 1 ∧ x5.free = true ∧ y6.free = true ∧ y7.free = true ∧ y8.free = true ∧ ρ = [.sh (.scr ns), .sh (nmD names), .sh (.int many), .own ((rs.map Rl.d).map T.leaf), .own ((pool.map D.int).map T.leaf), x5, y6, y7, y8]) (by
      rintro i hi ρ ⟨rs, pool, x5, y6, y7, y8, q1, q2, q3, q4, q5, q6, q7, q8, rfl⟩
      obtain ⟨r, b, z6, z7, z8, k1, k2, k3, k4, k5⟩ := ruL_ok (ns := ns) (i := i) (a2 := .sh (.int many)) (names := names) (rs := rs) (pool := pool) (by omega) hn hne hl (by omega) q3 (by omega) q6 q7 q8
      refine ⟨_, _, by simp only [bName, putR, List.getElem?_cons_succ, List.getElem?_cons_zero, q5, if_true, List.set_cons_succ, List.set_cons_zero], k5, rs ++ [r], pool ++ [b], _, z6, z7, z8, by simp [q1], ?_, by simp, by simp [q4], rfl, k2, k3, k4, rfl⟩
      intro x hx
      rcases List.mem_append.mp hx with hx | hx
      · exact q2 x hx
      · rw [List.mem_singleton.mp hx]; exact k1) _ ⟨[], [0], .no, .no, .no, .no, rfl, (fun _ h => by cases h), by simp, rfl, rfl, rfl, rfl, rfl, rfl⟩
  refine ⟨rs, q1, q2, ?_⟩
  obtain ⟨b6, f6, e6⟩ := x_frz_any (i := 6) (g := dFrz 7 (dRetV 3)) (ρ := [.sh (.scr ns), .sh (nmD names), .sh (.int many), .own ((rs.map Rl.d).map T.leaf), .own ((pool.map D.int).map T.leaf), x5, y6, y7, y8]) rfl q6
  obtain ⟨b7, f7, e7⟩ := x_frz_any (i := 7) (g := dRetV 3) (ρ := [.sh (.scr ns), .sh (nmD names), .sh (.int many), .own ((rs.map Rl.d).map T.leaf), .own ((pool.map D.int).map T.leaf), x5, b6, y7, y8]) rfl q7
  rw [F_l_rules, x_run, g_rules]
  show runK (dSeq _ _ [.sh (.scr ns), .sh (nmD names), .sh (.int many), .no, .no, .no, .no, .no, .no]) = _
  rw [x_seq, s1, x_seq_nx, x_seq, s2, x_seq_nx, x_seq, x_for, hi, x_for_ok, e, x_seq_nx, q9, e6]
  show runK (dFrz 7 (dRetV 3) [_, _, _, _, _, _, _, _, _]) = _
  rw [e7]
  rfl
/-! ### drawn moves -/
def toM (y : Int) : Ev → Mv
  | .inn n => .inn n (y % 10)
  | .out n c => .out n c
def evS (rs : List Rl) (a b : Str) : List Ev := rs.map Rl.e ++ [.inn a, .out b a]
theorem toM_ok {y : Int} {e : Ev} (h : e.ok = true) : (toM y e).e.ok = true := by cases e <;> exact h
def dmE : Dl.Env → Res EV := d2 gAdd (dLc (iA (dVar 1)) (bName 7) dYes (d2 gIx (dVar 7) (dC (.int 1))) [7]) (dLst (aCons (dTup (aCons (dC (.str "in")) (aCons (d2 gIx (dVar 0) (dC (.int 0))) aNil))) (aCons (dTup (aCons (dC (.str "out")) (aCons (d2 gIx (dVar 0) (dNeg (dC (.int 1)))) (aCons (d2 gIx (dVar 0) (dC (.int 0))) aNil)))) aNil)))
theorem dmE_ok {names : List Str} {rs : List Rl} {a b : Str} {a2 a3 a4 a5 a6 a7 : SV} (ha : names[0]? = some a) (hb : names.getLast? = some b) (hl : rs.length ≤ 1000) :
    dmE [.sh (nmD names), .sh (.lst (rs.map Rl.d)), a2, a3, a4, a5, a6, a7] = .ok (.fr (((evS rs a b).map Ev.d).map T.leaf)) := by
  have hlc : dLc (iA (dVar 1)) (bName 7) dYes (d2 gIx (dVar 7) (dC (.int 1))) [7] [.sh (nmD names), .sh (.lst (rs.map Rl.d)), a2, a3, a4, a5, a6, a7] = .ok (.fr (((rs.map Rl.e).map Ev.d).map T.leaf)) := by
    have hi : iA (dVar 1) [.sh (nmD names), .sh (.lst (rs.map Rl.d)), a2, a3, a4, a5, a6, a7] = .ok (rs.map Rl.d) := rfl
    rw [x_lc, hi, x_lc_of (p := fun _ => true) (k := fun r => r.e.d) (by omega) (fun r hr => ⟨[.sh (nmD names), .sh (.lst (rs.map Rl.d)), a2, a3, a4, a5, a6, .sh r.d], by simp [putR, SV.free], rfl, fun _ => rl1⟩), filter_yes, List.map_map (f := Rl.e)]
    rfl
  have e1 : d2 gIx (dVar 0) (dC (.int 0)) [.sh (nmD names), .sh (.lst (rs.map Rl.d)), a2, a3, a4, a5, a6, a7] = .ok (.sh (.str a)) := by
    rw [← x_first ha]
    rfl
  have e2 : d2 gIx (dVar 0) (dNeg (dC (.int 1))) [.sh (nmD names), .sh (.lst (rs.map Rl.d)), a2, a3, a4, a5, a6, a7] = .ok (.sh (.str b)) := by
    rw [← x_last hb]
    rfl
  have e3 : dLst (aCons (dTup (aCons (dC (.str "in")) (aCons (d2 gIx (dVar 0) (dC (.int 0))) aNil))) (aCons (dTup (aCons (dC (.str "out")) (aCons (d2 gIx (dVar 0) (dNeg (dC (.int 1)))) (aCons (d2 gIx (dVar 0) (dC (.int 0))) aNil)))) aNil)) [.sh (nmD names), .sh (.lst (rs.map Rl.d)), a2, a3, a4, a5, a6, a7] = .ok (.fr ((([.inn a, .out b a] : List Ev).map Ev.d).map T.leaf)) := by
    rw [x_lst, x_cons, x_tup, x_cons, x_cons, e1, x_cons, x_tup, x_cons, x_cons, e2, x_cons, e1]
    rfl
  rw [dmE, x_d2, hlc, e3, x_d2_ok]
  have hadd : gAdd (.fr (((rs.map Rl.e).map Ev.d).map T.leaf)) (.fr ((([.inn a, .out b a] : List Ev).map Ev.d).map T.leaf)) = .ok (.fr ((((rs.map Rl.e).map Ev.d) ++ (([.inn a, .out b a] : List Ev).map Ev.d)).map T.leaf)) := by
    have hh : ((rs.map Rl.e).map Ev.d).length + (([.inn a, .out b a] : List Ev).map Ev.d).length ≤ 16777216 := by simp; omega
    simp only [gAdd, EV.lvs, toDs_leaves, hh, if_true]
  rw [hadd, ← List.map_append]
  rfl
def dmX : Stm := dSet 6 (d2 gIx (dVar 3) (d2 gMod (dC1 gInt (aCons (dVar 5) aNil)) (dC1 gLen (aCons (dVar 3) aNil))))
def dmY : Stm := dIf (dT tBool (d2 gEq (d2 gIx (dVar 6) (dC (.int 0))) (dC (.str "in")))) (dSet 6 (dTup (aCons (dC (.str "in")) (aCons (d2 gIx (dVar 6) (dC (.int 1))) (aCons (d2 gMod (dC1 gInt (aCons (dVar 5) aNil)) (dC (.int 10))) aNil))))) dNext
def dmZ : Stm := dApp 4 (dVar 6)
def dmL : Stm := dSeq dmX (dFrz 6 (dSeq dmY dmZ))
theorem dmX_ok {es : List Ev} {y : Int} {a0 a1 a2 a4 a6 a7 : SV} (hne : es ≠ []) (hl : es.length ≤ 2000) (h6 : a6.free = true) : ∃ e ∈ es, dmX [a0, a1, a2, .sh (.lst (es.map Ev.d)), a4, .sh (.int y), a6, a7] = .ok (.nx [a0, a1, a2, .sh (.lst (es.map Ev.d)), a4, .sh (.int y), .sh e.d, a7]) := by
  have p6 : ∀ {x : SV} {ρ : Dl.Env}, Dl.putK 0 x (a6 :: ρ) = .ok (.nx (x :: ρ)) := fun {x ρ} => x_put0 h6
  have hp : 0 < es.length := List.length_pos_iff.mpr hne
  have hj1 : 0 ≤ y % (es.length : Int) := Int.emod_nonneg _ (by omega)
  have hj2 : y % (es.length : Int) < es.length := Int.emod_lt_of_pos _ (by omega)
  have hi : (y % (es.length : Int)).toNat < es.length := by omega
  refine ⟨es[(y % (es.length : Int)).toNat]'hi, List.getElem_mem hi, ?_⟩
  have hx : gIx (.sh (.lst (es.map Ev.d))) (.sh (.int (y % es.length))) = .ok (.sh (es[(y % (es.length : Int)).toNat]'hi).d) := x_ixLz hj1 (by rw [List.getElem?_map, List.getElem?_eq_getElem hi, Option.map_some])
  have v3 : dVar 3 [a0, a1, a2, .sh (.lst (es.map Ev.d)), a4, .sh (.int y), a6, a7] = .ok (.sh (.lst (es.map Ev.d))) := rfl
  have v5 : dVar 5 [a0, a1, a2, .sh (.lst (es.map Ev.d)), a4, .sh (.int y), a6, a7] = .ok (.sh (.int y)) := rfl
  rw [dmX, x_set, x_d2, v3, x_d2, x_c1, x_cons, v5, x_nil, x_cons_ok, x_c1_ok, x_int1, x_c1, x_cons, v3, x_nil, x_cons_ok, x_c1_ok, x_len_lst, List.length_map, x_d2_ok, x_mod (by omega), x_d2_ok, hx, x_set_sh]
  simp only [x_put6, x_put5, x_put4, x_put3, x_put2, x_put1, p6, x_consK]
theorem dmY_ok {e : Ev} {y : Int} {a0 a1 a2 a3 a4 a7 : SV} : dmY [a0, a1, a2, a3, a4, .sh (.int y), .sh e.d, a7] = .ok (.nx [a0, a1, a2, a3, a4, .sh (.int y), .sh (toM y e).d, a7]) := by
  have v5 : ∀ {x6 : SV}, dVar 5 [a0, a1, a2, a3, a4, .sh (.int y), x6, a7] = .ok (.sh (.int y)) := rfl
  cases e with
  | inn n =>
    have v6 : dVar 6 [a0, a1, a2, a3, a4, .sh (.int y), .sh (Ev.inn n).d, a7] = .ok (.sh (.tup [.str "in", .str n])) := rfl
    rw [dmY, x_if, x_t, x_d2, x_d2, v6, x_c, x_d2_ok, x_ix0, x_c, x_d2_ok, x_eqS in_ok in_ok, x_t_ok, x_tBool, decide_eq_true rfl, x_if_t, x_set, x_tup, x_cons, x_c, x_cons, x_d2, v6, x_c, x_d2_ok, x_ix1, x_cons, x_d2, x_c1, x_cons, v5, x_nil, x_cons_ok, x_c1_ok, x_int1, x_c, x_d2_ok, x_mod (by omega)]
    rfl
  | out n c =>
    have v6 : dVar 6 [a0, a1, a2, a3, a4, .sh (.int y), .sh (Ev.out n c).d, a7] = .ok (.sh (.tup [.str "out", .str n, .str c])) := rfl
    rw [dmY, x_if, x_t, x_d2, x_d2, v6, x_c, x_d2_ok, x_ix0, x_c, x_d2_ok, x_eqS out_ok in_ok, x_t_ok, x_tBool, decide_eq_false out_in, x_if_f]
    rfl
theorem dmL_ok {es : List Ev} {ms : List Mv} {y : Int} {a0 a1 a2 a6 a7 : SV} (hes : ∀ e ∈ es, e.ok = true) (hne : es ≠ []) (hl : es.length ≤ 2000) (hml : ms.length ≤ 1000) (h6 : a6.free = true) : ∃ (m : Mv) (b6 : SV), m.e.ok = true ∧ b6.free = true ∧ dmL [a0, a1, a2, .sh (.lst (es.map Ev.d)), .own ((ms.map Mv.d).map T.leaf), .sh (.int y), a6, a7] = .ok (.nx [a0, a1, a2, .sh (.lst (es.map Ev.d)), .own (((ms ++ [m]).map Mv.d).map T.leaf), .sh (.int y), b6, a7]) := by
  obtain ⟨e, he, h⟩ := dmX_ok (y := y) (a0 := a0) (a1 := a1) (a2 := a2) (a4 := .own ((ms.map Mv.d).map T.leaf)) (a7 := a7) hne hl h6
  refine ⟨toM y e, .sh (toM y e).d, toM_ok (hes e he), rfl, ?_⟩
  have f6 : ∀ (g : Stm) (a0 a1 a2 a3 a4 a5 a7 : SV) (d : D), dFrz 6 g [a0, a1, a2, a3, a4, a5, .sh d, a7] = g [a0, a1, a2, a3, a4, a5, .sh d, a7] := fun g _ _ _ _ _ _ _ _ => rfl
  rw [dmL, x_seq, h, x_seq_nx, f6, x_seq, dmY_ok, x_seq_nx, dmZ, x_app]
  show appK 4 _ (some (.own _)) (.ok (.sh (toM y e).d)) = _
  rw [x_app_sh (by simp; omega), List.map_append (l₁ := ms), List.map_append]
  rfl
theorem dm_loop {es : List Ev} {a0 a1 a2 a7 : SV} (hes : ∀ e ∈ es, e.ok = true) (hne : es ≠ []) (hl : es.length ≤ 2000) : ∀ (ys : List Int) (ms : List Mv) (x5 x6 : SV), ms.length + ys.length ≤ 900 → (∀ m ∈ ms, m.e.ok = true) → x5.free = true → x6.free = true →
    ∃ (ms' : List Mv) (b5 b6 : SV), ms'.length = ms.length + ys.length ∧ (∀ m ∈ ms', m.e.ok = true) ∧ b6.free = true ∧ forD (bName 5) dmL (ys.map D.int) [a0, a1, a2, .sh (.lst (es.map Ev.d)), .own ((ms.map Mv.d).map T.leaf), x5, x6, a7] = .ok (.nx [a0, a1, a2, .sh (.lst (es.map Ev.d)), .own ((ms'.map Mv.d).map T.leaf), b5, b6, a7])
  | [], ms, x5, x6, _, hm, _, h6 => ⟨ms, x5, x6, rfl, hm, h6, rfl⟩
  | y :: ys, ms, x5, x6, hb, hm, h5, h6 => by
    rw [List.length_cons] at hb
    obtain ⟨m, b6, k1, k2, k3⟩ := dmL_ok (y := y) (ms := ms) (a0 := a0) (a1 := a1) (a2 := a2) (a7 := a7) hes hne hl (by omega) h6
    obtain ⟨ms', c5, c6, q1, q2, q3, q4⟩ := dm_loop (a0 := a0) (a1 := a1) (a2 := a2) (a7 := a7) hes hne hl ys (ms ++ [m]) (.sh (.int y)) b6 (by simp; omega) (by
      intro x hx
      rcases List.mem_append.mp hx with hx | hx
      · exact hm x hx
      · rw [List.mem_singleton.mp hx]; exact k1) rfl k2
    refine ⟨ms', c5, c6, by rw [q1]; simp; omega, q2, q3, ?_⟩
    rw [List.map_cons, x_forD_cons (ρ1 := [a0, a1, a2, .sh (.lst (es.map Ev.d)), .own ((ms.map Mv.d).map T.leaf), .sh (.int y), x6, a7]) (by simp only [bName, putR, List.getElem?_cons_succ, List.getElem?_cons_zero, h5, if_true, List.set_cons_succ, List.set_cons_zero]), k3, x_turn_nx]
    exact q4
theorem g_drawn : g_l_drawn_moves = dSeq (dSet 3 dmE) (dFrz 3 (dSeq (dSet 4 (dLst aNil)) (dSeq (dFor (iA (dVar 2)) (bName 5) dmL) (dFrz 6 (dRetV 4))))) := rfl
theorem drawn_ok {names : List Str} {rs : List Rl} {ys : List Int} (hn : ∀ n ∈ names, PyData.strOk n = true) (hne : names ≠ []) (hr : ∀ r ∈ rs, r.e.ok = true) (hl : rs.length ≤ 1000) (hy : ys.length ≤ 900) :
    ∃ ms : List Mv, ms.length = ys.length ∧ (∀ m ∈ ms, m.e.ok = true) ∧ F_l_drawn_moves [nmD names, .lst (rs.map Rl.d), .lst (ys.map D.int)] = .ok (.fr ((ms.map Mv.d).map T.leaf)) := by
  have hp : 0 < names.length := List.length_pos_iff.mpr hne
  have ha : names[0]? = some (names[0]'hp) := List.getElem?_eq_getElem hp
  have hb : names.getLast? = some (names.getLast hne) := List.getLast?_eq_some_getLast hne
  have na := hn _ (List.getElem_mem hp)
  have nb := hn _ (List.getLast_mem hne)
  generalize names[0]'hp = a at *
  generalize names.getLast hne = b at *
  have hes : ∀ e ∈ evS rs a b, e.ok = true := by
    intro e he
    rcases List.mem_append.mp he with he | he
    · obtain ⟨r, h1, rfl⟩ := List.mem_map.mp he
      exact hr r h1
    · simp only [List.mem_cons, List.not_mem_nil, or_false] at he
      rcases he with rfl | rfl
      · exact na
      · show (PyData.strOk b && PyData.strOk a) = true
        rw [na, nb]
        rfl
  have hE := dmE_ok (a2 := .sh (.lst (ys.map D.int))) (a3 := .no) (a4 := .no) (a5 := .no) (a6 := .no) (a7 := .no) ha hb hl
  have hln : (evS rs a b).length ≤ 2000 := by simp [evS]; omega
  have hne2 : evS rs a b ≠ [] := by simp [evS]
  generalize evS rs a b = es at *
  obtain ⟨ms, b5, b6, q1, q2, q3, q4⟩ := dm_loop (a0 := .sh (nmD names)) (a1 := .sh (.lst (rs.map Rl.d))) (a2 := .sh (.lst (ys.map D.int))) (a7 := .no) hes hne2 hln ys [] .no .no (by simpa using hy) (fun _ h => by cases h) rfl rfl
  refine ⟨ms, by simpa using q1, q2, ?_⟩
  have hF : F_l_drawn_moves [nmD names, .lst (rs.map Rl.d), .lst (ys.map D.int)] = runK (g_l_drawn_moves [.sh (nmD names), .sh (.lst (rs.map Rl.d)), .sh (.lst (ys.map D.int)), .no, .no, .no, .no, .no]) := rfl
  have s1 : dSet 3 dmE [.sh (nmD names), .sh (.lst (rs.map Rl.d)), .sh (.lst (ys.map D.int)), .no, .no, .no, .no, .no] = .ok (.nx [.sh (nmD names), .sh (.lst (rs.map Rl.d)), .sh (.lst (ys.map D.int)), .own ((es.map Ev.d).map T.leaf), .no, .no, .no, .no]) := by
    rw [x_set, hE]
    rfl
  have f3 : ∀ (g : Stm), dFrz 3 g [.sh (nmD names), .sh (.lst (rs.map Rl.d)), .sh (.lst (ys.map D.int)), .own ((es.map Ev.d).map T.leaf), .no, .no, .no, .no] = g [.sh (nmD names), .sh (.lst (rs.map Rl.d)), .sh (.lst (ys.map D.int)), .sh (.lst (T.toDs ((es.map Ev.d).map T.leaf))), .no, .no, .no, .no] := fun g => rfl
  have s2 : dSet 4 (dLst aNil) [.sh (nmD names), .sh (.lst (rs.map Rl.d)), .sh (.lst (ys.map D.int)), .sh (.lst (es.map Ev.d)), .no, .no, .no, .no] = .ok (.nx [.sh (nmD names), .sh (.lst (rs.map Rl.d)), .sh (.lst (ys.map D.int)), .sh (.lst (es.map Ev.d)), .own (([] : List Mv).map Mv.d |>.map T.leaf), .no, .no, .no]) := rfl
  have hi : ∀ {a0 a1 : SV} {ρ : Dl.Env}, iA (dVar 2) (a0 :: a1 :: .sh (.lst (ys.map D.int)) :: ρ) = .ok (ys.map D.int) := rfl
  obtain ⟨c6, f6, e6⟩ := x_frz_any (i := 6) (g := dRetV 4) (ρ := [.sh (nmD names), .sh (.lst (rs.map Rl.d)), .sh (.lst (ys.map D.int)), .sh (.lst (es.map Ev.d)), .own ((ms.map Mv.d).map T.leaf), b5, b6, .no]) rfl q3
  rw [hF, g_drawn, x_seq, s1, x_seq_nx, f3, x_leaves, x_seq, s2, x_seq_nx, x_seq, x_for, hi, x_for_ok, q4, x_seq_nx, e6]
  rfl
end K75
set_option Elab.async false
set_option linter.all false
set_option maxRecDepth 100000
namespace Dl
open PySem PySem.Spec PyProof.Rows L2
section
variable {i j : Nat} {ρ : Dl.Env} {x y : SV} {d : D} {ts : List T} {f : Dl.Env → Res EV} {g : Stm}
theorem v_sh (h : ρ[i]? = some (.sh d)) : dVar i ρ = .ok (.sh d) := by rw [x_var, h]; rfl
theorem v_own (h : ρ[i]? = some (.own ts)) : dVar i ρ = .ok (.bo ts) := by rw [x_var, h]; rfl
theorem put_at (h : ρ[i]? = some y) (hf : y.free = true) : putR i x ρ = some (ρ.set i x) := by simp [putR, h, hf]
theorem get_set (h : ρ[i]? = some y) : (ρ.set i x)[i]? = some x := by
  rw [List.getElem?_set_self (List.getElem?_eq_some_iff.mp h).1]
theorem get_ne (h : i ≠ j) : (ρ.set i x)[j]? = ρ[j]? := List.getElem?_set_ne h
theorem bn (h : ρ[i]? = some y) : bName i d (ρ.set i .no) = some (ρ.set i (.sh d)) := by
  rw [x_bName, put_at (get_set h) rfl, List.set_set]
theorem st_fr (h : f ρ = .ok (.fr ts)) (hi : ρ[i]? = some y) (hf : y.free = true) : dSeq (dSet i f) (dFrz i g) ρ = g (ρ.set i (.sh (.lst (T.toDs ts)))) := by
  rw [x_seq, x_set, h, x_set_fr, Dl.putK, put_at hi hf]
  show dFrz i g (ρ.set i (.own ts)) = _
  rw [x_frz, get_set hi, x_frz_own, List.set_set]
theorem st_fr0 (h : f ρ = .ok (.fr ts)) (hi : ρ[i]? = some y) (hf : y.free = true) : dSeq (dSet i f) g ρ = g (ρ.set i (.own ts)) := by
  rw [x_seq, x_set, h, x_set_fr, Dl.putK, put_at hi hf]
  rfl
theorem st_sh0 (h : f ρ = .ok (.sh d)) (hi : ρ[i]? = some y) (hf : y.free = true) : dSeq (dSet i f) g ρ = g (ρ.set i (.sh d)) := by
  rw [x_seq, x_set, h, x_set_sh, Dl.putK, put_at hi hf]
  rfl
theorem st_sh (h : f ρ = .ok (.sh d)) (hi : ρ[i]? = some y) (hf : y.free = true) : dSeq (dSet i f) (dFrz i g) ρ = g (ρ.set i (.sh d)) := by
  rw [st_sh0 h hi hf, x_frz, get_set hi, x_frz_sh]
theorem x_ixFr {ds : List D} {i : Int} {d : D} (h0 : 0 ≤ i) (h : ds[i.toNat]? = some d) : gIx (.fr (ds.map T.leaf)) (.sh (.int i)) = .ok (.sh d) := by
  have hl := (List.getElem?_eq_some_iff.mp h).1
  have e : ixN (ds.map T.leaf).length i = some i.toNat := by
    unfold ixN
    rw [if_pos h0, if_pos (by simp; omega)]
  simp only [gIx, tAt, atI, e, Option.bind_some, List.getElem?_map, h, Option.map_some]
end
end Dl
namespace K75
open PySem PySem.Spec PyProof.Rows L2 Dl
section
variable {ρ : Dl.Env} {ns : List Int} {y : SV}
theorem cell_okI {k : Int} (h : 0 ≤ k ∧ k < 1000) : ∃ c, F_l_cell [.scr ns, .int k] = .ok (.sh (.int c)) := by
  obtain ⟨c, e⟩ := cell_ok (ns := ns) (k := k.toNat) (by omega)
  rw [Int.toNat_of_nonneg h.1] at e
  exact ⟨c, e⟩
def dgc (k : Int) (L : Dl.Env → Res EV) : Dl.Env → Res EV := dCall 2 F_l_digits [] (aCons (dCall 2 F_l_cell [] (aCons (dVar 0) (aCons (dC (.int k)) aNil))) (aCons L aNil))
theorem dgc_ok {k : Int} {L : Dl.Env → Res EV} {sizes : List Int} (hk : 0 ≤ k ∧ k < 1000) (h0 : ρ[0]? = some (.sh (.scr ns))) (hL : L ρ = .ok (.fr ((sizes.map D.int).map T.leaf))) (hs : ∀ s ∈ sizes, 0 < s ∧ s < 1073741824) (hl : sizes.length ≤ 1000) :
    ∃ row, okRow row sizes ∧ dgc k L ρ = .ok (.fr ((row.map D.int).map T.leaf)) := by
  obtain ⟨c, e⟩ := cell_okI (ns := ns) hk
  obtain ⟨row, h1, h2⟩ := digits_ok (c := c) hs hl
  refine ⟨row, h1, ?_⟩
  rw [dgc, x_call, x_cons, x_call, x_cons, v_sh h0, x_cons, x_c, x_nil, x_cons_ok, x_cons_ok, x_call_ok, callN_ss, e, x_cons, hL, x_nil, x_cons_ok, x_cons_ok, x_call_ok, callN_sf, x_leaves, h2]
theorem okRow.all {row sizes : List Int} {m : Int} (h : okRow row sizes) (hs : ∀ s ∈ sizes, s ≤ m) : ∀ d ∈ row, 0 ≤ d ∧ d < m := by
  intro d hd
  obtain ⟨i, hi⟩ := List.mem_iff_getElem?.mp hd
  have hl := (List.getElem?_eq_some_iff.mp hi).1
  rw [h.1] at hl
  have h2 := h.2 i d _ hi (List.getElem?_eq_getElem hl)
  have h3 := hs _ (List.getElem_mem hl)
  omega
/-! ### the head -/
def lHead : Dl.Env → Res EV := dLst (aCons (dC (.int 16)) (aCons (dC (.int 5)) (aCons (dC (.int 8)) (aCons (dC (.int 26)) (aCons (dC (.int 4)) (aCons (dC (.int 12)) (aCons (dC (.int 60)) (aCons (dC (.int 3)) (aCons (dC (.int 60)) (aCons (dC (.int 60)) (aCons (dC (.int 27)) aNil)))))))))))
abbrev r11 (q0 q1 q2 q3 q4 q5 q6 q7 q8 q9 q10 : Int) : D := .lst [.int q0, .int q1, .int q2, .int q3, .int q4, .int q5, .int q6, .int q7, .int q8, .int q9, .int q10]
theorem head_ok (h0 : ρ[0]? = some (.sh (.scr ns))) : ∃ q0 q1 q2 q3 q4 q5 q6 q7 q8 q9 q10 : Int, ((0 ≤ q0 ∧ q0 < 16) ∧ (0 ≤ q1 ∧ q1 < 5) ∧ (0 ≤ q2 ∧ q2 < 8) ∧ (0 ≤ q3 ∧ q3 < 26) ∧ (0 ≤ q4 ∧ q4 < 4) ∧ (0 ≤ q5 ∧ q5 < 12) ∧ (0 ≤ q10 ∧ q10 < 27)) ∧
    dgc 0 lHead ρ = .ok (.fr (([.int q0, .int q1, .int q2, .int q3, .int q4, .int q5, .int q6, .int q7, .int q8, .int q9, .int q10] : List D).map T.leaf)) := by
  obtain ⟨row, h1, h2⟩ := dgc_ok (k := 0) (L := lHead) (sizes := [16, 5, 8, 26, 4, 12, 60, 3, 60, 60, 27]) (by omega) h0 rfl (by
    intro s hs
    simp only [List.mem_cons, List.not_mem_nil, or_false] at hs
    omega) (by decide)
  have hl : row.length = 11 := h1.1
  match row, hl, h1, h2 with
  | [q0, q1, q2, q3, q4, q5, q6, q7, q8, q9, q10], _, h1, h2 => exact ⟨q0, q1, q2, q3, q4, q5, q6, q7, q8, q9, q10, ⟨h1.2 0 q0 16 rfl rfl, h1.2 1 q1 5 rfl rfl, h1.2 2 q2 8 rfl rfl, h1.2 3 q3 26 rfl rfl, h1.2 4 q4 4 rfl rfl, h1.2 5 q5 12 rfl rfl, h1.2 10 q10 27 rfl rfl⟩, h2⟩
variable {q0 q1 q2 q3 q4 q5 q6 q7 q8 q9 q10 : Int}
theorem r11_ix {i : Int} {d : D} (h : ρ[1]? = some (.sh (r11 q0 q1 q2 q3 q4 q5 q6 q7 q8 q9 q10))) (h0 : 0 ≤ i) (hd : ([.int q0, .int q1, .int q2, .int q3, .int q4, .int q5, .int q6, .int q7, .int q8, .int q9, .int q10] : List D)[i.toNat]? = some d) : d2 gIx (dVar 1) (dC (.int i)) ρ = .ok (.sh d) := by
  rw [x_d2, v_sh h, x_c, x_d2_ok]
  exact x_ixLz h0 hd
/-! ### names, rules -/
def eNames : Dl.Env → Res EV := dCall 2 F_l_strange [] (aCons (dCall 2 F_l_names [] (aCons (dSl (dVar 1) none (some (dC (.int 4)))) (aCons (d2 gAdd (dC (.int 1)) (d2 gIx (dVar 1) (dC (.int 4)))) aNil))) (aCons (d2 gIx (dVar 1) (dC (.int 10))) aNil))
theorem eNames_ok (h1 : ρ[1]? = some (.sh (r11 q0 q1 q2 q3 q4 q5 q6 q7 q8 q9 q10))) (k0 : 0 ≤ q0) (k1 : 0 ≤ q1 ∧ q1 < 5) (k2 : 0 ≤ q2 ∧ q2 < 8) (k3 : 0 ≤ q3 ∧ q3 < 26) (k4 : 0 ≤ q4 ∧ q4 < 4) (k10 : 0 ≤ q10) :
    ∃ names : List Str, names ≠ [] ∧ names.length ≤ 4 ∧ (∀ n ∈ names, PyData.strOk n = true) ∧ eNames ρ = .ok (.fr ((names.map D.str).map T.leaf)) := by
  obtain ⟨na, n1, n2, n3⟩ := names_ok (many := (1 + q4).toNat) k0 k1 k2 k3 (by omega)
  rw [Int.toNat_of_nonneg (by omega)] at n3
  have hne : na ≠ [] := fun e => by
    rw [e] at n1
    simp at n1
    omega
  obtain ⟨nb, m1, m2, m3⟩ := strange_ok (dg := q10) n2 hne (by omega) k10
  refine ⟨nb, fun e => ?_, by omega, m2, ?_⟩
  · rw [e] at m1
    simp at m1
    omega
  have hs : dSl (dVar 1) none (some (dC (.int 4))) ρ = .ok (.fr (([.int q0, .int q1, .int q2, .int q3] : List D).map T.leaf)) := by
    rw [x_sl, v_sh h1, x_sl_hi (k := 4) rfl, x_sl_lst]
    have : cutL ([.int q0, .int q1, .int q2, .int q3, .int q4, .int q5, .int q6, .int q7, .int q8, .int q9, .int q10] : List D) none (some (4 : Int)) = [.int q0, .int q1, .int q2, .int q3] := cut_take (k := 4)
    rw [this]
  have hc : dCall 2 F_l_names [] (aCons (dSl (dVar 1) none (some (dC (.int 4)))) (aCons (d2 gAdd (dC (.int 1)) (d2 gIx (dVar 1) (dC (.int 4)))) aNil)) ρ = .ok (.fr ((na.map D.str).map T.leaf)) := by
    rw [x_call, x_cons, hs, x_cons, x_d2, x_c, r11_ix h1 (by omega) rfl, x_d2_ok, x_add, x_nil, x_cons_ok, x_cons_ok, x_call_ok, callN_fs, x_leaves, n3]
  rw [eNames, x_call, x_cons, hc, x_cons, r11_ix h1 (by omega) rfl, x_nil, x_cons_ok, x_cons_ok, x_call_ok, callN_fs, x_leaves]
  exact m3
def L12 : List Int := [3, 4, 5, 2, 6, 7, 9, 1, 4, 0, 5, 3]
def eL12 : Dl.Env → Res EV := dLst (aCons (dC (.int 3)) (aCons (dC (.int 4)) (aCons (dC (.int 5)) (aCons (dC (.int 2)) (aCons (dC (.int 6)) (aCons (dC (.int 7)) (aCons (dC (.int 9)) (aCons (dC (.int 1)) (aCons (dC (.int 4)) (aCons (dC (.int 0)) (aCons (dC (.int 5)) (aCons (dC (.int 3)) aNil))))))))))))
def eRules : Dl.Env → Res EV := dCall 3 F_l_rules [] (aCons (dVar 0) (aCons (dVar 2) (aCons (d2 gIx eL12 (d2 gIx (dVar 1) (dC (.int 5)))) aNil)))
theorem lit_ix {L : List Int} {e f : Dl.Env → Res EV} {q : Int} (hL : e ρ = .ok (.fr ((L.map D.int).map T.leaf))) (hf : f ρ = .ok (.sh (.int q))) (hq : 0 ≤ q ∧ q < L.length) : ∃ v ∈ L, d2 gIx e f ρ = .ok (.sh (.int v)) := by
  have hi : q.toNat < L.length := by omega
  refine ⟨L[q.toNat]'hi, List.getElem_mem hi, ?_⟩
  rw [x_d2, hL, hf, x_d2_ok]
  exact x_ixFr hq.1 (by rw [List.getElem?_map, List.getElem?_eq_getElem hi, Option.map_some])
theorem eRules_ok {names : List Str} (h0 : ρ[0]? = some (.sh (.scr ns))) (h1 : ρ[1]? = some (.sh (r11 q0 q1 q2 q3 q4 q5 q6 q7 q8 q9 q10))) (h2 : ρ[2]? = some (.sh (nmD names))) (k5 : 0 ≤ q5 ∧ q5 < 12) (hn : ∀ n ∈ names, PyData.strOk n = true) (hne : names ≠ []) (hl : names.length ≤ 4) :
    ∃ rs : List Rl, rs.length ≤ 9 ∧ (∀ r ∈ rs, r.e.ok = true) ∧ eRules ρ = .ok (.fr ((rs.map Rl.d).map T.leaf)) := by
  obtain ⟨v, hv, e⟩ := lit_ix (ρ := ρ) (L := L12) (e := eL12) (f := d2 gIx (dVar 1) (dC (.int 5))) rfl (r11_ix h1 (by omega) rfl) (by show 0 ≤ q5 ∧ q5 < 12; exact k5)
  have hvb : ∀ v ∈ L12, 0 ≤ v ∧ v ≤ 9 := by decide
  have hv := hvb v hv
  obtain ⟨rs, r1, r2, r3⟩ := rules_ok (ns := ns) (names := names) (many := v.toNat) (by omega) hn hne (by omega)
  rw [Int.toNat_of_nonneg hv.1] at r3
  refine ⟨rs, by omega, r2, ?_⟩
  rw [eRules, x_call, x_cons, v_sh h0, x_cons, v_sh h2, x_cons, e, x_nil, x_cons_ok, x_cons_ok, x_cons_ok, x_call_ok, callN_sss, r3]
def lRow : Dl.Env → Res EV := d2 gAdd (d2 gMul (dLst (aCons (dC (.int 10)) aNil)) (dC (.int 8))) (dLst (aCons (dC (.int 9)) aNil))
theorem lRow_ok : lRow ρ = .ok (.fr ((([10, 10, 10, 10, 10, 10, 10, 10, 9] : List Int).map D.int).map T.leaf)) := rfl
theorem row_ok (h0 : ρ[0]? = some (.sh (.scr ns))) : ∃ g : List Int, (∀ s ∈ g, 0 ≤ s ∧ s < 10) ∧ g.length = 9 ∧ (∃ n : Int, g[8]? = some n ∧ 0 ≤ n ∧ n < 9) ∧ dgc 1 lRow ρ = .ok (.fr ((g.map D.int).map T.leaf)) := by
  obtain ⟨row, h1, h2⟩ := dgc_ok (k := 1) (L := lRow) (sizes := [10, 10, 10, 10, 10, 10, 10, 10, 9]) (by omega) h0 lRow_ok (by
    intro s hs
    simp only [List.mem_cons, List.not_mem_nil, or_false] at hs
    omega) (by decide)
  exact ⟨row, h1.all (by
    intro s hs
    simp only [List.mem_cons, List.not_mem_nil, or_false] at hs
    omega), h1.1, h1.at rfl, h2⟩
def eGood : Dl.Env → Res EV := dSl (dVar 4) none (some (d2 gIx (dVar 4) (dC (.int 8))))
theorem eGood_ok {g : List Int} {n : Int} (h4 : ρ[4]? = some (.sh (.lst (g.map D.int)))) (hn : g[8]? = some n) (h0 : 0 ≤ n) : eGood ρ = .ok (.fr (((g.take n.toNat).map D.int).map T.leaf)) := by
  have e : d2 gIx (dVar 4) (dC (.int 8)) ρ = .ok (.sh (.int n)) := by
    rw [x_d2, v_sh h4, x_c, x_d2_ok]
    exact x_ixLz (by omega) (by
      show (g.map D.int)[8]? = _
      rw [List.getElem?_map, hn]; rfl)
  rw [eGood, x_sl, v_sh h4, x_sl_hi e, x_sl_lst]
  have : cutL (g.map D.int) none (some n) = (g.map D.int).take n.toNat := by
    have := cut_take (xs := g.map D.int) (k := n.toNat)
    rwa [Int.toNat_of_nonneg h0] at this
  rw [this, ← List.map_take]
end
/-! ### a rule put in -/
def lTc : Dl.Env → Res Bool := dAndT (dT tBool (d2 gEq (d2 gIx (dVar 1) (dC (.int 7))) (dC (.int 0)))) (dT tBool (d2 gGt (dC1 gLen (aCons (dVar 3) aNil)) (dC (.int 0))))
def lT6 : Dl.Env → Res EV := d2 gMod (dC1 gInt (aCons (d2 gIx (dVar 1) (dC (.int 6))) aNil)) (dC1 gLen (aCons (dVar 3) aNil))
def lT7 : Dl.Env → Res EV := dTup (aCons (d2 gIx (d2 gIx (dVar 3) (dVar 6)) (dC (.int 0))) (aCons (d2 gIx (d2 gIx (dVar 3) (dVar 6)) (dC (.int 1))) (aCons (d2 gIx (dLst (aCons (d2 gIx (d2 gIx (dVar 3) (dVar 6)) (dC (.int 2))) (aCons (d2 gMod (dC1 gInt (aCons (d2 gIx (dVar 1) (dC (.int 8))) aNil)) (dC (.int 10))) aNil))) (d2 gMod (dC1 gInt (aCons (d2 gIx (dVar 1) (dC (.int 8))) aNil)) (dC (.int 2)))) aNil)))
def lT8 : Dl.Env → Res EV := d2 gAdd (d2 gAdd (dVar 6) (dC (.int 1))) (d2 gMod (dC1 gInt (aCons (d2 gIx (dVar 1) (dC (.int 9))) aNil)) (d2 Dl.gSub (dC1 gLen (aCons (dVar 3) aNil)) (dVar 6)))
def lT3 : Dl.Env → Res EV := d2 gAdd (d2 gAdd (dSl (dVar 3) none (some (dVar 8))) (dLst (aCons (dVar 7) aNil))) (dSl (dVar 3) (some (dVar 8)) none)
def lT : Stm := dIf lTc (dSeq (dSet 6 lT6) (dSeq (dSet 7 lT7) (dSeq (dSet 8 lT8) (dFrz 8 (dSet 3 lT3))))) dNext
def rlSlot (rs : List Rl) (x : SV) : Prop := x = .sh (.lst (rs.map Rl.d)) ∨ x = .own ((rs.map Rl.d).map T.leaf)
section
variable {ρ : Dl.Env} {q0 q1 q2 q3 q4 q5 q6 q7 q8 q9 q10 : Int} {rs : List Rl}
theorem len3 (h3 : ρ[3]? = some (.sh (.lst (rs.map Rl.d)))) : dC1 gLen (aCons (dVar 3) aNil) ρ = .ok (.sh (.int rs.length)) := by
  rw [x_c1, x_cons, v_sh h3, x_nil, x_cons_ok, x_c1_ok, x_len_lst, List.length_map]
theorem lTc_ok (h1 : ρ[1]? = some (.sh (r11 q0 q1 q2 q3 q4 q5 q6 q7 q8 q9 q10))) (h3 : ρ[3]? = some (.sh (.lst (rs.map Rl.d)))) : lTc ρ = .ok (decide (q7 = 0) && decide (0 < (rs.length : Int))) := by
  rw [lTc, x_andT, x_t, x_d2, r11_ix h1 (by omega) rfl, x_c, x_d2_ok, x_eqI, x_t_ok, x_tBool]
  by_cases c : q7 = 0
  · rw [decide_eq_true c, x_andT_t, x_t, x_d2, len3 h3, x_c, x_d2_ok, x_gt, x_t_ok, x_tBool, Bool.true_and]
  · rw [decide_eq_false c, x_andT_f, Bool.false_and]
theorem lT6_ok (h1 : ρ[1]? = some (.sh (r11 q0 q1 q2 q3 q4 q5 q6 q7 q8 q9 q10))) (h3 : ρ[3]? = some (.sh (.lst (rs.map Rl.d)))) (hp : 0 < (rs.length : Int)) : ∃ k : Nat, k < rs.length ∧ lT6 ρ = .ok (.sh (.int k)) := by
  have hj1 : 0 ≤ q6 % (rs.length : Int) := Int.emod_nonneg _ (by omega)
  have hj2 : q6 % (rs.length : Int) < rs.length := Int.emod_lt_of_pos _ (by omega)
  refine ⟨(q6 % (rs.length : Int)).toNat, by omega, ?_⟩
  rw [lT6, x_d2, x_c1, x_cons, r11_ix h1 (by omega) rfl, x_nil, x_cons_ok, x_c1_ok, x_int1, len3 h3, x_d2_ok, x_mod hp, Int.toNat_of_nonneg hj1]
theorem at3 {k : Nat} (h3 : ρ[3]? = some (.sh (.lst (rs.map Rl.d)))) (h6 : ρ[6]? = some (.sh (.int k))) (hk : k < rs.length) : d2 gIx (dVar 3) (dVar 6) ρ = .ok (.sh (rs[k]'hk).d) := by
  rw [x_d2, v_sh h3, v_sh h6, x_d2_ok]
  exact x_ixL (by rw [List.getElem?_map, List.getElem?_eq_getElem hk, Option.map_some])
theorem lT7_ok {k : Nat} (h1 : ρ[1]? = some (.sh (r11 q0 q1 q2 q3 q4 q5 q6 q7 q8 q9 q10))) (h3 : ρ[3]? = some (.sh (.lst (rs.map Rl.d)))) (h6 : ρ[6]? = some (.sh (.int k))) (hk : k < rs.length) : ∃ x : Int, lT7 ρ = .ok (.sh (Rl.d ⟨(rs[k]'hk).s, (rs[k]'hk).e, x⟩)) := by
  have e3 := at3 h3 h6 hk
  generalize rs[k]'hk = r at *
  have em : ∀ m : Int, 0 < m → d2 gMod (dC1 gInt (aCons (d2 gIx (dVar 1) (dC (.int 8))) aNil)) (dC (.int m)) ρ = .ok (.sh (.int (q8 % m))) := fun m hm => by
    rw [x_d2, x_c1, x_cons, r11_ix h1 (by omega) rfl, x_nil, x_cons_ok, x_c1_ok, x_int1, x_c, x_d2_ok, x_mod hm]
  have hl : dLst (aCons (d2 gIx (d2 gIx (dVar 3) (dVar 6)) (dC (.int 2))) (aCons (d2 gMod (dC1 gInt (aCons (d2 gIx (dVar 1) (dC (.int 8))) aNil)) (dC (.int 10))) aNil)) ρ = .ok (.fr ((([r.a, q8 % 10] : List Int).map D.int).map T.leaf)) := by
    rw [x_lst, x_cons, x_d2, e3, x_c, x_d2_ok, rl2, x_cons, em 10 (by omega), x_nil]
    rfl
  obtain ⟨v, _, e⟩ := lit_ix (ρ := ρ) (L := [r.a, q8 % 10]) hl (em 2 (by omega)) (by show 0 ≤ q8 % 2 ∧ q8 % 2 < 2; omega)
  refine ⟨v, ?_⟩
  rw [lT7, x_tup, x_cons, x_d2, e3, x_c, x_d2_ok, rl0, x_cons, x_d2, e3, x_c, x_d2_ok, rl1, x_cons, e, x_nil]
  rfl
theorem lT8_ok {k : Nat} (h1 : ρ[1]? = some (.sh (r11 q0 q1 q2 q3 q4 q5 q6 q7 q8 q9 q10))) (h3 : ρ[3]? = some (.sh (.lst (rs.map Rl.d)))) (h6 : ρ[6]? = some (.sh (.int k))) (hk : k < rs.length) : ∃ m : Nat, lT8 ρ = .ok (.sh (.int m)) := by
  have hj1 : 0 ≤ q9 % ((rs.length : Int) - k) := Int.emod_nonneg _ (by omega)
  refine ⟨(k + 1 + q9 % ((rs.length : Int) - k)).toNat, ?_⟩
  rw [lT8, x_d2, x_d2, v_sh h6, x_c, x_d2_ok, x_add, x_d2, x_c1, x_cons, r11_ix h1 (by omega) rfl, x_nil, x_cons_ok, x_c1_ok, x_int1, x_d2, len3 h3, v_sh h6, x_d2_ok, x_sub, x_d2_ok, x_mod (by omega), x_d2_ok, x_add, Int.toNat_of_nonneg (by omega)]
theorem add_fr {ds es : List D} (h : ds.length + es.length ≤ 16777216) : gAdd (.fr (ds.map T.leaf)) (.fr (es.map T.leaf)) = .ok (.fr ((ds ++ es).map T.leaf)) := by
  simp only [gAdd, EV.lvs, toDs_leaves, h, if_true]
theorem lT3_ok {m : Nat} {r : Rl} (h3 : ρ[3]? = some (.sh (.lst (rs.map Rl.d)))) (h7 : ρ[7]? = some (.sh r.d)) (h8 : ρ[8]? = some (.sh (.int m))) (hl : rs.length ≤ 1000) : lT3 ρ = .ok (.fr (((rs.take m ++ [r] ++ rs.drop m).map Rl.d).map T.leaf)) := by
  have s1 : dSl (dVar 3) none (some (dVar 8)) ρ = .ok (.fr (((rs.take m).map Rl.d).map T.leaf)) := by
    rw [x_sl, v_sh h3, x_sl_hi (v_sh h8), x_sl_lst, cut_take, ← List.map_take]
  have s2 : dSl (dVar 3) (some (dVar 8)) none ρ = .ok (.fr (((rs.drop m).map Rl.d).map T.leaf)) := by
    rw [x_sl, v_sh h3, x_sl_lo (v_sh h8), x_sl_lst, cut_drop, ← List.map_drop]
  have s3 : dLst (aCons (dVar 7) aNil) ρ = .ok (.fr ((([r] : List Rl).map Rl.d).map T.leaf)) := by
    rw [x_lst, x_cons, v_sh h7, x_nil]
    rfl
  rw [lT3, x_d2, x_d2, s1, s3, x_d2_ok, add_fr (by simp; omega), s2, x_d2_ok, add_fr (by simp; omega), ← List.map_append, ← List.map_append]
theorem lT_ok (h1 : ρ[1]? = some (.sh (r11 q0 q1 q2 q3 q4 q5 q6 q7 q8 q9 q10))) (h3 : ρ[3]? = some (.sh (.lst (rs.map Rl.d)))) (h6 : ρ[6]? = some .no) (h7 : ρ[7]? = some .no) (h8 : ρ[8]? = some .no) (hr : ∀ r ∈ rs, r.e.ok = true) (hl : rs.length ≤ 900) :
    ∃ (rs' : List Rl) (x3 b6 b7 b8 : SV), rlSlot rs' x3 ∧ b8.free = true ∧ (∀ r ∈ rs', r.e.ok = true) ∧ rs'.length ≤ rs.length + 1 ∧ lT ρ = .ok (.nx ((((ρ.set 6 b6).set 7 b7).set 8 b8).set 3 x3)) := by
  rw [lT, x_if, lTc_ok h1 h3]
  by_cases c : (decide (q7 = 0) && decide (0 < (rs.length : Int))) = true
  · rw [c, x_if_t]
    have hp : 0 < (rs.length : Int) := by
      rw [Bool.and_eq_true, decide_eq_true_eq, decide_eq_true_eq] at c
      exact c.2
    obtain ⟨k, hk, e6⟩ := lT6_ok h1 h3 hp
    have g6 := st_sh0 (g := dSeq (dSet 7 lT7) (dSeq (dSet 8 lT8) (dFrz 8 (dSet 3 lT3)))) e6 h6 rfl
    rw [g6]
    have h6' := get_set (x := .sh (.int k)) h6
    obtain ⟨x, e7⟩ := lT7_ok (ρ := ρ.set 6 (.sh (.int k))) (by rw [get_ne (by decide)]; exact h1) (by rw [get_ne (by decide)]; exact h3) h6' hk
    have h7' : (ρ.set 6 (.sh (.int k)))[7]? = some .no := by rw [get_ne (by decide)]; exact h7
    rw [st_sh0 e7 h7' rfl]
    have hre : (rs[k]'hk).e.ok = true := hr _ (List.getElem_mem hk)
    generalize hr0 : (⟨(rs[k]'hk).s, (rs[k]'hk).e, x⟩ : Rl) = r0 at *
    have hr0e : r0.e.ok = true := by rw [← hr0]; exact hre
    have g7 := get_set (x := .sh r0.d) h7'
    obtain ⟨m, e8⟩ := lT8_ok (ρ := (ρ.set 6 (.sh (.int k))).set 7 (.sh r0.d)) (by rw [get_ne (by decide), get_ne (by decide)]; exact h1) (by rw [get_ne (by decide), get_ne (by decide)]; exact h3) (by rw [get_ne (by decide)]; exact h6') hk
    have h8' : ((ρ.set 6 (.sh (.int k))).set 7 (.sh r0.d))[8]? = some .no := by rw [get_ne (by decide), get_ne (by decide)]; exact h8
    rw [st_sh e8 h8' rfl]
    have e3 := lT3_ok (ρ := ((ρ.set 6 (.sh (.int k))).set 7 (.sh r0.d)).set 8 (.sh (.int m))) (rs := rs) (m := m) (r := r0) (by rw [get_ne (by decide), get_ne (by decide), get_ne (by decide)]; exact h3) (by rw [get_ne (by decide)]; exact g7) (get_set h8') (by omega)
    have h3' : (((ρ.set 6 (.sh (.int k))).set 7 (.sh r0.d)).set 8 (.sh (.int m)))[3]? = some (.sh (.lst (rs.map Rl.d))) := by rw [get_ne (by decide), get_ne (by decide), get_ne (by decide)]; exact h3
    refine ⟨rs.take m ++ [r0] ++ rs.drop m, _, .sh (.int k), .sh r0.d, .sh (.int m), .inr rfl, (rfl : SV.free (.sh (.int m)) = true), ?_, ?_, ?_⟩
    · intro r h
      rcases List.mem_append.mp h with h | h
      · rcases List.mem_append.mp h with h | h
        · exact hr r (List.mem_of_mem_take h)
        · rw [List.mem_singleton.mp h]; exact hr0e
      · exact hr r (List.mem_of_mem_drop h)
    · simp
      omega
    · rw [x_set, e3, x_set_fr, Dl.putK, put_at h3' rfl]
  · rw [Bool.not_eq_true] at c
    rw [c, x_if_f]
    refine ⟨rs, .sh (.lst (rs.map Rl.d)), .no, .no, .no, .inl rfl, rfl, hr, by omega, ?_⟩
    have hs : ∀ {i : Nat} {z : SV} {σ : Dl.Env}, σ[i]? = some z → σ.set i z = σ := fun {i z σ} h => by
      obtain ⟨hi, e⟩ := List.getElem?_eq_some_iff.mp h
      rw [← e]
      exact List.set_getElem_self hi
    rw [hs h6, hs h7, hs h8, hs h3]
    rfl
end
end K75
set_option Elab.async false
set_option linter.all false
set_option maxRecDepth 100000
namespace Dl
open PySem PySem.Spec PyProof.Rows L2
theorem cutL_map {α β : Type} {f : α → β} {xs : List α} {lo hi : Option Int} : cutL (xs.map f) lo hi = (cutL xs lo hi).map f := by
  simp [cutL, List.map_take, List.map_drop]
theorem cutL_len {α : Type} {xs : List α} {lo hi : Option Int} : (cutL xs lo hi).length ≤ xs.length := by
  simp only [cutL, List.length_take, List.length_drop]
  omega
end Dl
namespace K75
open PySem PySem.Spec PyProof.Rows L2 Dl
section
variable {ρ : Dl.Env} {rs : List Rl} {gd : List Int} {names : List Str} {ms : List Mv} {ns : List Int}
/-! ### double, bad, single -/
def dupD (rs : List Rl) : D := match dupAt [] 0 rs with
  | some k => .int k
  | none => .non
def eDbl : Dl.Env → Res EV := dCall 1 F_l_double [] (aCons (dVar 3) aNil)
theorem eDbl_ok (h3 : ρ[3]? = some (.sh (.lst (rs.map Rl.d)))) (hr : ∀ r ∈ rs, r.e.ok = true) (hl : rs.length ≤ 900) : eDbl ρ = .ok (.sh (dupD rs)) := by
  rw [eDbl, x_call, x_cons, v_sh h3, x_nil, x_cons_ok, x_call_ok, callN_s, double_ok hr (by omega)]
  unfold dupD
  cases dupAt [] 0 rs <;> rfl
def eL5 : Dl.Env → Res EV := dC1 gList (aCons (dVar 5) aNil)
theorem eL5_ok (h5 : ρ[5]? = some (.sh (.lst (gd.map D.int)))) : eL5 ρ = .ok (.fr ((gd.map D.int).map T.leaf)) := by
  rw [eL5, x_c1, x_cons, v_sh h5, x_nil, x_cons_ok, x_c1_ok, x_list_lst]
def lBad : Stm := dIf (dT tBool (dNotN (dVar 9)))
  (dSeq (dIf (dNotT (dT tTru (dCall 3 F_l_bad_rule [] (aCons (dVar 3) (aCons eL5 (aCons (dVar 9) aNil))))))
  (dRet (dC (.bl false)))
  dNext)
  (dSet 3 (dCall 1 F_l_single [] (aCons (dVar 3) aNil))))
  dNext
theorem set_same {i : Nat} {z : SV} {σ : Dl.Env} (h : σ[i]? = some z) : σ.set i z = σ := by
  obtain ⟨hi, e⟩ := List.getElem?_eq_some_iff.mp h
  rw [← e]
  exact List.set_getElem_self hi
theorem lBad_ok (h3 : ρ[3]? = some (.sh (.lst (rs.map Rl.d)))) (h5 : ρ[5]? = some (.sh (.lst (gd.map D.int)))) (h9 : ρ[9]? = some (.sh (dupD rs))) (hr : ∀ r ∈ rs, r.e.ok = true) (hl : rs.length ≤ 900) (hg : gd.length < 64) :
    ∃ (kept : List Rl) (x3 : SV), rlSlot kept x3 ∧ dupAt [] 0 kept = none ∧ (∀ r ∈ kept, r.e.ok = true) ∧ kept.length ≤ rs.length ∧ lBad ρ = .ok (.nx (ρ.set 3 x3)) := by
  cases hd : dupAt [] 0 rs with
  | none =>
    have e9 : dupD rs = .non := by unfold dupD; rw [hd]
    rw [e9] at h9
    refine ⟨rs, .sh (.lst (rs.map Rl.d)), .inl rfl, hd, hr, by omega, ?_⟩
    rw [lBad, x_if, x_t, x_notN, v_sh h9, x_notN_non, x_t_ok, x_tBool, x_if_f, x_next, set_same h3]
  | some k =>
    have e9 : dupD rs = .int k := by unfold dupD; rw [hd]
    rw [e9] at h9
    obtain ⟨kept, q1, q2, q3, q4⟩ := single_ok (rs := rs) (Q := fun _ => True) (fun r h => ⟨hr r h, trivial⟩) (by omega)
    refine ⟨kept, .own ((kept.map Rl.d).map T.leaf), .inr rfl, q1, fun r h => (q2 r h).1, by omega, ?_⟩
    have hb := bad_ok (gd := gd) (by omega) hg hd
    have hc : dCall 3 F_l_bad_rule [] (aCons (dVar 3) (aCons eL5 (aCons (dVar 9) aNil))) ρ = .ok (.sh (.bl true)) := by
      rw [x_call, x_cons, v_sh h3, x_cons, eL5_ok h5, x_cons, v_sh h9, x_nil, x_cons_ok, x_cons_ok, x_cons_ok, x_call_ok, callN_sfs, x_leaves, hb]
    rw [lBad, x_if, x_t, x_notN, v_sh h9, x_notN_int, x_t_ok, x_tBool, x_if_t, x_seq, x_if, x_notT, x_t, hc, x_t_ok, x_tTru, x_notT_ok, Bool.not_true, x_if_f, x_next, x_seq_nx, x_set, x_call, x_cons, v_sh h3, x_nil, x_cons_ok, x_call_ok, callN_s, q4, x_set_fr, Dl.putK, put_at h3 rfl]
/-! ### moves -/
def lBig : Dl.Env → Res EV := d2 gAdd (dLst (aCons (dC (.int 16)) aNil)) (d2 gMul (dLst (aCons (dC (.int 60)) aNil)) (dC (.int 60)))
theorem lBig_ok : lBig ρ = .ok (.fr (((16 :: List.replicate 60 60 : List Int).map D.int).map T.leaf)) := rfl
theorem big_ok (h0 : ρ[0]? = some (.sh (.scr ns))) : ∃ row : List Int, row.length = 61 ∧ (∃ n : Int, row[0]? = some n ∧ 0 ≤ n ∧ n < 16) ∧ dgc 11 lBig ρ = .ok (.fr ((row.map D.int).map T.leaf)) := by
  obtain ⟨row, h1, h2⟩ := dgc_ok (k := 11) (L := lBig) (sizes := 16 :: List.replicate 60 60) (by omega) h0 lBig_ok (by
    intro s hs
    rcases List.mem_cons.mp hs with rfl | hs
    · omega
    · rw [(List.mem_replicate.mp hs).2]; omega) (by decide)
  exact ⟨row, h1.1, h1.at rfl, h2⟩
def L16 : List Int := [4, 2, 3, 6, 8, 10, 1, 12, 16, 20, 5, 24, 30, 0, 40, 60]
def eL16 : Dl.Env → Res EV := dLst (aCons (dC (.int 4)) (aCons (dC (.int 2)) (aCons (dC (.int 3)) (aCons (dC (.int 6)) (aCons (dC (.int 8)) (aCons (dC (.int 10)) (aCons (dC (.int 1)) (aCons (dC (.int 12)) (aCons (dC (.int 16)) (aCons (dC (.int 20)) (aCons (dC (.int 5)) (aCons (dC (.int 24)) (aCons (dC (.int 30)) (aCons (dC (.int 0)) (aCons (dC (.int 40)) (aCons (dC (.int 60)) aNil))))))))))))))))
def eMany : Dl.Env → Res EV := d2 gIx eL16 (d2 gIx (dVar 10) (dC (.int 0)))
theorem eMany_ok {row : List Int} {n : Int} (h10 : ρ[10]? = some (.sh (.lst (row.map D.int)))) (hn : row[0]? = some n) (hb : 0 ≤ n ∧ n < 16) : ∃ v : Int, eMany ρ = .ok (.sh (.int v)) := by
  have e : d2 gIx (dVar 10) (dC (.int 0)) ρ = .ok (.sh (.int n)) := by
    rw [x_d2, v_sh h10, x_c, x_d2_ok]
    exact x_ixLz (by omega) (by
      show (row.map D.int)[0]? = _
      rw [List.getElem?_map, hn]; rfl)
  obtain ⟨v, _, h⟩ := lit_ix (ρ := ρ) (L := L16) (e := eL16) (f := d2 gIx (dVar 10) (dC (.int 0))) rfl e hb
  exact ⟨v, h⟩
def eMoves : Dl.Env → Res EV := dCall 3 F_l_drawn_moves [] (aCons (dVar 2) (aCons (dVar 3) (aCons (dSl (dVar 10) (some (dC (.int 1))) (some (d2 gAdd (dC (.int 1)) (dVar 11)))) aNil)))
theorem eMoves_ok {row : List Int} {v : Int} (h2 : ρ[2]? = some (.sh (nmD names))) (h3 : ρ[3]? = some (.sh (.lst (rs.map Rl.d)))) (h10 : ρ[10]? = some (.sh (.lst (row.map D.int)))) (h11 : ρ[11]? = some (.sh (.int v))) (hrow : row.length = 61) (hn : ∀ n ∈ names, PyData.strOk n = true) (hne : names ≠ []) (hr : ∀ r ∈ rs, r.e.ok = true) (hl : rs.length ≤ 900) :
    ∃ ms : List Mv, ms.length ≤ 61 ∧ (∀ m ∈ ms, m.e.ok = true) ∧ eMoves ρ = .ok (.fr ((ms.map Mv.d).map T.leaf)) := by
  have hlen := cutL_len (xs := row) (lo := some 1) (hi := some (1 + v))
  obtain ⟨ms, m1, m2, m3⟩ := drawn_ok (ys := cutL row (some 1) (some (1 + v))) hn hne hr (by omega) (by omega)
  refine ⟨ms, by omega, m2, ?_⟩
  have hs : dSl (dVar 10) (some (dC (.int 1))) (some (d2 gAdd (dC (.int 1)) (dVar 11))) ρ = .ok (.fr (((cutL row (some 1) (some (1 + v))).map D.int).map T.leaf)) := by
    have ea : d2 gAdd (dC (.int 1)) (dVar 11) ρ = .ok (.sh (.int (1 + v))) := by rw [x_d2, x_c, v_sh h11, x_d2_ok, x_add]
    rw [← cutL_map, ← x_sl_lst]
    simp only [dSl, v_sh h10, x_c, ea, Res.ok_bind']
  rw [eMoves, x_call, x_cons, v_sh h2, x_cons, v_sh h3, x_cons, hs, x_nil, x_cons_ok, x_cons_ok, x_cons_ok, x_call_ok, callN_ssf, x_leaves, m3]
/-! ### the watch -/
def eHand : Dl.Env → Res EV := dLc (iA (dVar 3)) (bName 16) dYes (hdE 16) [16]
theorem eHand_ok {y : SV} (h3 : ρ[3]? = some (.sh (.lst (rs.map Rl.d)))) (h16 : ρ[16]? = some y) (hl : rs.length ≤ 900) : eHand ρ = .ok (.fr (rs.map Rl.t)) := by
  have hi : iA (dVar 3) ρ = .ok (rs.map Rl.d) := by rw [x_iA, v_sh h3, x_wK, x_walk_lst]
  rw [eHand, x_lc, x_wipe1, hi, x_lcT_of (k := Rl.t) (by omega) (fun r hr => ⟨_, _, bn h16, rfl, hdE_ok (get_set h16), rfl⟩)]
theorem rls_ll : ∀ {rs : List Rl}, D.lls (rs.map Rl.d) = true
  | [] => rfl
  | r :: rs => by
    rw [List.map_cons, D.lls, rls_ll]
    obtain ⟨s, e, a⟩ := r
    cases e <;> rfl
theorem ints_ll : ∀ {g : List Int}, D.lls (g.map D.int) = true
  | [] => rfl
  | n :: g => by
    rw [List.map_cons, D.lls, ints_ll]
    rfl
theorem tbl_ll : ∀ {rs : List Rl}, D.llk (tbl rs) = true
  | [] => rfl
  | r :: rs => by
    have ih := tbl_ll (rs := rs)
    unfold tbl at ih
    rw [tbl, List.map_cons, D.llk, ih]
    rfl
theorem wobj_ll {g : List Int} : (wobj rs g).ll = true := by
  rw [wobj, D.ll, D.llf, D.llf, D.llf, D.llf, D.ll, D.ll, D.ll, rls_ll, ints_ll, tbl_ll]
  rfl
def eMake : Dl.Env → Res EV := dCall 2 (mkF "Watch" F_Watch___init__) [] (aCons (dVar 13) (aCons (dVar 14) aNil))
theorem eMake_ok (h13 : ρ[13]? = some (.own (rs.map Rl.t))) (h14 : ρ[14]? = some (.own ((gd.map D.int).map T.leaf))) (hl : rs.length ≤ 900) (hgl : gd.length < 64) (hg : ∀ s ∈ gd, 0 ≤ s ∧ s < 10) (hd : dupAt [] 0 rs = none) : eMake ρ = .ok (.sh (wobj rs (asc gd))) := by
  have hm := made_ok (rs := rs) (gd := gd) (by omega) hgl
  rw [hd, sort_asc hg] at hm
  rw [eMake, x_call, x_cons, v_own h13, x_cons, v_own h14, x_nil, x_cons_ok, x_cons_ok, x_call_ok]
  refine callN_bo rfl ?_ wobj_ll
  show mkF "Watch" F_Watch___init__ [.lst (T.toDs (rs.map Rl.t)), .lst (T.toDs ((gd.map D.int).map T.leaf))] = _
  rw [ts_h, x_leaves, hm]
def lKept : Stm := dIf (dOrT (dT tBool (d2 gNe (dVar 13) eHand)) (dT tBool (d2 gNe (dVar 14) eL5))) (dRet (dC (.bl false))) dNext
theorem h_fine {r : Rl} (h : r.e.ok = true) : r.h.fine = true := by
  have := its_fine h
  rw [D.fine] at this
  simp [Rl.h, D.fine, D.fines, this]
theorem hs_fine : ∀ {rs : List Rl}, (∀ r ∈ rs, r.e.ok = true) → D.fines (rs.map Rl.h) = true
  | [], _ => rfl
  | r :: rs, h => by
    rw [List.map_cons, D.fines, h_fine (h r List.mem_cons_self), hs_fine fun x hx => h x (List.mem_cons_of_mem _ hx)]
    rfl
theorem ints_fine : ∀ {g : List Int}, D.fines (g.map D.int) = true
  | [] => rfl
  | n :: g => by
    rw [List.map_cons, D.fines, ints_fine]
    rfl
theorem lKept_ok {y : SV} (h3 : ρ[3]? = some (.sh (.lst (rs.map Rl.d)))) (h5 : ρ[5]? = some (.sh (.lst (gd.map D.int)))) (h13 : ρ[13]? = some (.own (rs.map Rl.t))) (h14 : ρ[14]? = some (.own ((gd.map D.int).map T.leaf))) (h16 : ρ[16]? = some y) (hr : ∀ r ∈ rs, r.e.ok = true) (hl : rs.length ≤ 900) : lKept ρ = .ok (.nx ρ) := by
  have n1 : gNe (.bo (rs.map Rl.t)) (.fr (rs.map Rl.t)) = .ok (.sh (.bl false)) := by
    have hd : D.deps (rs.map Rl.h) ≤ 2 := deps_map fun r _ => dep_h r
    rw [gNe_d, x_d_bo, x_d_fr, ts_h]
    exact x_ne_t rfl (by rw [D.fine]; exact hs_fine hr) (by rw [D.dep]; omega)
  have n2 : gNe (.bo ((gd.map D.int).map T.leaf)) (.fr ((gd.map D.int).map T.leaf)) = .ok (.sh (.bl false)) := by
    have hd : D.deps (gd.map D.int) ≤ 0 := deps_map fun r _ => by simp [D.dep]
    rw [gNe_d, x_d_bo, x_d_fr, x_leaves]
    exact x_ne_t rfl (by rw [D.fine]; exact ints_fine) (by rw [D.dep]; omega)
  rw [lKept, x_if, x_orT, x_t, x_d2, v_own h13, eHand_ok h3 h16 hl, x_d2_ok, n1, x_t_ok, x_tBool, x_orT_f, x_t, x_d2, v_own h14, eL5_ok h5, x_d2_ok, n2, x_t_ok, x_tBool, x_if_f, x_next]
def rev (r : Rl) : Rl := ⟨r.s, r.e, 9 - r.a⟩
theorem put_rev : ∀ rs : List Rl, putLeaves 2 (fun n => some (9 - n)) (rs.map Rl.t) = some ((rs.map rev).map Rl.t)
  | [] => rfl
  | r :: rs => by
    rw [List.map_cons, putLeaves, put_rev rs]
    rfl
theorem forIdx_ok {y : SV} (h13 : ρ[13]? = some (.own (rs.map Rl.t))) (h16 : ρ[16]? = some y) (hy : y.free = true) : dForIdx 13 16 2 (fun n => some (9 - n)) ρ = .ok (.nx ((ρ.set 16 .no).set 13 (.own ((rs.map rev).map Rl.t)))) := by
  unfold dForIdx
  rw [h13]
  simp only [put_at h16 hy, put_rev]
  rfl
def eNew : Dl.Env → Res EV := dLst (aCons (dC (.int 0)) (aCons (dLst (aCons (dC (.str "in")) (aCons (d2 gIx (dVar 2) (dC (.int 0))) aNil))) (aCons (dC (.int 5)) aNil)))
theorem first2 (h2 : ρ[2]? = some (.sh (nmD names))) (hne : names ≠ []) : ∃ a, names[0]? = some a ∧ d2 gIx (dVar 2) (dC (.int 0)) ρ = .ok (.sh (.str a)) := by
  have hp : 0 < names.length := List.length_pos_iff.mpr hne
  have ha : names[0]? = some (names[0]'hp) := List.getElem?_eq_getElem hp
  exact ⟨_, ha, by rw [x_d2, v_sh h2, x_c, x_d2_ok, x_first ha]⟩
theorem last2 (h2 : ρ[2]? = some (.sh (nmD names))) (hne : names ≠ []) : ∃ b ∈ names, d2 gIx (dVar 2) (dNeg (dC (.int 1))) ρ = .ok (.sh (.str b)) := by
  have hb : names.getLast? = some (names.getLast hne) := List.getLast?_eq_some_getLast hne
  refine ⟨_, List.getLast_mem hne, ?_⟩
  have e : dNeg (dC (.int 1)) ρ = .ok (.sh (.int (-1))) := rfl
  rw [x_d2, v_sh h2, e, x_d2_ok, x_last hb]
theorem eNew_ok (h2 : ρ[2]? = some (.sh (nmD names))) (hne : names ≠ []) : ∃ us, eNew ρ = .ok (.fr us) := by
  obtain ⟨a, _, e⟩ := first2 h2 hne
  refine ⟨[.leaf (.int 0), .node [.leaf (.str "in"), .leaf (.str a)], .leaf (.int 5)], ?_⟩
  rw [eNew, x_lst, x_cons, x_c, x_cons, x_lst, x_cons, x_c, x_cons, e, x_nil, x_cons_ok, x_cons_ok, x_lst2, x_cons, x_c, x_nil, x_cons_ok, x_cons_ok, x_cons_ok, x_lst3]
/-! ### the watch is right -/
theorem asc_rest : asc (rest gd) = rest gd := by
  unfold asc
  unfold rest
  refine List.filter_congr fun s hs => ?_
  simp [hs]
theorem rest_rest : rest (rest gd) = asc gd := by
  unfold asc
  unfold rest
  refine List.filter_congr fun s hs => ?_
  simp [hs]
theorem rest_lt : ∀ s ∈ rest gd, 0 ≤ s ∧ s < 10 := by
  intro s hs
  obtain ⟨i, hi, rfl⟩ := List.mem_map.mp (List.mem_filter.mp hs).1
  rw [List.mem_range] at hi
  omega
structure Okay (rs : List Rl) (gd : List Int) (names : List Str) (ms : List Mv) : Prop where
  r : ∀ r ∈ rs, r.e.ok = true
  l : rs.length ≤ 900
  d : dupAt [] 0 rs = none
  n : ∀ n ∈ names, PyData.strOk n = true
  ne : names ≠ []
  nl : names.length ≤ 4
  m : ∀ m ∈ ms, m.e.ok = true
  ml : ms.length ≤ 61
  g : ∀ s ∈ gd, 0 ≤ s ∧ s < 10
  gl : gd.length < 64
theorem Okay.rest (o : Okay rs gd names ms) : Okay rs (K75.rest gd) names ms := ⟨o.r, o.l, o.d, o.n, o.ne, o.nl, o.m, o.ml, rest_lt, by have := @rest_len gd; omega⟩
def cR (W : Dl.Env → Res EV) (j : Nat) : Dl.Env → Res EV := dCall 5 F_l_watch_right [] (aCons W (aCons (dVar 3) (aCons (dVar j) (aCons (dVar 2) (aCons (dVar 12) aNil)))))
theorem cR_ok {W : Dl.Env → Res EV} {j : Nat} (o : Okay rs gd names ms) (hW : W ρ = .ok (.sh (wobj rs (asc gd)))) (h3 : ρ[3]? = some (.sh (.lst (rs.map Rl.d)))) (hj : ρ[j]? = some (.sh (.lst (gd.map D.int)))) (h2 : ρ[2]? = some (.sh (nmD names))) (h12 : ρ[12]? = some (.sh (.lst (ms.map Mv.d)))) : cR W j ρ = .ok (.sh (.bl true)) := by
  have h := right_ok o.r (by have := o.l; omega) o.n (by have := o.nl; omega) o.m (by have := o.ml; omega) o.g
  rw [cR, x_call, x_cons, hW, x_cons, v_sh h3, x_cons, v_sh hj, x_cons, v_sh h2, x_cons, v_sh h12, x_nil, x_cons_ok, x_cons_ok, x_cons_ok, x_cons_ok, x_cons_ok, x_call_ok, callN_sssss, h]
def lIf (c : Dl.Env → Res EV) : Stm := dIf (dNotT (dT tTru c)) (dRet (dC (.bl false))) dNext
theorem lIf_ok {c : Dl.Env → Res EV} (h : c ρ = .ok (.sh (.bl true))) : lIf c ρ = .ok (.nx ρ) := by
  rw [lIf, x_if, x_notT, x_t, h, x_t_ok, x_tTru, x_notT_ok, Bool.not_true, x_if_f, x_next]
def eInv (f : Dl.Env → Res EV) : Dl.Env → Res EV := dSpec "Watch" 1 F_Watch___invert__ [] f
theorem eInv_ok {f : Dl.Env → Res EV} (hf : f ρ = .ok (.sh (wobj rs (asc gd)))) (hd : dupAt [] 0 rs = none) (hl : rs.length ≤ 900) : eInv f ρ = .ok (.sh (wobj rs (asc (rest gd)))) := by
  have hi := invert_ok (gd := gd) hd (by omega)
  have hs : spK "Watch" 1 F_Watch___invert__ [] (.ok (.sh (wobj rs (asc gd)))) = callN 1 F_Watch___invert__ [] [.sh (wobj rs (asc gd))] := x_spec_ok
  rw [eInv, x_spec, hf, hs, callN_s, hi, asc_rest]
def eRest : Dl.Env → Res EV := dLc (iR1 (dC (.int 10))) (bName 22) (dT tBool (d2 gNotIn (dVar 22) (dVar 5))) (dVar 22) [22]
theorem eRest_ok {y : SV} (h5 : ρ[5]? = some (.sh (.lst (gd.map D.int)))) (h22 : ρ[22]? = some y) : eRest ρ = .ok (.fr (((rest gd).map D.int).map T.leaf)) := by
  have hr : iR1 (dC (.int 10)) ρ = .ok (rangeD 0 10) := x_rng (n := 10) (by omega) rfl
  rw [eRest, x_lc, x_wipe1, hr, lc_ints (P := fun s => !decide (s ∈ gd)) (by omega)]
  · rfl
  · intro i hi
    refine ⟨_, bn h22, ?_, v_sh (get_set h22)⟩
    have h5' : (ρ.set 22 (.sh (.int i)))[5]? = some (.sh (.lst (gd.map D.int))) := by rw [get_ne (by decide)]; exact h5
    rw [x_t, x_d2, v_sh (get_set h22), v_sh h5', x_d2_ok, ninIL, x_t_ok, x_tBool]
/-! ### never and follows -/
def l60 : Dl.Env → Res EV := dLst (aCons (dC (.int 60)) (aCons (dC (.int 60)) aNil))
theorem pick_ok (h0 : ρ[0]? = some (.sh (.scr ns))) : ∃ y0 y1 : Int, dgc 12 l60 ρ = .ok (.fr (([.int y0, .int y1] : List D).map T.leaf)) := by
  obtain ⟨row, h1, h2⟩ := dgc_ok (k := 12) (L := l60) (sizes := [60, 60]) (by omega) h0 rfl (by
    intro s hs
    simp only [List.mem_cons, List.not_mem_nil, or_false] at hs
    omega) (by decide)
  have hl : row.length = 2 := h1.1
  match row, hl, h2 with
  | [y0, y1], _, h2 => exact ⟨y0, y1, h2⟩
def eEvs : Dl.Env → Res EV := d2 gAdd (dLc (iA (dVar 3)) (bName 16) dYes (d2 gIx (dVar 16) (dC (.int 1))) [16]) (dLst (aCons (dTup (aCons (dC (.str "in")) (aCons (d2 gIx (dVar 2) (dC (.int 0))) aNil))) (aCons (dTup (aCons (dC (.str "out")) (aCons (d2 gIx (dVar 2) (dNeg (dC (.int 1)))) (aCons (d2 gIx (dVar 2) (dC (.int 0))) aNil)))) aNil)))
theorem eEvs_ok {y : SV} (h2 : ρ[2]? = some (.sh (nmD names))) (h3 : ρ[3]? = some (.sh (.lst (rs.map Rl.d)))) (h16 : ρ[16]? = some y) (o : Okay rs gd names ms) :
    ∃ a b, (∀ e ∈ evS rs a b, e.ok = true) ∧ eEvs ρ = .ok (.fr (((evS rs a b).map Ev.d).map T.leaf)) := by
  have hl := o.l
  obtain ⟨a, ha, e1⟩ := first2 h2 o.ne
  obtain ⟨b, hb, e2⟩ := last2 h2 o.ne
  have na := o.n a (List.mem_of_getElem? ha)
  have nb := o.n b hb
  refine ⟨a, b, ?_, ?_⟩
  · intro e he
    rcases List.mem_append.mp he with he | he
    · obtain ⟨r, h1, rfl⟩ := List.mem_map.mp he
      exact o.r r h1
    · simp only [List.mem_cons, List.not_mem_nil, or_false] at he
      rcases he with rfl | rfl
      · exact na
      · show (PyData.strOk b && PyData.strOk a) = true
        rw [na, nb]
        rfl
  · have hlc : dLc (iA (dVar 3)) (bName 16) dYes (d2 gIx (dVar 16) (dC (.int 1))) [16] ρ = .ok (.fr (((rs.map Rl.e).map Ev.d).map T.leaf)) := by
      have hi : iA (dVar 3) ρ = .ok (rs.map Rl.d) := by rw [x_iA, v_sh h3, x_wK, x_walk_lst]
      rw [x_lc, x_wipe1, hi, x_lc_of (p := fun _ => true) (k := fun r => r.e.d) (by omega) (fun r hr => ⟨_, bn h16, rfl, fun _ => by rw [x_d2, v_sh (get_set h16), x_c, x_d2_ok, rl1]⟩), filter_yes, List.map_map (f := Rl.e)]
      rfl
    have e3 : dLst (aCons (dTup (aCons (dC (.str "in")) (aCons (d2 gIx (dVar 2) (dC (.int 0))) aNil))) (aCons (dTup (aCons (dC (.str "out")) (aCons (d2 gIx (dVar 2) (dNeg (dC (.int 1)))) (aCons (d2 gIx (dVar 2) (dC (.int 0))) aNil)))) aNil)) ρ = .ok (.fr ((([.inn a, .out b a] : List Ev).map Ev.d).map T.leaf)) := by
      rw [x_lst, x_cons, x_tup, x_cons, x_cons, e1, x_cons, x_tup, x_cons, x_cons, e2, x_cons, e1]
      rfl
    rw [eEvs, x_d2, hlc, e3, x_d2_ok, add_fr (by simp; omega), ← List.map_append]
    rfl
def ePk (i k : Nat) : Dl.Env → Res EV := d2 gIx (dVar i) (d2 gMod (dC1 gInt (aCons (d2 gIx (dVar 18) (dC (.int k))) aNil)) (dC1 gLen (aCons (dVar i) aNil)))
theorem ePk_ok {i k : Nat} {row : List D} {y : Int} {es : List Ev} (hi : ρ[i]? = some (.sh (.lst (es.map Ev.d)))) (h18 : ρ[18]? = some (.sh (.lst row))) (hy : row[k]? = some (.int y)) (hne : es ≠ []) : ∃ e ∈ es, ePk i k ρ = .ok (.sh e.d) := by
  have hp : 0 < es.length := List.length_pos_iff.mpr hne
  have hj1 : 0 ≤ y % (es.length : Int) := Int.emod_nonneg _ (by omega)
  have hj2 : y % (es.length : Int) < es.length := Int.emod_lt_of_pos _ (by omega)
  have hj : (y % (es.length : Int)).toNat < es.length := by omega
  refine ⟨es[(y % (es.length : Int)).toNat]'hj, List.getElem_mem hj, ?_⟩
  rw [ePk, x_d2, v_sh hi, x_d2, x_c1, x_cons, x_d2, v_sh h18, x_c, x_d2_ok, x_ixL hy, x_nil, x_cons_ok, x_c1_ok, x_int1, x_c1, x_cons, v_sh hi, x_nil, x_cons_ok, x_c1_ok, x_len_lst, List.length_map, x_d2_ok, x_mod (by omega), x_d2_ok]
  exact x_ixLz hj1 (by rw [List.getElem?_map, List.getElem?_eq_getElem hj, Option.map_some])
def eOth : Dl.Env → Res EV := dLc (iA (dVar 19)) (bName 23) (dT tBool (d2 gNe (dVar 23) (dVar 20))) (dVar 23) [23]
theorem ev_ne {e f : Ev} (he : e.ok = true) (hf : f.ok = true) : gNe (.sh e.d) (.sh f.d) = .ok (.sh (.bl (!decide (e = f)))) := by
  by_cases h : e = f
  · rw [x_ne_t (congrArg Ev.d h) (Ev.fine he) (Ev.dep e)]
    simp [h]
  · rw [x_ne_f (fun z => h (Ev.inj z)) (Ev.fine he) (Ev.fine hf) (Ev.dep e) (Ev.dep f)]
    simp [h]
theorem eOth_ok {y : SV} {es : List Ev} {e : Ev} (h19 : ρ[19]? = some (.sh (.lst (es.map Ev.d)))) (h20 : ρ[20]? = some (.sh e.d)) (h23 : ρ[23]? = some y) (hes : ∀ e ∈ es, e.ok = true) (he : e.ok = true) (hl : es.length ≤ 1000) : eOth ρ = .ok (.fr (((es.filter fun x => !decide (x = e)).map Ev.d).map T.leaf)) := by
  have hi : iA (dVar 19) ρ = .ok (es.map Ev.d) := by rw [x_iA, v_sh h19, x_wK, x_walk_lst]
  rw [eOth, x_lc, x_wipe1, hi, x_lc_of (p := fun x => !decide (x = e)) (k := Ev.d) (by omega) (fun x hx => ⟨_, bn h23, ?_, fun _ => v_sh (get_set h23)⟩)]
  have h20' : (ρ.set 23 (.sh x.d))[20]? = some (.sh e.d) := by rw [get_ne (by decide)]; exact h20
  rw [x_t, x_d2, v_sh (get_set h23), v_sh h20', x_d2_ok, ev_ne (hes x hx) he, x_t_ok, x_tBool]
def cM : Dl.Env → Res EV := dCall 4 F_l_meant [] (aCons (dVar 20) (aCons (ePk 21 1) (aCons (dVar 2) (aCons (dVar 12) aNil))))
end
end K75
set_option Elab.async false
set_option linter.all false
set_option maxRecDepth 100000
namespace K75
open PySem PySem.Spec PyProof.Rows L2 Dl
section
variable {ρ : Dl.Env} {rs : List Rl} {gd : List Int} {names : List Str} {ms : List Mv} {ns : List Int}
/-! ### the law, from its end -/
def lEnd : Stm := dRet (dAnd (cR (eInv (eInv (dVar 15))) 5) (cR (dVar 15) 5))
theorem lEnd_ok (o : Okay rs gd names ms) (h2 : ρ[2]? = some (.sh (nmD names))) (h3 : ρ[3]? = some (.sh (.lst (rs.map Rl.d)))) (h5 : ρ[5]? = some (.sh (.lst (gd.map D.int)))) (h12 : ρ[12]? = some (.sh (.lst (ms.map Mv.d)))) (h15 : ρ[15]? = some (.sh (wobj rs (asc gd)))) : lEnd ρ = .ok (.ret (.sh (.bl true))) := by
  have e1 := eInv_ok (f := dVar 15) (v_sh h15) o.d o.l
  have e2 := eInv_ok e1 o.d o.l
  rw [rest_rest] at e2
  have e3 : asc (asc gd) = asc gd := by
    unfold asc
    refine List.filter_congr fun s hs => ?_
    simp [hs]
  rw [e3] at e2
  rw [lEnd, x_ret, x_and, cR_ok o e2 h3 h5 h2 h12, x_and_t, cR_ok o (v_sh h15) h3 h5 h2 h12, x_ret_sh]
def t6 : Stm := dSeq (lIf cM) lEnd
theorem t6_ok {y1 : Int} {row : List D} {es : List Ev} {e : Ev} (o : Okay rs gd names ms) (h2 : ρ[2]? = some (.sh (nmD names))) (h3 : ρ[3]? = some (.sh (.lst (rs.map Rl.d)))) (h5 : ρ[5]? = some (.sh (.lst (gd.map D.int)))) (h12 : ρ[12]? = some (.sh (.lst (ms.map Mv.d)))) (h15 : ρ[15]? = some (.sh (wobj rs (asc gd))))
    (h18 : ρ[18]? = some (.sh (.lst row))) (hy : row[1]? = some (.int y1)) (h20 : ρ[20]? = some (.sh e.d)) (h21 : ρ[21]? = some (.sh (.lst (es.map Ev.d)))) (he : e.ok = true) (hes : ∀ x ∈ es, x.ok = true ∧ e ≠ x) (hne : es ≠ []) : t6 ρ = .ok (.ret (.sh (.bl true))) := by
  obtain ⟨f, hf, e21⟩ := ePk_ok (i := 21) (k := 1) h21 h18 hy hne
  have hm := meant_ok he (hes f hf).1 (hes f hf).2 o.n (by have := o.nl; omega) o.m (by have := o.ml; omega)
  have hc : cM ρ = .ok (.sh (.bl true)) := by
    rw [cM, x_call, x_cons, v_sh h20, x_cons, e21, x_cons, v_sh h2, x_cons, v_sh h12, x_nil, x_cons_ok, x_cons_ok, x_cons_ok, x_cons_ok, x_call_ok, callN_ssss, hm]
  rw [t6, x_seq, lIf_ok hc, x_seq_nx]
  exact lEnd_ok o h2 h3 h5 h12 h15
def t5 : Stm := dSeq (dSet 18 (dgc 12 l60)) (dFrz 18 (dSeq (dSet 19 eEvs) (dFrz 19 (dSeq (dSet 20 (ePk 19 0)) (dFrz 20 (dSeq (dSet 21 eOth) (dFrz 21 t6)))))))
theorem t5_ok {y16 y18 y19 y20 y21 y23 : SV} (o : Okay rs gd names ms) (h0 : ρ[0]? = some (.sh (.scr ns))) (h2 : ρ[2]? = some (.sh (nmD names))) (h3 : ρ[3]? = some (.sh (.lst (rs.map Rl.d)))) (h5 : ρ[5]? = some (.sh (.lst (gd.map D.int)))) (h12 : ρ[12]? = some (.sh (.lst (ms.map Mv.d)))) (h15 : ρ[15]? = some (.sh (wobj rs (asc gd))))
    (h16 : ρ[16]? = some y16) (h18 : ρ[18]? = some y18) (f18 : y18.free = true) (h19 : ρ[19]? = some y19) (f19 : y19.free = true) (h20 : ρ[20]? = some y20) (f20 : y20.free = true) (h21 : ρ[21]? = some y21) (f21 : y21.free = true) (h23 : ρ[23]? = some y23) : t5 ρ = .ok (.ret (.sh (.bl true))) := by
  obtain ⟨y0, y1, e18⟩ := pick_ok (ρ := ρ) h0
  rw [t5, st_fr e18 h18 f18, x_leaves]
  have g18 := get_set (x := .sh (.lst [.int y0, .int y1])) h18
  obtain ⟨a, b, hes, e19⟩ := eEvs_ok (ρ := ρ.set 18 (.sh (.lst [.int y0, .int y1]))) (by rw [get_ne (by decide)]; exact h2) (by rw [get_ne (by decide)]; exact h3) (by rw [get_ne (by decide)]; exact h16) o
  rw [st_fr e19 (by rw [get_ne (by decide)]; exact h19) f19, x_leaves]
  have hle : (evS rs a b).length ≤ 1000 := by
    have := o.l
    simp [evS]
    omega
  have hin : Ev.inn a ∈ evS rs a b := by simp [evS]
  have hout : Ev.out b a ∈ evS rs a b := by simp [evS]
  have hne : evS rs a b ≠ [] := fun z => by rw [z] at hin; cases hin
  generalize evS rs a b = es at *
  have g19 : ((ρ.set 18 (.sh (.lst [.int y0, .int y1]))).set 19 (.sh (.lst (es.map Ev.d))))[19]? = some (.sh (.lst (es.map Ev.d))) := get_set (y := y19) (by rw [get_ne (by decide)]; exact h19)
  obtain ⟨e, he, e20⟩ := ePk_ok (ρ := (ρ.set 18 (.sh (.lst [.int y0, .int y1]))).set 19 (.sh (.lst (es.map Ev.d)))) (i := 19) (k := 0) (row := [.int y0, .int y1]) g19 (by rw [get_ne (by decide)]; exact g18) rfl hne
  have k20 : ((ρ.set 18 (.sh (.lst [.int y0, .int y1]))).set 19 (.sh (.lst (es.map Ev.d))))[20]? = some y20 := by rw [get_ne (by decide), get_ne (by decide)]; exact h20
  rw [st_sh e20 k20 f20]
  have g20 := get_set (x := .sh e.d) k20
  have e21 := eOth_ok (ρ := ((ρ.set 18 (.sh (.lst [.int y0, .int y1]))).set 19 (.sh (.lst (es.map Ev.d)))).set 20 (.sh e.d)) (es := es) (e := e) (by rw [get_ne (by decide)]; exact g19) g20 (by rw [get_ne (by decide), get_ne (by decide), get_ne (by decide)]; exact h23) hes (hes e he) hle
  have k21 : (((ρ.set 18 (.sh (.lst [.int y0, .int y1]))).set 19 (.sh (.lst (es.map Ev.d)))).set 20 (.sh e.d))[21]? = some y21 := by rw [get_ne (by decide), get_ne (by decide), get_ne (by decide)]; exact h21
  rw [st_fr e21 k21 f21, x_leaves]
  refine t6_ok (y1 := y1) (row := [.int y0, .int y1]) (es := es.filter fun x => !decide (x = e)) (e := e) o ?_ ?_ ?_ ?_ ?_ ?_ rfl ?_ (get_set k21) (hes e he) ?_ ?_
  · rw [get_ne (by decide), get_ne (by decide), get_ne (by decide), get_ne (by decide)]; exact h2
  · rw [get_ne (by decide), get_ne (by decide), get_ne (by decide), get_ne (by decide)]; exact h3
  · rw [get_ne (by decide), get_ne (by decide), get_ne (by decide), get_ne (by decide)]; exact h5
  · rw [get_ne (by decide), get_ne (by decide), get_ne (by decide), get_ne (by decide)]; exact h12
  · rw [get_ne (by decide), get_ne (by decide), get_ne (by decide), get_ne (by decide)]; exact h15
  · rw [get_ne (by decide), get_ne (by decide), get_ne (by decide)]; exact g18
  · rw [get_ne (by decide)]; exact g20
  · intro x hx
    rw [List.mem_filter] at hx
    exact ⟨hes x hx.1, fun z => by simp [z] at hx⟩
  · intro z
    rw [List.filter_eq_nil_iff] at z
    have z1 := z _ hin
    have z2 := z _ hout
    simp at z1 z2
    rw [← z1] at z2
    cases z2
def t4 : Stm := dSeq (dForIdx 13 16 2 (fun n => some (9 - n))) (dSeq (dApp 13 eNew) (dSeq (dApp 14 (dC (.int 0))) (dSeq (dApp 14 (dC (.int 9))) (dSeq (lIf (cR (dVar 15) 5)) (dSeq (dSet 17 eRest) (dFrz 17 (dSeq (lIf (cR (eInv (dVar 15)) 17)) t5)))))))
theorem app_ok {i : Nat} {us : List T} {f : Dl.Env → Res EV} {x : EV} {t : T} {g : Stm} (hi : ρ[i]? = some (.own us)) (hf : f ρ = .ok x) (ht : x.t? = some t) (hl : us.length < 16777216) : dSeq (dApp i f) g ρ = g (ρ.set i (.own (us ++ [t]))) := by
  rw [x_seq, x_app, hi, hf]
  simp [appK, ht, hl]
theorem t4_ok {y16 y17 y18 y19 y20 y21 y22 y23 : SV} (o : Okay rs gd names ms) (h0 : ρ[0]? = some (.sh (.scr ns))) (h2 : ρ[2]? = some (.sh (nmD names))) (h3 : ρ[3]? = some (.sh (.lst (rs.map Rl.d)))) (h5 : ρ[5]? = some (.sh (.lst (gd.map D.int)))) (h12 : ρ[12]? = some (.sh (.lst (ms.map Mv.d)))) (h13 : ρ[13]? = some (.own (rs.map Rl.t))) (h14 : ρ[14]? = some (.own ((gd.map D.int).map T.leaf))) (h15 : ρ[15]? = some (.sh (wobj rs (asc gd))))
    (h16 : ρ[16]? = some y16) (f16 : y16.free = true) (h17 : ρ[17]? = some y17) (f17 : y17.free = true) (h18 : ρ[18]? = some y18) (f18 : y18.free = true) (h19 : ρ[19]? = some y19) (f19 : y19.free = true) (h20 : ρ[20]? = some y20) (f20 : y20.free = true) (h21 : ρ[21]? = some y21) (f21 : y21.free = true) (h22 : ρ[22]? = some y22) (h23 : ρ[23]? = some y23) : t4 ρ = .ok (.ret (.sh (.bl true))) := by
  have hl := o.l
  have hgl := o.gl
  rw [t4, x_seq, forIdx_ok h13 h16 f16, x_seq_nx]
  obtain ⟨us, eN⟩ := eNew_ok (ρ := (ρ.set 16 .no).set 13 (.own ((rs.map rev).map Rl.t))) (names := names) (by rw [get_ne (by decide), get_ne (by decide)]; exact h2) o.ne
  have k13 : ((ρ.set 16 .no).set 13 (.own ((rs.map rev).map Rl.t)))[13]? = some (.own ((rs.map rev).map Rl.t)) := get_set (y := .own (rs.map Rl.t)) (by rw [get_ne (by decide)]; exact h13)
  rw [app_ok k13 eN rfl (by simp; omega), List.set_set]
  generalize hz13 : (SV.own ((rs.map rev).map Rl.t ++ [T.node us])) = z13
  have k14 : ((ρ.set 16 .no).set 13 z13)[14]? = some (.own ((gd.map D.int).map T.leaf)) := by rw [get_ne (by decide), get_ne (by decide)]; exact h14
  rw [app_ok k14 (x := .sh (.int 0)) rfl rfl (by simp; omega)]
  rw [app_ok (get_set k14) (x := .sh (.int 9)) rfl rfl (by simp; omega), List.set_set]
  generalize hz14 : (SV.own ((gd.map D.int).map T.leaf ++ [T.leaf (D.int 0)] ++ [T.leaf (D.int 9)])) = z14
  have look : ∀ {j : Nat}, 13 ≠ j → 14 ≠ j → 16 ≠ j → (((ρ.set 16 .no).set 13 z13).set 14 z14)[j]? = ρ[j]? := fun {j} a b c => by rw [get_ne b, get_ne a, get_ne c]
  have l16 : (((ρ.set 16 .no).set 13 z13).set 14 z14)[16]? = some .no := by rw [get_ne (by decide), get_ne (by decide)]; exact get_set h16
  generalize ((ρ.set 16 .no).set 13 z13).set 14 z14 = σ at look l16 ⊢
  have k2 : σ[2]? = some (.sh (nmD names)) := by rw [look (by decide) (by decide) (by decide)]; exact h2
  have k3 : σ[3]? = some (.sh (.lst (rs.map Rl.d))) := by rw [look (by decide) (by decide) (by decide)]; exact h3
  have k5 : σ[5]? = some (.sh (.lst (gd.map D.int))) := by rw [look (by decide) (by decide) (by decide)]; exact h5
  have k12 : σ[12]? = some (.sh (.lst (ms.map Mv.d))) := by rw [look (by decide) (by decide) (by decide)]; exact h12
  have k15 : σ[15]? = some (.sh (wobj rs (asc gd))) := by rw [look (by decide) (by decide) (by decide)]; exact h15
  have k17 : σ[17]? = some y17 := by rw [look (by decide) (by decide) (by decide)]; exact h17
  have k22 : σ[22]? = some y22 := by rw [look (by decide) (by decide) (by decide)]; exact h22
  rw [x_seq, lIf_ok (cR_ok o (v_sh k15) k3 k5 k2 k12), x_seq_nx, st_fr (eRest_ok k5 k22) k17 f17, x_leaves]
  have lk : ∀ {j : Nat}, 17 ≠ j → (σ.set 17 (.sh (.lst ((rest gd).map D.int))))[j]? = σ[j]? := fun {j} a => get_ne a
  have g17 := get_set (x := .sh (.lst ((rest gd).map D.int))) k17
  generalize σ.set 17 (.sh (.lst ((rest gd).map D.int))) = τ at lk g17 ⊢
  have j2 : τ[2]? = some (.sh (nmD names)) := by rw [lk (by decide)]; exact k2
  have j3 : τ[3]? = some (.sh (.lst (rs.map Rl.d))) := by rw [lk (by decide)]; exact k3
  have j5 : τ[5]? = some (.sh (.lst (gd.map D.int))) := by rw [lk (by decide)]; exact k5
  have j12 : τ[12]? = some (.sh (.lst (ms.map Mv.d))) := by rw [lk (by decide)]; exact k12
  have j15 : τ[15]? = some (.sh (wobj rs (asc gd))) := by rw [lk (by decide)]; exact k15
  rw [x_seq, lIf_ok (cR_ok o.rest (eInv_ok (v_sh j15) o.d o.l) j3 g17 j2 j12), x_seq_nx]
  refine t5_ok (ns := ns) o ?_ j2 j3 j5 j12 j15 (y16 := .no) ?_ (y18 := y18) ?_ f18 (y19 := y19) ?_ f19 (y20 := y20) ?_ f20 (y21 := y21) ?_ f21 (y23 := y23) ?_
  · rw [lk (by decide), look (by decide) (by decide) (by decide)]; exact h0
  · rw [lk (by decide)]; exact l16
  · rw [lk (by decide), look (by decide) (by decide) (by decide)]; exact h18
  · rw [lk (by decide), look (by decide) (by decide) (by decide)]; exact h19
  · rw [lk (by decide), look (by decide) (by decide) (by decide)]; exact h20
  · rw [lk (by decide), look (by decide) (by decide) (by decide)]; exact h21
  · rw [lk (by decide), look (by decide) (by decide) (by decide)]; exact h23
def t3 : Stm := dSeq (dSet 13 eHand) (dSeq (dSet 14 eL5) (dSeq (dSet 15 eMake) (dFrz 15 (dSeq lKept t4))))
theorem t3_ok {y18 : SV} (o : Okay rs gd names ms) (h0 : ρ[0]? = some (.sh (.scr ns))) (h2 : ρ[2]? = some (.sh (nmD names))) (h3 : ρ[3]? = some (.sh (.lst (rs.map Rl.d)))) (h5 : ρ[5]? = some (.sh (.lst (gd.map D.int)))) (h12 : ρ[12]? = some (.sh (.lst (ms.map Mv.d)))) (hno : ∀ j, 13 ≤ j → j < 24 → ρ[j]? = some .no) : t3 ρ = .ok (.ret (.sh (.bl true))) := by
  have h13 := hno 13 (by decide) (by decide)
  have h16 := hno 16 (by decide) (by decide)
  rw [t3, st_fr0 (eHand_ok h3 h16 o.l) h13 rfl]
  have h14 : (ρ.set 13 (.own (rs.map Rl.t)))[14]? = some .no := by rw [get_ne (by decide)]; exact hno 14 (by decide) (by decide)
  have k5 : (ρ.set 13 (.own (rs.map Rl.t)))[5]? = some (.sh (.lst (gd.map D.int))) := by rw [get_ne (by decide)]; exact h5
  rw [st_fr0 (eL5_ok k5) h14 rfl]
  have g13 : ((ρ.set 13 (.own (rs.map Rl.t))).set 14 (.own ((gd.map D.int).map T.leaf)))[13]? = some (.own (rs.map Rl.t)) := by rw [get_ne (by decide)]; exact get_set h13
  have g14 := get_set (x := .own ((gd.map D.int).map T.leaf)) h14
  have h15 : ((ρ.set 13 (.own (rs.map Rl.t))).set 14 (.own ((gd.map D.int).map T.leaf)))[15]? = some .no := by rw [get_ne (by decide), get_ne (by decide)]; exact hno 15 (by decide) (by decide)
  rw [st_sh (eMake_ok g13 g14 o.l o.gl o.g o.d) h15 rfl]
  have look : ∀ {j : Nat}, 13 ≠ j → 14 ≠ j → 15 ≠ j → (((ρ.set 13 (.own (rs.map Rl.t))).set 14 (.own ((gd.map D.int).map T.leaf))).set 15 (.sh (wobj rs (asc gd))))[j]? = ρ[j]? := fun {j} a b c => by rw [get_ne c, get_ne b, get_ne a]
  have l13 : (((ρ.set 13 (.own (rs.map Rl.t))).set 14 (.own ((gd.map D.int).map T.leaf))).set 15 (.sh (wobj rs (asc gd))))[13]? = some (.own (rs.map Rl.t)) := by rw [get_ne (by decide)]; exact g13
  have l14 : (((ρ.set 13 (.own (rs.map Rl.t))).set 14 (.own ((gd.map D.int).map T.leaf))).set 15 (.sh (wobj rs (asc gd))))[14]? = some (.own ((gd.map D.int).map T.leaf)) := by rw [get_ne (by decide)]; exact g14
  have l15 := get_set (x := .sh (wobj rs (asc gd))) h15
  generalize ((ρ.set 13 (.own (rs.map Rl.t))).set 14 (.own ((gd.map D.int).map T.leaf))).set 15 (.sh (wobj rs (asc gd))) = σ at look l13 l14 l15 ⊢
  have no : ∀ j, 16 ≤ j → j < 24 → σ[j]? = some .no := fun j a b => by rw [look (by omega) (by omega) (by omega)]; exact hno j (by omega) b
  have m3 : σ[3]? = some (.sh (.lst (rs.map Rl.d))) := by rw [look (by decide) (by decide) (by decide)]; exact h3
  have m5 : σ[5]? = some (.sh (.lst (gd.map D.int))) := by rw [look (by decide) (by decide) (by decide)]; exact h5
  have n16 := no 16 (by decide) (by decide)
  rw [x_seq, lKept_ok m3 m5 l13 l14 n16 o.r o.l, x_seq_nx]
  refine t4_ok (ns := ns) o ?_ ?_ m3 m5 ?_ l13 l14 l15 n16 rfl (no 17 (by decide) (by decide)) rfl (no 18 (by decide) (by decide)) rfl (no 19 (by decide) (by decide)) rfl (no 20 (by decide) (by decide)) rfl (no 21 (by decide) (by decide)) rfl (no 22 (by decide) (by decide)) (no 23 (by decide) (by decide))
  · rw [look (by decide) (by decide) (by decide)]; exact h0
  · rw [look (by decide) (by decide) (by decide)]; exact h2
  · rw [look (by decide) (by decide) (by decide)]; exact h12
def t2 : Stm := dSeq (dSet 10 (dgc 11 lBig)) (dFrz 10 (dSeq (dSet 11 eMany) (dFrz 11 (dSeq (dSet 12 eMoves) (dFrz 12 t3)))))
theorem t2_ok (hr : ∀ r ∈ rs, r.e.ok = true) (hl : rs.length ≤ 900) (hd : dupAt [] 0 rs = none) (hn : ∀ n ∈ names, PyData.strOk n = true) (hne : names ≠ []) (hnl : names.length ≤ 4) (hg : ∀ s ∈ gd, 0 ≤ s ∧ s < 10) (hgl : gd.length < 64)
    (h0 : ρ[0]? = some (.sh (.scr ns))) (h2 : ρ[2]? = some (.sh (nmD names))) (h3 : ρ[3]? = some (.sh (.lst (rs.map Rl.d)))) (h5 : ρ[5]? = some (.sh (.lst (gd.map D.int)))) (hno : ∀ j, 10 ≤ j → j < 24 → ρ[j]? = some .no) : t2 ρ = .ok (.ret (.sh (.bl true))) := by
  obtain ⟨row, r1, ⟨n, r2, r3⟩, e10⟩ := big_ok (ρ := ρ) h0
  have h10 := hno 10 (by decide) (by decide)
  rw [t2, st_fr e10 h10 rfl, x_leaves]
  have l1 : ∀ {j : Nat}, 10 ≠ j → (ρ.set 10 (.sh (.lst (row.map D.int))))[j]? = ρ[j]? := fun {j} a => get_ne a
  have g10 := get_set (x := .sh (.lst (row.map D.int))) h10
  generalize ρ.set 10 (.sh (.lst (row.map D.int))) = σ at l1 g10 ⊢
  obtain ⟨v, e11⟩ := eMany_ok g10 r2 r3
  have h11 : σ[11]? = some .no := by rw [l1 (by decide)]; exact hno 11 (by decide) (by decide)
  rw [st_sh e11 h11 rfl]
  have l2 : ∀ {j : Nat}, 11 ≠ j → (σ.set 11 (.sh (.int v)))[j]? = σ[j]? := fun {j} a => get_ne a
  have g11 := get_set (x := .sh (.int v)) h11
  generalize σ.set 11 (.sh (.int v)) = τ at l2 g11 ⊢
  obtain ⟨ms, m1, m2, e12⟩ := eMoves_ok (ρ := τ) (names := names) (rs := rs) (row := row) (v := v) (by rw [l2 (by decide), l1 (by decide)]; exact h2) (by rw [l2 (by decide), l1 (by decide)]; exact h3) (by rw [l2 (by decide)]; exact g10) g11 r1 hn hne hr hl
  have h12 : τ[12]? = some .no := by rw [l2 (by decide), l1 (by decide)]; exact hno 12 (by decide) (by decide)
  rw [st_fr e12 h12 rfl, x_leaves]
  refine t3_ok (ns := ns) (y18 := .no) (rs := rs) (gd := gd) (names := names) (ms := ms) ⟨hr, hl, hd, hn, hne, hnl, m2, m1, hg, hgl⟩ ?_ ?_ ?_ ?_ (get_set h12) ?_
  · rw [get_ne (by decide), l2 (by decide), l1 (by decide)]; exact h0
  · rw [get_ne (by decide), l2 (by decide), l1 (by decide)]; exact h2
  · rw [get_ne (by decide), l2 (by decide), l1 (by decide)]; exact h3
  · rw [get_ne (by decide), l2 (by decide), l1 (by decide)]; exact h5
  · intro j a b
    rw [get_ne (by omega), l2 (by omega), l1 (by omega)]
    exact hno j (by omega) b
def t1 : Stm := dFrz 8 (dFrz 3 (dSeq (dSet 9 eDbl) (dFrz 9 (dSeq lBad (dFrz 3 t2)))))
theorem frz_rl3 {x3 : SV} {g : Stm} (h : rlSlot rs x3) (h3 : ρ[3]? = some x3) : dFrz 3 g ρ = g (ρ.set 3 (.sh (.lst (rs.map Rl.d)))) := by
  rcases h with rfl | rfl
  · rw [x_frz, h3, x_frz_sh, set_same h3]
  · rw [x_frz, h3, x_frz_own, x_leaves]
theorem t1_ok {x3 x8 : SV} (hs : rlSlot rs x3) (f8 : x8.free = true) (hr : ∀ r ∈ rs, r.e.ok = true) (hl : rs.length ≤ 900) (hn : ∀ n ∈ names, PyData.strOk n = true) (hne : names ≠ []) (hnl : names.length ≤ 4) (hg : ∀ s ∈ gd, 0 ≤ s ∧ s < 10) (hgl : gd.length < 64)
    (h0 : ρ[0]? = some (.sh (.scr ns))) (h2 : ρ[2]? = some (.sh (nmD names))) (h3 : ρ[3]? = some x3) (h5 : ρ[5]? = some (.sh (.lst (gd.map D.int)))) (h8 : ρ[8]? = some x8) (hno : ∀ j, 9 ≤ j → j < 24 → ρ[j]? = some .no) : t1 ρ = .ok (.ret (.sh (.bl true))) := by
  obtain ⟨c8, k8, e8⟩ := x_frz_any (i := 8) (g := dFrz 3 (dSeq (dSet 9 eDbl) (dFrz 9 (dSeq lBad (dFrz 3 t2))))) (ρ := ρ) h8 f8
  rw [t1, e8]
  have l0 : ∀ {j : Nat}, 8 ≠ j → (ρ.set 8 c8)[j]? = ρ[j]? := fun {j} a => get_ne a
  generalize ρ.set 8 c8 = ρ' at l0 ⊢
  have h3' : ρ'[3]? = some x3 := by rw [l0 (by decide)]; exact h3
  rw [frz_rl3 hs h3']
  have l1 : ∀ {j : Nat}, 3 ≠ j → (ρ'.set 3 (.sh (.lst (rs.map Rl.d))))[j]? = ρ'[j]? := fun {j} a => get_ne a
  have g3 := get_set (x := .sh (.lst (rs.map Rl.d))) h3'
  generalize ρ'.set 3 (.sh (.lst (rs.map Rl.d))) = σ at l1 g3 ⊢
  have h9 : σ[9]? = some .no := by rw [l1 (by decide), l0 (by decide)]; exact hno 9 (by decide) (by decide)
  rw [st_sh (eDbl_ok g3 hr hl) h9 rfl]
  have l2 : ∀ {j : Nat}, 9 ≠ j → (σ.set 9 (.sh (dupD rs)))[j]? = σ[j]? := fun {j} a => get_ne a
  have g9 := get_set (x := .sh (dupD rs)) h9
  generalize σ.set 9 (.sh (dupD rs)) = τ at l2 g9 ⊢
  have k3 : τ[3]? = some (.sh (.lst (rs.map Rl.d))) := by rw [l2 (by decide)]; exact g3
  have k5 : τ[5]? = some (.sh (.lst (gd.map D.int))) := by rw [l2 (by decide), l1 (by decide), l0 (by decide)]; exact h5
  obtain ⟨kept, y3, s3, kd, kr, kl, eB⟩ := lBad_ok k3 k5 g9 hr hl hgl
  rw [x_seq, eB, x_seq_nx, frz_rl3 s3 (get_set k3), List.set_set]
  refine t2_ok (ns := ns) (rs := kept) (gd := gd) (names := names) kr (by omega) kd hn hne hnl hg hgl ?_ ?_ (get_set k3) ?_ ?_
  · rw [get_ne (by decide), l2 (by decide), l1 (by decide), l0 (by decide)]; exact h0
  · rw [get_ne (by decide), l2 (by decide), l1 (by decide), l0 (by decide)]; exact h2
  · rw [get_ne (by decide)]; exact k5
  · intro j a b
    rw [get_ne (by omega), l2 (by omega), l1 (by omega), l0 (by omega)]
    exact hno j (by omega) b
def t0 : Stm := dSeq (dSet 1 (dgc 0 lHead)) (dFrz 1 (dSeq (dSet 2 eNames) (dFrz 2 (dSeq (dSet 3 eRules) (dFrz 3 (dSeq (dSet 4 (dgc 1 lRow)) (dFrz 4 (dSeq (dSet 5 eGood) (dFrz 5 (dSeq lT t1))))))))))
theorem t0_ok (h0 : ρ[0]? = some (.sh (.scr ns))) (hno : ∀ j, 1 ≤ j → j < 24 → ρ[j]? = some .no) : t0 ρ = .ok (.ret (.sh (.bl true))) := by
  obtain ⟨q0, q1, q2, q3, q4, q5, q6, q7, q8, q9, q10, ⟨b0, b1, b2, b3, b4, b5, b10⟩, e1⟩ := head_ok (ρ := ρ) h0
  have h1 := hno 1 (by decide) (by decide)
  rw [t0, st_fr e1 h1 rfl, x_leaves]
  have l1 : ∀ {j : Nat}, 1 ≠ j → (ρ.set 1 (.sh (r11 q0 q1 q2 q3 q4 q5 q6 q7 q8 q9 q10)))[j]? = ρ[j]? := fun {j} a => get_ne a
  have g1 := get_set (x := .sh (r11 q0 q1 q2 q3 q4 q5 q6 q7 q8 q9 q10)) h1
  show dSeq (dSet 2 eNames) _ (ρ.set 1 (.sh (r11 q0 q1 q2 q3 q4 q5 q6 q7 q8 q9 q10))) = _
  generalize ρ.set 1 (.sh (r11 q0 q1 q2 q3 q4 q5 q6 q7 q8 q9 q10)) = σ1 at l1 g1 ⊢
  obtain ⟨names, hne, hnl, hn, e2⟩ := eNames_ok g1 b0.1 b1 b2 b3 b4 b10.1
  have h2 : σ1[2]? = some .no := by rw [l1 (by decide)]; exact hno 2 (by decide) (by decide)
  rw [st_fr e2 h2 rfl, x_leaves]
  have l2 : ∀ {j : Nat}, 2 ≠ j → (σ1.set 2 (.sh (nmD names)))[j]? = σ1[j]? := fun {j} a => get_ne a
  have g2 := get_set (x := .sh (nmD names)) h2
  show dSeq (dSet 3 eRules) _ (σ1.set 2 (.sh (nmD names))) = _
  generalize σ1.set 2 (.sh (nmD names)) = σ2 at l2 g2 ⊢
  have i0 : σ2[0]? = some (.sh (.scr ns)) := by rw [l2 (by decide), l1 (by decide)]; exact h0
  have i1 : σ2[1]? = some (.sh (r11 q0 q1 q2 q3 q4 q5 q6 q7 q8 q9 q10)) := by rw [l2 (by decide)]; exact g1
  obtain ⟨rs, rl, rr, e3⟩ := eRules_ok i0 i1 g2 b5 hn hne hnl
  have h3 : σ2[3]? = some .no := by rw [l2 (by decide), l1 (by decide)]; exact hno 3 (by decide) (by decide)
  rw [st_fr e3 h3 rfl, x_leaves]
  have l3 : ∀ {j : Nat}, 3 ≠ j → (σ2.set 3 (.sh (.lst (rs.map Rl.d))))[j]? = σ2[j]? := fun {j} a => get_ne a
  have g3 := get_set (x := .sh (.lst (rs.map Rl.d))) h3
  generalize σ2.set 3 (.sh (.lst (rs.map Rl.d))) = σ3 at l3 g3 ⊢
  obtain ⟨g, gg, gl, ⟨n, n1, n2, n3⟩, e4⟩ := row_ok (ρ := σ3) (ns := ns) (by rw [l3 (by decide)]; exact i0)
  have h4 : σ3[4]? = some .no := by rw [l3 (by decide), l2 (by decide), l1 (by decide)]; exact hno 4 (by decide) (by decide)
  rw [st_fr e4 h4 rfl, x_leaves]
  have l4 : ∀ {j : Nat}, 4 ≠ j → (σ3.set 4 (.sh (.lst (g.map D.int))))[j]? = σ3[j]? := fun {j} a => get_ne a
  have g4 := get_set (x := .sh (.lst (g.map D.int))) h4
  generalize σ3.set 4 (.sh (.lst (g.map D.int))) = σ4 at l4 g4 ⊢
  have e5 := eGood_ok g4 n1 n2
  have h5 : σ4[5]? = some .no := by rw [l4 (by decide), l3 (by decide), l2 (by decide), l1 (by decide)]; exact hno 5 (by decide) (by decide)
  rw [st_fr e5 h5 rfl, x_leaves]
  have hgd : ∀ s ∈ g.take n.toNat, 0 ≤ s ∧ s < 10 := fun s hs => gg s (List.mem_of_mem_take hs)
  have hgdl : (g.take n.toNat).length < 64 := by rw [List.length_take]; omega
  generalize g.take n.toNat = gd at hgd hgdl ⊢
  have l5 : ∀ {j : Nat}, 5 ≠ j → (σ4.set 5 (.sh (.lst (gd.map D.int))))[j]? = σ4[j]? := fun {j} a => get_ne a
  have g5 := get_set (x := .sh (.lst (gd.map D.int))) h5
  generalize σ4.set 5 (.sh (.lst (gd.map D.int))) = σ5 at l5 g5 ⊢
  have no5 : ∀ j, 6 ≤ j → j < 24 → σ5[j]? = some .no := fun j a b => by
    rw [l5 (by omega), l4 (by omega), l3 (by omega), l2 (by omega), l1 (by omega)]
    exact hno j (by omega) b
  have m3 : σ5[3]? = some (.sh (.lst (rs.map Rl.d))) := by rw [l5 (by decide), l4 (by decide)]; exact g3
  obtain ⟨rs', x3, b6, b7, b8, s3, f8, r', rl', eT⟩ := lT_ok (ρ := σ5) (rs := rs) (q0 := q0) (q1 := q1) (q2 := q2) (q3 := q3) (q4 := q4) (q5 := q5) (q6 := q6) (q7 := q7) (q8 := q8) (q9 := q9) (q10 := q10) (by rw [l5 (by decide), l4 (by decide), l3 (by decide)]; exact i1) m3 (no5 6 (by decide) (by decide)) (no5 7 (by decide) (by decide)) (no5 8 (by decide) (by decide)) rr (by omega)
  rw [x_seq, eT, x_seq_nx]
  have j6 := get_set (x := b6) (no5 6 (by decide) (by decide))
  refine t1_ok (ns := ns) (rs := rs') (gd := gd) (names := names) (x3 := x3) (x8 := b8) s3 f8 r' (by omega) hn hne hnl hgd hgdl ?_ ?_ ?_ ?_ ?_ ?_
  · rw [get_ne (by decide), get_ne (by decide), get_ne (by decide), get_ne (by decide), l5 (by decide), l4 (by decide), l3 (by decide)]; exact i0
  · rw [get_ne (by decide), get_ne (by decide), get_ne (by decide), get_ne (by decide), l5 (by decide), l4 (by decide), l3 (by decide)]; exact g2
  · exact get_set (y := .sh (.lst (rs.map Rl.d))) (by rw [get_ne (by decide), get_ne (by decide), get_ne (by decide)]; exact m3)
  · rw [get_ne (by decide), get_ne (by decide), get_ne (by decide), get_ne (by decide)]; exact g5
  · rw [get_ne (by decide)]
    exact get_set (y := .no) (by rw [get_ne (by decide), get_ne (by decide)]; exact no5 8 (by decide) (by decide))
  · intro j a b
    rw [get_ne (by omega), get_ne (by omega), get_ne (by omega), get_ne (by omega)]
    exact no5 j (by omega) b
end
theorem g_law_t0 : g_law = t0 := rfl
theorem law_true (ns : List Int) : F_law [.scr ns] = .ok (.sh (.bl true)) := by
  rw [F_law, x_run, g_law_t0]
  have h := t0_ok (ρ := [D.scr ns].map SV.sh ++ List.replicate (24 - [D.scr ns].length) SV.no) (ns := ns) rfl (by
    intro j a b
    have : [D.scr ns].map SV.sh ++ List.replicate (24 - [D.scr ns].length) SV.no = SV.sh (.scr ns) :: List.replicate 23 SV.no := rfl
    rw [this]
    cases j with
    | zero => omega
    | succ j => rw [List.getElem?_cons_succ, List.getElem?_replicate, if_pos (by omega)])
  rw [h, x_run_ret]
end K75
set_option Elab.async false
set_option linter.all false
set_option maxRecDepth 100000
set_option maxHeartbeats 0
namespace Dl
open PySem PySem.Spec PyProof.Rows L2
/-- a law's end: what may be let out may hang on the World -/
theorem walk_ofN {l : PySem.W.OpenLaw} {n k : Nat} {q : Program} {loose : List Str} {XP : (Str → Option Value) → Heap → Prop} {YP : World → Heap → Prop} {d : DefRec} {x : Str}
    (hn : l.most = some n) (hn2 : n ≤ sizeLine) (hdf : d.params.defaults = []) (hr : Room k callerA)
    (F : ∀ (w : World) (mg : Str → Option Value) (fa : Addr) (h : Heap), YP w h → h.Ns mainGlobals mg → mg d.name = some (.ref fa) →
      ∃ (K : PySem.W.Frag) (fd : FuncData) (sp : Sp), K.In h ∧ (∀ (s : Shared) (u : Value), BindsTo s fd ⟨[u], []⟩ [(x, u)]) ∧
        (∀ (H : Hp) (a : Addr) (ns : List Int), ns.length ≤ n → Only H → SqL K H a (ns.map V.int) → sp [.ref a] H (fun v _ => v = .bl true) fun _ _ _ => False) ∧
        ∀ base : Heap, K.In base → base.Ns mainGlobals mg → FnOk l.prog w K mg base (L2N.CX l.prog w) k fa fd [x] sp) :
    PySem.W.WalkO q loose XP YP l.row.toRowW d [] (fun f vs => PySem.call f vs) := by
  refine Att.attach_call hn hdf fun w s₀ s₁ mg mb fa o pm cd doc a vs ns G Y ho hd hcd hmg hobj hints hlen hg => ?_
  obtain ⟨K, fd, sp, KX, hb, hsp, hF⟩ := F w mg fa _ Y G.T.g hmg
  refine law_call KX G.T.g G.T.b G.T.builtins G.T.nolimit hg hobj hints (Nat.le_trans hlen hn2) hr hF hb (fun H hO hS => hsp H a ns hlen hO hS) fun H e s' c => ?_
  obtain ⟨_, _, _, _, _, _, _, _, _, _, _, _, z⟩ := c
  exact z
end Dl
namespace K75
open PySem PySem.Spec PyProof.Rows L2 Dl
theorem law_pure (ns : List Int) (h : ns.length ≤ 63) : F_law [.scr ns] = .ok (.sh (.bl true)) := law_true ns
end K75
open PySem PySem.W PySem.Calls PyProof.Rows
theorem PySem.Challenge.cw_leavetaking_k75_watches_holds : PySem.Challenge.rw_leavetaking_k75_watches.Holds := by
  w_on; o_law
  refine HandSHeadRun.head_any (r := OpenLaw.row PySem.Challenge.rw_leavetaking_k75_watches) (q := view (OpenLaw.row PySem.Challenge.rw_leavetaking_k75_watches).prog [29]) (H := K75.hk) (ob := K75.ob) (M := 4000) (loose := K75.names) (d := HandSHeadRun.topDef (OpenLaw.row PySem.Challenge.rw_leavetaking_k75_watches).prog 29) (kwd := []) K75.ob_eq
    (by kernel_rfl) (fun s => by kernel_rfl) K75.run (by kernel_rfl) (by kernel_rfl) (by kernel_rfl) (by rfl) (by first | assumption | decide +kernel) (by decide +kernel) ⟨rfl, rfl, rfl, rfl, rfl, by decide +kernel⟩ ?hw ?hc
  case hw => w_witness2
  case hc =>
    refine Dl.walk_ofN (l := PySem.Challenge.rw_leavetaking_k75_watches) (n := 63) (k := 11) (x := "_law_script") rfl (by decide) (by kernel_rfl) ⟨rfl, by decide, by decide⟩ ?F
    intro w mg fa h Y G hmg0
    obtain ⟨K, KX, c⟩ := Y
    have hmg : mg ("law" : PySem.Str) = some (.ref fa) := by
      have e : (HandSHeadRun.topDef (OpenLaw.row PySem.Challenge.rw_leavetaking_k75_watches).prog 29).name = ("law" : PySem.Str) := by kernel_rfl
      rw [← e]
      exact hmg0
    obtain ⟨fds, Z⟩ := K75.facts (P := (PySem.Challenge.rw_leavetaking_k75_watches).prog) (w := w) KX G c
    have efa : fa = He.ga K "law" := by
      have z := hmg.symm.trans (He.glo_ok KX G (c.fact 0 (f := fun K => (He.Fa.glo "law").ok K) rfl))
      cases z
      rfl
    subst efa
    refine ⟨K, fds.law, _, KX, fun s u => ?_, fun H a ns hl _ hS => ?_, fun base _ _ => K75.ok_law Z⟩
    · exact (Z.f_law.bindsA (ps := ["_law_script"]) fun _ _ _ _ _ _ us hl => match us, hl with | [_], _ => rfl) s [u] rfl
    · refine ⟨rfl, H, [.scr ns], L2.Same.refl _, .cons (.scr hS) .nil, ?_⟩
      rw [K75.law_pure ns hl]
      intro S' H' A v g r nd fr
      cases r with
      | sh r => cases r; rfl
