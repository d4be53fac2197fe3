import PyProof.Rows.All
import Wide.All
import OpenK.AllK
import Wide.FinOn
import HandS.ForMost
import HandS.ForExc
import PyProof.NeKinds
import PyProof.EqKinds
import HandS.IsInst
import HandS.Wide
import HandS.RaiseMore
import HandS.Bytes
import HandS.BytesMake
import HandS.More
import HandS.Style
import HandS.Iter
import KE.GoesMore
import HandS.TryMany
import HandS.ExcField
import HandS.Lambda
import HandS.ExcOwn
import KE.KDflt
import HandS.Comp
import HandS.ExcInit
import HandS.WordsExc
import HandS.Defaults
import HandS.HeadHook4
import HandS.HeadWalk
import HandS.Head2
import HandS.HeadEnd
import PySem.Challenge.RW_forestrows_k46_keys_and_their_labels
set_option Elab.async false
set_option linter.all false
set_option maxRecDepth 100000
set_option maxHeartbeats 2000000
/-! A layer of symbolic states over the hand layer: data D, facts, cells; what a reading does from one state. -/
namespace FR
open PySem PySem.Spec PyProof.Rows L2

/-- data that stays as it is -/
inductive D where
  | non | bl (b : Bool) | int (i : Int) | str (x : Str) | byt (b : Array UInt8)
  | lst (ds : List D) | tup (ds : List D)
  /-- a built-in class -/
  | ty (n : String)
  /-- a dict with int and text keys; an instance -/
  | dic (es : List (Key × D)) | ins (C : Addr) (es : List (Str × D))
  /-- any other thing that stays, by what is true of it -/
  | raw (R : Hp → V → Prop)

mutual
inductive Rep (K : PySem.W.Frag) (G : Hp) : V → D → Prop
  | non : Rep K G .non .non
  | bl (b : Bool) : Rep K G (.bl b) (.bl b)
  | int (i : Int) : Rep K G (.int i) (.int i)
  | str (x : Str) : Rep K G (.str x) (.str x)
  | byt (x : Array UInt8) : Rep K G (.byt x) (.byt x)
  | lst {a : Addr} {vs : List V} {ds : List D} : SqL K G a vs → RepA K G vs ds → Rep K G (.ref a) (.lst ds)
  | tup {a : Addr} {vs : List V} {ds : List D} : SqT K G a vs → RepA K G vs ds → Rep K G (.ref a) (.tup ds)
  | ty (n : String) : Rep K G (.ty n) (.ty n)
  | dic {a : Addr} {kvs : List (Key × V)} {es : List (Key × D)} : G a = some (.dK kvs) → kvs.map (·.1) = es.map (·.1) → RepA K G (kvs.map (·.2)) (es.map (·.2)) → Rep K G (.ref a) (.dic es)
  | ins {a C dx : Addr} {kvs : List (Str × V)} {es : List (Str × D)} : G a = some (.ins C dx kvs) → kvs.map (·.1) = es.map (·.1) → RepA K G (kvs.map (·.2)) (es.map (·.2)) → Rep K G (.ref a) (.ins C es)
  | raw {v : V} {R : Hp → V → Prop} : R G v → (∀ G', Same G G' → R G' v) → Rep K G v (.raw R)
inductive RepA (K : PySem.W.Frag) (G : Hp) : List V → List D → Prop
  | nil : RepA K G [] []
  | cons {v : V} {vs : List V} {d : D} {ds : List D} : Rep K G v d → RepA K G vs ds → RepA K G (v :: vs) (d :: ds)
end

theorem rd_up {G G' : Hp} {a : Addr} {u : HO} (e : Same G G') (h : Rd G a u) : Rd G' a u := by
  rcases h with h | ⟨o, h⟩
  · exact .inl (e _ _ h)
  · exact .inr ⟨o, e _ _ h⟩
theorem sqT_up {K : PySem.W.Frag} {G G' : Hp} {a : Addr} {vs : List V} (e : Same G G') (h : SqT K G a vs) : SqT K G' a vs := by
  rcases h with h | h
  · exact .inl (rd_up e h)
  · exact .inr h

section
variable {K : PySem.W.Frag} {G G' : Hp}
mutual
theorem Rep.up (e : Same G G') : ∀ {v : V} {d : D}, Rep K G v d → Rep K G' v d
  | _, _, .non => .non
  | _, _, .bl b => .bl b
  | _, _, .int i => .int i
  | _, _, .str x => .str x
  | _, _, .byt x => .byt x
  | _, _, .lst h r => .lst (e.seq h) (RepA.up e r)
  | _, _, .tup h r => .tup (sqT_up e h) (RepA.up e r)
  | _, _, .ty n => .ty n
  | _, _, .dic h k r => .dic (e _ _ h) k (RepA.up e r)
  | _, _, .ins h k r => .ins (e _ _ h) k (RepA.up e r)
  | _, _, .raw _ u => .raw (u _ e) fun G2 e2 => u G2 fun b o q => e2 b o (e b o q)
theorem RepA.up (e : Same G G') : ∀ {vs : List V} {ds : List D}, RepA K G vs ds → RepA K G' vs ds
  | _, _, .nil => .nil
  | _, _, .cons h r => .cons (Rep.up e h) (RepA.up e r)
end
theorem RepA.len : ∀ {vs : List V} {ds : List D}, RepA K G vs ds → vs.length = ds.length
  | _, _, .nil => rfl
  | _, _, .cons _ r => by simp [RepA.len r]
theorem RepA.app : ∀ {vs ws : List V} {ds es : List D}, RepA K G vs ds → RepA K G ws es → RepA K G (vs ++ ws) (ds ++ es)
  | _, _, _, _, .nil, h => h
  | _, _, _, _, .cons h r, q => .cons h (RepA.app r q)
theorem RepA.get : ∀ {vs : List V} {ds : List D} {i : Nat} {d : D}, RepA K G vs ds → ds[i]? = some d → ∃ v, vs[i]? = some v ∧ Rep K G v d
  | _, _, _, _, .nil, h => by simp at h
  | _, _, 0, _, .cons h _, e => by simp at e; subst e; exact ⟨_, rfl, h⟩
  | _, _, i + 1, _, .cons _ r, e => by
    obtain ⟨v, h1, h2⟩ := RepA.get (i := i) r (by simpa using e)
    exact ⟨v, by simpa using h1, h2⟩
theorem RepA.getV : ∀ {vs : List V} {ds : List D} {i : Nat} {v : V}, RepA K G vs ds → vs[i]? = some v → ∃ d, ds[i]? = some d ∧ Rep K G v d
  | _, _, _, _, .nil, h => by simp at h
  | _, _, 0, _, .cons h _, e => by simp at e; subst e; exact ⟨_, rfl, h⟩
  | _, _, i + 1, _, .cons _ r, e => by
    obtain ⟨v, h1, h2⟩ := RepA.getV (i := i) r (by simpa using e)
    exact ⟨v, by simpa using h1, h2⟩
theorem RepA.drop : ∀ {vs : List V} {ds : List D} (n : Nat), RepA K G vs ds → RepA K G (vs.drop n) (ds.drop n)
  | _, _, 0, h => h
  | _, _, _ + 1, .nil => .nil
  | _, _, n + 1, .cons _ r => RepA.drop n r
theorem RepA.take : ∀ {vs : List V} {ds : List D} (n : Nat), RepA K G vs ds → RepA K G (vs.take n) (ds.take n)
  | _, _, 0, _ => .nil
  | _, _, _ + 1, .nil => .nil
  | _, _, n + 1, .cons h r => .cons h (RepA.take n r)
/-- a value that needs no heap -/
def D.v? : D → Option V
  | .non => some .non
  | .bl b => some (.bl b)
  | .int i => some (.int i)
  | .str x => some (.str x)
  | .byt x => some (.byt x)
  | .ty n => some (.ty n)
  | _ => none
theorem Rep.flat {v u : V} {d : D} (h : Rep K G v d) (e : d.v? = some u) : v = u := by
  cases h <;> simp [D.v?] at e <;> exact e
theorem Rep.of_flat {v : V} {d : D} (e : d.v? = some v) : Rep K G v d := by
  cases d <;> simp [D.v?] at e <;> subst e <;> constructor
theorem repA_flat : ∀ {ds : List D} {vs us : List V}, RepA K G vs ds → ds.map D.v? = us.map some → vs = us
  | [], _, [], .nil, _ => rfl
  | _ :: _, _, u :: us, .cons h r, e => by
    simp only [List.map_cons, List.cons.injEq] at e
    rw [h.flat e.1, repA_flat r e.2]
theorem repA_of_flat : ∀ {ds : List D} {vs : List V}, ds.map D.v? = vs.map some → RepA K G vs ds
  | [], [], _ => .nil
  | [], _ :: _, e => by simp at e
  | _ :: _, [], e => by simp at e
  | _ :: _, _ :: _, e => by
    simp only [List.map_cons, List.cons.injEq] at e
    exact .cons (Rep.of_flat e.1) (repA_of_flat e.2)
end

/-! ### facts and cells -/
abbrev Fs := List (List V × List D)
abbrev Cs := List (Addr × HO)
def Ok (K : PySem.W.Frag) (G : Hp) (fs : Fs) : Prop := ∀ f ∈ fs, RepA K G f.1 f.2
/-- what follows from facts -/
def Ents (K : PySem.W.Frag) (fs : Fs) (vs : List V) (ds : List D) : Prop := ∀ G, Ok K G fs → RepA K G vs ds
def Ent (K : PySem.W.Frag) (fs : Fs) (v : V) (d : D) : Prop := ∀ G, Ok K G fs → Rep K G v d
section
variable {K : PySem.W.Frag} {fs : Fs} {f : List V × List D} {v : V} {d : D} {vs ws : List V} {ds es : List D}
theorem Ok.tl {G : Hp} (h : Ok K G (f :: fs)) : Ok K G fs := fun g hg => h g (.tail _ hg)
theorem Ok.hd {G : Hp} (h : Ok K G (f :: fs)) : RepA K G f.1 f.2 := h f (.head _)
theorem Ok.cons {G : Hp} (h : RepA K G vs ds) (k : Ok K G fs) : Ok K G ((vs, ds) :: fs) := fun g hg => by
  cases hg with
  | head => exact h
  | tail _ hg => exact k g hg
theorem Ent.tl (h : Ent K fs v d) : Ent K (f :: fs) v d := fun G o => h G o.tl
theorem Ents.tl (h : Ents K fs vs ds) : Ents K (f :: fs) vs ds := fun G o => h G o.tl
theorem Ents.hd : Ents K ((vs, ds) :: fs) vs ds := fun _ o => o.hd
theorem Ent.hd : Ent K (([v], [d]) :: fs) v d := fun _ o => by
  cases o.hd with
  | cons h _ => exact h
theorem Ent.flat (e : d.v? = some v) : Ent K fs v d := fun _ _ => Rep.of_flat e
theorem Ents.flat (e : ds.map D.v? = vs.map some) : Ents K fs vs ds := fun _ _ => repA_of_flat e
theorem Ents.nil : Ents K fs [] [] := fun _ _ => .nil
theorem Ents.cons (h : Ent K fs v d) (k : Ents K fs vs ds) : Ents K fs (v :: vs) (d :: ds) := fun G o => .cons (h G o) (k G o)
theorem Ents.app (h : Ents K fs vs ds) (k : Ents K fs ws es) : Ents K fs (vs ++ ws) (ds ++ es) := fun G o => .app (h G o) (k G o)
theorem Ents.one (h : Ent K fs v d) : Ents K fs [v] [d] := .cons h .nil
theorem Ents.drop (n : Nat) (h : Ents K fs vs ds) : Ents K fs (vs.drop n) (ds.drop n) := fun G o => .drop n (h G o)
theorem Ents.take (n : Nat) (h : Ents K fs vs ds) : Ents K fs (vs.take n) (ds.take n) := fun G o => .take n (h G o)
theorem Ent.of_get {i : Nat} (h : Ents K fs vs ds) (e : ds[i]? = some d) (ev : vs[i]? = some v) : Ent K fs v d := fun G o => by
  obtain ⟨u, h1, h2⟩ := (h G o).get e
  rw [ev] at h1
  cases h1
  exact h2
end

/-- the state: the cells stand as told, the facts hold of what never changes -/
def Wd (K : PySem.W.Frag) (cs : Cs) (fs : Fs) (H : Hp) : Prop :=
  ∃ G : Hp, Same G H ∧ (∀ p ∈ cs, H p.1 = some p.2 ∧ G p.1 = none) ∧ (cs.map Prod.fst).Nodup ∧ Ok K G fs
section
variable {K : PySem.W.Frag} {cs cs' : Cs} {fs fs' : Fs} {H : Hp} {a p : Addr} {o o' : HO} {v : V} {d : D} {vs : List V} {ds : List D}
theorem Wd.cell (w : Wd K ((a, o) :: cs) fs H) : H a = some o := by
  obtain ⟨G, _, h, _⟩ := w
  exact (h (a, o) (.head _)).1
theorem Wd.cellM (w : Wd K cs fs H) (h : (a, o) ∈ cs) : H a = some o := by
  obtain ⟨G, _, k, _⟩ := w
  exact (k (a, o) h).1
theorem Wd.fact (w : Wd K cs fs H) (h : Ents K fs vs ds) : Wd K cs ((vs, ds) :: fs) H := by
  obtain ⟨G, e, k, n, ok⟩ := w
  exact ⟨G, e, k, n, Ok.cons (h G ok) ok⟩
theorem Wd.len (w : Wd K cs fs H) (h : Ents K fs vs ds) : vs.length = ds.length := by
  obtain ⟨G, e, k, n, ok⟩ := w
  exact (h G ok).len
theorem Wd.flat {u : V} (w : Wd K cs fs H) (h : Ent K fs v d) (e : d.v? = some u) : v = u := by
  obtain ⟨G, _, k, n, ok⟩ := w
  exact (h G ok).flat e
theorem Wd.flats {us : List V} (w : Wd K cs fs H) (h : Ents K fs vs ds) (e : ds.map D.v? = us.map some) : vs = us := by
  obtain ⟨G, _, k, n, ok⟩ := w
  exact repA_flat (h G ok) e
theorem Wd.lst (w : Wd K cs fs H) (h : Ent K fs v (.lst ds)) : ∃ a vs, v = .ref a ∧ SqL K H a vs ∧ vs.length = ds.length ∧ Wd K cs ((vs, ds) :: fs) H := by
  obtain ⟨G, e, k, n, ok⟩ := w
  cases h G ok with
  | lst s r => exact ⟨_, _, rfl, e.seq s, r.len, G, e, k, n, Ok.cons r ok⟩
theorem Wd.tup (w : Wd K cs fs H) (h : Ent K fs v (.tup ds)) : ∃ a vs, v = .ref a ∧ SqT K H a vs ∧ vs.length = ds.length ∧ Wd K cs ((vs, ds) :: fs) H := by
  obtain ⟨G, e, k, n, ok⟩ := w
  cases h G ok with
  | tup s r => exact ⟨_, _, rfl, sqT_up e s, r.len, G, e, k, n, Ok.cons r ok⟩
theorem same_new {G : Hp} (e : Same G H) (n : H p = none) : Same G (upd H p o) := fun b u q => by
  have q' := e b u q
  rw [upd_ne (ne_of_none q' n)]
  exact q'
/-- a new object, as a cell -/
theorem Wd.new (w : Wd K cs fs H) (np : H p = none) : Wd K ((p, o) :: cs) fs (upd H p o) := by
  obtain ⟨G, e, k, n, ok⟩ := w
  refine ⟨G, same_new e np, fun q hq => ?_, ?_, ok⟩
  · cases hq with
    | head => exact ⟨upd_same, e.free np⟩
    | tail _ hq =>
      obtain ⟨h1, h2⟩ := k q hq
      exact ⟨by rw [upd_ne (ne_of_none h1 np)]; exact h1, h2⟩
  · rw [List.map_cons, List.nodup_cons]
    refine ⟨fun hm => ?_, n⟩
    obtain ⟨q, hq, e1⟩ := List.mem_map.mp hm
    have h1 := (k q hq).1
    rw [e1, np] at h1
    cases h1
/-- a new object, never to change -/
theorem Wd.newL (w : Wd K cs fs H) (np : H p = none) (h : Ents K fs vs ds) : Wd K cs (([.ref p], [.lst ds]) :: fs) (upd H p (.lst vs)) := by
  obtain ⟨G, e, k, n, ok⟩ := w
  have nG : G p = none := e.free np
  have eG : Same G (upd G p (.lst vs)) := fun b u q => by
    rw [upd_ne (ne_of_none q nG)]
    exact q
  refine ⟨upd G p (.lst vs), fun b u q => ?_, fun q hq => ?_, n, Ok.cons (.cons (.lst (SqL.of upd_same) (RepA.up eG (h G ok))) .nil) fun g hg => RepA.up eG (ok g hg)⟩
  · by_cases hb : b = p
    · rw [hb, upd_same] at q ⊢
      exact q
    · rw [upd_ne hb] at q ⊢
      exact e b u q
  · obtain ⟨h1, h2⟩ := k q hq
    have hne : q.1 ≠ p := ne_of_none h1 np
    exact ⟨by rw [upd_ne hne]; exact h1, by rw [upd_ne hne]; exact h2⟩
theorem Wd.newT (w : Wd K cs fs H) (np : H p = none) (h : Ents K fs vs ds) : Wd K cs (([.ref p], [.tup ds]) :: fs) (upd H p (.tup vs)) := by
  obtain ⟨G, e, k, n, ok⟩ := w
  have nG : G p = none := e.free np
  have eG : Same G (upd G p (.tup vs)) := fun b u q => by
    rw [upd_ne (ne_of_none q nG)]
    exact q
  refine ⟨upd G p (.tup vs), fun b u q => ?_, fun q hq => ?_, n, Ok.cons (.cons (.tup (SqT.of upd_same) (RepA.up eG (h G ok))) .nil) fun g hg => RepA.up eG (ok g hg)⟩
  · by_cases hb : b = p
    · rw [hb, upd_same] at q ⊢
      exact q
    · rw [upd_ne hb] at q ⊢
      exact e b u q
  · obtain ⟨h1, h2⟩ := k q hq
    have hne : q.1 ≠ p := ne_of_none h1 np
    exact ⟨by rw [upd_ne hne]; exact h1, by rw [upd_ne hne]; exact h2⟩
/-- a new object that nothing is told of -/
theorem Wd.any (w : Wd K cs fs H) (np : H p = none) : Wd K cs fs (upd H p o) := by
  obtain ⟨G, e, k, n, ok⟩ := w
  refine ⟨G, same_new e np, fun q hq => ?_, n, ok⟩
  obtain ⟨h1, h2⟩ := k q hq
  exact ⟨by rw [upd_ne (ne_of_none h1 np)]; exact h1, h2⟩
/-- a cell is written -/
theorem Wd.put (w : Wd K ((a, o) :: cs) fs H) : Wd K ((a, o') :: cs) fs (upd H a o') := by
  obtain ⟨G, e, k, n, ok⟩ := w
  have ka := k (a, o) (.head _)
  rw [List.map_cons, List.nodup_cons] at n
  refine ⟨G, fun b u q => ?_, fun q hq => ?_, by rw [List.map_cons, List.nodup_cons]; exact n, ok⟩
  · rw [upd_ne (ne_of_none q ka.2)]
    exact e b u q
  · cases hq with
    | head => exact ⟨upd_same, ka.2⟩
    | tail _ hq =>
      have hne : q.1 ≠ a := fun z => n.1 (List.mem_map.mpr ⟨q, hq, z⟩)
      obtain ⟨h1, h2⟩ := k q (.tail _ hq)
      exact ⟨by rw [upd_ne hne]; exact h1, h2⟩
/-- a cell is written, wherever it stands -/
theorem Wd.perm (w : Wd K cs fs H) (h : cs.Perm cs') : Wd K cs' fs H := by
  obtain ⟨G, e, k, n, ok⟩ := w
  exact ⟨G, e, fun p hp => k p (h.mem_iff.mpr hp), ((h.map Prod.fst).nodup_iff).mp n, ok⟩
theorem Wd.ne {b : Addr} {u : HO} (w : Wd K ((a, o) :: cs) fs H) (h : (b, u) ∈ cs) : a ≠ b := by
  obtain ⟨G, e, k, n, ok⟩ := w
  rw [List.map_cons, List.nodup_cons] at n
  exact fun z => n.1 (List.mem_map.mpr ⟨(b, u), h, z.symm⟩)
end

/-- from one telling to another of the same state -/
def Wk (K : PySem.W.Frag) (c : Cs) (f : Fs) (c' : Cs) (f' : Fs) : Prop := ∀ H, Wd K c f H → Wd K c' f' H
section
variable {K : PySem.W.Frag} {c c' c'' : Cs} {f f' f'' : Fs} {a p : Addr} {o o' : HO} {v : V} {d : D} {vs : List V} {ds : List D} {g : List V × List D} {x y : Addr × HO}
theorem Wk.refl : Wk K c f c f := fun _ w => w
theorem Wk.trans (h : Wk K c f c' f') (k : Wk K c' f' c'' f'') : Wk K c f c'' f'' := fun H w => k H (h H w)
theorem Wk.swap : Wk K (x :: y :: c) f (y :: x :: c) f := fun _ w => w.perm (.swap _ _ _)
theorem Wk.perm (h : c.Perm c') : Wk K c f c' f := fun _ w => w.perm h
theorem Wk.dropC : Wk K (x :: c) f c f := fun H w => by
  obtain ⟨G, e, k, n, ok⟩ := w
  rw [List.map_cons, List.nodup_cons] at n
  exact ⟨G, e, fun q hq => k q (.tail _ hq), n.2, ok⟩
theorem Wk.dropF : Wk K c (g :: f) c f := fun H w => by
  obtain ⟨G, e, k, n, ok⟩ := w
  exact ⟨G, e, k, n, ok.tl⟩
theorem Wk.facts (h : ∀ q ∈ f', Ents K f q.1 q.2) : Wk K c f c f' := fun H w => by
  obtain ⟨G, e, k, n, ok⟩ := w
  exact ⟨G, e, k, n, fun q hq => h q hq G ok⟩
theorem Wk.fact (h : Ents K f vs ds) : Wk K c f c ((vs, ds) :: f) := fun _ w => w.fact h
/-- a cell that is no longer to change -/
theorem Wk.frz (h : Ents K f vs ds) : Wk K ((a, .lst vs) :: c) f c (([.ref a], [.lst ds]) :: f) := fun H w => by
  obtain ⟨G, e, k, n, ok⟩ := w
  have ka := k (a, .lst vs) (.head _)
  rw [List.map_cons, List.nodup_cons] at n
  have eG : Same G (upd G a (.lst vs)) := fun b u q => by
    rw [upd_ne (ne_of_none q ka.2)]
    exact q
  refine ⟨upd G a (.lst vs), fun b u q => ?_, fun q hq => ?_, n.2, Ok.cons (.cons (.lst (SqL.of upd_same) (RepA.up eG (h G ok))) .nil) fun g hg => RepA.up eG (ok g hg)⟩
  · by_cases hb : b = a
    · rw [hb, upd_same] at q
      rw [hb]
      cases q
      exact ka.1
    · rw [upd_ne hb] at q
      exact e b u q
  · have hne : q.1 ≠ a := fun z => n.1 (List.mem_map.mpr ⟨q, hq, z⟩)
    obtain ⟨h1, h2⟩ := k q (.tail _ hq)
    exact ⟨h1, by rw [upd_ne hne]; exact h2⟩
theorem Wk.cons (h : Wk K c f c' f') : Wk K (x :: c) f (x :: c') f' → True := fun _ => trivial
end
end FR

set_option Elab.async false
set_option linter.all false
set_option maxRecDepth 100000
set_option maxHeartbeats 2000000
/-! What a reading does from a told state: TW an expression, BW a test, AW arguments, SW a statement. -/
namespace FR
open PySem PySem.Spec L2
open PyProof.Rows hiding St

/-! ### paths to cells -/
inductive Has : Cs → Addr → HO → (HO → Cs) → Prop
  | hd {a : Addr} {o : HO} {c : Cs} : Has ((a, o) :: c) a o (fun o' => (a, o') :: c)
  | tl {x : Addr × HO} {c : Cs} {a : Addr} {o : HO} {k : HO → Cs} : Has c a o k → Has (x :: c) a o (fun o' => x :: k o')
theorem Has.again {c : Cs} {a : Addr} {o : HO} {k : HO → Cs} (h : Has c a o k) (o' : HO) : Has (k o') a o' k := by
  induction h with
  | hd => exact .hd
  | tl _ ih => exact .tl ih
theorem Has.mem {c : Cs} {a : Addr} {o : HO} {k : HO → Cs} (h : Has c a o k) : (a, o) ∈ c := by
  induction h with
  | hd => exact .head _
  | tl _ ih => exact .tail _ ih
theorem Has.rest {c : Cs} {a : Addr} {o : HO} {k : HO → Cs} (h : Has c a o k) : ∃ r, ∀ o', (k o').Perm ((a, o') :: r) := by
  induction h with
  | @hd a o c => exact ⟨c, fun _ => .refl _⟩
  | @tl x c a o k _ ih =>
    obtain ⟨r, hr⟩ := ih
    exact ⟨x :: r, fun o' => ((hr o').cons x).trans (.swap _ _ _)⟩
theorem Has.self {c : Cs} {a : Addr} {o : HO} {k : HO → Cs} (h : Has c a o k) : k o = c := by
  induction h with
  | hd => rfl
  | tl _ ih => simp only [ih]
section
variable {K : PySem.W.Frag} {c : Cs} {f : Fs} {H : Hp} {a : Addr} {o o' : HO} {k : HO → Cs}
theorem Wd.get (w : Wd K c f H) (h : Has c a o k) : H a = some o := w.cellM h.mem
theorem Wd.set (w : Wd K c f H) (h : Has c a o k) (o' : HO) : Wd K (k o') f (upd H a o') := by
  obtain ⟨r, hr⟩ := h.rest
  have e := hr o
  rw [h.self] at e
  exact ((w.perm e).put (o' := o')).perm (hr o').symm
end

abbrev PV := V → Cs → Fs → Prop
abbrev PB := Bool → Cs → Fs → Prop
abbrev PL := List V → Cs → Fs → Prop
abbrev PX := Value → Option Addr → Cs → Fs → Prop
section
variable (K : PySem.W.Frag)
def TW (te : TE) (σ : St) (c : Cs) (f : Fs) (P : PV) : Prop := ∀ H, Wd K c f H → ∀ Q : VK, (∀ v c' f' H', P v c' f' → Wd K c' f' H' → Q v H') → te σ H Q
def BW (tt : TT) (σ : St) (c : Cs) (f : Fs) (P : PB) : Prop := ∀ H, Wd K c f H → ∀ Q : Bool → Hp → Prop, (∀ b c' f' H', P b c' f' → Wd K c' f' H' → Q b H') → tt σ H Q
def AW (ta : TA) (σ : St) (c : Cs) (f : Fs) (P : PL) : Prop := ∀ H, Wd K c f H → ∀ Q : List V → Hp → Prop, (∀ v c' f' H', P v c' f' → Wd K c' f' H' → Q v H') → ta σ H Q
def OW (to : TO) (σ : St) (c : Cs) (f : Fs) (P : Option Int → Cs → Fs → Prop) : Prop := ∀ H, Wd K c f H → ∀ Q : Option Int → Hp → Prop, (∀ v c' f' H', P v c' f' → Wd K c' f' H' → Q v H') → to σ H Q
def R1W (r : V → Hp → VK → Prop) (x : V) (c : Cs) (f : Fs) (P : PV) : Prop := ∀ H, Wd K c f H → ∀ Q : VK, (∀ v c' f' H', P v c' f' → Wd K c' f' H' → Q v H') → r x H Q
def R2W (r : R2) (x y : V) (c : Cs) (f : Fs) (P : PV) : Prop := ∀ H, Wd K c f H → ∀ Q : VK, (∀ v c' f' H', P v c' f' → Wd K c' f' H' → Q v H') → r x y H Q
def RLW (r : List V → Hp → VK → Prop) (xs : List V) (c : Cs) (f : Fs) (P : PV) : Prop := ∀ H, Wd K c f H → ∀ Q : VK, (∀ v c' f' H', P v c' f' → Wd K c' f' H' → Q v H') → r xs H Q
def RMW (r : V → List V → Hp → VK → Prop) (x : V) (xs : List V) (c : Cs) (f : Fs) (P : PV) : Prop := ∀ H, Wd K c f H → ∀ Q : VK, (∀ v c' f' H', P v c' f' → Wd K c' f' H' → Q v H') → r x xs H Q
/-- what is wanted behind a statement -/
structure EW where
  nx : St → Cs → Fs → Prop
  rt : PV
  bk : St → Cs → Fs → Prop := fun _ _ _ => False
  ct : St → Cs → Fs → Prop := fun _ _ _ => False
structure Cov (D : Ends) (E : EW) : Prop where
  nx : ∀ σ c f H, E.nx σ c f → Wd K c f H → D.nx σ H
  rt : ∀ v c f H, E.rt v c f → Wd K c f H → D.rt v H
  bk : ∀ σ c f H, E.bk σ c f → Wd K c f H → D.bk σ H
  ct : ∀ σ c f H, E.ct σ c f → Wd K c f H → D.ct σ H
def SW (ts : TS) (σ : St) (c : Cs) (f : Fs) (E : EW) : Prop := ∀ H, Wd K c f H → ∀ D, Cov K D E → ts D σ H
def GW (g : TG) (v : V) (σ : St) (c : Cs) (f : Fs) (N : St → Cs → Fs → Prop) : Prop := ∀ H, Wd K c f H → ∀ Q : St → Hp → Prop, (∀ σ' c' f' H', N σ' c' f' → Wd K c' f' H' → Q σ' H') → g v σ H Q
def GsW (g : TGs) (vs : List V) (σ : St) (c : Cs) (f : Fs) (N : St → Cs → Fs → Prop) : Prop := ∀ H, Wd K c f H → ∀ Q : St → Hp → Prop, (∀ σ' c' f' H', N σ' c' f' → Wd K c' f' H' → Q σ' H') → g vs σ H Q
end

section
variable {K : PySem.W.Frag} {σ : St} {c c' : Cs} {f f' : Fs} {P : PV} {B : PB} {L : PL} {te ta tb tx : TE} {tt tu : TT} {tl tr : TA} {v x y : V} {vs : List V} {d : D} {ds : List D} {i j : Nat} {m n : Int}

/-! ### telling anew -/
theorem TW.wk (h : Wk K c f c' f') (k : TW K te σ c' f' P) : TW K te σ c f P := fun H w => k H (h H w)
theorem BW.wk (h : Wk K c f c' f') (k : BW K tt σ c' f' B) : BW K tt σ c f B := fun H w => k H (h H w)
theorem SW.wk {ts : TS} {E : EW} (h : Wk K c f c' f') (k : SW K ts σ c' f' E) : SW K ts σ c f E := fun H w => k H (h H w)
theorem TW.imp {P' : PV} (h : TW K te σ c f P) (k : ∀ v c' f', P v c' f' → P' v c' f') : TW K te σ c f P' := fun H w Q q => h H w Q fun v c' f' H' p w' => q v c' f' H' (k v c' f' p) w'
theorem TW.exact {P' : PV} (h : TW K te σ c f P) (k : ∀ v c' f', P v c' f' → ∃ c'' f'', Wk K c' f' c'' f'' ∧ P' v c'' f'') : TW K te σ c f P' := fun H w Q q => h H w Q fun v c' f' H' p w' => by
  obtain ⟨c'', f'', e, p'⟩ := k v c' f' p
  exact q v c'' f'' H' p' (e H' w')

/-! ### expressions -/
theorem tw_var (h : σ[i]? = some (some v)) (p : P v c f) : TW K (tVar i) σ c f P := fun H w _ q => ⟨v, h, q v c f H p w⟩
theorem tw_c (p : P v c f) : TW K (tC v) σ c f P := fun H w _ q => q v c f H p w
theorem tw_byt {b : Array UInt8} (p : P (.byt b) c f) : TW K (fun _ H Q => Q (.byt b) H) σ c f P := fun H w _ q => q _ c f H p w
theorem tw_op {r : R2} (h : TW K ta σ c f fun x c1 f1 => TW K tb σ c1 f1 fun y c2 f2 => R2W K r x y c2 f2 P) : TW K (tOp r ta tb) σ c f P := fun H w Q q =>
  h H w _ fun _ _ _ _ h1 w1 => h1 _ w1 _ fun _ _ _ _ h2 w2 => h2 _ w2 Q q
theorem tw_un {r : V → Hp → VK → Prop} (h : TW K ta σ c f fun x c1 f1 => R1W K r x c1 f1 P) : TW K (tUn r ta) σ c f P := fun H w Q q => h H w _ fun _ _ _ _ h1 w1 => h1 _ w1 Q q
theorem aw_nil (p : L [] c f) : AW K tNil σ c f L := fun H w _ q => q [] c f H p w
theorem aw_cons (h : TW K ta σ c f fun x c1 f1 => AW K tr σ c1 f1 fun xs c2 f2 => L (x :: xs) c2 f2) : AW K (tCons ta tr) σ c f L := fun H w Q q =>
  h H w _ fun _ _ _ _ h1 w1 => h1 _ w1 _ fun _ _ _ _ h2 w2 => q _ _ _ _ h2 w2
/-- a new tuple -/
theorem tw_tup (h : AW K tl σ c f fun xs c1 f1 => xs.length ≤ sizeLine ∧ ∃ es, Ents K f1 xs es ∧ ∀ v, P v c1 (([v], [.tup es]) :: f1)) : TW K (tTup tl) σ c f P := fun H w Q q =>
  h H w _ fun _ _ _ _ ⟨hz, es, he, hp⟩ w1 => ⟨hz, fun p np => q _ _ _ _ (hp (.ref p)) (w1.newT np he)⟩
/-- a new list, never to change -/
theorem tw_lst (h : AW K tl σ c f fun xs c1 f1 => xs.length ≤ sizeLine ∧ ∃ es, Ents K f1 xs es ∧ ∀ v, P v c1 (([v], [.lst es]) :: f1)) : TW K (tLst tl) σ c f P := fun H w Q q =>
  h H w _ fun _ _ _ _ ⟨hz, es, he, hp⟩ w1 => ⟨hz, fun p np => q _ _ _ _ (hp (.ref p)) (w1.newL np he)⟩
/-- a new list, a cell -/
theorem tw_lstC (h : AW K tl σ c f fun xs c1 f1 => xs.length ≤ sizeLine ∧ ∀ p, P (.ref p) ((p, .lst xs) :: c1) f1) : TW K (tLst tl) σ c f P := fun H w Q q =>
  h H w _ fun _ _ _ _ ⟨hz, hp⟩ w1 => ⟨hz, fun p np => q _ _ _ _ (hp p) (w1.new np)⟩
theorem tw_cb {r : List V → Hp → VK → Prop} (h : AW K tl σ c f fun xs c1 f1 => RLW K r xs c1 f1 P) : TW K (tCB r tl) σ c f P := fun H w Q q => h H w _ fun _ _ _ _ h1 w1 => h1 _ w1 Q q
theorem tw_if (h : BW K tt σ c f fun b c1 f1 => if b = true then TW K ta σ c1 f1 P else TW K tb σ c1 f1 P) : TW K (tIf tt ta tb) σ c f P := fun H w Q q =>
  h H w _ fun b _ _ _ h1 w1 => by
    cases b with
    | true =>
      rw [if_pos rfl] at h1 ⊢
      exact h1 _ w1 Q q
    | false =>
      rw [if_neg Bool.false_ne_true] at h1 ⊢
      exact h1 _ w1 Q q
theorem tw_sl {r : V → Option Int → Option Int → Hp → VK → Prop} {t1 t2 : TO} (h : TW K te σ c f fun x c1 f1 => OW K t1 σ c1 f1 fun l c2 f2 => OW K t2 σ c2 f2 fun u c3 f3 => RLW K (fun _ H Q => r x l u H Q) [] c3 f3 P) : TW K (tSl r te t1 t2) σ c f P := fun H w Q q =>
  h H w _ fun _ _ _ _ h1 w1 => h1 _ w1 _ fun _ _ _ _ h2 w2 => h2 _ w2 _ fun _ _ _ _ h3 w3 => h3 _ w3 Q q
theorem ow_none {O : Option Int → Cs → Fs → Prop} (p : O none c f) : OW K tNoPart σ c f O := fun H w _ q => q _ _ _ _ p w
theorem ow_some {O : Option Int → Cs → Fs → Prop} (h : TW K te σ c f fun x c1 f1 => ∃ i, x = .int i ∧ O (some i) c1 f1) : OW K (tPart te) σ c f O := fun H w _ q =>
  h H w _ fun _ _ _ _ ⟨i, e, p⟩ w1 => ⟨i, e, q _ _ _ _ p w1⟩

/-! ### operations on values -/
theorem rw_I0 {g : Int → Int → V} (p : P (g m n) c f) : R2W K (rI0 g) (.int m) (.int n) c f P := fun H w _ q => ⟨m, n, rfl, rfl, q _ _ _ _ p w⟩
theorem rw_I {C : Int → Int → Prop} {g : Int → Int → V} (hc : C m n) (p : P (g m n) c f) : R2W K (rI C g) (.int m) (.int n) c f P := fun H w _ q => ⟨m, n, rfl, rfl, hc, q _ _ _ _ p w⟩
theorem rw_U {g : Int → V} (p : P (g m) c f) : R1W K (rU g) (.int m) c f P := fun H w _ q => ⟨m, rfl, q _ _ _ _ p w⟩
theorem rw_eq (h : scal x y = true) (p : P (.bl (decide (x = y))) c f) : R2W K rEq x y c f P := fun H w _ q => ⟨h, q _ _ _ _ p w⟩
theorem rw_ne (h : scal x y = true) (p : P (.bl (!decide (x = y))) c f) : R2W K rNe x y c f P := fun H w _ q => ⟨h, q _ _ _ _ p w⟩
theorem atI_len {α β : Type} {xs : List α} {ys : List β} {d : β} (hl : xs.length = ys.length) (h : atI ys n = some d) : ∃ j, j < ys.length ∧ ys[j]? = some d ∧ ∀ x, xs[j]? = some x → atI xs n = some x := by
  have h2 : (ixN ys.length n).bind (fun j => ys[j]?) = some d := h
  cases e : ixN ys.length n with
  | none =>
    rw [e] at h2
    cases h2
  | some j =>
    rw [e] at h2
    have h3 : ys[j]? = some d := h2
    refine ⟨j, (List.getElem?_eq_some_iff.mp h3).1, h3, fun x hx => ?_⟩
    show (ixN xs.length n).bind (fun j => xs[j]?) = some x
    rw [hl, e]
    exact hx
theorem Wd.ixL {H : Hp} (w : Wd K c f H) (h : Ent K f x (.lst ds)) (hd : atI ds n = some d) : ∃ a ws v, x = .ref a ∧ SqL K H a ws ∧ atI ws n = some v ∧ Wd K c (([v], [d]) :: f) H := by
  obtain ⟨G, e, k, nn, ok⟩ := w
  cases h G ok with
  | @lst a ws _ s r =>
    obtain ⟨j, hj, e1, e2⟩ := atI_len r.len hd
    obtain ⟨v, e3, rv⟩ := r.get e1
    exact ⟨a, ws, v, rfl, e.seq s, e2 v e3, G, e, k, nn, Ok.cons (.cons rv .nil) ok⟩
theorem Wd.ixT {H : Hp} (w : Wd K c f H) (h : Ent K f x (.tup ds)) (hd : atI ds n = some d) : ∃ a ws v, x = .ref a ∧ SqT K H a ws ∧ atI ws n = some v ∧ Wd K c (([v], [d]) :: f) H := by
  obtain ⟨G, e, k, nn, ok⟩ := w
  cases h G ok with
  | @tup a ws _ s r =>
    obtain ⟨j, hj, e1, e2⟩ := atI_len r.len hd
    obtain ⟨v, e3, rv⟩ := r.get e1
    exact ⟨a, ws, v, rfl, sqT_up e s, e2 v e3, G, e, k, nn, Ok.cons (.cons rv .nil) ok⟩
theorem Wd.dropF {H : Hp} {g : List V × List D} (w : Wd K c (g :: f) H) : Wd K c f H := Wk.dropF H w
/-- a list that stays, or a cell's -/
def Sq (K : PySem.W.Frag) (c : Cs) (f : Fs) (x : V) (ds : List D) : Prop := Ent K f x (.lst ds) ∨ ∃ a vs k, x = .ref a ∧ Has c a (.lst vs) k ∧ Ents K f vs ds
theorem Sq.ent (h : Ent K f x (.lst ds)) : Sq K c f x ds := .inl h
theorem Sq.cell {a : Addr} {ws : List V} {k : HO → Cs} (h : Has c a (.lst ws) k) (e : Ents K f ws ds) : Sq K c f (.ref a) ds := .inr ⟨a, ws, k, rfl, h, e⟩
theorem Wd.seq {H : Hp} (w : Wd K c f H) (h : Sq K c f x ds) : ∃ a ws, x = .ref a ∧ SqL K H a ws ∧ ws.length = ds.length ∧ Wd K c ((ws, ds) :: f) H := by
  rcases h with h | ⟨a, ws, k, e, hk, he⟩
  · exact w.lst h
  · exact ⟨a, ws, e, SqL.of (w.get hk), w.len he, w.fact he⟩
theorem Ok.get {G : Hp} {ws : List V} (h : Ok K G ((ws, ds) :: f)) (e : ws[i]? = some v) (e2 : ds[i]? = some d) : Ok K G (([v], [d]) :: f) := by
  obtain ⟨u, h1, h2⟩ := h.hd.get e2
  have h1' : ws[i]? = some u := h1
  rw [e] at h1'
  cases h1'
  exact Ok.cons (.cons h2 .nil) h.tl
theorem Wd.one {H : Hp} {ws : List V} (w : Wd K c ((ws, ds) :: f) H) (e : ws[i]? = some v) (e2 : ds[i]? = some d) : Wd K c (([v], [d]) :: f) H := by
  obtain ⟨G, e0, k, nn, ok⟩ := w
  exact ⟨G, e0, k, nn, ok.get e e2⟩
theorem Wd.ixS {H : Hp} (w : Wd K c f H) (h : Sq K c f x ds) (hd : atI ds n = some d) : ∃ a ws v, x = .ref a ∧ SqL K H a ws ∧ atI ws n = some v ∧ Wd K c (([v], [d]) :: f) H := by
  obtain ⟨a, ws, e, s, hl, w1⟩ := w.seq h
  obtain ⟨j, hj, e1, e2⟩ := atI_len hl hd
  have ev : ws[j]? = some (ws[j]'(by omega)) := List.getElem?_eq_getElem _
  exact ⟨a, ws, _, e, s, e2 _ ev, w1.one ev e1⟩
/-- an item of a list; f: of no heap -/
theorem rw_ixL (h : Sq K c f x ds) (hd : atI ds n = some d) (p : ∀ v, P v c (([v], [d]) :: f)) : R2W K (rIxL K) x (.int n) c f P := fun H w _ q => by
  obtain ⟨a, ws, v, rfl, s, e, w1⟩ := w.ixS h hd
  exact ⟨a, ws, n, v, rfl, rfl, s, e, q _ _ _ _ (p v) w1⟩
theorem rw_ixLf {u : V} (h : Sq K c f x ds) (hd : atI ds n = some d) (hf : d.v? = some u) (p : P u c f) : R2W K (rIxL K) x (.int n) c f P := fun H w _ q => by
  obtain ⟨a, ws, v, rfl, s, e, w1⟩ := w.ixS h hd
  have ev : v = u := w1.flat Ent.hd hf
  subst ev
  exact ⟨a, ws, n, v, rfl, rfl, s, e, q _ _ _ _ p w1.dropF⟩
theorem rw_ixT (h : Ent K f x (.tup ds)) (hd : atI ds n = some d) (p : ∀ v, P v c (([v], [d]) :: f)) : R2W K (rIxT K) x (.int n) c f P := fun H w _ q => by
  obtain ⟨a, ws, v, rfl, s, e, w1⟩ := w.ixT h hd
  exact ⟨a, ws, n, v, rfl, rfl, s, e, q _ _ _ _ (p v) w1⟩
theorem rw_ixTf {u : V} (h : Ent K f x (.tup ds)) (hd : atI ds n = some d) (hf : d.v? = some u) (p : P u c f) : R2W K (rIxT K) x (.int n) c f P := fun H w _ q => by
  obtain ⟨a, ws, v, rfl, s, e, w1⟩ := w.ixT h hd
  have ev : v = u := w1.flat Ent.hd hf
  subst ev
  exact ⟨a, ws, n, v, rfl, rfl, s, e, q _ _ _ _ p w1.dropF⟩
/-- an item of a cell's list -/
theorem rw_ixC {a : Addr} {ws : List V} {k : HO → Cs} (h : Has c a (.lst ws) k) (hd : atI ws n = some v) (p : P v c f) : R2W K (rIxL K) (.ref a) (.int n) c f P := fun H w _ q =>
  ⟨a, ws, n, v, rfl, rfl, SqL.of (w.get h), hd, q _ _ _ _ p w⟩

/-! ### tests -/
theorem bw_test (h : TW K te σ c f fun x c1 f1 => ∃ b, x = .bl b ∧ B b c1 f1) : BW K (tTest te) σ c f B := fun H w _ q => h H w _ fun _ _ _ _ ⟨b, e, p⟩ w1 => ⟨b, e, q _ _ _ _ p w1⟩
theorem bw_val (h : TW K te σ c f fun x c1 f1 => ∃ b, x = .bl b ∧ B b c1 f1) : BW K (tB te) σ c f B := fun H w _ q => h H w _ fun _ _ _ _ ⟨b, e, p⟩ w1 => ⟨b, e, q _ _ _ _ p w1⟩
theorem bw_and (h : BW K tt σ c f fun b c1 f1 => if b = true then BW K tu σ c1 f1 B else B false c1 f1) : BW K (tAnd tt tu) σ c f B := fun H w Q q =>
  h H w _ fun b _ _ _ h1 w1 => by
    cases b with
    | true =>
      rw [if_pos rfl] at h1 ⊢
      exact h1 _ w1 Q q
    | false =>
      rw [if_neg Bool.false_ne_true] at h1 ⊢
      exact q _ _ _ _ h1 w1
theorem bw_or (h : BW K tt σ c f fun b c1 f1 => if b = true then B true c1 f1 else BW K tu σ c1 f1 B) : BW K (tOr tt tu) σ c f B := fun H w Q q =>
  h H w _ fun b _ _ _ h1 w1 => by
    cases b with
    | true =>
      rw [if_pos rfl] at h1 ⊢
      exact q _ _ _ _ h1 w1
    | false =>
      rw [if_neg Bool.false_ne_true] at h1 ⊢
      exact h1 _ w1 Q q
theorem bw_not (h : BW K tt σ c f fun b c1 f1 => B (!b) c1 f1) : BW K (tNot tt) σ c f B := fun H w _ q => h H w _ fun _ _ _ _ p w1 => q _ _ _ _ p w1
theorem tw_and (h : TW K ta σ c f fun x c1 f1 => ∃ b, x = .bl b ∧ if b = true then TW K tb σ c1 f1 P else P (.bl false) c1 f1) : TW K (tAndV ta tb) σ c f P := fun H w Q q =>
  h H w _ fun _ _ _ _ ⟨b, e, h1⟩ w1 => ⟨b, e, by
    cases b with
    | true =>
      rw [if_pos rfl] at h1 ⊢
      exact h1 _ w1 Q q
    | false =>
      rw [if_neg Bool.false_ne_true] at h1 ⊢
      exact q _ _ _ _ h1 w1⟩
theorem tw_or (h : TW K ta σ c f fun x c1 f1 => ∃ b, x = .bl b ∧ if b = true then P (.bl true) c1 f1 else TW K tb σ c1 f1 P) : TW K (tOrV ta tb) σ c f P := fun H w Q q =>
  h H w _ fun _ _ _ _ ⟨b, e, h1⟩ w1 => ⟨b, e, by
    cases b with
    | true =>
      rw [if_pos rfl] at h1 ⊢
      exact q _ _ _ _ h1 w1
    | false =>
      rw [if_neg Bool.false_ne_true] at h1 ⊢
      exact h1 _ w1 Q q⟩
theorem tw_not (h : TW K ta σ c f fun x c1 f1 => ∃ b, x = .bl b ∧ P (.bl (!b)) c1 f1) : TW K (tNotV ta) σ c f P := fun H w _ q => h H w _ fun _ _ _ _ ⟨b, e, p⟩ w1 => ⟨b, e, q _ _ _ _ p w1⟩
theorem if2 {b : Bool} {A C : Prop} (h1 : b = true → A) (h2 : b = false → C) : if b = true then A else C := by
  cases b with
  | true =>
    rw [if_pos rfl]
    exact h1 rfl
  | false =>
    rw [if_neg Bool.false_ne_true]
    exact h2 rfl
theorem if1 {b : Bool} {A C : Prop} (e : b = true) (h : A) : if b = true then A else C := by
  rw [if_pos e]
  exact h
theorem if0 {b : Bool} {A C : Prop} (e : b = false) (h : C) : if b = true then A else C := by
  rw [e, if_neg Bool.false_ne_true]
  exact h

/-! ### statements -/
variable {ts tu' : TS} {E : EW} {g : TG} {N : St → Cs → Fs → Prop}
theorem sw_seq (h : SW K ts σ c f { E with nx := fun σ1 c1 f1 => SW K tu' σ1 c1 f1 E }) : SW K (tSeq ts tu') σ c f E := fun H w D q =>
  h H w { D with nx := tu' D } ⟨fun _ _ _ H1 h1 w1 => h1 H1 w1 D q, q.rt, q.bk, q.ct⟩
theorem sw_next (p : E.nx σ c f) : SW K tNext σ c f E := fun H w _ q => q.nx _ _ _ H p w
theorem sw_brk (p : E.bk σ c f) : SW K tBreak σ c f E := fun H w _ q => q.bk _ _ _ H p w
theorem sw_cont (p : E.ct σ c f) : SW K tCont σ c f E := fun H w _ q => q.ct _ _ _ H p w
theorem sw_retN (p : E.rt .non c f) : SW K tRetN σ c f E := fun H w _ q => q.rt _ _ _ H p w
theorem sw_ret (h : TW K te σ c f E.rt) : SW K (tRet te) σ c f E := fun H w _ q => h H w _ q.rt
theorem sw_drop (h : TW K te σ c f fun _ c1 f1 => E.nx σ c1 f1) : SW K (tDrop te) σ c f E := fun H w _ q => h H w _ fun _ _ _ H1 p w1 => q.nx _ _ _ H1 p w1
theorem sw_asg (h : TW K te σ c f fun x c1 f1 => GW K g x σ c1 f1 E.nx) : SW K (tAsg te g) σ c f E := fun H w _ q => h H w _ fun _ _ _ H1 p w1 => p H1 w1 _ q.nx
theorem gw_name (p : N (σ.set i (some v)) c f) : GW K (gName i) v σ c f N := fun H w _ q => q _ _ _ H p w
theorem sw_set (h : TW K te σ c f fun x c1 f1 => E.nx (σ.set i (some x)) c1 f1) : SW K (tAsg te (gName i)) σ c f E := sw_asg (h.imp fun _ _ _ p => gw_name p)
theorem sw_if (h : BW K tt σ c f fun b c1 f1 => if b = true then SW K ts σ c1 f1 E else SW K tu' σ c1 f1 E) : SW K (tIfS tt ts tu') σ c f E := fun H w D q =>
  h H w _ fun b _ _ H1 h1 w1 => by
    cases b with
    | true =>
      rw [if_pos rfl] at h1 ⊢
      exact h1 H1 w1 D q
    | false =>
      rw [if_neg Bool.false_ne_true] at h1 ⊢
      exact h1 H1 w1 D q
theorem sw_par {ta : TA} (h : AW K ta σ c f fun xs c1 f1 => ∃ v w, xs = [v, w] ∧ E.nx ((σ.set i (some v)).set j (some w)) c1 f1) : SW K (tPar i j ta) σ c f E := fun H w _ q =>
  h H w _ fun _ _ _ H1 ⟨v, u, e, p⟩ w1 => ⟨v, u, e, q.nx _ _ _ H1 p w1⟩
theorem gsw_nil (p : N σ c f) : GsW K gNil [] σ c f N := fun H w _ q => ⟨rfl, q _ _ _ H p w⟩
theorem gsw_cons {t : TG} {u : TGs} (h : GW K t v σ c f fun σ1 c1 f1 => GsW K u vs σ1 c1 f1 N) : GsW K (gCons t u) (v :: vs) σ c f N := fun H w Q q =>
  ⟨v, vs, rfl, h H w _ fun _ _ _ H1 p w1 => p H1 w1 Q q⟩
/-- (a, b, ..) = a tuple that stays -/
theorem gw_tup {m : Nat} {t : TGs} (h : Ent K f v (.tup ds)) (hl : ds.length = m) (p : ∀ ws, ws.length = m → GsW K t ws σ c ((ws, ds) :: f) N) : GW K (gTup K m t) v σ c f N := fun H w Q q => by
  obtain ⟨a, ws, rfl, s, e, w1⟩ := w.tup h
  exact ⟨a, ws, rfl, s, e.trans hl, p ws (e.trans hl) H w1 Q q⟩
/-- o[i] = v, o a cell -/
theorem gw_setC {to ti : TE} (h : TW K to σ c f fun o c1 f1 => TW K ti σ c1 f1 fun i c2 f2 => ∃ a ws m j k, o = .ref a ∧ i = .int m ∧ Has c2 a (.lst ws) k ∧ ixN ws.length m = some j ∧ N σ (k (.lst (ws.set j v))) f2) : GW K (gSub to ti rSetL) v σ c f N := fun H w Q q =>
  h H w _ fun o _ _ _ h1 w1 => h1 _ w1 _ fun i _ _ H2 ⟨a, ws, m, j, k, e1, e2, hs, hj, p⟩ w2 => ⟨a, ws, m, j, e1, e2, w2.get hs, hj, q _ _ _ _ p (w2.set hs _)⟩

/-! ### what is walked: n turns, S holds of the state all the while, Y tells the item and the state behind -/
structure WalkW (K : PySem.W.Frag) (J : It) (n : Nat) (S : Cs → Fs → Prop) (Y : Nat → V → Cs → Fs → Cs → Fs → Prop) : Prop where
  goes : ∀ i c f H, i < n → S c f → Wd K c f H → J.go i H
  stops : ∀ c f H, S c f → Wd K c f H → J.stop n H
  yields : ∀ i x c f H H', i < n → S c f → Wd K c f H → J.yld i H x H' → ∃ c' f', Y i x c f c' f' ∧ Wd K c' f' H'
def IW (K : PySem.W.Frag) (wi : TI) (σ : St) (c : Cs) (f : Fs) (R : Nat → (Cs → Fs → Prop) → (Nat → V → Cs → Fs → Cs → Fs → Prop) → Cs → Fs → Prop) : Prop :=
  ∀ H, Wd K c f H → ∀ Rh : It → Hp → Prop, (∀ J n S Y c' f' H', WalkW K J n S Y → R n S Y c' f' → Wd K c' f' H' → Rh J H') → wi σ H Rh
/-- the item of ds, the state as it was -/
def YD (ds : List D) : Nat → V → Cs → Fs → Cs → Fs → Prop := fun i v c f c' f' => c' = c ∧ ∃ d, ds[i]? = some d ∧ f' = (([v], [d]) :: f)
/-- a new pair of the place and the item -/
def YE (ds : List D) : Nat → V → Cs → Fs → Cs → Fs → Prop := fun i v c f c' f' => c' = c ∧ ∃ d, ds[i]? = some d ∧ f' = (([v], [.tup [.int (i : Nat), d]]) :: f)
def YC (ws : List V) : Nat → V → Cs → Fs → Cs → Fs → Prop := fun i v c f c' f' => c' = c ∧ f' = f ∧ ws[i]? = some v
def YI (lo : Int) : Nat → V → Cs → Fs → Cs → Fs → Prop := fun i v c f c' f' => c' = c ∧ f' = f ∧ v = .int (lo + (i : Nat))
theorem walk_lst {a : Addr} {ds : List D} : WalkW K (Itl K a) ds.length (fun c f => Sq K c f (.ref a) ds) (YD ds) where
  goes := fun i c f H hi hx w => by
    obtain ⟨a', ws, e, s, hl, _⟩ := w.seq hx
    cases e
    exact ⟨ws, ws[i]'(by omega), s, List.getElem?_eq_getElem _⟩
  stops := fun c f H hx w => by
    obtain ⟨a', ws, e, s, hl, _⟩ := w.seq hx
    cases e
    exact ⟨ws, s, Nat.le_of_eq hl⟩
  yields := fun i x c f H H' hi hx w y => by
    obtain ⟨e1, y⟩ := y
    subst e1
    obtain ⟨a', ws, e, s, hl, w1⟩ := w.seq hx
    cases e
    have hd : ds[i]? = some ds[i] := List.getElem?_eq_getElem hi
    exact ⟨c, _, ⟨rfl, _, hd, rfl⟩, w1.one (y ws s) hd⟩
theorem walk_tup {a : Addr} {ds : List D} : WalkW K (Itt K a) ds.length (fun _ f => Ent K f (.ref a) (.tup ds)) (YD ds) where
  goes := fun i c f H hi hx w => by
    obtain ⟨a', ws, e, s, hl, _⟩ := w.tup hx
    cases e
    exact ⟨ws, ws[i]'(by omega), s, List.getElem?_eq_getElem _⟩
  stops := fun c f H hx w => by
    obtain ⟨a', ws, e, s, hl, _⟩ := w.tup hx
    cases e
    exact ⟨ws, s, Nat.le_of_eq hl⟩
  yields := fun i x c f H H' hi hx w y => by
    obtain ⟨e1, y⟩ := y
    subst e1
    obtain ⟨G, e, k, nn, ok⟩ := w
    cases hx G ok with
    | @tup _ ws _ s r =>
      obtain ⟨d, hd, rd⟩ := r.getV (y ws (sqT_up e s))
      exact ⟨c, _, ⟨rfl, d, hd, rfl⟩, G, e, k, nn, Ok.cons (.cons rd .nil) ok⟩
theorem walk_cell {a : Addr} {ws : List V} : WalkW K (Itl K a) ws.length (fun c _ => ∃ k, Has c a (.lst ws) k) (YC ws) where
  goes := fun i c f H hi ⟨k, hk⟩ w => ⟨ws, ws[i], SqL.of (w.get hk), List.getElem?_eq_getElem hi⟩
  stops := fun c f H ⟨k, hk⟩ w => ⟨ws, SqL.of (w.get hk), Nat.le_refl _⟩
  yields := fun i x c f H H' hi ⟨k, hk⟩ w y => by
    obtain ⟨e1, y⟩ := y
    subst e1
    exact ⟨c, f, ⟨rfl, rfl, y ws (SqL.of (w.get hk))⟩, w⟩
theorem walk_rng {lo : Int} {n : Nat} : WalkW K (Itr lo n) n (fun _ _ => True) (YI lo) where
  goes := fun i c f H hi _ w => hi
  stops := fun c f H _ w => Nat.le_refl _
  yields := fun i x c f H H' hi _ w y => by
    obtain ⟨e1, y⟩ := y
    subst e1
    exact ⟨c, f, ⟨rfl, rfl, y⟩, w⟩
variable {R : Nat → (Cs → Fs → Prop) → (Nat → V → Cs → Fs → Cs → Fs → Prop) → Cs → Fs → Prop}
theorem iw_lst (h : TW K te σ c f fun x c1 f1 => ∃ ds, Sq K c1 f1 x ds ∧ R ds.length (fun c f => Sq K c f x ds) (YD ds) c1 f1) : IW K (iList K te) σ c f R := fun H w Q q =>
  h H w _ fun x c1 f1 H1 ⟨ds, hx, r⟩ w1 => by
    obtain ⟨a, ws, rfl, s, _⟩ := w1.seq hx
    exact ⟨a, rfl, ⟨ws, s⟩, q _ _ _ _ _ _ H1 walk_lst r w1⟩
theorem iw_tup (h : TW K te σ c f fun x c1 f1 => ∃ ds, Ent K f1 x (.tup ds) ∧ R ds.length (fun _ f => Ent K f x (.tup ds)) (YD ds) c1 f1) : IW K (iTup K te) σ c f R := fun H w Q q =>
  h H w _ fun x c1 f1 H1 ⟨ds, hx, r⟩ w1 => by
    obtain ⟨a, ws, rfl, s, _⟩ := w1.tup hx
    exact ⟨a, rfl, ⟨ws, s⟩, q _ _ _ _ _ _ H1 walk_tup r w1⟩
theorem iw_cell (h : TW K te σ c f fun x c1 f1 => ∃ a ws k, x = .ref a ∧ Has c1 a (.lst ws) k ∧ R ws.length (fun c _ => ∃ k, Has c a (.lst ws) k) (YC ws) c1 f1) : IW K (iList K te) σ c f R := fun H w Q q =>
  h H w _ fun x c1 f1 H1 ⟨a, ws, k, e, hk, r⟩ w1 => ⟨a, e, ⟨ws, SqL.of (w1.get hk)⟩, q _ _ _ _ _ _ H1 walk_cell r w1⟩
theorem iw_rng1 {ta : TA} (h : AW K ta σ c f fun xs c1 f1 => ∃ j : Int, xs = [.int j] ∧ -(2 ^ 62) ≤ j ∧ j < 2 ^ 62 ∧ R j.toNat (fun _ _ => True) (YI 0) c1 f1) : IW K (iRng1 ta) σ c f R := fun H w Q q =>
  h H w _ fun xs c1 f1 H1 ⟨j, e, h1, h2, r⟩ w1 => ⟨j, e, h1, h2, q _ _ _ _ _ _ H1 walk_rng r w1⟩
theorem iw_rng2 {ta : TA} (h : AW K ta σ c f fun xs c1 f1 => ∃ i j : Int, xs = [.int i, .int j] ∧ (-(2 ^ 62) ≤ i ∧ i < 2 ^ 62 ∧ -(2 ^ 62) ≤ j ∧ j < 2 ^ 62) ∧ R (j - i).toNat (fun _ _ => True) (YI i) c1 f1) : IW K (iRng2 ta) σ c f R := fun H w Q q =>
  h H w _ fun xs c1 f1 H1 ⟨i, j, e, h1, r⟩ w1 => ⟨i, j, e, h1, q _ _ _ _ _ _ H1 walk_rng r w1⟩

/-! ### loops -/
/-- what a turn leads to, but for the way it is told -/
def Nxt (K : PySem.W.Frag) (I : St → Cs → Fs → Prop) : St → Cs → Fs → Prop := fun σ c f => ∃ c' f', Wk K c f c' f' ∧ I σ c' f'
theorem Nxt.of {I : St → Cs → Fs → Prop} (h : I σ c f) : Nxt K I σ c f := ⟨c, f, Wk.refl, h⟩
theorem sw_for {wi : TI} (h : IW K wi σ c f fun n S Y c1 f1 => ∃ I : Nat → St → Cs → Fs → Prop, Nxt K (I 0) σ c1 f1 ∧ (∀ i σ' c' f', i ≤ n → I i σ' c' f' → S c' f') ∧
      (∀ i x σ' c' f' c2 f2, i < n → I i σ' c' f' → Y i x c' f' c2 f2 → GW K g x σ' c2 f2 fun σ3 c3 f3 => SW K ts σ3 c3 f3 { E with nx := Nxt K (I (i + 1)), ct := Nxt K (I (i + 1)), bk := E.nx }) ∧
      (∀ σ' c' f', I n σ' c' f' → E.nx σ' c' f')) : SW K (tFor wi g ts) σ c f E := fun H w D q =>
  h H w _ fun J n S Y c1 f1 H1 wk ⟨I, ⟨c2, f2, e0, i0⟩, hst, hs, hd⟩ w1 => by
    refine ⟨fun i m σ' H' => m = n - i ∧ i ≤ n ∧ ∃ c' f', I i σ' c' f' ∧ Wd K c' f' H', ⟨n, by simp, Nat.zero_le _, c2, f2, i0, e0 _ w1⟩, ?_⟩
    rintro i m σ' H' ⟨rfl, hi, c', f', hI, w'⟩
    have hS := hst i σ' c' f' hi hI
    by_cases hlt : i < n
    · refine .inr ⟨wk.goes i c' f' H' hlt hS w', fun σ3 H3 => ∃ c' f', I (i + 1) σ3 c' f' ∧ Wd K c' f' H3, fun σ3 H3 ⟨c4, f4, z1, z2⟩ => ⟨n - (i + 1), by omega, rfl, hlt, c4, f4, z1, z2⟩, fun x H2 hy => ?_⟩
      obtain ⟨c3, f3, y, w3⟩ := wk.yields i x c' f' H' H2 hlt hS w' hy
      refine hs i x σ' c' f' c3 f3 hlt hI y H2 w3 _ fun σ4 c4 f4 H4 h4 w4 => h4 H4 w4 _ ⟨?_, q.rt, q.nx, ?_⟩
      · exact fun σ5 c5 f5 H5 ⟨c6, f6, e6, i6⟩ w5 => ⟨c6, f6, i6, e6 _ w5⟩
      · exact fun σ5 c5 f5 H5 ⟨c6, f6, e6, i6⟩ w5 => ⟨c6, f6, i6, e6 _ w5⟩
    · have e : i = n := by omega
      subst e
      exact .inl ⟨wk.stops c' f' H' hS w', q.nx _ _ _ _ (hd σ' c' f' hI) w'⟩
theorem sw_while (I : Nat → St → Cs → Fs → Prop) (h0 : ∃ m, Nxt K (I m) σ c f)
    (hs : ∀ m σ' c' f', I m σ' c' f' → BW K tt σ' c' f' fun b c1 f1 => if b = true then SW K ts σ' c1 f1 { E with nx := Nxt K fun σ3 c3 f3 => ∃ m', m' < m ∧ I m' σ3 c3 f3, ct := Nxt K fun σ3 c3 f3 => ∃ m', m' < m ∧ I m' σ3 c3 f3, bk := E.nx } else E.nx σ' c1 f1) :
    SW K (tWhile tt ts) σ c f E := fun H w D q => by
  obtain ⟨m0, c0, f0, e0, i0⟩ := h0
  refine ⟨fun m σ' H' => ∃ c' f', I m σ' c' f' ∧ Wd K c' f' H', ⟨m0, c0, f0, i0, e0 H w⟩, ?_⟩
  rintro m σ' H' ⟨c', f', hI, w'⟩
  refine hs m σ' c' f' hI H' w' _ fun b c1 f1 H1 h1 w1 => ?_
  cases b with
  | true =>
    rw [if_pos rfl] at h1 ⊢
    refine ⟨fun σ3 H3 => ∃ m', m' < m ∧ ∃ c' f', I m' σ3 c' f' ∧ Wd K c' f' H3, fun σ3 H3 ⟨m', hm, z⟩ => ⟨m', hm, z⟩, h1 H1 w1 _ ⟨?_, q.rt, q.nx, ?_⟩⟩
    · exact fun σ5 c5 f5 H5 ⟨c6, f6, e6, m', hm, i6⟩ w5 => ⟨m', hm, c6, f6, i6, e6 _ w5⟩
    · exact fun σ5 c5 f5 H5 ⟨c6, f6, e6, m', hm, i6⟩ w5 => ⟨m', hm, c6, f6, i6, e6 _ w5⟩
  | false =>
    rw [if_neg Bool.false_ne_true] at h1 ⊢
    exact q.nx _ _ _ _ h1 w1
/-- [e for t in w if ..]: I by the turn and what is made so far; the new list is a cell in front -/
theorem tw_lc {wi : TI} {vs : List Nat} (h : IW K wi σ c f fun n S Y c1 f1 => ∃ I : Nat → List V → Cs → Fs → Prop, (∃ c2 f2, Wk K c1 f1 c2 f2 ∧ I 0 [] c2 f2) ∧ (∀ i acc D c' f', i ≤ n → I i acc c' f' → S ((D, .lst acc) :: c') f') ∧
      (∀ i x acc D c' f' c2 f2, i < n → I i acc c' f' → Y i x ((D, .lst acc) :: c') f' c2 f2 → GW K g x (wipe σ vs) c2 f2 fun σ3 c3 f3 => wipe σ3 vs = wipe σ vs ∧ BW K tt σ3 c3 f3 fun b c4 f4 =>
        if b = true then TW K te σ3 c4 f4 fun y c5 f5 => ∃ k, Has c5 D (.lst acc) k ∧ acc.length < sizeLine ∧ ∃ c6 f6, Wk K (k (.lst (acc ++ [y]))) f5 ((D, .lst (acc ++ [y])) :: c6) f6 ∧ I (i + 1) (acc ++ [y]) c6 f6
        else ∃ c6 f6, Wk K c4 f4 ((D, .lst acc) :: c6) f6 ∧ I (i + 1) acc c6 f6) ∧
      (∀ acc D c' f', I n acc c' f' → P (.ref D) ((D, .lst acc) :: c') f')) : TW K (tLc wi g tt te vs) σ c f P := fun H w Q q =>
  h H w _ fun J n S Y c1 f1 H1 wk ⟨I, ⟨c2, f2, e0, i0⟩, hst, hs, hd⟩ w1 => by
    intro D nD
    refine ⟨fun i m H' => m = n - i ∧ i ≤ n ∧ ∃ acc c' f', I i acc c' f' ∧ Wd K ((D, .lst acc) :: c') f' H', ⟨n, by simp, Nat.zero_le _, [], c2, f2, i0, (e0 _ w1).new nD⟩, ?_⟩
    rintro i m H' ⟨rfl, hi, acc, c', f', hI, w'⟩
    have hS := hst i acc D c' f' hi hI
    by_cases hlt : i < n
    · refine .inr ⟨wk.goes i _ f' H' hlt hS w', fun H3 => ∃ acc c' f', I (i + 1) acc c' f' ∧ Wd K ((D, .lst acc) :: c') f' H3, fun H3 ⟨acc4, c4, f4, z1, z2⟩ => ⟨n - (i + 1), by omega, rfl, hlt, acc4, c4, f4, z1, z2⟩, fun x H2 hy => ?_⟩
      obtain ⟨c3, f3, y, w3⟩ := wk.yields i x _ f' H' H2 hlt hS w' hy
      refine hs i x acc D c' f' c3 f3 hlt hI y H2 w3 _ fun σ4 c4 f4 H4 ⟨hw, h4⟩ w4 => ⟨hw, h4 H4 w4 _ fun b c5 f5 H5 h5 w5 => ?_⟩
      cases b with
      | true =>
        rw [if_pos rfl] at h5 ⊢
        refine h5 H5 w5 _ fun y c6 f6 H6 ⟨k, hk, hz, c7, f7, e7, i7⟩ w6 => ⟨acc, w6.get hk, hz, _, c7, f7, i7, e7 _ (w6.set hk _)⟩
      | false =>
        rw [if_neg Bool.false_ne_true] at h5 ⊢
        obtain ⟨c6, f6, e6, i6⟩ := h5
        exact ⟨acc, c6, f6, i6, e6 _ w5⟩
    · have e : i = n := by omega
      subst e
      exact .inl ⟨wk.stops _ f' H' hS w', q _ _ _ _ (hd acc D c' f' hI) w'⟩

/-! ### defs -/
/-- a def's promise by states: arguments, cells, facts, what is wanted of the answer, of an exception -/
abbrev SpW := List V → Cs → Fs → PV → PX → Prop
def mkSp (K : PySem.W.Frag) (S : SpW) : Sp := fun vs H Q E => ∃ c f P X, Wd K c f H ∧ S vs c f P X ∧ (∀ v c' f' H', P v c' f' → Wd K c' f' H' → Q v H') ∧ ∀ cls d c' f' H', X cls d c' f' → Wd K c' f' H' → E cls d H'
theorem tw_call {S : SpW} {dvs : List V} {XE : XK} (h : AW K tl σ c f fun xs c1 f1 => S (xs ++ dvs) c1 f1 P fun _ _ _ _ => False) : TW K (tCall (mkSp K S) dvs XE tl) σ c f P := fun H w Q q =>
  h H w _ fun xs c1 f1 H1 s w1 => ⟨c1, f1, P, _, w1, s, q, fun _ _ _ _ _ z _ => z.elim⟩
section
variable {Pr : Program} {w : World} {mg : Str → Option Value} {base : Heap}
theorem fnW {x qual : Str} {st : Stmt} {fa : Addr} {fd : FuncData} {Nm ps : List Str} {k : Nat} {S : SpW} (F : Fun K x qual st fa fd) (Sc : FnScope Nm ps (defScope st)) (len : ∀ vs c f P X, S vs c f P X → vs.length = ps.length)
    (hbody : ∀ (cdv : Value) (A : Around) (outer : List Env) (s : Shared) (H : Hp) (XE : XK), Room k (A.deeper (envOfC qual (defScope st) s.heap.objs.size fa cdv)) →
      ∃ t, PSs (cxOf CX0 Pr w K mg base Nm qual (defScope st) fa cdv A outer s H XE).nox (defBody st) t ∧ ∀ vs c f P X, S vs c f P X → SW K t (start Nm vs) c f { nx := fun _ c f => P .non c f, rt := P }) :
    FnOk Pr w K mg base CX0 (k + 1) fa fd ps (mkSp K S) := by
  refine F.ok Sc (fun vs H Q E ⟨c, f, P, X, _, h, _⟩ => len vs c f P X h) fun cdv A outer s H vs Q XE hr ⟨c, f, P, X, wd, h, hq, hx⟩ => ?_
  obtain ⟨t, h1, h2⟩ := hbody cdv A outer s H XE hr
  exact ⟨t, h1, h2 vs c f P X h H wd _ ⟨fun _ c' f' H' p w' => hq _ c' f' H' p w', hq, fun _ _ _ _ z _ => z.elim, fun _ _ _ _ z _ => z.elim⟩⟩
end
end
end FR

set_option Elab.async false
set_option linter.all false
set_option maxRecDepth 100000
set_option maxHeartbeats 2000000
/-! == and != of data. -/
namespace FR
open PySem PySem.Spec L2 PySem.SeqAt
open PyProof.Rows hiding St
/-- item by item -/
def eqsBy (E : D → D → Option Bool) : List D → List D → Option Bool
  | [], [] => some true
  | x :: xs, y :: ys => match E x y, eqsBy E xs ys with
    | some a, some b => some (a && b)
    | _, _ => none
  | _, _ => none
def D.eq? : Nat → D → D → Option Bool
  | 0, _, _ => none
  | n + 1, d, e => match d, e with
    | .non, .non => some (true)
    | .non, .bl _ => some (false)
    | .non, .int _ => some (false)
    | .non, .str _ => some (false)
    | .bl _, .non => some (false)
    | .bl x, .bl y => some (x == y)
    | .bl x, .int y => some ((if x then 1 else 0) == y)
    | .bl _, .str _ => some (false)
    | .int _, .non => some (false)
    | .int x, .bl y => some (x == (if y then 1 else 0))
    | .int x, .int y => some (x == y)
    | .int _, .str _ => some (false)
    | .str _, .non => some (false)
    | .str _, .bl _ => some (false)
    | .str _, .int _ => some (false)
    | .str x, .str y => some (x == y)
    | .byt x, .byt y => some (x.toList == y.toList)
    | .lst _, .non => some false
    | .non, .lst _ => some false
    | .lst _, .bl _ => some false
    | .bl _, .lst _ => some false
    | .lst _, .int _ => some false
    | .int _, .lst _ => some false
    | .lst _, .str _ => some false
    | .str _, .lst _ => some false
    | .tup _, .non => some false
    | .non, .tup _ => some false
    | .tup _, .bl _ => some false
    | .bl _, .tup _ => some false
    | .tup _, .int _ => some false
    | .int _, .tup _ => some false
    | .tup _, .str _ => some false
    | .str _, .tup _ => some false
    | .lst _, .tup _ => some false
    | .tup _, .lst _ => some false
    | .lst xs, .lst ys => if xs.length = ys.length then eqsBy (D.eq? n) xs ys else some false
    | .tup xs, .tup ys => if xs.length = ys.length then eqsBy (D.eq? n) xs ys else none
    | _, _ => none
/-- x against y at s: by the item's way, by ==, by != -/
structure EqW (A : Around) (s : Shared) (x y : Value) (b : Bool) : Prop where
  at_ : EqAt A s x y b
  rc : RcAt A s x y b
  ne : RcNeAt A s x y (!b)
section
variable {A : Around} {s : Shared}
theorem EqAt.byts (x : Array UInt8) (t : Tok) (y : Array UInt8) (u : Tok) : EqAt A s (.bytes x t) (.bytes y u) (x.toList == y.toList) := fun prog w E Q hq => by
  unfold eqBool
  refine wpAny_holding ?_
  refine wpAny_ite_split (fun hab => ?_) (fun _ => ?_)
  · have e := eq_of_beq hab
    injection e with e1 _
    subst e1
    have h2 : Q true s := by simpa using hq
    exact wpAny_bind (wpAny_rule (wpAny_pure h2))
  · exact wpAny_bind (PySem.W.eq_bytes (wpAny_truthy_bool hq))
theorem EqW.byts (x : Array UInt8) (t : Tok) (y : Array UInt8) (u : Tok) : EqW A s (.bytes x t) (.bytes y u) (x.toList == y.toList) :=
  ⟨EqAt.byts x t y u, fun prog w E Q h => PySem.W.eq_bytes h, fun prog w E Q h => PySem.W.ne_bytes h⟩
theorem EqW.none_none  : EqW A s .none .none (true) := ⟨EqAt.same _, RcAt.none_none , RcNeAt.none_none ⟩
theorem EqW.none_bool (y : Bool) : EqW A s .none (.bool y) (false) := ⟨EqAt.none_bool y, RcAt.none_bool y, RcNeAt.none_bool y⟩
theorem EqW.none_int (y : Int) (u : Tok) : EqW A s .none (.int y u) (false) := ⟨EqAt.none_int y u, RcAt.none_int y u, RcNeAt.none_int y u⟩
theorem EqW.none_str (y : Str) (u : Tok) : EqW A s .none (.str y u) (false) := ⟨EqAt.none_str y u, RcAt.none_str y u, RcNeAt.none_str y u⟩
theorem EqW.bool_none (x : Bool) : EqW A s (.bool x) .none (false) := ⟨EqAt.bool_none x, RcAt.bool_none x, RcNeAt.bool_none x⟩
theorem EqW.bool_bool (x : Bool) (y : Bool) : EqW A s (.bool x) (.bool y) (x == y) := ⟨EqAt.bool_bool x y, RcAt.bool_bool x y, RcNeAt.bool_bool x y⟩
theorem EqW.bool_int (x : Bool) (y : Int) (u : Tok) : EqW A s (.bool x) (.int y u) ((if x then 1 else 0) == y) := ⟨EqAt.bool_int x y u, RcAt.bool_int x y u, RcNeAt.bool_int x y u⟩
theorem EqW.bool_str (x : Bool) (y : Str) (u : Tok) : EqW A s (.bool x) (.str y u) (false) := ⟨EqAt.bool_str x y u, RcAt.bool_str x y u, RcNeAt.bool_str x y u⟩
theorem EqW.int_none (x : Int) (t : Tok) : EqW A s (.int x t) .none (false) := ⟨EqAt.int_none x t, RcAt.int_none x t, RcNeAt.int_none x t⟩
theorem EqW.int_bool (x : Int) (t : Tok) (y : Bool) : EqW A s (.int x t) (.bool y) (x == (if y then 1 else 0)) := ⟨EqAt.int_bool x t y, RcAt.int_bool x t y, RcNeAt.int_bool x t y⟩
theorem EqW.int_int (x : Int) (t : Tok) (y : Int) (u : Tok) : EqW A s (.int x t) (.int y u) (x == y) := ⟨EqAt.int_int x t y u, RcAt.int_int x t y u, RcNeAt.int_int x t y u⟩
theorem EqW.int_str (x : Int) (t : Tok) (y : Str) (u : Tok) : EqW A s (.int x t) (.str y u) (false) := ⟨EqAt.int_str x t y u, RcAt.int_str x t y u, RcNeAt.int_str x t y u⟩
theorem EqW.str_none (x : Str) (t : Tok) : EqW A s (.str x t) .none (false) := ⟨EqAt.str_none x t, RcAt.str_none x t, RcNeAt.str_none x t⟩
theorem EqW.str_bool (x : Str) (t : Tok) (y : Bool) : EqW A s (.str x t) (.bool y) (false) := ⟨EqAt.str_bool x t y, RcAt.str_bool x t y, RcNeAt.str_bool x t y⟩
theorem EqW.str_int (x : Str) (t : Tok) (y : Int) (u : Tok) : EqW A s (.str x t) (.int y u) (false) := ⟨EqAt.str_int x t y u, RcAt.str_int x t y u, RcNeAt.str_int x t y u⟩
theorem EqW.str_str (x : Str) (t : Tok) (y : Str) (u : Tok) : EqW A s (.str x t) (.str y u) (x == y) := ⟨EqAt.str_str x t y u, RcAt.str_str x t y u, RcNeAt.str_str x t y u⟩
theorem EqW.list_none  {l : Addr} {items : Array Value} (hl : s.heap.IsList l items) (hu : A.units < cLine) : EqW A s (.ref l) .none false := ⟨EqAt.list_none hl hu, RcAt.list_none hl hu, RcNeAt.list_none hl hu⟩
theorem EqW.none_list  {l : Addr} {items : Array Value} (hl : s.heap.IsList l items) (hu : A.units < cLine) : EqW A s .none (.ref l) false := ⟨EqAt.none_list hl hu, RcAt.none_list hl hu, RcNeAt.none_list hl hu⟩
theorem EqW.list_bool (b : Bool) {l : Addr} {items : Array Value} (hl : s.heap.IsList l items) (hu : A.units < cLine) : EqW A s (.ref l) (.bool b) false := ⟨EqAt.list_bool b hl hu, RcAt.list_bool b hl hu, RcNeAt.list_bool b hl hu⟩
theorem EqW.bool_list (b : Bool) {l : Addr} {items : Array Value} (hl : s.heap.IsList l items) (hu : A.units < cLine) : EqW A s (.bool b) (.ref l) false := ⟨EqAt.bool_list b hl hu, RcAt.bool_list b hl hu, RcNeAt.bool_list b hl hu⟩
theorem EqW.list_int (b : Int) (u : Tok) {l : Addr} {items : Array Value} (hl : s.heap.IsList l items) (hu : A.units < cLine) : EqW A s (.ref l) (.int b u) false := ⟨EqAt.list_int b u hl hu, RcAt.list_int b u hl hu, RcNeAt.list_int b u hl hu⟩
theorem EqW.int_list (b : Int) (u : Tok) {l : Addr} {items : Array Value} (hl : s.heap.IsList l items) (hu : A.units < cLine) : EqW A s (.int b u) (.ref l) false := ⟨EqAt.int_list b u hl hu, RcAt.int_list b u hl hu, RcNeAt.int_list b u hl hu⟩
theorem EqW.list_str (b : Str) (u : Tok) {l : Addr} {items : Array Value} (hl : s.heap.IsList l items) (hu : A.units < cLine) : EqW A s (.ref l) (.str b u) false := ⟨EqAt.list_str b u hl hu, RcAt.list_str b u hl hu, RcNeAt.list_str b u hl hu⟩
theorem EqW.str_list (b : Str) (u : Tok) {l : Addr} {items : Array Value} (hl : s.heap.IsList l items) (hu : A.units < cLine) : EqW A s (.str b u) (.ref l) false := ⟨EqAt.str_list b u hl hu, RcAt.str_list b u hl hu, RcNeAt.str_list b u hl hu⟩
theorem EqW.tuple_none  {l : Addr} {items : Array Value} (hl : s.heap.IsTuple l items) (hu : A.units < cLine) : EqW A s (.ref l) .none false := ⟨EqAt.tuple_none hl hu, RcAt.tuple_none hl hu, RcNeAt.tuple_none hl hu⟩
theorem EqW.none_tuple  {l : Addr} {items : Array Value} (hl : s.heap.IsTuple l items) (hu : A.units < cLine) : EqW A s .none (.ref l) false := ⟨EqAt.none_tuple hl hu, RcAt.none_tuple hl hu, RcNeAt.none_tuple hl hu⟩
theorem EqW.tuple_bool (b : Bool) {l : Addr} {items : Array Value} (hl : s.heap.IsTuple l items) (hu : A.units < cLine) : EqW A s (.ref l) (.bool b) false := ⟨EqAt.tuple_bool b hl hu, RcAt.tuple_bool b hl hu, RcNeAt.tuple_bool b hl hu⟩
theorem EqW.bool_tuple (b : Bool) {l : Addr} {items : Array Value} (hl : s.heap.IsTuple l items) (hu : A.units < cLine) : EqW A s (.bool b) (.ref l) false := ⟨EqAt.bool_tuple b hl hu, RcAt.bool_tuple b hl hu, RcNeAt.bool_tuple b hl hu⟩
theorem EqW.tuple_int (b : Int) (u : Tok) {l : Addr} {items : Array Value} (hl : s.heap.IsTuple l items) (hu : A.units < cLine) : EqW A s (.ref l) (.int b u) false := ⟨EqAt.tuple_int b u hl hu, RcAt.tuple_int b u hl hu, RcNeAt.tuple_int b u hl hu⟩
theorem EqW.int_tuple (b : Int) (u : Tok) {l : Addr} {items : Array Value} (hl : s.heap.IsTuple l items) (hu : A.units < cLine) : EqW A s (.int b u) (.ref l) false := ⟨EqAt.int_tuple b u hl hu, RcAt.int_tuple b u hl hu, RcNeAt.int_tuple b u hl hu⟩
theorem EqW.tuple_str (b : Str) (u : Tok) {l : Addr} {items : Array Value} (hl : s.heap.IsTuple l items) (hu : A.units < cLine) : EqW A s (.ref l) (.str b u) false := ⟨EqAt.tuple_str b u hl hu, RcAt.tuple_str b u hl hu, RcNeAt.tuple_str b u hl hu⟩
theorem EqW.str_tuple (b : Str) (u : Tok) {l : Addr} {items : Array Value} (hl : s.heap.IsTuple l items) (hu : A.units < cLine) : EqW A s (.str b u) (.ref l) false := ⟨EqAt.str_tuple b u hl hu, RcAt.str_tuple b u hl hu, RcNeAt.str_tuple b u hl hu⟩
theorem EqW.list_tuple {l b : Addr} {items items2 : Array Value} (hl : s.heap.IsList l items) (hb : s.heap.IsTuple b items2) (hu : A.units < cLine) : EqW A s (.ref l) (.ref b) false := ⟨EqAt.list_tuple hl hb hu, RcAt.list_tuple hl hb hu, RcNeAt.list_tuple hl hb hu⟩
theorem EqW.tuple_list {l b : Addr} {items items2 : Array Value} (hl : s.heap.IsTuple l items) (hb : s.heap.IsList b items2) (hu : A.units < cLine) : EqW A s (.ref l) (.ref b) false := ⟨EqAt.tuple_list hl hb hu, RcAt.tuple_list hl hb hu, RcNeAt.tuple_list hl hb hu⟩
end

section
variable {X : Cx} {pins : List (Addr × Obj)} {σ : St} {H G : Hp} {s : Shared}
/-- one object, two tellings: they are equal -/
theorem eqs_one (E : D → D → Option Bool) (ih : ∀ v d e b, Rep X.K G v d → Rep X.K G v e → E d e = some b → b = true) : ∀ (vs : List V) (ds es : List D) (b : Bool), RepA X.K G vs ds → RepA X.K G vs es → eqsBy E ds es = some b → b = true
  | [], _, _, b, .nil, .nil, h => by
    have h' : some true = some b := h
    exact (Option.some.inj h').symm
  | v :: vs, d :: ds, e :: es, b, .cons h1 r1, .cons h2 r2, h => by
    unfold eqsBy at h
    cases q1 : E d e with
    | none =>
      rw [q1] at h
      cases h
    | some a =>
      cases q2 : eqsBy E ds es with
      | none =>
        rw [q1, q2] at h
        cases h
      | some a2 =>
        rw [q1, q2] at h
        have e1 := ih v d e a h1 h2 q1
        have e2 := eqs_one E ih vs ds es a2 r1 r2 q2
        subst e1
        subst e2
        exact (Option.some.inj h).symm
theorem eq_one (I : Inv X pins σ H s) (sm : Same G H) : ∀ (n : Nat) (v : V) (d e : D) (b : Bool), Rep X.K G v d → Rep X.K G v e → D.eq? n d e = some b → b = true
  | 0, _, _, _, _, _, _, h => by simp [D.eq?] at h
  | n + 1, v, d, e, b, h1, h2, h => by
    cases h1 with
    | lst s1 r1 =>
      cases h2 with
      | lst s2 r2 =>
        have q := I.list_inj (sm.seq s1) (sm.seq s2)
        subst q
        simp only [D.eq?] at h
        rw [if_pos (r1.len.symm.trans r2.len)] at h
        exact eqs_one _ (eq_one I sm n) _ _ _ b r1 r2 h
      | tup s2 r2 =>
        obtain ⟨i1, _, p1, _⟩ := I.list (sm.seq s1)
        obtain ⟨i2, _, p2, _⟩ := I.tuple (sqT_up sm s2)
        exact absurd rfl (ne_of_list_tuple p1.isList p2)
      | dic => simp [D.eq?] at h
      | ins => simp [D.eq?] at h
      | raw => simp [D.eq?] at h
    | tup s1 r1 =>
      cases h2 with
      | tup s2 r2 =>
        have q := I.tuple_inj (sqT_up sm s1) (sqT_up sm s2)
        subst q
        simp only [D.eq?] at h
        rw [if_pos (r1.len.symm.trans r2.len)] at h
        exact eqs_one _ (eq_one I sm n) _ _ _ b r1 r2 h
      | lst s2 r2 =>
        obtain ⟨i1, _, p1, _⟩ := I.list (sm.seq s2)
        obtain ⟨i2, _, p2, _⟩ := I.tuple (sqT_up sm s1)
        exact absurd rfl (ne_of_list_tuple p1.isList p2)
      | dic => simp [D.eq?] at h
      | ins => simp [D.eq?] at h
      | raw => simp [D.eq?] at h
    | dic => cases h2 <;> simp [D.eq?] at h
    | ins => cases h2 <;> simp [D.eq?] at h
    | raw => cases h2 <;> simp [D.eq?] at h
    | ty => cases h2 <;> simp [D.eq?] at h
    | non => cases h2 <;> simp [D.eq?] at h <;> exact h
    | bl => cases h2 <;> simp [D.eq?] at h <;> exact h
    | int => cases h2 <;> simp [D.eq?] at h <;> exact h
    | str => cases h2 <;> simp [D.eq?] at h <;> exact h
    | byt => cases h2 <;> simp [D.eq?] at h <;> exact h
/-- items against items -/
theorem eqs_items {A : Around} (E : D → D → Option Bool) (ih : ∀ v u d e b x y, Rep X.K G v d → Rep X.K G u e → RelV v x → RelV u y → E d e = some b → EqAt A s x y b) :
    ∀ (vs ws : List V) (ds es : List D) (us xs : List Value) (b : Bool), RepA X.K G vs ds → RepA X.K G ws es → Vals vs us → Vals ws xs → eqsBy E ds es = some b →
      ∃ r : Nat → Bool, (∀ j (h1 : j < us.length) (h2 : j < xs.length), EqAt A s us[j] xs[j] (r j)) ∧ (List.range us.length).all r = b
  | [], [], _, _, _, _, b, .nil, .nil, .nil, .nil, h => by
    have h' : some true = some b := h
    cases h'
    exact ⟨fun _ => true, fun j h1 => absurd h1 (Nat.not_lt_zero _), rfl⟩
  | [], _ :: _, _, _, _, _, b, .nil, .cons _ _, _, _, h => by simp [eqsBy] at h
  | _ :: _, [], _, _, _, _, b, .cons _ _, .nil, _, _, h => by simp [eqsBy] at h
  | v :: vs, w :: ws, d :: ds, e :: es, u :: us, x :: xs, b, .cons h1 r1, .cons h2 r2, .cons a1 b1, .cons a2 b2, h => by
    unfold eqsBy at h
    cases q1 : E d e with
    | none =>
      rw [q1] at h
      cases h
    | some a =>
      cases q2 : eqsBy E ds es with
      | none =>
        rw [q1, q2] at h
        cases h
      | some c =>
        rw [q1, q2] at h
        have hb : (a && c) = b := Option.some.inj h
        obtain ⟨r, hr, hall⟩ := eqs_items E ih vs ws ds es us xs c r1 r2 b1 b2 q2
        refine ⟨fun j => match j with | 0 => a | j + 1 => r j, fun j h3 h4 => ?_, ?_⟩
        · cases j with
          | zero => exact ih v w d e a u x h1 h2 a1 a2 q1
          | succ j => exact hr j (Nat.lt_of_succ_lt_succ h3) (Nat.lt_of_succ_lt_succ h4)
        · rw [List.length_cons, List.range_succ_eq_map, List.all_cons, List.all_map]
          show (a && (List.range us.length).all r) = b
          rw [hall]
          exact hb
theorem eqs_len (E : D → D → Option Bool) : ∀ (ds es : List D) (b : Bool), eqsBy E ds es = some b → ds.length = es.length
  | [], [], _, _ => rfl
  | [], _ :: _, _, h => by simp [eqsBy] at h
  | _ :: _, [], _, h => by simp [eqsBy] at h
  | d :: ds, e :: es, b, h => by
    unfold eqsBy at h
    cases q1 : E d e with
    | none =>
      rw [q1] at h
      cases h
    | some a =>
      cases q2 : eqsBy E ds es with
      | none =>
        rw [q1, q2] at h
        cases h
      | some c => rw [List.length_cons, List.length_cons, eqs_len E ds es c q2]
theorem EqW.of_refs {A : Around} {a b : Addr} {k : Bool} (h1 : a = b → k = true) (rc : RcAt A s (.ref a) (.ref b) k) (ne : RcNeAt A s (.ref a) (.ref b) (!k)) : EqW A s (.ref a) (.ref b) k :=
  ⟨by
    by_cases e : a = b
    · rw [h1 e, e]
      exact EqAt.same _
    · exact EqAt.of_refs e rc, rc, ne⟩
theorem eqW_of (I : Inv X pins σ H s) (sm : Same G H) : ∀ (n : Nat) (A : Around), A.units + n < cLine → ∀ (v u : V) (d e : D) (b : Bool) (x y : Value), Rep X.K G v d → Rep X.K G u e → RelV v x → RelV u y → D.eq? n d e = some b → EqW A s x y b
  | 0, _, _, _, _, _, _, _, _, _, _, _, _, _, h => by simp [D.eq?] at h
  | n + 1, A, hu, v, u, d, e, b, x, y, h1, h2, rx, ry, h => by
    have hu0 : A.units < cLine := by omega
    have hu1 : A.in1.units + n < cLine := by
      have z : A.in1.units = A.units + 1 := rfl
      omega
    cases h1 with
    | non =>
      cases (show x = Value.none from rx)
      cases h2 with
      | non => cases (show _ = Value.none from ry); simp [D.eq?] at h; subst h; exact .none_none
      | bl y => cases (show _ = Value.bool y from ry); simp [D.eq?] at h; subst h; exact .none_bool y
      | int y => obtain ⟨t, q⟩ := (show ∃ t, _ = Value.int y t from ry); subst q; simp [D.eq?] at h; subst h; exact .none_int y t
      | str y => obtain ⟨t, q⟩ := (show ∃ t, _ = Value.str y t from ry); subst q; simp [D.eq?] at h; subst h; exact .none_str y t
      | lst s2 r2 => cases ry; simp [D.eq?] at h; subst h; obtain ⟨i1, _, p1, _⟩ := I.list (sm.seq s2); exact .none_list p1.isList hu0
      | tup s2 r2 => cases ry; simp [D.eq?] at h; subst h; obtain ⟨i1, _, p1, _⟩ := I.tuple (sqT_up sm s2); exact .none_tuple p1 hu0
      | _ => simp [D.eq?] at h
    | bl a =>
      cases (show x = Value.bool a from rx)
      cases h2 with
      | non => cases (show _ = Value.none from ry); simp [D.eq?] at h; subst h; exact .bool_none a
      | bl y => cases (show _ = Value.bool y from ry); simp only [D.eq?, Option.some.injEq] at h; subst h; exact .bool_bool a y
      | int y => obtain ⟨t, q⟩ := (show ∃ t, _ = Value.int y t from ry); subst q; simp only [D.eq?, Option.some.injEq] at h; subst h; exact .bool_int a y t
      | str y => obtain ⟨t, q⟩ := (show ∃ t, _ = Value.str y t from ry); subst q; simp [D.eq?] at h; subst h; exact .bool_str a y t
      | lst s2 r2 => cases ry; simp [D.eq?] at h; subst h; obtain ⟨i1, _, p1, _⟩ := I.list (sm.seq s2); exact .bool_list a p1.isList hu0
      | tup s2 r2 => cases ry; simp [D.eq?] at h; subst h; obtain ⟨i1, _, p1, _⟩ := I.tuple (sqT_up sm s2); exact .bool_tuple a p1 hu0
      | _ => simp [D.eq?] at h
    | int a =>
      obtain ⟨ta, qa⟩ := (show ∃ t, x = Value.int a t from rx)
      subst qa
      cases h2 with
      | non => cases (show _ = Value.none from ry); simp [D.eq?] at h; subst h; exact .int_none a ta
      | bl y => cases (show _ = Value.bool y from ry); simp only [D.eq?, Option.some.injEq] at h; subst h; exact .int_bool a ta y
      | int y => obtain ⟨t, q⟩ := (show ∃ t, _ = Value.int y t from ry); subst q; simp only [D.eq?, Option.some.injEq] at h; subst h; exact .int_int a ta y t
      | str y => obtain ⟨t, q⟩ := (show ∃ t, _ = Value.str y t from ry); subst q; simp [D.eq?] at h; subst h; exact .int_str a ta y t
      | lst s2 r2 => cases ry; simp [D.eq?] at h; subst h; obtain ⟨i1, _, p1, _⟩ := I.list (sm.seq s2); exact .int_list a ta p1.isList hu0
      | tup s2 r2 => cases ry; simp [D.eq?] at h; subst h; obtain ⟨i1, _, p1, _⟩ := I.tuple (sqT_up sm s2); exact .int_tuple a ta p1 hu0
      | _ => simp [D.eq?] at h
    | str a =>
      obtain ⟨ta, qa⟩ := (show ∃ t, x = Value.str a t from rx)
      subst qa
      cases h2 with
      | non => cases (show _ = Value.none from ry); simp [D.eq?] at h; subst h; exact .str_none a ta
      | bl y => cases (show _ = Value.bool y from ry); simp [D.eq?] at h; subst h; exact .str_bool a ta y
      | int y => obtain ⟨t, q⟩ := (show ∃ t, _ = Value.int y t from ry); subst q; simp [D.eq?] at h; subst h; exact .str_int a ta y t
      | str y => obtain ⟨t, q⟩ := (show ∃ t, _ = Value.str y t from ry); subst q; simp only [D.eq?, Option.some.injEq] at h; subst h; exact .str_str a ta y t
      | lst s2 r2 => cases ry; simp [D.eq?] at h; subst h; obtain ⟨i1, _, p1, _⟩ := I.list (sm.seq s2); exact .str_list a ta p1.isList hu0
      | tup s2 r2 => cases ry; simp [D.eq?] at h; subst h; obtain ⟨i1, _, p1, _⟩ := I.tuple (sqT_up sm s2); exact .str_tuple a ta p1 hu0
      | _ => simp [D.eq?] at h
    | byt a =>
      obtain ⟨ta, qa⟩ := (show ∃ t, x = Value.bytes a t from rx)
      subst qa
      cases h2 with
      | byt y => obtain ⟨t, q⟩ := (show ∃ t, _ = Value.bytes y t from ry); subst q; simp only [D.eq?, Option.some.injEq] at h; subst h; exact .byts a ta y t
      | _ => simp [D.eq?] at h
    | @lst a1 vs1 ds1 s1 r1 =>
      cases (show x = Value.ref a1 from rx)
      obtain ⟨i1, rv1, p1, _⟩ := I.list (sm.seq s1)
      cases h2 with
      | non => cases (show _ = Value.none from ry); simp [D.eq?] at h; subst h; exact .list_none p1.isList hu0
      | bl y => cases (show _ = Value.bool y from ry); simp [D.eq?] at h; subst h; exact .list_bool y p1.isList hu0
      | int y => obtain ⟨t, q⟩ := (show ∃ t, _ = Value.int y t from ry); subst q; simp [D.eq?] at h; subst h; exact .list_int y t p1.isList hu0
      | str y => obtain ⟨t, q⟩ := (show ∃ t, _ = Value.str y t from ry); subst q; simp [D.eq?] at h; subst h; exact .list_str y t p1.isList hu0
      | @lst a2 vs2 ds2 s2 r2 =>
        cases (show _ = Value.ref a2 from ry)
        obtain ⟨i2, rv2, p2, _⟩ := I.list (sm.seq s2)
        have h0 := h
        simp only [D.eq?] at h
        have z1 : i1.toArray.size = ds1.length := by rw [List.size_toArray, ← rv1.length, r1.len]
        have z2 : i2.toArray.size = ds2.length := by rw [List.size_toArray, ← rv2.length, r2.len]
        by_cases hl : ds1.length = ds2.length
        · rw [if_pos hl] at h
          obtain ⟨r, hr, hall⟩ := eqs_items (A := A.in1) (D.eq? n) (fun v u d e b x y g1 g2 g3 g4 g5 => (eqW_of I sm n A.in1 hu1 v u d e b x y g1 g2 g3 g4 g5).at_) vs1 vs2 ds1 ds2 i1 i2 b r1 r2 rv1 rv2 h
          have hsz : i1.toArray.size = i2.toArray.size := by rw [z1, z2, hl]
          have e1 : (List.range i1.toArray.size).all r = b := by
            rw [List.size_toArray]
            exact hall
          refine .of_refs (fun e => eq_one I sm (n + 1) _ _ _ b (.lst s1 r1) (by rw [e]; exact .lst s2 r2) h0) ?_ ?_
          · have q := RcAt.lists (e := r) p1.isList p2.isList hsz hu0 fun j g1 g2 => hr j (by simpa using g1) (by simpa using g2)
            rw [e1] at q
            exact q
          · have q := RcNeAt.lists (e := r) p1.isList p2.isList hsz hu0 fun j g1 g2 => hr j (by simpa using g1) (by simpa using g2)
            rw [e1] at q
            exact q
        · rw [if_neg hl] at h
          cases h
          have hsz : (i1.toArray.size != i2.toArray.size) = true := by
            rw [z1, z2]
            simpa using hl
          refine .of_refs (fun e => ?_) (RcAt.lists_lengths p1.isList p2.isList hsz hu0) (RcNeAt.lists_lengths p1.isList p2.isList hsz hu0)
          subst e
          have q := I.list_inj (sm.seq s1) (sm.seq s2)
          subst q
          exact absurd (r1.len.symm.trans r2.len) hl
      | @tup a2 vs2 ds2 s2 r2 =>
        cases (show _ = Value.ref a2 from ry)
        obtain ⟨i2, rv2, p2, _⟩ := I.tuple (sqT_up sm s2)
        simp [D.eq?] at h
        subst h
        exact .list_tuple p1.isList p2 hu0
      | _ => simp [D.eq?] at h
    | @tup a1 vs1 ds1 s1 r1 =>
      cases (show x = Value.ref a1 from rx)
      obtain ⟨i1, rv1, p1, _⟩ := I.tuple (sqT_up sm s1)
      cases h2 with
      | non => cases (show _ = Value.none from ry); simp [D.eq?] at h; subst h; exact .tuple_none p1 hu0
      | bl y => cases (show _ = Value.bool y from ry); simp [D.eq?] at h; subst h; exact .tuple_bool y p1 hu0
      | int y => obtain ⟨t, q⟩ := (show ∃ t, _ = Value.int y t from ry); subst q; simp [D.eq?] at h; subst h; exact .tuple_int y t p1 hu0
      | str y => obtain ⟨t, q⟩ := (show ∃ t, _ = Value.str y t from ry); subst q; simp [D.eq?] at h; subst h; exact .tuple_str y t p1 hu0
      | @lst a2 vs2 ds2 s2 r2 =>
        cases (show _ = Value.ref a2 from ry)
        obtain ⟨i2, rv2, p2, _⟩ := I.list (sm.seq s2)
        simp [D.eq?] at h
        subst h
        exact .tuple_list p1 p2.isList hu0
      | @tup a2 vs2 ds2 s2 r2 =>
        cases (show _ = Value.ref a2 from ry)
        obtain ⟨i2, rv2, p2, _⟩ := I.tuple (sqT_up sm s2)
        have h0 := h
        simp only [D.eq?] at h
        have z1 : i1.toArray.size = ds1.length := by rw [List.size_toArray, ← rv1.length, r1.len]
        have z2 : i2.toArray.size = ds2.length := by rw [List.size_toArray, ← rv2.length, r2.len]
        by_cases hl : ds1.length = ds2.length
        · rw [if_pos hl] at h
          obtain ⟨r, hr, hall⟩ := eqs_items (A := A.in1) (D.eq? n) (fun v u d e b x y g1 g2 g3 g4 g5 => (eqW_of I sm n A.in1 hu1 v u d e b x y g1 g2 g3 g4 g5).at_) vs1 vs2 ds1 ds2 i1 i2 b r1 r2 rv1 rv2 h
          have e1 : ((List.range (min i1.toArray.size i2.toArray.size)).all r && i1.toArray.size == i2.toArray.size) = b := by
            rw [z1, z2, hl, Nat.min_self, ← hl, ← z1, List.size_toArray, hall]
            simp
          refine .of_refs (fun e => eq_one I sm (n + 1) _ _ _ b (.tup s1 r1) (by rw [e]; exact .tup s2 r2) h0) ?_ ?_
          · have q := RcAt.tuples (e := r) p1 p2 hu0 fun j g1 g2 => hr j (by simpa using g1) (by simpa using g2)
            rw [e1] at q
            exact q
          · have q := RcNeAt.tuples (e := r) p1 p2 hu0 fun j g1 g2 => hr j (by simpa using g1) (by simpa using g2)
            rw [e1] at q
            exact q
        · rw [if_neg hl] at h
          cases h
      | _ => simp [D.eq?] at h
    | ty => cases h2 <;> simp [D.eq?] at h
    | dic => cases h2 <;> simp [D.eq?] at h
    | ins => cases h2 <;> simp [D.eq?] at h
    | raw => cases h2 <;> simp [D.eq?] at h
end
end FR

set_option Elab.async false
set_option linter.all false
set_option maxRecDepth 100000
set_option maxHeartbeats 2000000
/-! More operations: rules over lists of any standing, and what they do from a told state. -/
namespace FR
open PySem PySem.Spec L2
open PyProof.Rows hiding St

/-- data as it stands in the heap, cells too -/
def EntH (K : PySem.W.Frag) (c : Cs) (f : Fs) (v : V) (d : D) : Prop := ∀ H, Wd K c f H → Rep K H v d
section
variable {K : PySem.W.Frag} {c : Cs} {f : Fs} {v : V} {d : D} {ds : List D} {x : V}
theorem EntH.of (h : Ent K f v d) : EntH K c f v d := fun H ⟨G, e, _, _, ok⟩ => (h G ok).up e
theorem EntH.sq (h : Sq K c f v ds) : EntH K c f v (.lst ds) := fun H w => by
  obtain ⟨a, ws, e, s, hl, G, e0, k, nn, ok⟩ := w.seq h
  subst e
  exact .lst s (RepA.up e0 ok.hd)
end

/-! ### rules -/
def rEqQ (K : PySem.W.Frag) : R2 := fun x y H Q => ∃ d e b, Rep K H x d ∧ Rep K H y e ∧ D.eq? 64 d e = some b ∧ Q (.bl b) H
def rNeQ (K : PySem.W.Frag) : R2 := fun x y H Q => ∃ d e b, Rep K H x d ∧ Rep K H y e ∧ D.eq? 64 d e = some b ∧ Q (.bl (!b)) H
def rCatQ (K : PySem.W.Frag) : R2 := fun x y H Q => ∃ l b xs zs, x = .ref l ∧ y = .ref b ∧ SqL K H l xs ∧ SqL K H b zs ∧ xs.length + zs.length ≤ sizeLine ∧ ∀ p, H p = none → Q (.ref p) (upd H p (.lst (xs ++ zs)))
section
variable {X : Cx}
theorem op_eqQ (hu : X.A.units + 64 < cLine) : OpR X (compareOp .Eq) (rEqQ X.K) := by
  intro pins s σ H x y v u Q I rx ry h
  obtain ⟨d, e, b, h1, h2, he, q⟩ := h
  exact (eqW_of I (Same.refl H) 64 X.A hu x y d e b v u h1 h2 rx ry he).rc X.prog X.w _ _ ⟨.bl b, H, I, rfl, q⟩
theorem op_neQ (hu : X.A.units + 64 < cLine) : OpR X (compareOp .NotEq) (rNeQ X.K) := by
  intro pins s σ H x y v u Q I rx ry h
  obtain ⟨d, e, b, h1, h2, he, q⟩ := h
  exact (eqW_of I (Same.refl H) 64 X.A hu x y d e b v u h1 h2 rx ry he).ne X.prog X.w _ _ ⟨.bl (!b), H, I, rfl, q⟩
theorem op_catQ : OpR X (binaryOp .Add) (rCatQ X.K) := by
  intro pins s σ H x y v u Q I rx ry h
  obtain ⟨l, b, xs, zs, rfl, rfl, h1, h2, hz, q⟩ := h
  cases rx
  cases ry
  obtain ⟨i1, r1, p1, z1⟩ := I.list h1
  obtain ⟨i2, r2, p2, z2⟩ := I.list h2
  obtain ⟨⟨cls, dd, data, sl⟩, ho, hc, n, hd⟩ := id p1.isList
  obtain ⟨⟨cls2, dd2, data2, sl2⟩, ho2, hc2, n2, hd2⟩ := id p2.isList
  simp only at hc hd hc2 hd2
  subst hc hd hc2 hd2
  have hsz : i1.toArray.size + i2.toArray.size ≤ sizeLine := by
    rw [List.size_toArray, List.size_toArray, ← r1.length, ← r2.length]
    exact hz
  refine concat_meets ⟨_, ho, rfl⟩ ⟨_, ho2, rfl⟩ noFill_list_add seq_list_add PySem.F.slot_list_add PySem.F.entry_list_add (PySem.F.args_list_add_2 _ _) (list_addW l b i1.toArray i2.toArray n n2 dd dd2 sl sl2 hsz) ⟨ho, ho2, ?_⟩
  have e : i1.toArray ++ i2.toArray = (i1 ++ i2).toArray := by simp
  rw [e]
  exact ⟨.ref _, _, I.lnew (t' := s.toks) (r1.append r2) (by rw [List.length_append]; exact hz), rfl, q _ I.fresh⟩
end

/-! ### what they do -/
section
variable {K : PySem.W.Frag} {σ : St} {c : Cs} {f : Fs} {P : PV} {te ta tb : TE} {v x y : V} {vs : List V} {d e : D} {ds es : List D} {i j : Nat} {m n : Int} {b : Bool} {g : List V × List D}
theorem Sq.tl (h : Sq K c f x ds) : Sq K c (g :: f) x ds := by
  rcases h with h | ⟨a, ws, k, e, hk, he⟩
  · exact .inl h.tl
  · exact .inr ⟨a, ws, k, e, hk, he.tl⟩
theorem Wd.cut1 {H : Hp} {g1 g2 : List V × List D} (w : Wd K c (g1 :: g2 :: f) H) : Wd K c (g1 :: f) H := by
  obtain ⟨G, e, k, nn, ok⟩ := w
  exact ⟨G, e, k, nn, Ok.cons ok.hd ok.tl.tl⟩
theorem Wd.cut2 {H : Hp} {g1 g2 g3 : List V × List D} (w : Wd K c (g1 :: g2 :: g3 :: f) H) : Wd K c (g1 :: f) H := w.cut1.cut1
theorem Wd.newC {H : Hp} {p : Addr} {ws : List V} (w : Wd K c ((ws, ds) :: f) H) (np : H p = none) : Wd K ((p, .lst ws) :: c) ((ws, ds) :: f) (upd H p (.lst ws)) := w.new np
theorem Wd.seq2 {H : Hp} (w : Wd K c f H) (h1 : Sq K c f x ds) (h2 : Sq K c f y es) : ∃ a ws b us, x = .ref a ∧ y = .ref b ∧ SqL K H a ws ∧ SqL K H b us ∧ ws.length = ds.length ∧ us.length = es.length ∧ Wd K c ((ws ++ us, ds ++ es) :: f) H := by
  obtain ⟨a, ws, e1, s1, l1, w1⟩ := w.seq h1
  obtain ⟨b, us, e2, s2, l2, w2⟩ := w1.seq h2.tl
  exact ⟨a, ws, b, us, e1, e2, s1, s2, l1, l2, (w2.fact (Ents.app (Ents.tl Ents.hd) Ents.hd)).cut2⟩
theorem rw_eqQ (h1 : EntH K c f x d) (h2 : EntH K c f y e) (h : D.eq? 64 d e = some b) (p : P (.bl b) c f) : R2W K (rEqQ K) x y c f P := fun H w _ q => ⟨d, e, b, h1 H w, h2 H w, h, q _ _ _ _ p w⟩
theorem rw_neQ (h1 : EntH K c f x d) (h2 : EntH K c f y e) (h : D.eq? 64 d e = some b) (p : P (.bl (!b)) c f) : R2W K (rNeQ K) x y c f P := fun H w _ q => ⟨d, e, b, h1 H w, h2 H w, h, q _ _ _ _ p w⟩
/-- x + y, a new list that stays; a cell -/
theorem rw_cat (h1 : Sq K c f x ds) (h2 : Sq K c f y es) (hz : ds.length + es.length ≤ sizeLine) (p : ∀ v, P v c (([v], [.lst (ds ++ es)]) :: f)) : R2W K (rCatQ K) x y c f P := fun H w _ q => by
  obtain ⟨a, ws, b, us, e1, e2, s1, s2, l1, l2, w2⟩ := w.seq2 h1 h2
  exact ⟨a, b, ws, us, e1, e2, s1, s2, by rw [l1, l2]; exact hz, fun r nr => q _ _ _ _ (p _) (w2.newL nr Ents.hd).cut1⟩
theorem rw_catC (h1 : Sq K c f x ds) (h2 : Sq K c f y es) (hz : ds.length + es.length ≤ sizeLine) (p : ∀ a ws, P (.ref a) ((a, .lst ws) :: c) ((ws, ds ++ es) :: f)) : R2W K (rCatQ K) x y c f P := fun H w _ q => by
  obtain ⟨a, ws, b, us, e1, e2, s1, s2, l1, l2, w2⟩ := w.seq2 h1 h2
  exact ⟨a, b, ws, us, e1, e2, s1, s2, by rw [l1, l2]; exact hz, fun r nr => q _ _ _ _ (p _ _) (w2.new nr)⟩
/-! lists cut -/
def cutD {α : Type} (xs : List α) (lo hi : Option Int) : List α := (xs.drop (HT.sIx xs.length 0 lo)).take (HT.sIx xs.length xs.length hi - HT.sIx xs.length 0 lo)
theorem Ents.cut {lo hi : Option Int} (h : Ents K f vs ds) : Ents K f (cutV vs lo hi) (cutD ds lo hi) := fun G o => by
  have r := h G o
  show RepA K G ((vs.drop (HT.sIx vs.length 0 lo)).take (HT.sIx vs.length vs.length hi - HT.sIx vs.length 0 lo)) (cutD ds lo hi)
  rw [r.len]
  exact (r.drop _).take _
theorem rw_cutL {lo hi : Option Int} (h : Sq K c f x ds) (p : ∀ v, P v c (([v], [.lst (cutD ds lo hi)]) :: f)) : RLW K (fun _ H Q => rSlL K x lo hi H Q) [] c f P := fun H w _ q => by
  obtain ⟨a, ws, e1, s1, l1, w1⟩ := w.seq h
  exact ⟨a, ws, e1, s1, fun r nr => q _ _ _ _ (p _) (w1.newL nr (Ents.cut Ents.hd)).cut1⟩
theorem rw_cutB {lo hi : Option Int} {z : Array UInt8} (hz : z.size ≤ 16777216) (p : P (.byt (PySem.W.KBy.picked z lo hi)) c f) : RLW K (fun _ H Q => rSlB (.byt z) lo hi H Q) [] c f P := fun H w _ q => ⟨z, rfl, hz, q _ _ _ _ p w⟩
theorem rw_cutS {lo hi : Option Int} {z : Str} (hz : z.length ≤ sizeLine) (p : P (.str (cutS z lo hi)) c f) : RLW K (fun _ H Q => rSlS (.str z) lo hi H Q) [] c f P := fun H w _ q => ⟨z, rfl, hz, q _ _ _ _ p w⟩
/-! built-ins -/
theorem rl_int (p : P (.int m) c f) : RLW K (fun xs H Q => (∃ i, xs = [.int i] ∧ Q (.int i) H) ∨ ∃ k, xs = [.bl k] ∧ Q (.int (if k then 1 else 0)) H) [.int m] c f P := fun H w _ q => .inl ⟨m, rfl, q _ _ _ _ p w⟩
theorem rl_intB (p : P (.int (if b then 1 else 0)) c f) : RLW K (fun xs H Q => (∃ i, xs = [.int i] ∧ Q (.int i) H) ∨ ∃ k, xs = [.bl k] ∧ Q (.int (if k then 1 else 0)) H) [.bl b] c f P := fun H w _ q => .inr ⟨b, rfl, q _ _ _ _ p w⟩
theorem rl_abs (p : P (.int (if m < 0 then -m else m)) c f) : RLW K (fun xs H Q => ∃ i, xs = [.int i] ∧ Q (.int (if i < 0 then -i else i)) H) [.int m] c f P := fun H w _ q => ⟨m, rfl, q _ _ _ _ p w⟩
theorem rl_repr (h : m.natAbs.log2 < 1920) (p : P (.str (toString m)) c f) : RLW K (fun xs H Q => ∃ i, xs = [.int i] ∧ i.natAbs.log2 < 1920 ∧ Q (.str (toString i)) H) [.int m] c f P := fun H w _ q => ⟨m, rfl, h, q _ _ _ _ p w⟩
theorem rl_max2 (p : P (.int (if n > m then n else m)) c f) : RLW K (fun xs H Q => ∃ i j, xs = [.int i, .int j] ∧ Q (.int (if j > i then j else i)) H) [.int m, .int n] c f P := fun H w _ q => ⟨m, n, rfl, q _ _ _ _ p w⟩
theorem rl_min2 (p : P (.int (if n < m then n else m)) c f) : RLW K (fun xs H Q => ∃ i j, xs = [.int i, .int j] ∧ Q (.int (if j < i then j else i)) H) [.int m, .int n] c f P := fun H w _ q => ⟨m, n, rfl, q _ _ _ _ p w⟩
theorem rl_lenL (h : Sq K c f x ds) (p : P (.int (ds.length : Nat)) c f) : RLW K (fun xs H Q => ∃ p ys, xs = [.ref p] ∧ (SqL K H p ys ∨ SqT K H p ys) ∧ Q (.int ys.length) H) [x] c f P := fun H w _ q => by
  obtain ⟨a, ws, e1, s1, l1, w1⟩ := w.seq h
  subst e1
  refine ⟨a, ws, rfl, .inl s1, ?_⟩
  rw [l1]
  exact q _ _ _ _ p w
theorem rl_lenT (h : Ent K f x (.tup ds)) (p : P (.int (ds.length : Nat)) c f) : RLW K (fun xs H Q => ∃ p ys, xs = [.ref p] ∧ (SqL K H p ys ∨ SqT K H p ys) ∧ Q (.int ys.length) H) [x] c f P := fun H w _ q => by
  obtain ⟨a, ws, e1, s1, l1, w1⟩ := w.tup h
  subst e1
  refine ⟨a, ws, rfl, .inr s1, ?_⟩
  rw [l1]
  exact q _ _ _ _ p w
theorem rl_lenB {z : Array UInt8} (hz : z.size ≤ sizeLine) (p : P (.int (z.size : Nat)) c f) : RLW K (fun xs H Q => ∃ x n, xs = [x] ∧ LenV K x H n ∧ Q (.int n) H) [.byt z] c f P := fun H w _ q => ⟨_, _, rfl, ⟨hz, rfl⟩, q _ _ _ _ p w⟩
/-- list(xs), tuple(xs) -/
theorem rl_listL (h : Sq K c f x ds) (p : ∀ v, P v c (([v], [.lst ds]) :: f)) : RLW K (fun xs H Q => ∃ p ys, xs = [.ref p] ∧ (SqL K H p ys ∨ SqT K H p ys) ∧ ∀ l, H l = none → Q (.ref l) (upd H l (.lst ys))) [x] c f P := fun H w _ q => by
  obtain ⟨a, ws, e1, s1, l1, w1⟩ := w.seq h
  subst e1
  exact ⟨a, ws, rfl, .inl s1, fun r nr => q _ _ _ _ (p _) (w1.newL nr Ents.hd).cut1⟩
theorem rl_listLC (h : Sq K c f x ds) (p : ∀ a ws, P (.ref a) ((a, .lst ws) :: c) ((ws, ds) :: f)) : RLW K (fun xs H Q => ∃ p ys, xs = [.ref p] ∧ (SqL K H p ys ∨ SqT K H p ys) ∧ ∀ l, H l = none → Q (.ref l) (upd H l (.lst ys))) [x] c f P := fun H w _ q => by
  obtain ⟨a, ws, e1, s1, l1, w1⟩ := w.seq h
  subst e1
  exact ⟨a, ws, rfl, .inl s1, fun r nr => q _ _ _ _ (p _ _) (w1.new nr)⟩
theorem rl_tupleL (h : Sq K c f x ds) (p : ∀ v, P v c (([v], [.tup ds]) :: f)) : RLW K (fun xs H Q => ∃ p ys, xs = [.ref p] ∧ ((SqL K H p ys ∧ ∀ l, H l = none → Q (.ref l) (upd H l (.tup ys))) ∨ (SqT K H p ys ∧ Q (.ref p) H))) [x] c f P := fun H w _ q => by
  obtain ⟨a, ws, e1, s1, l1, w1⟩ := w.seq h
  subst e1
  exact ⟨a, ws, rfl, .inl ⟨s1, fun r nr => q _ _ _ _ (p _) (w1.newT nr Ents.hd).cut1⟩⟩
theorem rl_tupleT (h : Ent K f x (.tup ds)) (p : P x c f) : RLW K (fun xs H Q => ∃ p ys, xs = [.ref p] ∧ ((SqL K H p ys ∧ ∀ l, H l = none → Q (.ref l) (upd H l (.tup ys))) ∨ (SqT K H p ys ∧ Q (.ref p) H))) [x] c f P := fun H w _ q => by
  obtain ⟨a, ws, e1, s1, l1, w1⟩ := w.tup h
  subst e1
  exact ⟨a, ws, rfl, .inr ⟨s1, q _ _ _ _ p w⟩⟩
/-! isinstance -/
def D.tyn : D → Option String
  | .non => some "NoneType" | .bl _ => some "bool" | .int _ => some "int" | .str _ => some "str" | .byt _ => some "bytes" | .lst _ => some "list" | .tup _ => some "tuple" | .dic _ => some "dict"
  | _ => none
theorem tyX_of {G H : Hp} {t : String} (sm : Same G H) (h : Rep K G v d) (e : d.tyn = some t) : TyX K H v (.type t) := by
  cases h with
  | non => cases e; exact .base .non
  | bl b => cases e; exact .base (.bl b)
  | int i => cases e; exact .base (.int i)
  | str z => cases e; exact .base (.str z)
  | byt z => cases e; exact .byt z
  | lst s r =>
    cases e
    rcases s with (s | ⟨o, s⟩) | ⟨o, its, k, h1, h2, _⟩
    · exact .base (.lst (sm _ _ s))
    · exact .base (.frz (sm _ _ s))
    · exact .kList h1 h2
  | tup s r =>
    cases e
    rcases s with (s | ⟨o, s⟩) | ⟨o, its, k, h1, h2, _⟩
    · exact .base (.tup (sm _ _ s))
    · exact .fTuple (sm _ _ s)
    · exact .kTuple h1 h2
  | dic s _ _ => cases e; exact .base (.dK (sm _ _ s))
  | _ => cases e
theorem rl_isi {t u : String} (h : EntH K c f x d) (e : d.tyn = some t) (e2 : kitB t u = some b) (p : P (.bl b) c f) : RLW K (rIsi K) [x, .ty u] c f P := fun H w _ q =>
  ⟨x, .ty u, .type t, .type u, b, rfl, .ty u, tyX_of (Same.refl H) (h H w) e, e2, q _ _ _ _ p w⟩
theorem rl_isiT {t : String} {us : List String} {a : Addr} {k : HO → Cs} (h : EntH K c f x d) (e : d.tyn = some t) (ht : Has c a (.tup (us.map V.ty)) k) (e2 : PySem.W.kitAny K (.type t) (us.map Value.type) = some b) (p : P (.bl b) c f) : RLW K (rIsiT K) [x, .ref a] c f P := fun H w _ q =>
  ⟨x, a, us.map V.ty, .type t, us.map Value.type, b, rfl, w.get ht, (by
    clear ht e2
    induction us with
    | nil => exact .nil
    | cons z us ih => exact .cons (.ty z) ih), tyX_of (Same.refl H) (h H w) e, e2, q _ _ _ _ p w⟩
/-- a new tuple, a cell -/
theorem tw_tupC {tl : TA} (h : AW K tl σ c f fun xs c1 f1 => xs.length ≤ sizeLine ∧ ∀ p, P (.ref p) ((p, .tup xs) :: c1) f1) : TW K (tTup tl) σ c f P := fun H w Q q =>
  h H w _ fun _ _ _ _ ⟨hz, hp⟩ w1 => ⟨hz, fun p np => q _ _ _ _ (hp p) (w1.new np)⟩
/-! in a flat list -/
def D.flatD : D → Bool
  | .non | .bl _ | .int _ | .str _ => true
  | _ => false
theorem rw_in {us : List V} {neg : Bool} (h : Sq K c f y ds) (hf : ds.map D.v? = us.map some) (hx : flatV x = true) (ha : us.all flatV = true) (p : P (.bl (if neg then !inV x us else inV x us)) c f) : R2W K (rIn K neg) x y c f P := fun H w _ q => by
  obtain ⟨a, ws, e1, s1, l1, w1⟩ := w.seq h
  have e2 : ws = us := w1.flats Ents.hd hf
  subst e2
  exact ⟨a, ws, e1, .inl s1, hx, ha, q _ _ _ _ p w⟩
theorem rw_inT {us : List V} {neg : Bool} (h : Ent K f y (.tup ds)) (hf : ds.map D.v? = us.map some) (hx : flatV x = true) (ha : us.all flatV = true) (p : P (.bl (if neg then !inV x us else inV x us)) c f) : R2W K (rIn K neg) x y c f P := fun H w _ q => by
  obtain ⟨a, ws, e1, s1, l1, w1⟩ := w.tup h
  have e2 : ws = us := w1.flats Ents.hd hf
  subst e2
  exact ⟨a, ws, e1, .inr s1, hx, ha, q _ _ _ _ p w⟩
/-! methods of lists -/
def TyW (K : PySem.W.Frag) (T : String) (x : V) (c : Cs) (f : Fs) : Prop := ∀ H, Wd K c f H → tyV K T x H
theorem TyW.sq (h : Sq K c f x ds) : TyW K "list" x c f := fun H w => by
  obtain ⟨a, ws, e1, s1, l1, w1⟩ := w.seq h
  subst e1
  exact .inl ⟨rfl, ws, s1⟩
theorem TyW.cell {a : Addr} {ws : List V} {k : HO → Cs} (h : Has c a (.lst ws) k) : TyW K "list" (.ref a) c f := fun H w => .inl ⟨rfl, ws, SqL.of (w.get h)⟩
theorem TyW.str {z : Str} : TyW K "str" (.str z) c f := fun H w => rfl
theorem tw_bm {T : String} {r : V → List V → Hp → VK → Prop} {to : TE} {t : TA} (h : TW K to σ c f fun x c1 f1 => TyW K T x c1 f1 ∧ AW K t σ c1 f1 fun xs c2 f2 => RMW K r x xs c2 f2 P) : TW K (tBM K T r to t) σ c f P := fun H w Q q =>
  h H w _ fun x c1 f1 H1 ⟨ht, h1⟩ w1 => ⟨ht H1 w1, h1 H1 w1 _ fun xs c2 f2 H2 h2 w2 => h2 H2 w2 Q q⟩
theorem tw_bm0 {T : String} {r : V → List V → Hp → VK → Prop} {to : TE} (h : TW K to σ c f fun x c1 f1 => TyW K T x c1 f1 ∧ RMW K r x [] c1 f1 P) : TW K (tBM0 K T r to) σ c f P := fun H w Q q =>
  h H w _ fun x c1 f1 H1 ⟨ht, h1⟩ w1 => ⟨ht H1 w1, h1 H1 w1 Q q⟩
theorem rm_append {a : Addr} {ws : List V} {k : HO → Cs} (h : Has c a (.lst ws) k) (hz : ws.length < sizeLine) (p : P .non (k (.lst (ws ++ [v]))) f) : RMW K rAppend (.ref a) [v] c f P := fun H w _ q =>
  ⟨a, ws, v, rfl, rfl, w.get h, hz, q _ _ _ _ p (w.set h _)⟩
theorem rm_pop {a : Addr} {ws : List V} {k : HO → Cs} (h : Has c a (.lst (ws ++ [v])) k) (p : P v (k (.lst ws)) f) : RMW K rPop (.ref a) [] c f P := fun H w _ q =>
  ⟨a, ws ++ [v], v, rfl, rfl, w.get h, by simp, by rw [List.dropLast_concat]; exact q _ _ _ _ p (w.set h _)⟩
theorem rm_popAt {a : Addr} {ws : List V} {k : HO → Cs} {j : Nat} (h : Has c a (.lst ws) k) (hi : n = (j : Int)) (hj : ws[j]? = some v) (hz : ws.length < 2 ^ 62) (p : P v (k (.lst (ws.eraseIdx j))) f) : RMW K rPopAt (.ref a) [.int n] c f P := fun H w _ q => by
  have hl := (List.getElem?_eq_some_iff.mp hj).1
  subst hi
  refine ⟨a, ws, (j : Int), j, v, rfl, rfl, w.get h, by omega, by omega, ?_, hj, q _ _ _ _ p (w.set h _)⟩
  unfold seqIndex?
  simp
  omega
theorem rm_index {us : List V} (h : Sq K c f x ds) (hf : ds.map D.v? = us.map some) (hx : flatV y = true) (ha : us.all flatV = true) (hj : us[j]? = some v) (hv : eqV v y = true) (hno : ∀ (m : Nat) (z : V), m < j → us[m]? = some z → eqV z y = false) (p : P (.int (j : Nat)) c f) :
    RMW K (rIndex K) x [y] c f P := fun H w _ q => by
  obtain ⟨a, ws, e1, s1, l1, w1⟩ := w.seq h
  have e2 : ws = us := w1.flats Ents.hd hf
  subst e2
  exact ⟨a, ws, y, j, v, e1, rfl, s1, hx, ha, hj, hv, hno, q _ _ _ _ p w⟩
end
end FR

set_option Elab.async false
set_option linter.all false
set_option maxRecDepth 100000
set_option maxHeartbeats 2000000
/-! enumerate over a tuple, over bytes; an item of bytes. -/
namespace FR
open PySem PySem.Spec L2
open PyProof.Rows hiding St

/-! ### bytes drawn one by one -/
section
variable {pr : Program} {wo : World} {Ar : Around} {Ex : Value → Shared → Prop} {st : Shared}
theorem byt_some {z : Array UInt8} {tz : Tok} : ¬ (Value.bytes z tz == Value.none) = true := Bool.false_ne_true
theorem byte_next {j : Addr} {z : Array UInt8} {tz : Tok} {n : Nat} {c : UInt8} {Q : Value → Shared → Prop} (hj : PySem.W.KBw.IsBytesIter st.heap j z tz n) (hc : z[n]? = some c)
    (hq : ∀ g, PySem.W.KBw.IsBytesIter g j z tz (n + 1) → Heap.SameBut j st.heap g → Q (.int (c.toNat : Int) st.toks) { st with heap := g, toks := st.toks + 1 }) : wpAny (model pr wo) Ar (Builtin.SmallTypes.nextOf (.ref j)) Q Ex st := by
  obtain ⟨oj, gj, cj, dj⟩ := id hj
  unfold Builtin.SmallTypes.nextOf
  refine wpAny_bind (wpAny_callSpecial?_slot (name := PySem.Str.ofString "__next__") (PySem.W.KBw.iter_typeIs hj) PySem.W.KBw.slot_next (wpAny_call_entry PySem.W.KBw.slot_next (PySem.W.KBw.iter_typeIs hj) PySem.W.KBw.entry_next ?_ (PySem.W.KBw.args_next _)))
  show wpAny _ _ (field (.ref j) 0 >>= _) _ _ st
  refine wpAny_bind (wpAny_field gj dj (x := .bytes z tz) rfl ?_)
  show wpAny _ _ (if (Value.bytes z tz == Value.none) = true then _ else _) _ _ st
  rw [if_neg byt_some]
  show wpAny _ _ (field (.ref j) 1 >>= _) _ _ st
  refine wpAny_bind (wpAny_field gj dj (x := .int n 0) rfl ?_)
  refine wpAny_bind (wpAny_of_eq (a := z) rfl ?_)
  simp only [Int.toNat_natCast, hc]
  refine wpAny_bind (wpAny_setField gj dj (by simp) (wpAny_bind (wpAny_mkInt (wpAny_pure ⟨_, rfl, wpAny_pure (hq _ ⟨_, Heap.get?_update_self _ gj (Obj.isFreed_of_fields (Obj.data_mapFields dj _)), (Obj.cls_mapFields ..).trans cj, ?_⟩ (Heap.SameBut.update ..))⟩))))
  rw [Obj.data_mapFields dj]
  simp [rawInt]
theorem byte_none {j : Addr} {z : Array UInt8} {tz : Tok} {n : Nat} {Q : Value → Shared → Prop} (ha : Ar.handled = none) (hj : PySem.W.KBw.IsBytesIter st.heap j z tz n) (hc : z[n]? = none)
    (hq : ∀ g e, Heap.ExtBut j st.heap g → (∃ o, g.get? e = some o ∧ o.cls = .type "StopIteration") → Ex (.ref e) { st with heap := g }) : wpAny (model pr wo) Ar (Builtin.SmallTypes.nextOf (.ref j)) Q Ex st := by
  obtain ⟨oj, gj, cj, dj⟩ := id hj
  unfold Builtin.SmallTypes.nextOf
  refine wpAny_bind (wpAny_callSpecial?_slot (name := PySem.Str.ofString "__next__") (PySem.W.KBw.iter_typeIs hj) PySem.W.KBw.slot_next (wpAny_call_entry PySem.W.KBw.slot_next (PySem.W.KBw.iter_typeIs hj) PySem.W.KBw.entry_next ?_ (PySem.W.KBw.args_next _)))
  show wpAny _ _ (field (.ref j) 0 >>= _) _ _ st
  refine wpAny_bind (wpAny_field gj dj (x := .bytes z tz) rfl ?_)
  show wpAny _ _ (if (Value.bytes z tz == Value.none) = true then _ else _) _ _ st
  rw [if_neg byt_some]
  show wpAny _ _ (field (.ref j) 1 >>= _) _ _ st
  refine wpAny_bind (wpAny_field gj dj (x := .int n 0) rfl ?_)
  refine wpAny_bind (wpAny_of_eq (a := z) rfl ?_)
  simp only [Int.toNat_natCast, hc]
  refine wpAny_bind (wpAny_rule (wpAny_bind (wpAny_setField gj dj (by simp) ?_)))
  show wpAny _ _ (newExc (.type "StopIteration") [] >>= _) _ _ _
  refine wpAny_bind ?_
  simp only [newExc, newTuple]
  refine wpAny_bind (wpAny_newObj_type (wpAny_bind (m := firstArgMember _ _) (wpAny_of_eq (a := Value.none) (by first | rfl | (simp only [firstArgMember]; rfl)) (wpAny_newObj_type ?_ (by size_fits)))) (by size_fits))
  simp only [raiseNew]
  refine wpAny_bind (wpAny_handled ?_)
  rw [show Ar.in1.handled = none from ha]
  exact wpAny_bind (wpAny_pure (wpAny_throw (hq _ _ (((Heap.SameBut.update ..).extBut.push _).push _) ⟨_, Heap.get?_push_size _ rfl, rfl⟩)))
end
theorem draws_byt {pr : Program} {wo : World} {Ar : Around} (ha : Ar.handled = none) (j : Addr) (z : Array UInt8) (tz : Tok) :
    Draws pr wo Ar j [j] z.size (fun i v => ∃ c t, z[i]? = some c ∧ v = .int (c.toNat : Int) t) (fun i g => PySem.W.KBw.IsBytesIter g j z tz i) where
  live := fun _ _ ⟨o, ho, _⟩ => ⟨o, ho⟩
  frame := fun _ _ _ ⟨o, ho, r⟩ hk => ⟨o, hk j (by simp) o ho, r⟩
  item := fun i s Q E hi y hq => byte_next y (c := z[i]) (by simp [hi]) fun g y' sb => hq _ g (s.toks + 1) ⟨_, _, by simp [hi], rfl⟩ y' sb
  done := fun s Q E y hq => byte_none ha y (by simp) hq
theorem begins_byt (z : Array UInt8) (tz : Tok) : Begins (.bytes z tz) { cls := .type "bytes_iterator", data := .fields #[.bytes z tz, .int 0 0] } fun _ => True where
  iter := fun _ _ _ _ _ _ _ h => PySem.W.KBw.pyIter_bytes h
  keeps := fun _ _ _ _ => trivial
  free := rfl

/-! ### enumerate of anything that begins so -/
theorem enum_new {x : Value} {ox : Obj} {Hx : Heap → Prop} (B : Begins x ox Hx) :
    Meets (Builtin.«enumerate.__new__» ⟨[.type "enumerate", x], []⟩) (fun _ R s => Hx s.heap ∧ R (.ok (.ret (.ref (s.heap.push ox).objs.size)))
      { s with heap := (s.heap.push ox).push { cls := .type "enumerate", data := .fields #[.none, .bool false, .ref s.heap.objs.size, rawInt 0, .none, .none] } }) :=
  .of_wp fun pr wo Ar R s h => by
    obtain ⟨hp, g, d, tk, os⟩ := s
    obtain ⟨hx, h⟩ := h
    have hsub := sub_enumerate
    have go : ∀ {A' : Around} {E : Value → Shared → Prop} {Q : Value → Shared → Prop}, Q (.ref hp.objs.size) ⟨hp.push ox, g, d, tk, os⟩ → wpAny (model pr wo) A' (pyIter x) Q E ⟨hp, g, d, tk, os⟩ :=
      fun q => B.iter pr wo _ _ ⟨hp, g, d, tk, os⟩ _ hx q
    wp_walk
    refine wpAny_stack_any fun st => wpAny_pure ?_
    split
    · rename_i c _ _ _ _ _
      cases (c == Value.type "enumerate")
      · wp_walk using go
        exact ⟨_, rfl, h⟩
      · wp_walk using go
        exact ⟨_, rfl, h⟩
    · wp_walk using go
      exact ⟨_, rfl, h⟩

/-- each item in a new pair with its place -/
def ItE (has : Nat → Hp → Prop) (itm : Nat → Hp → V → Prop) (fin : Nat → Hp → Prop) : It :=
  ⟨has, fun i H v H' => ∃ T x, v = .ref T ∧ H T = none ∧ H' = upd H T (.tup [.int (i : Nat), x]) ∧ itm i H x, fin⟩
/-- what walks inside -/
structure Inner (P : Program) (w : World) (K : PySem.W.Frag) (e j : Addr) (has : Nat → Hp → Prop) (itm : Nat → Hp → V → Prop) (fin : Nat → Hp → Prop) (at_ : Nat → Heap → Prop) : Prop where
  obj : ∀ i h, at_ i h → ∃ o, h.get? j = some o ∧ ∀ v, o.data ≠ .cell v
  keep : ∀ i h h', at_ i h → (∀ o, h.get? j = some o → h'.get? j = some o) → at_ i h'
  draw : ∀ (X : Cx), X.prog = P → X.w = w → X.K = K → X.A.handled = none → ∀ (i : Nat) (pins : List (Addr × Obj)) (s : Shared) (σ : L2.St) (H : Hp) (old : Value), Inv X pins σ H s → at_ i s.heap → IsEnum s.heap e j i old → has i H →
    ∃ fp n Pv Sv, Draws P w X.A.in1 j fp n Pv Sv ∧ Sv i s.heap ∧ i < n ∧ e ∉ fp ∧ (∀ u, Pv i u → ∃ x, RelV x u ∧ itm i H x) ∧ ∀ h, Sv (i + 1) h → at_ (i + 1) h
  done : ∀ (X : Cx), X.prog = P → X.w = w → X.K = K → X.A.handled = none → ∀ (i : Nat) (pins : List (Addr × Obj)) (s : Shared) (σ : L2.St) (H : Hp), Inv X pins σ H s → at_ i s.heap → fin i H →
    ∃ fp Pv Sv, Draws P w X.A.in1 j fp i Pv Sv ∧ Sv i s.heap
theorem turn_inner {P : Program} {w : World} {K : PySem.W.Frag} {elts : List Expr} {kk : Nat} {tpos : Pos} {e j : Addr} {has : Nat → Hp → Prop} {itm : Nat → Hp → V → Prop} {fin : Nat → Hp → Prop} {at_ : Nat → Heap → Prop} (N : Inner P w K e j has itm fin at_) :
    Turn P w K (.Tuple elts kk tpos) (ItE has itm fin) [e, j] e (fun i h => (∃ old, IsEnum h e j ((i : Nat) : Int) old) ∧ at_ i h ∧ e ≠ j) where
  mem := by simp
  obj := fun i h y b hb => by
    obtain ⟨⟨old, he⟩, y, _⟩ := y
    rcases (show b = e ∨ b = j by simpa using hb) with z | z
    · rw [z]
      exact ⟨_, he, fun v q => nomatch q⟩
    · rw [z]
      exact N.obj _ _ y
  keep := fun i h h' ⟨⟨old, he⟩, y, hne⟩ k => ⟨⟨old, k e (by simp) _ he⟩, N.keep _ _ _ y fun o q => k j (by simp) o q, hne⟩
  item := by
    intro X hP hw hK hc i pins s σ H E I hf y hg
    obtain ⟨⟨old, he⟩, y, hne⟩ := y
    obtain ⟨fp, n, Pv, Sv, D, sv, hlt, hef, hpv, hnx⟩ := N.draw X hP hw hK (I.ok.hd hc) i pins s σ H old I y he hg
    subst hP hw hK
    have hel : e < s.heap.objs.size := Heap.lt_size he
    have hjl : j < s.heap.objs.size := by
      obtain ⟨o, q, _⟩ := N.obj _ _ y
      exact Heap.lt_size q
    refine wpAny_pyNext_enum_itemD D he sv hlt hne hef fun u h1 tk hu ho sv1 hT hsz hk => ?_
    obtain ⟨x, ru, hx⟩ := hpv u hu
    refine ⟨_, rfl, wpAny_letOwnedTupleGo_enum (s := { s with heap := h1, toks := tk + 1 }) ho fun h2 he2 sb => ?_⟩
    have hT2 : h2.get? s.heap.objs.size = some { cls := .type "tuple", data := .seq #[.int i tk, u] } := (sb.2 _ (Nat.ne_of_gt hel)).trans hT
    have I1 : Inv X pins σ (upd H s.heap.objs.size (.tup [.int (i : Nat), x])) { s with heap := h2, toks := tk + 1 } :=
      I.turnedNew (ch := [e, j]) (fun b ob hb q => (sb.2 b (fun z => hb (by simp [z]))).trans (hk b ob (fun z => hb (by simp [z])) (fun z => hb (by simp [z])) q)) hf (Nat.le_refl _)
        ⟨by show 2 ≤ sizeLine; decide, [.int i tk, u], .cons ⟨_, rfl⟩ (.cons ru .nil), ⟨_, hT2, rfl, _, rfl⟩⟩
    refine ⟨.ref s.heap.objs.size, _, I1, rfl, ⟨_, x, rfl, I.hok.fresh (Nat.le_refl _), rfl, hx⟩, ⟨⟨u, ?_⟩, N.keep _ _ _ (hnx _ sv1) fun o q => (sb.2 j (Ne.symm hne)).trans q, hne⟩, fun b hb => ?_⟩
    · rw [show ((i + 1 : Nat) : Int) = (i : Int) + 1 by omega]
      exact he2
    · have hb' : b < s.heap.objs.size := by
        rcases (show b = e ∨ b = j by simpa using hb) with z | z <;> rw [z] <;> assumption
      rw [upd_ne (Nat.ne_of_lt hb')]
      exact (hf b hb).1
  done := by
    intro X hP hw hK hc i pins s σ H E I hf y hg
    obtain ⟨⟨old, he⟩, y, hne⟩ := y
    obtain ⟨fp, Pv, Sv, D, sv⟩ := N.done X hP hw hK (I.ok.hd hc) i pins s σ H I y hg
    subst hP hw hK
    obtain ⟨f0, f1, f2, f3, f4, f5⟩ := hf j (by simp)
    exact wpAny_pyNext_enum_endD D he sv fun h1 eb => ⟨rfl, I.turned (t' := s.toks) (fun b o hb q => eb b o hb q) f0 f1 f3 f4 f5⟩
  self := fun A i s Q E y h => let ⟨⟨_, he⟩, _⟩ := y; wpAny_pyIter_enum he h
theorem inner_byt {P : Program} {w : World} {K : PySem.W.Frag} {e j : Addr} (hne : e ≠ j) (z : Array UInt8) (tz : Tok) : Inner P w K e j (fun i _ => i < z.size) (fun i _ x => ∃ c, z[i]? = some c ∧ x = .int ((c.toNat : Nat) : Int)) (fun i _ => z.size ≤ i)
    (fun i h => i ≤ z.size ∧ PySem.W.KBw.IsBytesIter h j z tz i) where
  obj := fun i h ⟨_, o, ho, _, hd⟩ => ⟨o, ho, fun v q => by rw [hd] at q; cases q⟩
  keep := fun i h h' ⟨hi, o, ho, r⟩ k => ⟨hi, o, k o ho, r⟩
  draw := fun X hP hw hK hh i pins s σ H old I ⟨hi, y⟩ he hg => by
    subst hP hw hK
    exact ⟨_, _, _, _, draws_byt (Ar := X.A.in1) hh j z tz, y, hg, by simp [hne], fun u ⟨c, t, hc, e⟩ => ⟨.int ((c.toNat : Nat) : Int), ⟨t, e⟩, c, hc, rfl⟩, fun h q => ⟨hg, q⟩⟩
  done := fun X hP hw hK hh i pins s σ H I ⟨hi, y⟩ hg => by
    subst hP hw hK
    have e : i = z.size := Nat.le_antisymm hi hg
    subst e
    exact ⟨_, _, _, draws_byt (Ar := X.A.in1) hh j z tz, y⟩
theorem inner_tup {P : Program} {w : World} {K : PySem.W.Frag} {e j a : Addr} (hne : e ≠ j) : Inner P w K e j (fun i H => ∃ (xs : List V) (x : V), SqT K H a xs ∧ xs[i]? = some x) (fun i H x => ∀ xs, SqT K H a xs → xs[i]? = some x) (fun i H => ∃ xs : List V, SqT K H a xs ∧ xs.length = i)
    (fun i h => h.IsTupleIter j a i) where
  obj := fun i h ⟨o, ho, _, hd⟩ => ⟨o, ho, fun v q => by rw [hd] at q; cases q⟩
  keep := fun i h h' y k => y.at fun o q => k o q
  draw := fun X hP hw hK hh i pins s σ H old I y he ⟨xs, x, hq, hx⟩ => by
    subst hP hw hK
    obtain ⟨its, rv, p, hz⟩ := I.tuple hq
    have p' : s.heap.IsTuple a its.toArray := p
    obtain ⟨u, hu, ru⟩ := rv.get hx
    have hl := (List.getElem?_eq_some_iff.mp hu).1
    have hea : e ≠ a := fun z => by
      obtain ⟨o, ho, _, n, hd⟩ := p'
      have he' : s.heap.get? e = some _ := he
      rw [z, ho] at he'
      cases he'
      cases hd
    have hja : a ≠ j := fun z => by
      obtain ⟨o, ho, _, n, hd⟩ := p'
      obtain ⟨o2, ho2, _, hd2⟩ := y
      rw [z, ho2] at ho
      cases ho
      rw [hd2] at hd
      cases hd
    refine ⟨_, _, _, _, Draws.tuple (A := X.A.in1) hh j a hja its.toArray, ⟨y, p'⟩, by simpa using hl, by simp [hne, hea], fun w' hw' => ⟨x, ?_, fun ys hy => by rw [I.tuple_inj hy hq]; exact hx⟩, fun h q => q.1⟩
    have e2 : its[i]? = some w' := by simpa using hw'
    rw [hu] at e2
    cases e2
    exact ru
  done := fun X hP hw hK hh i pins s σ H I y ⟨xs, hq, hx⟩ => by
    subst hP hw hK
    obtain ⟨its, rv, p, hz⟩ := I.tuple hq
    have p' : s.heap.IsTuple a its.toArray := p
    have hja : a ≠ j := fun z => by
      obtain ⟨o, ho, _, n, hd⟩ := p'
      obtain ⟨o2, ho2, _, hd2⟩ := y
      rw [z, ho2] at ho
      cases ho
      rw [hd2] at hd
      cases hd
    have hl := rv.length
    have e : i = its.toArray.size := by simp; omega
    subst e
    exact ⟨_, _, _, Draws.tuple (A := X.A.in1) hh j a hja its.toArray, y, p'⟩
/-! the expressions -/
theorem enum_call {x : Value} {ox : Obj} {Hx : Heap → Prop} (B : Begins x ox Hx) {pr : Program} {wo : World} {Ar : Around} {Ex : Value → Shared → Prop} {s : Shared} {Q : Value → Shared → Prop} (hx : Hx s.heap)
    (h : ∀ g, IsEnum g (s.heap.objs.size + 1) s.heap.objs.size 0 .none → g.get? s.heap.objs.size = some ox → (∀ b o, s.heap.get? b = some o → g.get? b = some o) → Q (.ref (s.heap.objs.size + 1)) { s with heap := g }) :
    wpAny (model pr wo) Ar (call (.type "enumerate") [x]) Q Ex s := by
  refine callType_new F.called_enumerate (by decide) (F.typeCall_enumerate_1 _) (F.newCall_enumerate_1 _) (fun o => F.args_object_init_2 o _) F.entry_enumerate_new (enum_new B) ⟨hx, ?_⟩
  have hz : (s.heap.push ox).objs.size = s.heap.objs.size + 1 := Heap.size_push ..
  show _ ∧ _
  rw [hz]
  have he : IsEnum ((s.heap.push ox).push { cls := .type "enumerate", data := .fields #[.none, .bool false, .ref s.heap.objs.size, rawInt 0, .none, .none] }) (s.heap.objs.size + 1) s.heap.objs.size 0 .none := by
    have q := Heap.get?_push_size (s.heap.push ox) (o := { cls := .type "enumerate", data := .fields #[.none, .bool false, .ref s.heap.objs.size, rawInt 0, .none, .none] }) rfl
    rw [hz] at q
    exact q
  exact ⟨⟨_, he, rfl⟩, h _ he (Heap.get?_push_of_some _ (Heap.get?_push_size _ B.free)) fun b o q => Heap.get?_push_of_some _ (Heap.get?_push_of_some _ q)⟩
def iEnumB (ta : TA) : TI := fun σ H R => ta σ H fun vs H1 => ∃ z, vs = [.byt z] ∧ R (ItE (fun i _ => i < z.size) (fun i _ x => ∃ c, z[i]? = some c ∧ x = .int ((c.toNat : Nat) : Int)) (fun i _ => z.size ≤ i)) H1
def iEnumT (K : PySem.W.Frag) (ta : TA) : TI := fun σ H R => ta σ H fun vs H1 => ∃ a xs, vs = [.ref a] ∧ SqT K H1 a xs ∧
  R (ItE (fun i H => ∃ (xs : List V) (x : V), SqT K H a xs ∧ xs[i]? = some x) (fun i H x => ∀ xs, SqT K H a xs → xs[i]? = some x) (fun i H => ∃ xs : List V, SqT K H a xs ∧ xs.length = i)) H1
section
variable {X : Cx} {e : Expr} {ta : TA} {p pos tpos : Pos} {elts : List Expr} {kk : Nat}
theorem enum_fp {pins : List (Addr × Obj)} {σ : L2.St} {H : Hp} {s : Shared} (I : Inv X pins σ H s) : ∀ b ∈ [s.heap.objs.size + 1, s.heap.objs.size], FpOk X pins H b := fun b hb => by
  have hle : s.heap.objs.size ≤ b := by
    rcases (show b = s.heap.objs.size + 1 ∨ b = s.heap.objs.size by simpa using hb) with z | z <;> rw [z]
    · exact Nat.le_add_right _ _
    · exact Nat.le_refl _
  exact I.fpOk hle (I.hok.fresh hle)
theorem pi_enumB (hg : Gl X "enumerate") (hm : X.mg "enumerate" = none) (ha : PA X [e] ta) (hs : starEach [e] X.env = [(false, eval e X.env)] := by rfl) :
    PI X (.Tuple elts kk tpos) (.Call (.Name "enumerate" p) [e] [] pos) (iEnumB ta) := by
  refine ⟨fun pins s σ H R I h => ?_⟩
  refine Call_ (ld_blt I hg hm boot_enumerate (PyProof.Rows.callWith_type1 (thn (ha.run pos pins s σ H _ I h) fun us s1 ⟨vs, H1, I1, r1, z, ex, q⟩ => ?_) hs rfl))
  subst ex
  obtain ⟨u, rfl, t, rfl⟩ := vals1 r1
  refine enum_call (begins_byt z t) trivial fun g he hj hk => wpAny_pyIter_enum he ?_
  exact ⟨s1.heap.objs.size + 1, [s1.heap.objs.size + 1, s1.heap.objs.size], _, _, H1, rfl, I1.kept (t' := s1.toks) hk, turn_inner (inner_byt (Nat.succ_ne_self _) z t), ⟨⟨.none, he⟩, ⟨Nat.zero_le _, _, hj, rfl, rfl⟩, Nat.succ_ne_self _⟩, enum_fp I1, q⟩
theorem pi_enumT (hg : Gl X "enumerate") (hm : X.mg "enumerate" = none) (ha : PA X [e] ta) (hs : starEach [e] X.env = [(false, eval e X.env)] := by rfl) :
    PI X (.Tuple elts kk tpos) (.Call (.Name "enumerate" p) [e] [] pos) (iEnumT X.K ta) := by
  refine ⟨fun pins s σ H R I h => ?_⟩
  refine Call_ (ld_blt I hg hm boot_enumerate (PyProof.Rows.callWith_type1 (thn (ha.run pos pins s σ H _ I h) fun us s1 ⟨vs, H1, I1, r1, a, xs, ex, hq, q⟩ => ?_) hs rfl))
  subst ex
  obtain ⟨u, rfl, ru⟩ := vals1 r1
  obtain rfl : u = Value.ref a := ru
  obtain ⟨its, rv, p', hz⟩ := I1.tuple hq
  refine enum_call (begins_tuple a its.toArray) (show s1.heap.IsTuple a its.toArray from p') fun g he hj hk => wpAny_pyIter_enum he ?_
  exact ⟨s1.heap.objs.size + 1, [s1.heap.objs.size + 1, s1.heap.objs.size], _, _, H1, rfl, I1.kept (t' := s1.toks) hk, turn_inner (inner_tup (Nat.succ_ne_self _)), ⟨⟨.none, he⟩, ⟨_, hj, rfl, rfl⟩, Nat.succ_ne_self _⟩, enum_fp I1, q⟩
/-- b[i], the place from either end -/
def rIxB : R2 := fun x y H Q => ∃ (z : Array UInt8) (i : Int) (j : Nat) (c : UInt8), x = .byt z ∧ y = .int i ∧ z.size ≤ sizeLine ∧ seqIndex? i z.size = some j ∧ z[j]? = some c ∧ Q (.int ((c.toNat : Nat) : Int)) H
theorem pe_ixB {a b : Expr} {ta tb : TE} (ha : PE X a ta) (hb : PE X b tb) (hs : PlainIxT b) : PE X (.Subscript a b pos) (tOp rIxB ta tb) := by
  refine ⟨fun pins s σ H Q I h => Subscript_ (binT ha hb I h fun v u s2 x y H2 I2 rx ry ⟨z, i, j, c, ex, ey, hz, hj, hc, q⟩ => ?_)⟩
  subst ex ey
  obtain ⟨t, rfl⟩ := rx
  obtain ⟨t', rfl⟩ := ry
  have hsz := sizeLine_eq
  have hi : -(z.size : Int) ≤ i ∧ i < z.size := by
    by_cases h0 : i < 0
    · simp [seqIndex?, h0] at hj
      omega
    · simp [seqIndex?, h0] at hj
      omega
  refine tail_any (PySem.W.typeIs_bytes s2 z t) PySem.W.FB.slot_bytes_getitem.lookup (getItem_gives (PySem.W.typeIs_bytes s2 z t) (by decide) PySem.W.FB.slot_bytes_getitem PySem.W.FB.entry_bytes_getitem (PySem.W.FB.args_bytes_getitem_2 _ _) (PySem.W.gives_bytes_getitem z i t t' c ?_ ?_) ⟨.int ((c.toNat : Nat) : Int), H2, I2.tok _, ⟨_, rfl⟩, q⟩) (hs _ _)
  · simp only [Builtin.Bytes.fitsIndex, Bool.and_eq_true, decide_eq_true_eq]
    omega
  · rw [hj]
    exact hc
end
end FR

set_option Elab.async false
set_option linter.all false
set_option maxRecDepth 100000
set_option maxHeartbeats 2000000
/-! try with any clauses: except x, except x as n. -/
namespace FR
open PySem PySem.Spec L2
open PyProof.Rows hiding St

abbrev SuT := Addr → Value → Option Addr → TS
/-- behind a clause with a name the name is gone -/
def gone (i : Nat) (D : Ends) : Ends where
  nx := fun σ H => D.nx (σ.set i none) H
  rt := D.rt
  bk := fun σ H => D.bk (σ.set i none) H
  ct := fun σ H => D.ct (σ.set i none) H
def wHd (K : PySem.W.Frag) (Wout : WX) (D : Ends) : List (Value × Option Nat × SuT) → WX
  | [] => Wout
  | (c, none, ts) :: r => fun cls d σ H => ∃ b, PySem.W.exmOne K cls c = some b ∧ (b = true → ∀ a, H a = none → ts a cls d D σ H) ∧ (b = false → wHd K Wout D r cls d σ H)
  | (c, some i, ts) :: r => fun cls d σ H => ∃ b, PySem.W.exmOne K cls c = some b ∧ (b = true → ∀ a, H a = none → ts a cls d (gone i D) (σ.set i (some (.ref a))) H) ∧ (b = false → wHd K Wout D r cls d σ H)
inductive HdN (X : Cx) : List ExceptHandler → List (Value × Option Nat × SuT) → Prop
  | nil : HdN X [] []
  | plain {x : Str} {c : Value} {ts : SuT} {st0 : Stmt} {sts : List Stmt} {p1 p2 : Pos} {hs : List ExceptHandler} {l : List (Value × Option Nat × SuT)} (hc : Names X x c)
      (su : ∀ (a : Addr) (oe : Obj) (cls : Value) (d : Option Addr) (pn : List (Addr × Obj)), Zc cls d oe → (∃ vs, oe.data = .fields vs) → PSs (X.suite a ((a, oe) :: pn)) (st0 :: sts) (ts a cls d)) (r : HdN X hs l) :
      HdN X (.ExceptHandler (some (.Name x p1)) none (st0 :: sts) p2 :: hs) ((c, none, ts) :: l)
  | named {x n : Str} {i : Nat} {c : Value} {ts : SuT} {st0 : Stmt} {sts : List Stmt} {p1 p2 : Pos} {hs : List ExceptHandler} {l : List (Value × Option Nat × SuT)} (hN : X.N.Nodup) (hi : X.N[i]? = some n) (hl : X.env.kindOf n = some .local) (hc : Names X x c)
      (su : ∀ (a : Addr) (oe : Obj) (cls : Value) (d : Option Addr) (pn : List (Addr × Obj)), Zc cls d oe → (∃ vs, oe.data = .fields vs) → PSs (X.suite a ((a, oe) :: pn)) (st0 :: sts) (ts a cls d)) (r : HdN X hs l) :
      HdN X (.ExceptHandler (some (.Name x p1)) (some n) (st0 :: sts) p2 :: hs) ((c, some i, ts) :: l)
section
variable {X : Cx} {pins : List (Addr × Obj)} {σ : L2.St} {H : Hp} {s s' : Shared} {a : Addr} {cls : Value} {d : Option Addr} {B : Heap}
/-- an exception that has landed in our frame -/
structure Landed (X : Cx) (pins : List (Addr × Obj)) (σ : L2.St) (H : Hp) (B : Heap) (a : Addr) (cls : Value) (d : Option Addr) (sI s : Shared) : Prop where
  inv : Inv X pins σ H sI
  nb : ∀ b o, sI.heap.get? b = some o → b ∉ frs X.stack → B.get? b = some o
  up : sI.heap.UpToSlots s.heap
  na : H a = none
  os : s.os = sI.os
  ag : AllBare s.gens
  fly : HandSPX.FlyingZ B (X.env :: X.outer) a (Zc cls d) s.heap
/-- here it is, in a state of ours -/
theorem Landed.here {sI : Shared} (L : Landed X pins σ H B a cls d sI s) (hf : X.env.frame = some X.env.locals) : ∃ oe vs, s.heap.get? a = some oe ∧ Zc cls d oe ∧ oe.data = .fields vs ∧ a ≠ X.env.locals ∧ a ∉ X.fs ∧ Inv X pins σ H s := by
  obtain ⟨oe, vs, he, hz, hd⟩ := L.fly.there
  have out : a ∉ frs (X.env :: X.outer) := fun hm => by
    obtain ⟨_, o', e', hnf⟩ := Heap.FunFrames.mem L.fly.2.2.1 hm
    rw [he] at e'
    cases e'
    exact hnf _ hd
  refine ⟨oe, vs, he, hz, hd, fun z => out (List.mem_filterMap.mpr ⟨X.env, List.mem_cons_self, by rw [hf, z]⟩), fun hm => ?_, L.inv.landed L.nb L.fly.1 L.up L.os L.ag⟩
  obtain ⟨e, he', q⟩ := List.mem_filterMap.mp hm
  exact out (List.mem_filterMap.mpr ⟨e, List.mem_cons_of_mem _ he', q⟩)
end
section
variable {X : Cx} {body : List Stmt} {h0 : ExceptHandler} {hds : List ExceptHandler} {l : List (Value × Option Nat × SuT)} {pos : Pos} {tb : WX → TS} {Wout : WX}
theorem handle_one {E : Value → Shared → Prop} {pins : List (Addr × Obj)} {D : Ends} (hs : X.stack = X.env :: X.outer) (hf : X.env.frame = some X.env.locals) (tk : Takes X Wout) (hk : HdN X hds l) :
    ∀ {σ : L2.St} {H : Hp} {B : Heap} {a : Addr} {cls : Value} {d : Option Addr} {sI s : Shared}, Landed X pins σ H B a cls d sI s → wHd X.K Wout D l cls d σ H →
      wpAny (model X.prog X.w) X.A (handleBy (.ref a) X.env hds) (SP X pins D) X.xe s := by
  induction hk with
  | nil =>
    intro σ H B a cls d sI s L w
    refine wpAny_handleBy_nil ?_
    obtain ⟨k1, k2, k3, oe, vs, T, oT, ts', he, hz, hd, h1, hr⟩ := id L.fly
    unfold PySem.passOn
    refine wpAny_bind (wpAny_field he hd h1 ?_)
    rw [if_neg (show ¬ ((Value.ref T == Value.none) = true) from by simp)]
    have last : wpAny (model X.prog X.w) X.A (setFlight (.ref a) X.env.frame) (fun _ s4 => wpAny (model X.prog X.w) X.A (throw (.ref a) : Sem Flow) (SP X pins D) X.xe s4) X.xe s := by
      rw [hf]
      exact HandSPX.setFlight_upZ L.fly fun h4 hh4 up4 => wpAny_throw (tk _ _ ⟨a, B, sI, pins, σ, H, cls, d, rfl, L.inv, L.nb, L.up.trans up4, .inr (.inr (by rw [hs]; exact hh4)), L.na, L.os, L.ag, w⟩)
    first
      | exact wpAny_bind (wpAny_pure (wpAny_bind last))
      | exact wpAny_bind last
  | @plain x c ts st0 sts p1 p2 hs2 l2 hc su r ih =>
    intro σ H B a cls d sI s L w
    have ok := L.inv.ok
    obtain ⟨b, hb1, hyes, hno⟩ := w
    obtain ⟨oe, vs, he, hz, hd, nL, nF, J⟩ := L.here hf
    have S := J.suite he hd L.na nL nF
    refine wpAny_handleBy_cons (codeAny_handlers_test ?_) (fun q => by cases q)
    have LM := PySem.W.exm_one (M := model X.prog X.w) J.kIn (fun A Q E s k q => wpAny_typeOf_ref (k _ _ he) (by rw [hz.1]; exact q)) hb1
    have nm : ∀ {Q : Value → Shared → Prop} {E : Value → Shared → Prop}, Q c s → wpAny (model X.prog X.w) (X.A.mark (some (.ref a))) (eval (.Name x p1) X.env) Q E s := fun {Q E} q => by
      obtain ⟨hg, hdb, hm | ⟨hm, hv, hnn⟩⟩ := hc
      · exact ld_glob (X := X.suite a ((a, oe) :: (X.pn ++ pins))) S hg hm q hdb
      · exact ld_blt (X := X.suite a ((a, oe) :: (X.pn ++ pins))) S hg hm hv q hnn hdb
    refine nm (LM.here ?_)
    cases b with
    | true =>
      refine codeAny_handlers_suite (HandSPX.lands_againZ L.fly fun h4 fl4 up4 => ?_)
      have L4 : Landed X pins σ H B a cls d sI { s with heap := h4 } := ⟨L.inv, L.nb, L.up.trans up4, L.na, L.os, L.ag, fl4⟩
      obtain ⟨oe4, vs4, he4, hz4, hd4, _, _, J4⟩ := L4.here hf
      refine wpAny_mono ((su a oe4 cls d (X.pn ++ pins) hz4 ⟨_, hd4⟩).run [] _ _ H _ (J4.suite he4 hd4 L.na nL nF) (hyes rfl a L.na)) (fun f s6 q => ?_) (fun _ _ z => False.elim z)
      cases f with
      | next => exact let ⟨_, _, S6, q6⟩ := q; ⟨_, _, S6.unsuite ok, q6⟩
      | brk => exact let ⟨_, _, S6, q6⟩ := q; ⟨_, _, S6.unsuite ok, q6⟩
      | cont => exact let ⟨_, _, S6, q6⟩ := q; ⟨_, _, S6.unsuite ok, q6⟩
      | ret u => exact let ⟨_, _, _, S6, r6, q6⟩ := q; ⟨_, _, _, S6.unsuite ok, r6, q6⟩
    | false => exact ih L (hno rfl)
  | @named x n i c ts st0 sts p1 p2 hs2 l2 hN hi hl hc su r ih =>
    intro σ H B a cls d sI s L w
    have ok := L.inv.ok
    obtain ⟨b, hb1, hyes, hno⟩ := w
    obtain ⟨oe, vs, he, hz, hd, nL, nF, J⟩ := L.here hf
    have S := J.suite he hd L.na nL nF
    refine wpAny_handleBy_cons (codeAny_handlers_test ?_) (fun q => by cases q)
    have LM := PySem.W.exm_one (M := model X.prog X.w) J.kIn (fun A Q E s k q => wpAny_typeOf_ref (k _ _ he) (by rw [hz.1]; exact q)) hb1
    have nm : ∀ {Q : Value → Shared → Prop} {E : Value → Shared → Prop}, Q c s → wpAny (model X.prog X.w) (X.A.mark (some (.ref a))) (eval (.Name x p1) X.env) Q E s := fun {Q E} q => by
      obtain ⟨hg, hdb, hm | ⟨hm, hv, hnn⟩⟩ := hc
      · exact ld_glob (X := X.suite a ((a, oe) :: (X.pn ++ pins))) S hg hm q hdb
      · exact ld_blt (X := X.suite a ((a, oe) :: (X.pn ++ pins))) S hg hm hv q hnn hdb
    refine nm (LM.here ?_)
    cases b with
    | true =>
      refine codeAny_handlers_suite_as (HandSPX.lands_againZ L.fly fun h4 fl4 up4 => ?_)
      have L4 : Landed X pins σ H B a cls d sI { s with heap := h4 } := ⟨L.inv, L.nb, L.up.trans up4, L.na, L.os, L.ag, fl4⟩
      obtain ⟨oe4, vs4, he4, hz4, hd4, _, _, J4⟩ := L4.here hf
      refine store_ok (X := X.suite a ((a, oe4) :: (X.pn ++ pins))) (v := .ref a) (J4.suite he4 hd4 L.na nL nF) hN hi (.inl hl) rfl (fun s5 S5 => ?_) (.inr hl)
      refine wpAny_mono ((su a oe4 cls d (X.pn ++ pins) hz4 ⟨_, hd4⟩).run [] s5 _ H _ S5 (hyes rfl a L.na)) (fun f s6 q => ?_) (fun _ _ z => False.elim z)
      have off : ∀ {σ6 : L2.St} {H6 : Hp} {Q : Shared → Prop}, Inv (X.suite a ((a, oe4) :: (X.pn ++ pins))) [] σ6 H6 s6 → (∀ s7, Inv X pins (σ6.set i none) H6 s7 → Q s7) →
          wpAny (model X.prog X.w) X.A (do bindName X.env n .none; unbindBehindTheSuite X.env n p2) (fun _ s7 => Q s7) X.xe s6 := fun S6 hq => gone_ok (S6.unsuite ok) hN hi hl hq
      cases f with
      | next => exact let ⟨_, _, S6, q6⟩ := q; off S6 fun s7 J7 => ⟨_, _, J7, q6⟩
      | brk => exact let ⟨_, _, S6, q6⟩ := q; off S6 fun s7 J7 => ⟨_, _, J7, q6⟩
      | cont => exact let ⟨_, _, S6, q6⟩ := q; off S6 fun s7 J7 => ⟨_, _, J7, q6⟩
      | ret u => exact let ⟨_, _, _, S6, r6, q6⟩ := q; off S6 fun s7 J7 => ⟨_, _, _, J7, r6, q6⟩
    | false => exact ih L (hno rfl)
def tTry (K : PySem.W.Frag) (Wo : WX) (l : List (Value × Option Nat × SuT)) (tb : WX → TS) : TS := fun D σ H => tb (wHd K Wo D l) D σ H
theorem ps_tryN (hs : X.stack = X.env :: X.outer) (hf : X.env.frame = some X.env.locals) (tk : Takes X Wout)
    (hb : ∀ (W : WX) (pn : List (Addr × Obj)) (xe : Value → Shared → Prop), Takes (X.tr pn xe) W → PassesOwn (model X.prog X.w) X.A X.env xe → PSs (X.tr pn xe) body (tb W))
    (hh : HdN X (h0 :: hds) l) : PS X (.Try body (h0 :: hds) [] [] pos) (tTry X.K Wout l tb) := by
  refine ⟨fun pins s σ H D I h => wpAny_Try_except ?_⟩
  have ok := I.ok
  have hfr : X.A.frames = some (X.env :: X.outer) := by rw [ok.frames, hs]
  have run := (hb (wHd X.K Wout D l) (X.pn ++ pins) (fun e s₁ => wpAny (model X.prog X.w) X.A (noteFrame e X.env) (fun _ s₂ => wpAny (model X.prog X.w) X.A (setFlight e none) (fun _ s₃ =>
    wpAny (model X.prog X.w) X.A (handleBy e X.env (h0 :: hds)) (SP X pins D) X.xe s₃) X.xe s₂) X.xe s₁) (fun u s1 xx => ?_) PassesOwn.looking).run [] s σ H D (I.toTry _) h
  · refine wpAny_mono run (fun f s1 q => ?_) fun _ _ he => he
    cases f with
    | next => exact let ⟨_, _, J, q⟩ := q; wpAny_execs_nil ⟨_, _, J.ofTry ok, q⟩
    | brk => exact let ⟨_, _, J, q⟩ := q; ⟨_, _, J.ofTry ok, q⟩
    | cont => exact let ⟨_, _, J, q⟩ := q; ⟨_, _, J.ofTry ok, q⟩
    | ret u => exact let ⟨_, _, _, J, r, q⟩ := q; ⟨_, _, _, J.ofTry ok, r, q⟩
  · obtain ⟨a, B, sI, pins', σ', H', cls, d, rfl, J', nb, up, sky, na, os, ag, w⟩ := xx
    have sky' : Sky B (X.env :: X.outer) a (Zc cls d) X.env.locals s1.heap := by
      rw [← hs]
      exact sky
    show wpAny (model X.prog X.w) X.A (noteFrame (.ref a) X.env) _ _ _
    exact Sky.land Zc.steady hfr hf sky' fun h3 fl3 up3 => handle_one (E := X.xe) hs hf tk hh ⟨J'.ofTry ok, nb, up.trans up3, na, os, ag, fl3⟩ w
end
end FR

set_option Elab.async false
set_option linter.all false
set_option maxRecDepth 100000
set_option maxHeartbeats 2000000
/-! Lambdas as values: what they are in the heap, how they are made, called by a def that gets one. -/
namespace FR
open PySem PySem.Spec L2
open PyProof.Rows hiding St

structure Lam where
  params : Arguments
  body : Expr
  scope : Scope
  /-- what its parameters are when none is given -/
  dv : List V
  /-- their names -/
  dn : List Str
/-- the function's object -/
def LamO (q : Str) (lm : Lam) (cl : List (Str × Addr)) (dV : Value) (c' f : Addr) : HO :=
  .ext fun h => ∃ doc pm ctv, h.get? f = some (PySem.W.kdv_obj "<lambda>" q lm.params (.expr lm.body) lm.scope cl dV doc pm c' ctv)
def LamR (q : Str) (lm : Lam) (cl : List (Str × Addr)) : Hp → V → Prop := fun G v => ∃ f c' dV, v = .ref f ∧ G f = some (LamO q lm cl dV c' f) ∧ G c' = some (LamX.CodeO c' q) ∧ ((lm.dv = [] ∧ dV = .none) ∨ (lm.dv ≠ [] ∧ ∃ T, dV = .ref T ∧ G T = some (.tup lm.dv)))
theorem LamR.up {q : Str} {lm : Lam} {cl : List (Str × Addr)} {G G' : Hp} {v : V} (e : Same G G') : LamR q lm cl G v → LamR q lm cl G' v := fun ⟨f, c', dV, h1, h2, h3, h4⟩ =>
  ⟨f, c', dV, h1, e _ _ h2, e _ _ h3, h4.imp id fun ⟨h0, T, h5, h6⟩ => ⟨h0, T, h5, e _ _ h6⟩⟩
/-- its parameters' values, in the heap -/
def DfAt (h : Heap) (dV : Value) (us : List Value) : Prop := (us = [] ∧ dV = .none) ∨ us ≠ [] ∧ ∃ T o n, dV = .ref T ∧ h.get? T = some o ∧ o.data = .seq us.toArray n
structure LamOk (N : List Str) (lm : Lam) : Prop where
  kind : lm.scope.kind = .function
  co : lm.scope.isCoroutine = false
  gen : lm.scope.isGenerator = false
  cell : ∀ y ∈ lm.scope.names, y.2 ≠ .cell
  loc : ∀ y ∈ lm.scope.names, y.2 = .local → y.1 ∉ N
  par : ∀ y ∈ lm.dn, lm.scope.names.lookup y = some .local
  len : lm.dn.length = lm.dv.length
  bind : ∀ (s : Shared) (q : Str) (cl : List (Str × Addr)) (dV doc pm cv ctv : Value) (us : List Value), us.length = lm.dv.length → DfAt s.heap dV us →
    BindsTo s (PySem.W.kdv_fn "<lambda>" q lm.params (.expr lm.body) lm.scope cl dV doc pm cv ctv) ⟨[], []⟩ (lm.dn.zip us)
/-- what a lambda without, with one parameter binds -/
theorem bind0 {s : Shared} {fd : FuncData} {us : List Value} (h : bindArgs fd ⟨[], []⟩ = pure []) (hl : us.length = 0) : BindsTo s fd ⟨[], []⟩ (([] : List Str).zip us) := BindsTo.of_eq h
/-- the captured ones, in the ground -/
structure CapB (N : List Str) (σ : L2.St) (base : Heap) (sc : Scope) (cl : List (Str × Addr)) : Prop where
  has : ∀ y ∈ sc.names, y.2 = .free → ∃ c, cl.lookup y.1 = some c
  inj : ∀ x y c, cl.lookup x = some c → cl.lookup y = some c → x = y
  cell : ∀ x c, cl.lookup x = some c → ∃ v, base.IsCell c v
  val : ∀ (i : Nat) (y : Str) (v : V), N[i]? = some y → σ[i]? = some (some v) → sc.names.lookup y = some .free → ∃ c u, cl.lookup y = some c ∧ RelV v u ∧ base.IsCell c (some u)
  len : σ.length = N.length
abbrev lmEnv (q : Str) (sc : Scope) (L f c' : Addr) (cl : List (Str × Addr)) : Env := PySem.W.envX q sc L f (.ref c') cl
/-- the context of a lambda's body -/
def lmCx (P : Program) (w : World) (K : PySem.W.Frag) (mg : Str → Option Value) (base : Heap) (N : List Str) (A : Around) (outer : List Env) (s : Shared) (H : Hp) (E : XK) (q : Str) (sc : Scope) (f c' : Addr) (cl : List (Str × Addr)) : Cx where
  prog := P
  w := w
  K := K
  mg := mg
  base := base
  A := A.deeper (lmEnv q sc s.heap.objs.size f c' cl)
  N := N
  s_0 := s
  H_0 := H
  env := lmEnv q sc s.heap.objs.size f c' cl
  outer := outer
  stack := lmEnv q sc s.heap.objs.size f c' cl :: outer
  ex := []
  fn := fun _ => false
  calm := true
  pn := []
  xe := fun e s' => wpAny (model P w) (A.deeper (lmEnv q sc s.heap.objs.size f c' cl)) (leaving (lmEnv q sc s.heap.objs.size f c' cl) e) (fun _ s'' => L2.CX P w outer H s E e s'') (fun e' s'' => L2.CX P w outer H s E e' s'') s'
/-- what calling the function at f does -/
def Clo (P : Program) (w : World) (K : PySem.W.Frag) (mg : Str → Option Value) (base : Heap) (k : Nat) (f : Addr) (tl : XK → Hp → VK → Prop) : Prop :=
  ∀ (A : Around) (outer : List Env) (s : Shared) (H : Hp) (Q : VK) (E : XK), Room k A → Env0 P w K mg base A outer s H → tl E H Q → PySem.W.FnAt f s.heap ∧ codeAny (model P w) A (.call (.ref f) ⟨[], []⟩) (CR (L2.CX P w) outer P w H s Q E) s
section
variable {P : Program} {w : World} {K : PySem.W.Frag} {mg : Str → Option Value} {base : Heap} {N : List Str} {σ : L2.St} {lm : Lam} {q : Str} {cl : List (Str × Addr)}
theorem lm_start {A : Around} {outer : List Env} {s : Shared} {H : Hp} {E : XK} {f c' : Addr} {h1 : Heap} {tk : Nat} {m : Str → Option Value} (L : LamOk N lm) (C : CapB N σ base lm.scope cl) (e0 : Env0 P w K mg base A outer s H) (hd : A.handled = none)
    (hns : h1.Ns s.heap.objs.size m) (kp : ∀ b o, s.heap.get? b = some o → h1.get? b = some o) : Inv (lmCx P w K mg base N A outer s H E q lm.scope f c' cl) [] σ H { s with heap := h1, toks := tk } := by
  have none_ : ∀ b : Addr, b ∉ (lmCx P w K mg base N A outer s H E q lm.scope f c' cl).ex := fun b z => absurd (show b ∈ ([] : List Addr) from z) (by simp)
  have cellK : ∀ {c : Addr} {v : Option Value}, base.IsCell c v → h1.IsCell c v := fun ⟨o, ho, hd⟩ => ⟨o, kp _ _ (e0.bs _ _ ho).1, hd⟩
  refine ⟨⟨e0.mod, L.kind, rfl, rfl, Nat.le_refl _, C.inj, fun y hy => ?_, fun y c z _ => ?_, fun _ => hd, Around.frames_deeper e0.frames, .inr ⟨rfl, rfl⟩, fun b z => absurd z (none_ b), e0.bs, e0.bsz, fun b _ _ => none_ b, fun b z => absurd z (none_ b), e0.funs, e0.frf⟩,
    rfl, e0.bare, Un.kept kp, ⟨m, hns, fun i y v e1 e2 e3 => ?_⟩, fun y c e => ?_, e0.hok.fresh (Nat.le_refl _), fun y c e => ?_, fun p hp => absurd (show p ∈ ([] : List (Addr × Obj)) ++ [] from hp) (by simp), e0.hok.kept kp, C.len⟩
  · rcases (show lm.scope.names.lookup y = some .cell ∨ lm.scope.names.lookup y = some .free from hy) with z | z
    · exact absurd rfl (L.cell _ (PySem.mem_of_lookup z))
    · exact C.has _ (PySem.mem_of_lookup z) rfl
  · have z : false = true := z
    cases z
  · rcases (show Vis lm.scope y from e3) with k | k | k
    · exact absurd (List.mem_of_getElem? e1) (L.loc _ (PySem.mem_of_lookup k) rfl)
    · exact absurd rfl (L.cell _ (PySem.mem_of_lookup k))
    · obtain ⟨c, u, h2, r, z⟩ := C.val i y v e1 e2 k
      exact ⟨u, r, .inr ⟨.inr k, c, h2, cellK z⟩⟩
  · obtain ⟨v, z⟩ := C.cell y c e
    exact ⟨v, cellK z⟩
  · obtain ⟨v, o, ho, _⟩ := C.cell y c e
    exact (e0.bs _ _ ho).2
theorem clo_lam {k : Nat} {f : Addr} {t : XK → TE} (L : LamOk N lm) (C : CapB N σ base lm.scope cl)
    (hbody : ∀ (A : Around) (outer : List Env) (s : Shared) (H : Hp) (E : XK) (f c' : Addr), Room k (A.deeper (lmEnv q lm.scope s.heap.objs.size f c' cl)) → PE (lmCx P w K mg base N A outer s H E q lm.scope f c' cl) lm.body (t E)) :
    Clo P w K mg base (k + 1) f (fun E H Q => LamR q lm cl H (.ref f) ∧ t E σ H Q) := by
  intro A outer s H Q E hr e0 ⟨⟨f', c', dV, ef, hf, hc, hdv⟩, ht⟩
  cases ef
  obtain ⟨⟨doc, pm, ctv, of⟩, _, _⟩ := e0.hok _ _ hf
  obtain ⟨⟨oc, vs, tq, hoc, hdc, hvc⟩, _, _⟩ := e0.hok _ _ hc
  refine ⟨⟨_, _, _, _, of⟩, ?_⟩
  have hdf : ∃ us, us.length = lm.dv.length ∧ DfAt s.heap dV us := by
    rcases hdv with ⟨h1, h2⟩ | ⟨h0, T, h1, h2⟩
    · exact ⟨[], by rw [h1] <;> rfl, .inl ⟨rfl, h2⟩⟩
    · obtain ⟨_, its, rv, o, ho, _, n, hd⟩ := e0.hok _ _ h2
      exact ⟨its, rv.length.symm, .inr ⟨fun z => h0 (List.eq_nil_of_length_eq_zero (by rw [rv.length, z] <;> rfl)), T, o, n, h1, ho, hd⟩⟩
  obtain ⟨us, hul, hdf⟩ := hdf
  have nolim : s.heap.NoLimit := e0.mod.nolimit.keeps fun b o e => (e0.bs b o e).1
  refine PySem.W.kla_callFunE hr.depth of rfl L.co L.gen rfl ⟨c', oc, vs, tq, rfl, hoc, hdc, hvc⟩ (L.bind _ _ _ _ _ _ _ _ us hul hdf _ _ _ _ ?_)
  refine wpAny_newFunctionEnv L.cell (fun y hy => L.par _ (List.of_mem_zip hy).1) (fun h1 hns hsb => ⟨nolim.fresh _ hsb, ?_⟩) L.kind
  show codeAny _ _ (.expr lm.body (lmEnv q lm.scope s.heap.objs.size f c' cl)) _ _
  have kp : ∀ b o, s.heap.get? b = some o → h1.get? b = some o := fun b o e => hsb.extBut b o (Nat.ne_of_lt (Heap.lt_size e)) (Heap.get?_push_of_some _ e)
  have J := lm_start (E := E) (q := q) (f := f) (c' := c') (tk := s.toks + (lm.dn.zip us).length) L C e0 hr.hd hns kp
  refine PySem.W.kla_codeExpr (wpAny_mono ((hbody A outer s H E f c' (hr.deeper _)).run [] _ σ H Q J ht) (fun v s' ⟨x, H', J', rv, q⟩ => ?_) fun e s' hq => hq)
  exact ⟨x, H', J'.os, J'.bare, J'.base, J'.hok, rv, q⟩
end
/-- x(), x a name of ours -/
def tClo (P : Program) (w : World) (K : PySem.W.Frag) (mg : Str → Option Value) (base : Heap) (k i : Nat) (W : WX) : TE := fun σ H Q => ∃ f tl E, σ[i]? = some (some (.ref f)) ∧ Clo P w K mg base k f tl ∧ (∀ cls d H', E cls d H' → W cls d σ H') ∧ tl E H Q
theorem pe_clo {Z : Cx} {P : Program} {w : World} {K : PySem.W.Frag} {mg : Str → Option Value} {base : Heap} {W : WX} {k i : Nat} {a : Str} {p1 p2 : Pos} (tk : Takes Z W) (hr : Room k Z.A) (hN : Z.N[i]? = some a) (hv : Vis Z.env.scope a) (e1 : Z.prog = P) (e2 : Z.w = w) (e3 : Z.K = K) (e4 : Z.mg = mg) (e5 : Z.base = base)
    (hd : (a == ("__debug__" : Str)) = false := by decide) (hcd : (a == ("__classdict__" : Str)) = false := by decide) : PE Z (.Call (.Name a p1) [] [] p2) (tClo P w K mg base k i W) := by
  subst e1 e2 e3 e4 e5
  refine ⟨fun pins s σ H Q I ⟨f, tl, E, hs, hc, hW, ht⟩ => ?_⟩
  refine wpAny_Call_Name_kw (thn ((pe_var (pos := p1) (i := i) hN hv hd hcd).run pins s σ H (fun v H1 => v = .ref f ∧ H1 = H) I ⟨.ref f, hs, rfl, rfl⟩) fun u s1 ⟨v, H1, I1, r1, ev, eH⟩ => ?_)
  subst ev
  rw [eH] at I1
  obtain rfl : u = Value.ref f := r1
  obtain ⟨fa, rc⟩ := hc Z.A Z.stack s1 H Q E hr I1.env0 ht
  refine PySem.W.callWith_F0 fa (wpAny_call (codeAny_mono rc fun r s2 hq => ?_))
  cases r with
  | error e => exact tk _ _ (XE.of_call I1 hW hq)
  | ok fl =>
    cases fl with
    | ret u => exact I1.after hq
    | next => exact False.elim hq
    | brk => exact False.elim hq
    | cont => exact False.elim hq

/-! ### the captured names' cells, in the heap -/
structure CapH (N : List Str) (σ : L2.St) (H : Hp) (h : Heap) (fs : List Addr) (sc : Scope) (cl : List (Str × Addr)) : Prop where
  has : ∀ y ∈ sc.names, y.2 = .free → ∃ c, cl.lookup y.1 = some c
  inj : ∀ x y c, cl.lookup x = some c → cl.lookup y = some c → x = y
  cell : ∀ x c, cl.lookup x = some c → (∃ v, h.IsCell c v) ∧ H c = none ∧ c ∉ fs
  val : ∀ (i : Nat) (y : Str) (v : V), N[i]? = some y → σ[i]? = some (some v) → sc.names.lookup y = some .free → ∃ c u, cl.lookup y = some c ∧ RelV v u ∧ h.IsCell c (some u)
  len : σ.length = N.length
/-- what a lambda captures is a cell, or captured -/
def Seen (sc0 sc : Scope) : Prop := ∀ y ∈ sc.names, y.2 = .free → sc0.names.lookup y.1 = some .cell ∨ sc0.names.lookup y.1 = some .free
def seenB (sc0 sc : Scope) : Bool := sc.names.all fun y => !decide (y.2 = .free) || decide (sc0.names.lookup y.1 = some .cell) || decide (sc0.names.lookup y.1 = some .free)
theorem seen_by {sc0 sc : Scope} (h : seenB sc0 sc = true) : Seen sc0 sc := fun y hy e => by
  have z := List.all_eq_true.mp h y hy
  simp only [Bool.or_eq_true, Bool.not_eq_true', decide_eq_true_eq, decide_eq_false_iff_not] at z
  rcases z with (z | z) | z
  · exact absurd e z
  · exact .inl z
  · exact .inr z
theorem clo_cells {cells : List (Str × Addr)} {names : List (Str × NameKind)} (hf : ∀ y ∈ names, y.2 = .free → ∃ c, cells.lookup y.1 = some c) {y : Str} {c : Addr} (e : (cloFrom cells names []).lookup y = some c) : cells.lookup y = some c := by
  rcases cloFrom_mem (PySem.mem_of_lookup e) with hm | ⟨h1, h2⟩
  · cases hm
  · obtain ⟨c1, hc⟩ := hf _ h1 rfl
    have hc : cells.lookup y = some c1 := hc
    rw [h2, hc] <;> rfl
section
variable {X : Cx} {pins : List (Addr × Obj)} {σ : L2.St} {H H' : Hp} {s s' : Shared} {sc : Scope} {N : List Str} {cl : List (Str × Addr)} {fs ex : List Addr} {h h' : Heap}
theorem cap_now (I : Inv X pins σ H s) (hfn : ∀ x, X.fn x = true) (hs : Seen X.env.scope sc) : CapH X.N σ H s.heap (frs X.stack) sc (cloFrom X.env.cells sc.names []) := by
  have hf : ∀ y ∈ sc.names, y.2 = .free → ∃ c, X.env.cells.lookup y.1 = some c := fun y hy e => I.ok.has _ (hs y hy e)
  have cm := fun {y c} (e : (cloFrom X.env.cells sc.names []).lookup y = some c) => clo_cells hf e
  refine ⟨fun y hy e => ?_, fun x y c e1 e2 => I.ok.inj x y c (cm e1) (cm e2), fun x c e => ?_, fun i y v e1 e2 e3 => ?_, I.len⟩
  · obtain ⟨n, k⟩ := y
    cases e
    exact mem_lookup (cloFrom_has (cells := X.env.cells) (acc := []) hy)
  · obtain ⟨v, z⟩ := I.cell x c (cm e)
    refine ⟨⟨v, z⟩, I.freeC x c (cm e), fun hm => ?_⟩
    rcases List.mem_cons.mp (I.stkSub c hm) with q | q
    · exact I.cne x c (cm e) q
    · obtain ⟨_, o, ho, _⟩ := I.ok.funs.mem q
      exact absurd (Nat.lt_of_lt_of_le (Heap.lt_size ho) (I.ok.cab x c (hfn x) (cm e))) (Nat.lt_irrefl _)
  · obtain ⟨m, hn, hl⟩ := I.loc
    have hm : (y, NameKind.free) ∈ sc.names := PySem.mem_of_lookup e3
    have hv := hs _ hm rfl
    obtain ⟨u, r, q⟩ := hl i y v e1 e2 (hv.elim (fun k => .inr (.inl k)) fun k => .inr (.inr k))
    obtain ⟨c, hc⟩ := mem_lookup (cloFrom_has (cells := X.env.cells) (acc := []) hm)
    have c1 := cm hc
    rcases q with ⟨k, _⟩ | ⟨_, c2, e2', z⟩
    · have k : X.env.scope.names.lookup y = some .local := k
      rcases hv with k2 | k2 <;> rw [show X.env.scope.names.lookup y = _ from k2] at k <;> cases k
    · rw [c1] at e2'
      cases e2'
      exact ⟨c, u, hc, r, z⟩
theorem CapH.un (C : CapH N σ H h fs sc cl) (u : Un fs ex H H' h h') (hx : ∀ x c, cl.lookup x = some c → c ∉ ex) : CapH N σ H' h' fs sc cl := by
  have one : ∀ {x c v}, cl.lookup x = some c → h.IsCell c v → h'.IsCell c v := fun {x c v} e ⟨o, ho, hd⟩ => ⟨o, u.keep c o ho (C.cell x c e).2.1 (C.cell x c e).2.2 (hx x c e), hd⟩
  refine ⟨C.has, C.inj, fun x c e => ?_, fun i y v e1 e2 e3 => ?_, C.len⟩
  · obtain ⟨⟨v, z⟩, n, nf⟩ := C.cell x c e
    exact ⟨⟨v, one e z⟩, u.free c _ z.choose_spec.1 n (hx x c e), nf⟩
  · obtain ⟨c, w, e, r, z⟩ := C.val i y v e1 e2 e3
    exact ⟨c, w, e, r, one e z⟩
/-- a part of a heap -/
theorem part_of (h : Heap) (p : Addr → Prop) : ∃ G : Heap, (∀ b, p b → G.get? b = h.get? b) ∧ (∀ b, ¬ p b → G.get? b = none) ∧ G.objs.size = h.objs.size := by
  classical
  have hm : ∀ b, b ∈ (List.range h.objs.size).filter (fun b => !decide (p b)) ↔ b < h.objs.size ∧ ¬ p b := fun b => by simp
  generalize (List.range h.objs.size).filter (fun b => !decide (p b)) = l at hm
  have back : ∀ b o, (PySem.W.hideAll h l).get? b = some o → h.get? b = some o := fun b o e => PySem.W.of_hideAll l e
  refine ⟨PySem.W.hideAll h l, fun b hb => ?_, fun b hb => ?_, PySem.W.hideAll_size _ _⟩
  · cases e : h.get? b with
    | some o => exact PySem.W.hideAll_get l e fun z => ((hm b).mp z).2 hb
    | none =>
      cases q : (PySem.W.hideAll h l).get? b with
      | none => rfl
      | some o => rw [back b o q] at e; cases e
  · cases q : (PySem.W.hideAll h l).get? b with
    | none => rfl
    | some o =>
      rw [PySem.W.hideAll_none l ((hm b).mpr ⟨Heap.lt_size (back b o q), hb⟩)] at q
      cases q
/-- the cells told in the ground -/
theorem CapH.ground {P : Program} {w : World} {K : PySem.W.Frag} {mg : Str → Option Value} {base : Heap} {A : Around} {outer : List Env} (C : CapH N σ H s.heap (frs outer) sc cl) (e0 : Env0 P w K mg base A outer s H) :
    ∃ b, Env0 P w K mg b A outer s H ∧ CapB N σ b sc cl := by
  obtain ⟨G, g1, g2, g3⟩ := part_of s.heap fun b => (∃ o, base.get? b = some o) ∨ ∃ x, cl.lookup x = some b
  have sub : ∀ b o, base.get? b = some o → G.get? b = some o := fun b o e => by
    rw [g1 b (.inl ⟨o, e⟩)]
    exact (e0.bs b o e).1
  have cellK : ∀ {x c v}, cl.lookup x = some c → s.heap.IsCell c v → G.IsCell c v := fun {x c v} e ⟨o, ho, hd⟩ => ⟨o, by rw [g1 c (.inr ⟨x, e⟩)]; exact ho, hd⟩
  have of : ∀ b o, G.get? b = some o → s.heap.get? b = some o ∧ ((∃ o', base.get? b = some o') ∨ ∃ x, cl.lookup x = some b) := fun b o e => by
    by_cases hp : (∃ o, base.get? b = some o) ∨ ∃ x, cl.lookup x = some b
    · rw [g1 b hp] at e
      exact ⟨e, hp⟩
    · rw [g2 b hp] at e
      cases e
  have bsG : ∀ b o, G.get? b = some o → s.heap.get? b = some o ∧ H b = none := fun b o e => by
    obtain ⟨h1, h2 | ⟨x, h2⟩⟩ := of b o e
    · obtain ⟨o', h2⟩ := h2
      exact ⟨h1, (e0.bs b o' h2).2⟩
    · exact ⟨h1, (C.cell x b h2).2.1⟩
  have nfr : ∀ L ∈ frs outer, G.get? L = none := fun L hL => by
    cases e : G.get? L with
    | none => rfl
    | some o =>
      obtain ⟨_, ⟨o', h2⟩ | ⟨x, h2⟩⟩ := of L o e
      · rw [(e0.funs.mem hL).1] at h2
        cases h2
      · exact absurd hL (C.cell x L h2).2.2
  refine ⟨G, ⟨e0.frames, ⟨e0.mod.kin.keeps sub, e0.mod.glob.keeps sub, ?_, e0.mod.nolimit.keeps sub⟩, bsG, ?_, funFrames_none e0.funs nfr, e0.frf, e0.hok, e0.bare⟩, C.has, C.inj, fun x c e => ?_, fun i y v e1 e2 e3 => ?_, C.len⟩
  · obtain ⟨mb, h1, h2⟩ := e0.mod.blt
    exact ⟨mb, h1.keeps sub, h2⟩
  · exact Nat.le_of_eq g3
  · obtain ⟨⟨v, z⟩, _⟩ := C.cell x c e
    exact ⟨v, cellK e z⟩
  · obtain ⟨c, u, e, r, z⟩ := C.val i y v e1 e2 e3
    exact ⟨c, u, e, r, cellK e z⟩
end

/-! ### a def called with a lambda -/
/-- an expression at those states of which G holds -/
structure PEG (G : L2.St → Prop) (X : Cx) (e : Expr) (t : TE) : Prop where
  run : ∀ (pins : List (Addr × Obj)) (s : Shared) (σ : L2.St) (H : Hp) (Q : VK), Inv X pins σ H s → G σ → t σ H Q → wpAny (model X.prog X.w) X.A (eval e X.env) (EP X pins σ Q) X.xe s
theorem PEG.of {G : L2.St → Prop} {X : Cx} {e : Expr} {t : TE} (h : PE X e t) : PEG G X e t := ⟨fun pins s σ H Q I _ q => h.run pins s σ H Q I q⟩
theorem PEG.pe {X : Cx} {e : Expr} {t : TE} (h : PEG (fun _ => True) X e t) : PE X e t := ⟨fun pins s σ H Q I q => h.run pins s σ H Q I trivial q⟩
/-- the lambdas that may come, with what their bodies do -/
abbrev Lams := List (Lam × (XK → TE))
/-- x(e), e a lambda of ours: sel tells what the captured names are -/
def tCallB (P : Program) (w : World) (K : PySem.W.Frag) (mg : Str → Option Value) (k : Nat) (q : Str) (cells : List (Str × Addr)) (ls : Lams) (sel : L2.St → L2.St) (sp : Heap → Sp) (ta : TA) : TE := fun σ H Q => ta σ H fun vs H1 =>
  ∃ p ∈ ls, ∃ f, vs = [.ref f] ∧ ∀ b, Clo P w K mg b k f (fun E H Q => LamR q p.1 (cloFrom cells p.1.scope.names []) H (.ref f) ∧ p.2 E (sel σ) H Q) → sp b [.ref f] H1 Q fun _ _ _ => False
section
variable {Z : Cx} {G : L2.St → Prop} {ta : TA} {e : Expr} {x a q : Str} {g : Addr} {fd : FuncData} {k k' : Nat} {sp : Heap → Sp} {N : List Str} {sc0 : Scope} {cells : List (Str × Addr)} {ls : Lams} {sel : L2.St → L2.St} {p1 pos : Pos}
theorem peg_callB {P : Program} {w : World} {K : PySem.W.Frag} {mg : Str → Option Value} (hcap : ∀ (pins : List (Addr × Obj)) (σ : L2.St) (H : Hp) (s : Shared) (sc : Scope), Inv Z pins σ H s → G σ → Seen sc0 sc → CapH N (sel σ) H s.heap (frs Z.stack) sc (cloFrom cells sc.names []))
    (e1 : Z.prog = P) (e2 : Z.w = w) (e3 : Z.K = K) (e4 : Z.mg = mg)
    (F : ∀ b, FnOk P w K mg b C8.CX0 k' g fd [a] (sp b)) (hr : Room k' Z.A) (hg : Gl Z x) (hm : mg x = some (.ref g)) (hk : PySem.W.keepIn K (.ref g) = true) (hb : Binds K fd [a] [])
    (hl : ∀ p ∈ ls, LamOk N p.1 ∧ Seen sc0 p.1.scope ∧ ∀ (b : Heap) (A : Around) (outer : List Env) (s : Shared) (H : Hp) (E : XK) (f c' : Addr),
      Room k (A.deeper (lmEnv q p.1.scope s.heap.objs.size f c' (cloFrom cells p.1.scope.names []))) → PE (lmCx P w K mg b N A outer s H E q p.1.scope f c' (cloFrom cells p.1.scope.names [])) p.1.body (p.2 E))
    (he : PA Z [e] ta) (hdb : (x == ("__debug__" : Str)) = false := by decide) (hs : starEach [e] Z.env = (false, eval e Z.env) :: starEach [] Z.env := by rfl) :
    PEG G Z (.Call (.Name x p1) [e] [] pos) (tCallB P w K mg (k + 1) q cells ls sel sp ta) := by
  subst e1 e2 e3 e4
  refine ⟨fun pins s σ H Q I hG h => wpAny_Call_Name_kw (ld_glob I hg hm ?_ hdb)⟩
  refine PySem.W.callWith_K (h₀ := Z.base) I.ok.mod.kin hk (thn (he.run pos pins s σ H _ I h) fun us s1 ⟨vs, H1, I1, r, p, hp, f, ev, hsp⟩ => ⟨I1.kIn, ?_⟩) hs (by rfl)
  subst ev
  obtain ⟨u, rfl, ru⟩ := vals1 r
  obtain ⟨L, hse, hbody⟩ := hl p hp
  obtain ⟨b, e0, C⟩ := (hcap pins σ H1 s1 p.1.scope I1 hG hse).ground I1.env0
  have rc : codeAny (model Z.prog Z.w) Z.A (.call (.ref g) ⟨[u], []⟩) (CR C8.CX0 Z.stack Z.prog Z.w H1 s1 Q fun _ _ _ => False) s1 :=
    (F b).run Z.A Z.stack s1 H1 ⟨[u], []⟩ [u] [.ref f] Q _ hr e0 (hb s1 [u] I1.kIn rfl) (.cons ru .nil) (hsp b (clo_lam (σ := sel σ) L C fun A outer s H E f c' => hbody b A outer s H E f c'))
  refine wpAny_call (codeAny_mono rc fun r s2 hq => ?_)
  cases r with
  | error e => exact (show False from hq).elim
  | ok fl =>
    cases fl with
    | ret u => exact I1.after hq
    | next => exact False.elim hq
    | brk => exact False.elim hq
    | cont => exact False.elim hq
end

/-! ### a lambda is made -/
/-- each code that the table tells is known -/
def CodesOk (H : Hp) (q : Str) (ps : Array Value) : Prop := TriplesOk ps.toList ∧ ∀ (pos : Pos) (cv : Value), codeAmong pos ps.toList = some cv → ∃ c, cv = .ref c ∧ H c = some (LamX.CodeO c q)
/-- its parameters' values laid -/
def StepD (H : Hp) (dv : List V) (dV : Value) (H1 : Hp) : Prop := (dv = [] ∧ dV = .none ∧ H1 = H) ∨ dv ≠ [] ∧ ∃ T, dV = .ref T ∧ H T = none ∧ H1 = upd H T (.tup dv)
/-- its code found, or made -/
def StepC (H : Hp) (P : Addr) (q : Str) (ps ps' : Array Value) (c' : Addr) (H1 : Hp) : Prop :=
  (ps' = ps ∧ H1 = H ∧ ∃ pos : Pos, codeAmong pos ps.toList = some (.ref c')) ∨ ∃ pos : Pos, H c' = none ∧ ps' = ps ++ #[rawInt pos.line, rawInt pos.col, .ref c'] ∧ H1 = upd (upd H P (.tbl ps')) c' (LamX.CodeO c' q)
def tLam (P : Addr) (q : Str) (lm : Lam) (cl : List (Str × Addr)) : TE := fun _ H Q => ∃ ps, H P = some (.tbl ps) ∧ CodesOk H q ps ∧ ∀ dV H1 ps' c' H2 f, StepD H lm.dv dV H1 → StepC H1 P q ps ps' c' H2 → H2 f = none → Q (.ref f) (upd H2 f (LamO q lm cl dV c' f))
/-- constants -/
inductive Cons (X : Cx) : List Expr → List V → Prop
  | nil : Cons X [] []
  | cons {e : Expr} {v : V} {es : List Expr} {vs : List V} : PE X e (tC v) → Cons X es vs → Cons X (e :: es) (v :: vs)
section
variable {X : Cx} {pins : List (Addr × Obj)} {σ : L2.St} {H : Hp} {s : Shared}
theorem cons_eval {Q : List Value → Shared → Prop} : ∀ {es : List Expr} {vs : List V} {s : Shared}, Cons X es vs → Inv X pins σ H s → (∀ us s', Vals vs us → Inv X pins σ H s' → Q us s') → wpAny (model X.prog X.w) X.A (evalAll (evalEach es X.env)) Q X.xe s
  | _, _, _, .nil, I, h => PySem.W.kdv_all0 (h _ _ .nil I)
  | _, _, _, .cons h1 r, I, h => PySem.W.kdv_all1 (thn (h1.run pins _ σ H (fun v H1 => v = _ ∧ H1 = H) I ⟨rfl, rfl⟩) fun u s1 ⟨v, H1, I1, ru, ev, eH⟩ => by
      subst ev
      rw [eH] at I1
      exact cons_eval r I1 fun us s2 rs I2 => h _ _ (.cons ru rs) I2)
theorem mk_tail {P c : Addr} {q : Str} {lm : Lam} {cl : List (Str × Addr)} {dV : Value} {pos : Pos} {ps : Array Value} {Q : Value → Shared → Prop} (I : Inv X pins σ H s) (TB : LamX.TabB X.base X.mg c P) (hcode : X.env.code = .ref c) (hP : H P = some (.tbl ps)) (hcs : CodesOk H q ps)
    (hcl : closureFor lm.scope X.env = pure cl)
    (h : ∀ ps' c' H2 f s', StepC H P q ps ps' c' H2 → H2 f = none → Inv X pins σ (upd H2 f (LamO q lm cl dV c' f)) s' → Q (.ref f) s') :
    wpAny (model X.prog X.w) X.A (makeTail "<lambda>" q lm.params (.expr lm.body) lm.scope X.env dV .none none pos pos.line) Q X.xe s := by
  obtain ⟨ht, ha⟩ := hcs
  have bP : s.heap.BuiltinsAt X.mg P := TB.bm.keeps I.bk
  have hP' : s.heap.get? P = some { cls := .none, data := .fields ps } := I.hok P _ hP
  -- the function's object is laid
  have lay : ∀ {H2 : Hp} {h2 : Heap} {t2 tk : Tok} {c' : Addr} {doc pm ctv : Value}, Inv X pins σ H2 { s with heap := h2, toks := t2 } → H2 h2.objs.size = none ∧
      Inv X pins σ (upd H2 h2.objs.size (LamO q lm cl dV c' h2.objs.size)) { s with heap := h2.push (PySem.W.kdv_obj "<lambda>" q lm.params (.expr lm.body) lm.scope cl dV doc pm c' ctv), toks := tk } := fun {H2 h2 t2 tk c' doc pm ctv} I2 =>
    ⟨I2.hok.fresh (Nat.le_refl _), I2.laid (t' := tk) (fun b o e => Heap.get?_push_of_some _ e) (Nat.le_refl _) ⟨⟨doc, pm, ctv, Heap.get?_push_size _ rfl⟩, ⟨_, Heap.get?_push_size _ rfl⟩, fun h1 h2 ⟨a1, a2, a3, e⟩ st => ⟨a1, a2, a3, st _ e⟩⟩⟩
  cases hc : codeAmong pos ps.toList with
  | none =>
    refine PySem.W.kdv_makeTail (mg := X.mg) (c := c) (P := P) (ps := ps) hcl I.ok.glob (I.mod.glob.keeps I.bk) hcode (TB.code.keeps I.bk) hP' ht hc TB.gP bP fun c' ctv doc h' tk hx hge hlt hrec htb => ?_
    obtain ⟨c2, oc, vs, t, e2, hoc, hd, hv⟩ := hrec
    cases e2
    have nC : H c' = none := I.hok.fresh hge
    have I1 := LamX.inv_table (t' := tk) (more := #[rawInt pos.line, rawInt pos.col, .ref c']) (h' := h') I hP (fun b o hb e => hx b o hb e) htb hge ⟨oc, vs, t, hoc, hd, hv⟩
    obtain ⟨nf, I2⟩ := lay (t2 := tk) (tk := tk) (c' := c') (doc := doc) (pm := (X.mg "__name__").getD .none) (ctv := ctv) I1
    exact h _ c' _ _ _ (.inr ⟨pos, nC, rfl, rfl⟩) nf I2
  | some cv =>
    obtain ⟨c', e, hco⟩ := ha pos cv hc
    subst e
    refine PySem.W.kdv_makeTailHit (mg := X.mg) (c := c) (P := P) (ps := ps) hcl I.ok.glob (I.mod.glob.keeps I.bk) hcode (TB.code.keeps I.bk) hP' ht hc bP fun ctv doc h' tk hx hsz => ?_
    obtain ⟨nf, I2⟩ := lay (t2 := tk) (tk := tk) (c' := c') (doc := doc) (pm := (X.mg "__name__").getD .none) (ctv := ctv) (I.kept (h' := h') (t' := tk) hx)
    exact h ps c' H _ _ (.inl ⟨rfl, rfl, pos, hc⟩) nf I2
theorem pe_lam {P c : Addr} {lm : Lam} {pos : Pos} (TB : LamX.TabB X.base X.mg c P) (hcode : X.env.code = .ref c) (hs : Seen X.env.scope lm.scope) (hk : lm.params.kw_defaults = []) (hd : Cons X lm.params.defaults lm.dv) (hsz : lm.dv.length ≤ sizeLine) :
    PE X (.Lambda lm.params lm.body lm.scope pos) (tLam P (X.env.qual ++ "<lambda>") lm (cloFrom X.env.cells lm.scope.names [])) := by
  refine ⟨fun pins s σ H Q I ⟨ps, hP, hcs, h⟩ => ?_⟩
  have hcl : closureFor lm.scope X.env = pure (cloFrom X.env.cells lm.scope.names []) := closure_ok fun y hy e => I.ok.has _ (hs y hy e)
  have fin : ∀ {H1 : Hp} {dV : Value} {s1 : Shared}, StepD H lm.dv dV H1 → Inv X pins σ H1 s1 → H1 P = some (.tbl ps) → CodesOk H1 (X.env.qual ++ "<lambda>") ps →
      wpAny (model X.prog X.w) X.A (makeTail "<lambda>" (X.env.qual ++ "<lambda>") lm.params (.expr lm.body) lm.scope X.env dV .none none pos pos.line) (EP X pins σ Q) X.xe s1 := fun {H1 dV s1} hD I1 hP1 hc1 =>
    mk_tail I1 TB hcode hP1 hc1 hcl fun ps' c' H2 f s' hC nf I2 => ⟨.ref f, _, I2, rfl, h dV H1 ps' c' H2 f hD hC nf⟩
  cases hdv : lm.dv with
  | nil =>
    rw [hdv] at hd
    have e0 : lm.params.defaults = [] := by
      generalize lm.params.defaults = z at hd
      cases hd
      rfl
    refine PySem.W.kla_eval (by rw [defaultsOf_eq, hk, e0] <;> rfl) ?_
    rw [makeFunction_eq]
    simp only [List.zip_nil_right, List.filterMap_nil, List.isEmpty_nil, if_true, pure_bind]
    exact fin (.inl ⟨hdv, rfl, rfl⟩) I hP hcs
  | cons v vs =>
    have hne : lm.params.defaults.isEmpty = false := by
      rw [hdv] at hd
      generalize lm.params.defaults = z at hd
      cases hd
      rfl
    refine PySem.W.kdv_lam hne hk (cons_eval hd I fun us s1 rs I1 => ?_)
    rw [makeFunction_eq]
    have hus : us.isEmpty = false := by
      have z := rs.length
      rw [hdv] at z
      cases us with
      | nil => cases z
      | cons _ _ => rfl
    simp only [List.zip_nil_right, List.filterMap_nil, List.isEmpty_nil, if_true, pure_bind, hus, Bool.false_eq_true, if_false]
    refine wpAny_bind (wpAny_newTextTuple ?_)
    have nT : H s1.heap.objs.size = none := I1.hok.fresh (Nat.le_refl _)
    have I2 : Inv X pins σ (upd H s1.heap.objs.size (.tup lm.dv)) { s1 with heap := s1.heap.push { cls := .type "tuple", data := .seq us.toArray } } :=
      I1.laid (t' := s1.toks) (fun b o e => Heap.get?_push_of_some _ e) (Nat.le_refl _) ⟨hsz, us, rs, ⟨_, Heap.get?_push_size _ rfl, rfl, _, rfl⟩⟩
    refine fin (.inr ⟨by rw [hdv]; exact List.cons_ne_nil _ _, _, rfl, nT, rfl⟩) I2 ?_ ⟨hcs.1, fun pos cv hc => ?_⟩
    · rw [upd_ne (ne_of_none hP nT)]
      exact hP
    · obtain ⟨c0, e1, e2⟩ := hcs.2 pos cv hc
      exact ⟨c0, e1, by rw [upd_ne (ne_of_none e2 nT)]; exact e2⟩
end
end FR

set_option Elab.async false
set_option linter.all false
set_option maxRecDepth 100000
set_option maxHeartbeats 2000000
/-! A list comprehension whose item may lean on the def's own cells. -/
namespace FR
open PySem PySem.Spec L2
open PyProof.Rows hiding St

section
variable {X : Cx} {elt tg iter : Expr} {ifs : List Expr} {sc : Scope} {own : List (Str × Nat)} {pos pos' : Pos} {wi : TI} {g : TG} {tt : TT} {te : TE}
/-- what is asked of the item -/
def ItemOk (X : Cx) (sc : Scope) (vs : List Nat) (elt : Expr) (te : TE) : Prop := ∀ (pins : List (Addr × Obj)) (τ : L2.St) (s : Shared) (H : Hp) (C : Addr) (cl : List (Str × Addr)) (fp : List Addr), Inv X pins τ H s → (∀ x c, X.env.cells.lookup x = some c → c ∉ fp) →
  PEG (fun σ => wipe σ vs = wipe τ vs) (X.blk s H sc (compEnvC sc cl C X.env) fp) elt te
theorem comp_run {pins : List (Addr × Obj)} {s : Shared} {σ : L2.St} {H : Hp} {Q : VK} {use : Option (Value → Sem Unit)} {Qf : Value → Shared → Prop} (hc : X.calm = true) (hN : X.N.Nodup) (I : Inv X pins σ H s) (hi : PI X tg iter wi) (ok : BlkOk X.N X.env.scope sc own)
    (hg : ∀ s H C cl fp, PG (X.blk s H sc (compEnvC sc cl C X.env) fp) tg g) (ht : ∀ s H C cl fp, PTs (X.blk s H sc (compEnvC sc cl C X.env) fp) ifs tt) (he : ItemOk X sc (own.map (·.2)) elt te) (hs : ∀ x, foldedSetIterable iter X.env x = pure x) (h : tLc wi g tt te (own.map (·.2)) σ H Q)
    (back : ∀ D C s' m H', Inv X pins σ H' s' → Q (.ref D) H' → s'.heap.Ns C m → FpOk X pins H' C → compPost (model X.prog X.w) X.A X.xe use Qf (.ref D) C (.ok .next) s') :
    wpAny (model X.prog X.w) X.A (comprehension (.ListComp elt [⟨tg, iter, ifs, 0⟩] sc pos) sc X.env pos' (newList []) false (eval iter X.env) use) Qf X.xe s := by
  have seen : ∀ y ∈ sc.names, y.2 = .free → ∃ c, X.env.cells.lookup y.1 = some c := fun y hy e => I.ok.has _ (ok.free y hy e)
  refine wpAny_comprehension_free (use := use) rfl hs (closure_ok seen) ok.kind (fun y hy e => by rw [ok.uniq y hy, e]) (thn (hi.run pins s σ H _ I h) fun v1 r1 hv => thn hv fun v2 r2 hz => ?_)
  obtain ⟨j, fp, tn, J, H2, e, I2, T, y0, f0, q⟩ := hz
  subst e
  refine wpAny_newObj_type (newEnv_comp ?_) (by show 0 ≤ sizeLine; decide)
  generalize hD : r2.heap.objs.size = D
  obtain ⟨W, ⟨m0, w0⟩, turn⟩ := q D (I2.hok.fresh (Nat.le_of_eq hD))
  generalize hr3 : ({ r2 with heap := r2.heap.push { cls := .type "list", data := .seq ([] : List Value).toArray } } : Shared) = r3
  have I3 : Inv X pins σ (upd H2 D (.lst [])) r3 := by
    rw [← hr3]
    exact I2.laid (t' := r2.toks) (fun b o e => Heap.get?_push_of_some _ e) (Nat.le_of_eq hD) ⟨Nat.zero_le _, [], 0, .nil, by rw [← hD]; exact Heap.get?_push_size _ rfl⟩
  have h3 : r3.heap = r2.heap.push { cls := .type "list", data := .seq ([] : List Value).toArray } := by rw [← hr3]
  have old : ∀ b ∈ fp, b < r2.heap.objs.size := fun b hb => let ⟨_, e, _⟩ := T.obj _ _ y0 b hb; Heap.lt_size e
  have f3 : ∀ b ∈ fp, FpOk X pins (upd H2 D (.lst [])) b ∧ b < r3.heap.objs.size := fun b hb => by
    have lt := old b hb
    rw [h3, Heap.size_push]
    refine ⟨⟨?_, (f0 b hb).2⟩, Nat.lt_succ_of_lt lt⟩
    rw [upd_ne (by rw [← hD]; exact Nat.ne_of_lt lt)]
    exact (f0 b hb).1
  have y3 : tn 0 r3.heap := T.keep _ _ _ y0 fun b _ o e => by rw [h3]; exact Heap.get?_push_of_some _ e
  generalize hH3 : upd H2 D (.lst []) = H3 at I3 w0 f3
  have I4 := block_start I3 ok hN f3
  have pg := hg r3 H3 r3.heap.objs.size (cellsFrom (r3.heap.objs.size + 1) sc.names (cloFrom X.env.cells sc.names [])) fp
  have pt := ht r3 H3 r3.heap.objs.size (cellsFrom (r3.heap.objs.size + 1) sc.names (cloFrom X.env.cells sc.names [])) fp
  have pe := he pins σ r3 H3 r3.heap.objs.size (cellsFrom (r3.heap.objs.size + 1) sc.names (cloFrom X.env.cells sc.names [])) fp I3 fun x c e hm => (f3 c hm).1.2.2.2.2.1 x c e rfl
  show codeAny _ _ (.compStart (.ListComp elt [⟨tg, iter, ifs, 0⟩] sc pos) 0 (.ref j) (.ref D) (compEnvC sc (cellsFrom (r3.heap.objs.size + 1) sc.names (cloFrom X.env.cells sc.names [])) r3.heap.objs.size X.env)) (compPost (model X.prog X.w) X.A X.xe use Qf (.ref D) r3.heap.objs.size) { r3 with heap := pushCells (r3.heap.push { cls := .type "dict", data := .dict #[] }) sc.names }
  generalize hce : compEnvC sc (cellsFrom (r3.heap.objs.size + 1) sc.names (cloFrom X.env.cells sc.names [])) r3.heap.objs.size X.env = ce at I4 pg pt pe ⊢
  have cL : ce.locals = r3.heap.objs.size := by
    rw [← hce]
    rfl
  generalize hr4 : ({ r3 with heap := pushCells (r3.heap.push { cls := .type "dict", data := .dict #[] }) sc.names } : Shared) = r4 at I4 ⊢
  have y4 : tn 0 r4.heap := T.keep _ _ _ y3 fun b _ o e => by
    rw [← hr4]
    exact pushCells_keeps _ _ _ _ (Heap.get?_push_of_some _ e)
  have fpB : ∀ {τ : L2.St} {H' : Hp} {s' : Shared}, Inv (X.blk r3 H3 sc ce fp) [] τ H' s' → (∀ b ∈ fp, H' b = none) → ∀ b ∈ fp, FpOk (X.blk r3 H3 sc ce fp) [] H' b := fun I' hn b hb =>
    ⟨hn b hb, (I'.ok.exf b hb).1, I'.ok.exfs b hb, .inl hb, fun x c e => (I'.ok.exf b hb).2 x c e, fun p hp => absurd (show p ∈ ([] : List (Addr × Obj)) ++ [] from hp) (by simp)⟩
  have main : codeAny (model X.prog X.w) X.A (.compLoop (.ListComp elt [⟨tg, iter, ifs, 0⟩] sc pos) 0 (.ref j) (.ref D) ce) (compPost (model X.prog X.w) X.A X.xe use Qf (.ref D) r3.heap.objs.size) r4 := by
    refine compLoop_any (fun n s' => ∃ i H', Inv (X.blk r3 H3 sc ce fp) [] (wipe σ (own.map (·.2))) H' s' ∧ tn i s'.heap ∧ (∀ b ∈ fp, H' b = none) ∧ W i n H') ?_ m0 ⟨0, H3, I4, y4, fun b hb => (f3 b hb).1.1, w0⟩
    rintro n r5 ⟨i, H5, I5, y5, n5, w5⟩
    rcases turn i n H5 w5 with ⟨halt, qq⟩ | ⟨go, Nx, hNx, step⟩
    · refine thnF (T.done (X.blk r3 H3 sc ce fp) rfl rfl rfl hc i [] r5 _ H5 (fun _ _ => False) I5 (fpB I5 n5) y5 halt) fun r r6 ⟨hr, I6⟩ => ?_
      subst hr
      have I7 : Inv X pins σ H5 r6 := I3.call' (ch := fp) I6.os I6.base I6.hok I6.bare fun b hb => ⟨(f3 b hb).1.2.2.2.1, (f3 b hb).1.2.1, (f3 b hb).1.2.2.2.2.1, (f3 b hb).1.2.2.2.2.2⟩
      obtain ⟨m, hn, _⟩ := I6.loc
      have nC : H5 r3.heap.objs.size = none := by
        rw [← cL]
        exact I6.free
      have hn : r6.heap.Ns ce.locals m := hn
      rw [cL] at hn
      exact back D _ r6 m H5 I7 qq hn (I3.fpOk (Nat.le_refl _) nC)
    · refine thnF (T.item (X.blk r3 H3 sc ce fp) rfl rfl rfl hc i [] r5 _ H5 (fun _ _ => False) I5 (fpB I5 n5) y5 go) fun r r6 ⟨u, hr, h6⟩ => ?_
      subst hr
      refine thnF h6 fun _ r7 ⟨x, H7, I7, rx, y7, t7, n7⟩ => ?_
      refine thnF (pg.run _ r7 _ H7 x u _ (I7.pinned (fpB I7 n7) (T.obj _ _ t7)) rx (step x H7 y7)) fun _ r8 ⟨σ8, H8, I8, hw8, q8⟩ => ?_
      refine thnF (pt.run _ r8 σ8 H8 _ I8 q8) fun b r9 ⟨H9, I9, q9⟩ => ?_
      have again : ∀ {s' : Shared} {H' : Hp}, Inv (X.blk r3 H3 sc ce fp) ([] ++ pinsAt fp r7.heap) σ8 H' s' → Nx H' → ∃ m, m < n ∧ ∃ i H', Inv (X.blk r3 H3 sc ce fp) [] (wipe σ (own.map (·.2))) H' s' ∧ tn i s'.heap ∧ (∀ b ∈ fp, H' b = none) ∧ W i m H' := fun {s' H'} I' nx => by
        obtain ⟨m', hm, w'⟩ := hNx H' nx
        have kept : ∀ b ∈ fp, ∀ o, r7.heap.get? b = some o → s'.heap.get? b = some o ∧ H' b = none := fun b hb o e =>
          let z := I'.pin (b, o) (List.mem_append_right _ (List.mem_append_right _ (mem_pinsAt hb e)))
          ⟨z.1, z.2.1⟩
        refine ⟨m', hm, i + 1, H', (I'.unpinned (pins := [])).weak (by rw [← hw8, wipe_length]) (fun k v e => ?_), T.keep _ _ _ t7 fun b hb o e => (kept b hb o e).1, fun b hb => ?_, w'⟩
        · rw [← hw8] at e
          exact (wipe_some e).1
        · obtain ⟨o, e, _⟩ := T.obj _ _ t7 b hb
          exact (kept b hb o e).2
      cases b with
      | false =>
        rw [if_neg Bool.false_ne_true] at q9 ⊢
        exact again I9 q9
      | true =>
        rw [if_pos rfl] at q9 ⊢
        refine thnF (pe.run _ r9 σ8 H9 _ I9 hw8 q9) fun z r10 ⟨yv, H10, I10, ry, acc, hD10, hz10, nx⟩ => ?_
        exact app_ok (X := X.blk r3 H3 sc ce fp) I10 hD10 hz10 ry fun r11 I11 => again I11 nx
  exact codeAny_compStart_list main (T.self X.A 0 _ _ _ y4 main)
theorem pe_lcC (hc : X.calm = true) (hN : X.N.Nodup) (hi : PI X tg iter wi) (ok : BlkOk X.N X.env.scope sc own) (hg : ∀ s H C cl fp, PG (X.blk s H sc (compEnvC sc cl C X.env) fp) tg g) (ht : ∀ s H C cl fp, PTs (X.blk s H sc (compEnvC sc cl C X.env) fp) ifs tt) (he : ItemOk X sc (own.map (·.2)) elt te)
    (hs : ∀ x, foldedSetIterable iter X.env x = pure x := by intro _; rfl) : PE X (.ListComp elt [⟨tg, iter, ifs, 0⟩] sc pos) (tLc wi g tt te (own.map (·.2))) := by
  refine ⟨fun pins s σ H Q I h => ?_⟩
  rw [eval_ListComp]
  refine comp_run hc hN I hi ok hg ht he hs h fun D C s' m H' I' q hn f => ⟨m, hn, fun h'' sb => ?_⟩
  obtain ⟨f0, f1, f2, f3, f4, f5⟩ := f
  exact ⟨.ref D, H', I'.turned (t' := s'.toks) (fun b o hb e => (sb.2 b hb).trans e) f0 f1 f3 f4 f5, rfl, q⟩
/-- the captured names' cells, within a block -/
theorem cap_blk {pins pins' : List (Addr × Obj)} {σ τ : L2.St} {s s' : Shared} {H H' : Hp} {C : Addr} {cl : List (Str × Addr)} {fp : List Addr} {vs : List Nat} {sc2 : Scope} (I : Inv X pins τ H s) (hfn : ∀ x, X.fn x = true) (hx : ∀ x c, X.env.cells.lookup x = some c → c ∉ fp)
    (J : Inv (X.blk s H sc (compEnvC sc cl C X.env) fp) pins' σ H' s') (hw : wipe σ vs = wipe τ vs) (hse : Seen X.env.scope sc2) : CapH X.N (wipe σ vs) H' s'.heap (frs (X.blk s H sc (compEnvC sc cl C X.env) fp).stack) sc2 (cloFrom X.env.cells sc2.names []) := by
  have hf : ∀ y ∈ sc2.names, y.2 = .free → ∃ c, X.env.cells.lookup y.1 = some c := fun y hy e => I.ok.has _ (hse y hy e)
  have q := (cap_now I hfn hse).un J.base fun x c e => hx x c (clo_cells hf e)
  exact ⟨q.has, q.inj, q.cell, fun i y v e1 e2 e3 => q.val i y v e1 (by rw [hw] at e2; exact (wipe_some e2).1) e3, by rw [hw, wipe_length]; exact I.len⟩
end
end FR

set_option Elab.async false
set_option linter.all false
set_option maxRecDepth 100000
set_option maxHeartbeats 2000000
/-! From a told state: exceptions raised and caught, lambdas made and called, what is enumerated. -/
namespace FR
open PySem PySem.Spec L2
open PyProof.Rows hiding St

section
variable {K : PySem.W.Frag} {σ : St} {c c' : Cs} {f f' : Fs} {P : PV} {te ta tb : TE} {tl : TA} {v x y : V} {vs : List V} {d e : D} {ds es : List D} {i j : Nat} {m n : Int} {b : Bool} {E : EW} {W : WX}
/-! ### what is wished of exceptions -/
abbrev ZX := Value → Option Addr → St → Cs → Fs → Prop
/-- W holds wherever Z is told -/
def CovW (K : PySem.W.Frag) (W : WX) (Z : ZX) : Prop := ∀ cls d σ c f H, Z cls d σ c f → Wd K c f H → W cls d σ H
def CovE (K : PySem.W.Frag) (XE : XK) (X : PX) : Prop := ∀ cls d c f H, X cls d c f → Wd K c f H → XE cls d H
theorem covE {XE : XK} {X : PX} (h : CovE K XE X) : CovW K (fun cls d _ H => XE cls d H) (fun cls d _ c f => X cls d c f) := fun cls d _ c f H z w => h cls d c f H z w
variable {Z : ZX}
theorem tw_callX {S : SpW} (hW : CovW K W Z) (h : AW K tl σ c f fun xs c1 f1 => S xs c1 f1 P fun cls d c2 f2 => Z cls d σ c2 f2) : TW K (tCallS (mkSp K S) (WE W) tl) σ c f P := fun H w Q q =>
  h H w _ fun xs c1 f1 H1 s w1 => ⟨c1, f1, P, _, w1, s, q, fun cls d c2 f2 H2 z w2 => hW cls d σ c2 f2 H2 z w2⟩
/-- a def of an own exception class, its fields -/
def spI (C : Addr) (n : Nat) (fs : List V → List (Str × V)) : Sp := fun vs H Q _ => ∃ a xs, vs = .ref a :: xs ∧ xs.length = n ∧ H a = some (exo a C none) ∧ ∀ d, H d = none → d ≠ a → Q .non (upd (upd H d (exd d (fs xs))) a (exo a C (some d)))
theorem sw_raise {C : Addr} {fs : List V → List (Str × V)} {dvs : List V} (hW : CovW K W Z) {nf : Nat} (h : AW K tl σ c f fun xs c1 f1 => xs.length ≤ 1000 ∧ (xs ++ dvs).length = nf ∧ ∀ d, Z (.ref C) (some d) σ ((d, .xd (fs (xs ++ dvs))) :: c1) f1) :
    SW K (fun _ σ H => tMkO C (spI C nf fs) dvs tl σ H fun cls d H' => W cls d σ H') σ c f E := fun H w D q =>
  h H w _ fun xs c1 f1 H1 ⟨hl, hn, hz⟩ w1 => by
    refine ⟨hl, fun a na => ⟨a, _, rfl, hn, upd_same, fun d nd hda => ?_⟩⟩
    have nd1 : H1 d = none := by
      rw [upd_ne hda] at nd
      exact nd
    refine ⟨rfl, d, _, upd_same, by rw [upd_ne hda, upd_same], nd1, ?_⟩
    have e : upd (L2.del (upd (upd (upd H1 a (exo a C none)) d (exd d (fs (xs ++ dvs)))) a (exo a C (some d))) a) d (.xd (fs (xs ++ dvs))) = upd H1 d (.xd (fs (xs ++ dvs))) := by
      funext b
      by_cases h1 : b = d
      · rw [h1, upd_same, upd_same]
      · rw [upd_ne h1, upd_ne h1]
        by_cases h2 : b = a
        · rw [h2, L2.del_same, na]
        · rw [L2.del_ne h2, upd_ne h2, upd_ne h1, upd_ne h2]
    rw [e]
    exact hW _ _ _ _ _ _ (hz d) (w1.new nd1)
/-- err.f in a suite -/
theorem tw_xf {a C : Addr} {cls : Value} {dx : Option Addr} {n : Str} (h : TW K te σ c f fun x c1 f1 => x = .ref a ∧ cls = .ref C ∧ ∃ dd fs v k, dx = some dd ∧ Has c1 dd (.xd fs) k ∧ fs.lookup n = some v ∧ P v c1 f1) : TW K (tXf a cls dx C n te) σ c f P := fun H w Q q =>
  h H w _ fun x c1 f1 H1 ⟨e1, e2, dd, fs, v, k, e3, hk, hl, p⟩ w1 => ⟨e1, e2, dd, fs, v, e3, w1.get hk, hl, q _ _ _ _ p w1⟩
/-- what the clauses make of an exception -/
def zHd (K : PySem.W.Frag) (E : EW) (Zo : ZX) : List (Value × Option Nat × SuT) → ZX
  | [] => Zo
  | (k, none, ts) :: r => fun cls d σ c f => ∃ b, PySem.W.exmOne K cls k = some b ∧ (b = true → ∀ a, SW K (ts a cls d) σ c f E) ∧ (b = false → zHd K E Zo r cls d σ c f)
  | (k, some i, ts) :: r => fun cls d σ c f => ∃ b, PySem.W.exmOne K cls k = some b ∧ (b = true → ∀ a, SW K (ts a cls d) (σ.set i (some (.ref a))) c f
      { nx := fun σ c f => E.nx (σ.set i none) c f, rt := E.rt, bk := fun σ c f => E.bk (σ.set i none) c f, ct := fun σ c f => E.ct (σ.set i none) c f }) ∧ (b = false → zHd K E Zo r cls d σ c f)
theorem cov_hd {Zo : ZX} {Wo : WX} {D : Ends} (q : Cov K D E) (ho : CovW K Wo Zo) : ∀ l, CovW K (wHd K Wo D l) (zHd K E Zo l)
  | [] => ho
  | (k, none, ts) :: r => fun cls d σ c f H ⟨b, e, y, n⟩ w => ⟨b, e, fun hb a _ => y hb a H w D q, fun hb => cov_hd q ho r cls d σ c f H (n hb) w⟩
  | (k, some i, ts) :: r => fun cls d σ c f H ⟨b, e, y, n⟩ w => ⟨b, e, fun hb a _ => y hb a H w _ ⟨fun σ c f H p w => q.nx _ _ _ _ p w, q.rt, fun σ c f H p w => q.bk _ _ _ _ p w, fun σ c f H p w => q.ct _ _ _ _ p w⟩, fun hb => cov_hd q ho r cls d σ c f H (n hb) w⟩
theorem sw_try {tb : WX → TS} {Zo : ZX} {Wo : WX} {l : List (Value × Option Nat × SuT)} (ho : CovW K Wo Zo) (h : ∀ W, CovW K W (zHd K E Zo l) → SW K (tb W) σ c f E) : SW K (tTry K Wo l tb) σ c f E := fun H w D q =>
  h _ (cov_hd q ho l) H w D q
theorem cov_none {W : WX} : CovW K W (fun _ _ _ _ _ => False) := fun _ _ _ _ _ _ z _ => z.elim
/-! ### defs that raise -/
section
variable {Pr : Program} {w : World} {mg : Str → Option Value} {base : Heap}
theorem fnXW {x qual : Str} {st : Stmt} {fa : Addr} {fd : FuncData} {Nm ps : List Str} {k : Nat} {S : SpW} (F : Fun K x qual st fa fd) (Sc : FnScope Nm ps (defScope st)) (len : ∀ vs c f P X, S vs c f P X → vs.length = ps.length)
    (hbody : ∀ (cdv : Value) (A : Around) (outer : List Env) (s : Shared) (H : Hp) (XE : XK), Room k (A.deeper (envOfC qual (defScope st) s.heap.objs.size fa cdv)) →
      ∃ t, PSs (cxOf (L2.CX Pr w) Pr w K mg base Nm qual (defScope st) fa cdv A outer s H XE) (defBody st) t ∧ ∀ vs c f P X, S vs c f P X → CovE K XE X → SW K t (start Nm vs) c f { nx := fun _ c f => P .non c f, rt := P }) :
    FnOk Pr w K mg base (L2.CX Pr w) (k + 1) fa fd ps (mkSp K S) := by
  refine F.okX Sc (fun vs H Q E ⟨c, f, P, X, _, h, _⟩ => len vs c f P X h) fun cdv A outer s H vs Q XE hr ⟨c, f, P, X, wd, h, hq, hx⟩ => ?_
  obtain ⟨t, h1, h2⟩ := hbody cdv A outer s H XE hr
  exact ⟨t, h1, h2 vs c f P X h hx H wd _ ⟨fun _ c' f' H' p w' => hq _ c' f' H' p w', hq, fun _ _ _ _ z _ => z.elim, fun _ _ _ _ z _ => z.elim⟩⟩
end
/-! ### lists: times an int, extended -/
theorem rw_repC {a : Addr} {k : HO → Cs} (h : Has c a (.lst vs) k) (h1 : -(2 ^ 63) ≤ n) (h2 : n < 2 ^ 63) (hz : vs.length * n.toNat ≤ sizeLine) (p : ∀ r, P (.ref r) ((r, .lst (List.replicate n.toNat vs).flatten) :: c) f) : R2W K rRep (.ref a) (.int n) c f P := fun H w _ q =>
  ⟨a, n, vs, rfl, rfl, w.get h, h1, h2, hz, fun r nr => q _ _ _ _ (p r) (w.new nr)⟩
theorem rm_extend {a b : Addr} {ws us : List V} {k k' : HO → Cs} (h : Has c a (.lst ws) k) (h' : Has c b (.lst us) k') (hz : ws.length + us.length ≤ sizeLine) (p : P .non (k (.lst (ws ++ us))) f) : RMW K rExtend (.ref a) [.ref b] c f P := fun H w _ q =>
  ⟨a, b, ws, us, rfl, rfl, w.get h, w.get h', hz, q _ _ _ _ p (w.set h _)⟩
/-! ### bytes -/
theorem rw_ixB {z : Array UInt8} {u : UInt8} (hz : z.size ≤ sizeLine) (hj : seqIndex? n z.size = some j) (hu : z[j]? = some u) (p : P (.int ((u.toNat : Nat) : Int)) c f) : R2W K rIxB (.byt z) (.int n) c f P := fun H w _ q => ⟨z, n, j, u, rfl, rfl, hz, hj, hu, q _ _ _ _ p w⟩
theorem rl_bytesL {ns : List Int} (h : Sq K c f x (ns.map D.int)) (hb : B8 ns) (p : P (.byt (byteArr ns)) c f) : RLW K (fun xs H Q => ∃ p ns, xs = [.ref p] ∧ SqL K H p (ns.map V.int) ∧ B8 ns ∧ Q (.byt (byteArr ns)) H) [x] c f P := fun H w _ q => by
  obtain ⟨a, ws, e1, s1, l1, w1⟩ := w.seq h
  have e2 : ws = ns.map V.int := w1.flats Ents.hd (by simp [D.v?])
  subst e1 e2
  exact ⟨a, ns, rfl, s1, hb, q _ _ _ _ p w⟩
theorem rl_bytesT {ns : List Int} (h : Ent K f x (.tup (ns.map D.int))) (hb : B8 ns) (p : P (.byt (byteArr ns)) c f) : RLW K (fun xs H Q => ∃ p ns, xs = [.ref p] ∧ SqT K H p (ns.map V.int) ∧ B8 ns ∧ Q (.byt (byteArr ns)) H) [x] c f P := fun H w _ q => by
  obtain ⟨a, ws, e1, s1, l1, w1⟩ := w.tup h
  have e2 : ws = ns.map V.int := w1.flats Ents.hd (by simp [D.v?])
  subst e1 e2
  exact ⟨a, ns, rfl, s1, hb, q _ _ _ _ p w⟩
/-- list(b) -/
theorem rl_listB {z : Array UInt8} (hz : z.size ≤ sizeLine) (p : ∀ v, P v c (([v], [.lst ((bi z).map D.int)]) :: f)) : RLW K (r1 kLstB) [.byt z] c f P := fun H w _ q =>
  ⟨z, rfl, hz, fun r nr => q _ _ _ _ (p _) (w.newL nr (Ents.flat (by simp [D.v?])))⟩
/-! ### what is walked -/
theorem pair_new {H : Hp} {T : Addr} {v : V} {d : D} {g : List V × List D} (w : Wd K c (([v], [d]) :: f) H) (nT : H T = none) (i : Nat) : Wd K c (([.ref T], [.tup [.int (i : Nat), d]]) :: f) (upd H T (.tup [.int (i : Nat), v])) :=
  (w.newT nT (Ents.cons (Ent.flat rfl) (Ents.one Ent.hd))).cut1
theorem walk_enumB {z : Array UInt8} : WalkW K (ItE (fun i _ => i < z.size) (fun i _ x => ∃ c, z[i]? = some c ∧ x = .int ((c.toNat : Nat) : Int)) (fun i _ => z.size ≤ i)) z.size (fun _ _ => True) (YE ((bi z).map D.int)) where
  goes := fun i c f H hi _ w => hi
  stops := fun c f H _ w => Nat.le_refl _
  yields := fun i x c f H H' hi _ w ⟨T, y, e1, nT, e2, u, hu, e3⟩ => by
    subst e1 e2 e3
    refine ⟨c, _, ⟨rfl, .int ((u.toNat : Nat) : Int), ?_, rfl⟩, pair_new (g := ([], [])) (w.fact (Ents.one (Ent.flat rfl))) nT i⟩
    have z2 := PySem.W.KBw.ints_get hu
    rw [List.getElem?_map]
    show Option.map D.int ((bi z)[i]?) = _
    rw [show (bi z)[i]? = some ((u.toNat : Nat) : Int) from z2]
    rfl
theorem walk_enumT {a : Addr} : WalkW K (ItE (fun i H => ∃ (xs : List V) (x : V), SqT K H a xs ∧ xs[i]? = some x) (fun i H x => ∀ xs, SqT K H a xs → xs[i]? = some x) (fun i H => ∃ xs : List V, SqT K H a xs ∧ xs.length = i)) ds.length (fun _ f => Ent K f (.ref a) (.tup ds)) (YE ds) where
  goes := fun i c f H hi hx w => by
    obtain ⟨a', ws, e, s, hl, _⟩ := w.tup hx
    cases e
    exact ⟨ws, ws[i]'(by omega), s, List.getElem?_eq_getElem _⟩
  stops := fun c f H hx w => by
    obtain ⟨a', ws, e, s, hl, _⟩ := w.tup hx
    cases e
    exact ⟨ws, s, hl⟩
  yields := fun i x c f H H' hi hx w ⟨T, y, e1, nT, e2, hy⟩ => by
    subst e1 e2
    obtain ⟨G, e, k, nn, ok⟩ := w
    cases hx G ok with
    | @tup _ ws _ s r =>
      obtain ⟨d, hd, rd⟩ := r.getV (hy ws (sqT_up e s))
      have w1 : Wd K c (([y], [d]) :: f) H := ⟨G, e, k, nn, Ok.cons (.cons rd .nil) ok⟩
      exact ⟨c, _, ⟨rfl, d, hd, rfl⟩, pair_new (g := ([], [])) w1 nT i⟩
theorem walk_enumL {a : Addr} : WalkW K (Ite K a) ds.length (fun c f => Sq K c f (.ref a) ds) (YE ds) where
  goes := fun i c f H hi hx w => by
    obtain ⟨a', ws, e, s, hl, _⟩ := w.seq hx
    cases e
    exact ⟨ws, ws[i]'(by omega), s, List.getElem?_eq_getElem _⟩
  stops := fun c f H hx w => by
    obtain ⟨a', ws, e, s, hl, _⟩ := w.seq hx
    cases e
    exact ⟨ws, s, Nat.le_of_eq hl⟩
  yields := fun i x c f H H' hi hx w ⟨T, y, e1, nT, e2, hy⟩ => by
    subst e1 e2
    obtain ⟨a', ws, e, s, hl, w1⟩ := w.seq hx
    cases e
    have hd : ds[i]? = some ds[i] := List.getElem?_eq_getElem hi
    exact ⟨c, _, ⟨rfl, _, hd, rfl⟩, pair_new (g := ([], [])) (w1.one (hy ws s) hd) nT i⟩
theorem walk_byt {z : Array UInt8} : WalkW K (Itb z) z.size (fun _ _ => True) (fun i v c f c' f' => c' = c ∧ f' = f ∧ ∃ u, z[i]? = some u ∧ v = .int ((u.toNat : Nat) : Int)) where
  goes := fun i c f H hi _ w => hi
  stops := fun c f H _ w => Nat.le_refl _
  yields := fun i x c f H H' hi _ w y => by
    obtain ⟨e1, u, hu, e2⟩ := y
    subst e1 e2
    exact ⟨c, f, ⟨rfl, rfl, u, hu, rfl⟩, w⟩
variable {R : Nat → (Cs → Fs → Prop) → (Nat → V → Cs → Fs → Cs → Fs → Prop) → Cs → Fs → Prop}
theorem iw_enumB (h : AW K tl σ c f fun xs c1 f1 => ∃ z, xs = [.byt z] ∧ R z.size (fun _ _ => True) (YE ((bi z).map D.int)) c1 f1) : IW K (iEnumB tl) σ c f R := fun H w Q q =>
  h H w _ fun xs c1 f1 H1 ⟨z, e, r⟩ w1 => ⟨z, e, q _ _ _ _ _ _ H1 walk_enumB r w1⟩
theorem iw_enumT (h : AW K tl σ c f fun xs c1 f1 => ∃ x ds, xs = [x] ∧ Ent K f1 x (.tup ds) ∧ R ds.length (fun _ f => Ent K f x (.tup ds)) (YE ds) c1 f1) : IW K (iEnumT K tl) σ c f R := fun H w Q q =>
  h H w _ fun xs c1 f1 H1 ⟨x, ds, e, hx, r⟩ w1 => by
    obtain ⟨a, ws, rfl, s, _⟩ := w1.tup hx
    exact ⟨a, ws, e, s, q _ _ _ _ _ _ H1 walk_enumT r w1⟩
theorem iw_enumL (h : AW K tl σ c f fun xs c1 f1 => ∃ x ds, xs = [x] ∧ Sq K c1 f1 x ds ∧ R ds.length (fun c f => Sq K c f x ds) (YE ds) c1 f1) : IW K (iEnum K tl) σ c f R := fun H w Q q =>
  h H w _ fun xs c1 f1 H1 ⟨x, ds, e, hx, r⟩ w1 => by
    obtain ⟨a, ws, rfl, s, _⟩ := w1.seq hx
    exact ⟨a, ws, e, s, q _ _ _ _ _ _ H1 walk_enumL r w1⟩
/-! ### lambdas -/
/-- what a call of the lambda leads to -/
def LW (K : PySem.W.Frag) (tl : XK → Hp → VK → Prop) (c : Cs) (f : Fs) (P : PV) (X : PX) : Prop := ∀ H, Wd K c f H → ∀ (Q : VK) (XE : XK), (∀ v c' f' H', P v c' f' → Wd K c' f' H' → Q v H') → CovE K XE X → tl XE H Q
theorem LW.imp {tl : XK → Hp → VK → Prop} {P' : PV} {X X' : PX} (h : LW K tl c f P X) (hP : ∀ v c' f', P v c' f' → P' v c' f') (hX : ∀ cls d c' f', X cls d c' f' → X' cls d c' f') : LW K tl c f P' X' := fun H w Q XE q hx =>
  h H w Q XE (fun v c' f' H' p w' => q v c' f' H' (hP v c' f' p) w') fun cls d c' f' H' x w' => hx cls d c' f' H' (hX cls d c' f' x) w'
/-- x(), x the def's own lambda -/
theorem tw_clo {Pr : Program} {w : World} {mg : Str → Option Value} {base : Heap} {k : Nat} {a : Addr} {tl : XK → Hp → VK → Prop} (hW : CovW K W Z) (hs : σ[i]? = some (some (.ref a))) (hc : Clo Pr w K mg base k a tl) (h : LW K tl c f P fun cls d c' f' => Z cls d σ c' f') :
    TW K (tClo Pr w K mg base k i W) σ c f P := fun H wd Q q =>
  ⟨a, tl, fun cls d H' => W cls d σ H', hs, hc, fun _ _ _ z => z, h H wd Q _ q fun cls d c' f' H' z w' => hW cls d σ c' f' H' z w'⟩
/-- the lambda's body, its object told by a fact -/
theorem lw_lam {q : Str} {lm : Lam} {cl : List (Str × Addr)} {a : Addr} {t : XK → TE} {X : PX} (hl : Ent K f (.ref a) (.raw (LamR q lm cl))) (h : ∀ XE, CovE K XE X → TW K (t XE) σ c f P) :
    LW K (fun E H Q => LamR q lm cl H (.ref a) ∧ t E σ H Q) c f P X := fun H wd Q XE q hx => by
  refine ⟨?_, h XE hx H wd Q q⟩
  obtain ⟨G, e, _, _, ok⟩ := wd
  cases hl G ok with
  | raw r _ => exact r.up e
def CodeR (q : Str) : Hp → V → Prop := fun G v => ∃ a, v = .ref a ∧ G a = some (LamX.CodeO a q)
/-- the table tells codes of this name only -/
def TabW (K : PySem.W.Frag) (f : Fs) (q : Str) (ps : Array Value) : Prop := TriplesOk ps.toList ∧ ∀ (pos : Pos) (cv : Value), codeAmong pos ps.toList = some cv → ∃ c, cv = .ref c ∧ Ent K f (.ref c) (.raw (CodeR q))
def TupR (ws : List V) : Hp → V → Prop := fun G v => ∃ a, v = .ref a ∧ G a = some (.tup ws)
theorem Ent.raw {R : Hp → V → Prop} {G : Hp} (h : Ent K f v (.raw R)) (ok : Ok K G f) : R G v := by
  cases h G ok with
  | raw r _ => exact r
/-- a new object, never to change, by what is true of it -/
theorem Wd.newR {H : Hp} {p : Addr} {o : HO} {R : Hp → V → Prop} (w : Wd K c f H) (np : H p = none) (hR : ∀ G, Ok K G f → G p = some o → R G (.ref p)) (hu : ∀ G G' v, Same G G' → R G v → R G' v) : Wd K c (([.ref p], [.raw R]) :: f) (upd H p o) := by
  obtain ⟨G, e, k, n, ok⟩ := w
  have nG : G p = none := e.free np
  have eG : Same G (upd G p o) := fun b u q => by
    rw [upd_ne (ne_of_none q nG)]
    exact q
  have ok' : Ok K (upd G p o) f := fun g hg => RepA.up eG (ok g hg)
  refine ⟨upd G p o, fun b u q => ?_, fun q hq => ?_, n, Ok.cons (.cons (.raw (hR _ ok' upd_same) fun G' e2 => hu _ G' _ e2 (hR _ ok' upd_same)) .nil) ok'⟩
  · by_cases hb : b = p
    · rw [hb, upd_same] at q ⊢
      exact q
    · rw [upd_ne hb] at q ⊢
      exact e b u q
  · obtain ⟨h1, h2⟩ := k q hq
    have hne : q.1 ≠ p := ne_of_none h1 np
    exact ⟨by rw [upd_ne hne]; exact h1, by rw [upd_ne hne]; exact h2⟩
theorem Wd.newE {H : Hp} {p : Addr} {o : HO} {d : D} (w : Wd K c f H) (np : H p = none) (h : ∀ {G : Hp}, Rep K (upd G p o) (.ref p) d) : Wd K c (([.ref p], [d]) :: f) (upd H p o) := by
  obtain ⟨G, e, k, n, ok⟩ := w
  have nG : G p = none := e.free np
  have eG : Same G (upd G p o) := fun b u q => by
    rw [upd_ne (ne_of_none q nG)]
    exact q
  refine ⟨upd G p o, fun b u q => ?_, fun q hq => ?_, n, Ok.cons (.cons h .nil) fun g hg => RepA.up eG (ok g hg)⟩
  · by_cases hb : b = p
    · rw [hb, upd_same] at q ⊢
      exact q
    · rw [upd_ne hb] at q ⊢
      exact e b u q
  · obtain ⟨h1, h2⟩ := k q hq
    have hne : q.1 ≠ p := ne_of_none h1 np
    exact ⟨by rw [upd_ne hne]; exact h1, by rw [upd_ne hne]; exact h2⟩
theorem TabW.up {q : Str} {ps : Array Value} {g : List V × List D} (h : TabW K f q ps) : TabW K (g :: f) q ps := ⟨h.1, fun pos cv e => let ⟨c, e1, e2⟩ := h.2 pos cv e; ⟨c, e1, e2.tl⟩⟩
theorem TabW.nil {q : Str} : TabW K f q #[] := ⟨True.intro, fun pos cv e => by
  have z : codeAmong pos [] = some cv := e
  simp [codeAmong] at z⟩
/-- a lambda is made; the table of the def's codes is a cell -/
theorem tw_lam {Pa : Addr} {q : Str} {lm : Lam} {cl : List (Str × Addr)} {ps : Array Value} {k : HO → Cs} (hp : Has c Pa (.tbl ps) k) (ht : TabW K f q ps)
    (p : ∀ a ps' g1 g2, TabW K (([.ref a], [.raw (LamR q lm cl)]) :: g1 :: g2 :: f) q ps' → P (.ref a) (k (.tbl ps')) (([.ref a], [.raw (LamR q lm cl)]) :: g1 :: g2 :: f)) : TW K (tLam Pa q lm cl) σ c f P := fun H w Q qq => by
  refine ⟨ps, w.get hp, ⟨ht.1, fun pos cv hc => ?_⟩, fun dV H1 ps' c' H2 a hD hC na => ?_⟩
  · obtain ⟨c0, e1, e2⟩ := ht.2 pos cv hc
    obtain ⟨G, e, _, _, ok⟩ := w
    obtain ⟨b, eb, hb⟩ := e2.raw ok
    cases eb
    exact ⟨c0, e1, e _ _ hb⟩
  -- its parameters' values
  obtain ⟨g2, w1, hdv⟩ : ∃ g2, Wd K c (g2 :: f) H1 ∧ ((lm.dv = [] ∧ dV = .none) ∨ lm.dv ≠ [] ∧ ∃ T, dV = .ref T ∧ Ent K (g2 :: f) (.ref T) (.raw (TupR lm.dv))) := by
    rcases hD with ⟨h1, h2, h3⟩ | ⟨h0, T, h1, h2, h3⟩
    · subst h3
      exact ⟨([], []), w.fact Ents.nil, .inl ⟨h1, h2⟩⟩
    · subst h3
      exact ⟨_, w.newR h2 (R := TupR lm.dv) (fun G _ e => ⟨T, rfl, e⟩) fun G G' v e ⟨b, z1, z2⟩ => ⟨b, z1, e _ _ z2⟩, .inr ⟨h0, T, h1, Ent.hd⟩⟩
  -- its code
  obtain ⟨g1, w2, hcd, ht2⟩ : ∃ g1, Wd K (k (.tbl ps')) (g1 :: g2 :: f) H2 ∧ Ent K (g1 :: g2 :: f) (.ref c') (.raw (CodeR q)) ∧ TabW K (g1 :: g2 :: f) q ps' := by
    rcases hC with ⟨h1, h2, pos, h3⟩ | ⟨pos, h1, h2, h3⟩
    · subst h1 h2
      obtain ⟨c0, e1, e2⟩ := ht.2 pos _ h3
      cases e1
      refine ⟨([], []), ?_, e2.tl.tl, ht.up.up⟩
      rw [hp.self]
      exact w1.fact Ents.nil
    · have w2 := w1.set hp (.tbl ps')
      have nc : upd H1 Pa (.tbl ps') c' = none := by
        rw [upd_ne (fun z => by rw [z, w1.get hp] at h1; cases h1)]
        exact h1
      have w3 := w2.newR nc (o := LamX.CodeO c' q) (R := CodeR q) (fun G _ e => ⟨c', rfl, e⟩) fun G G' v e ⟨b, z1, z2⟩ => ⟨b, z1, e _ _ z2⟩
      rw [← h3] at w3
      refine ⟨_, w3, Ent.hd, ?_⟩
      have eL : ps'.toList = ps.toList ++ [rawInt pos.line, rawInt pos.col, .ref c'] := by
        rw [h2]
        simp
      refine ⟨by rw [eL]; exact PySem.TriplesOk_snoc _ _ _ _ ht.1, fun p' cv hcv => ?_⟩
      rw [eL] at hcv
      rcases LamX.among_app _ ht.1 hcv with z | z
      · exact ht.up.up.2 p' cv z
      · exact ⟨c', z, Ent.hd⟩
  refine qq (.ref a) _ _ _ (p a ps' g1 g2 ht2.up) (w2.newR na (R := LamR q lm cl) (fun G ok e => ⟨a, c', dV, rfl, e, ?_, ?_⟩) fun G G' v e r => r.up e)
  · obtain ⟨b, eb, hb⟩ := hcd.raw ok
    cases eb
    exact hb
  · refine hdv.imp id fun ⟨h0, T, h1, h2⟩ => ⟨h0, T, h1, ?_⟩
    obtain ⟨b, eb, hb⟩ := h2.raw ok.tl
    cases eb
    exact hb
theorem TW.lam {q : Str} {lm : Lam} {cl : List (Str × Addr)} (h : Ent K f v (.raw (LamR q lm cl))) (k : ∀ a, v = .ref a → TW K te σ c f P) : TW K te σ c f P := fun H w => by
  obtain ⟨G, e, kk, nn, ok⟩ := id w
  obtain ⟨a, _, _, ea, _⟩ := h.raw ok
  exact k a ea H w
/-- a new empty dict that stays -/
theorem tw_dnew (p : ∀ v, P v c (([v], [.dic []]) :: f)) : TW K tDNewK σ c f P := fun H w Q q p0 np => q _ _ _ _ (p (.ref p0)) (w.newE np (.dic upd_same rfl .nil))
/-- x(e), e a lambda -/
theorem tw_callB {Pr : Program} {wo : World} {mg : Str → Option Value} {k : Nat} {q : Str} {cells : List (Str × Addr)} {ls : Lams} {sel : St → St} {S : Heap → SpW}
    (h : AW K tl σ c f fun xs c1 f1 => ∃ pr ∈ ls, ∃ a, xs = [.ref a] ∧ ∀ b, Clo Pr wo K mg b k a (fun E H Q => LamR q pr.1 (cloFrom cells pr.1.scope.names []) H (.ref a) ∧ pr.2 E (sel σ) H Q) → S b [.ref a] c1 f1 P fun _ _ _ _ => False) :
    TW K (tCallB Pr wo K mg k q cells ls sel (fun b => mkSp K (S b)) tl) σ c f P := fun H w Q qq =>
  h H w _ fun xs c1 f1 H1 ⟨pr, hpr, a, e, hs⟩ w1 => ⟨pr, hpr, a, e, fun b hc => ⟨c1, f1, P, _, w1, hs b hc, qq, fun _ _ _ _ _ z _ => z.elim⟩⟩
end
end FR

set_option Elab.async false
set_option linter.all false
set_option maxRecDepth 100000
set_option maxHeartbeats 2000000
/-! Rules for defs as a head's facts tell them; the end's first state. -/
namespace FR
open PySem PySem.Spec L2
open PyProof.Rows hiding St

/-- the code object of the function at f -/
def codeA (K : PySem.W.Frag) (f : Addr) : Addr := match K.lookup f with
  | some ⟨_, _, .func fd, _⟩ => (match fd.code with
    | .ref c => c
    | _ => 0)
  | _ => 0
abbrev FnS (K : PySem.W.Frag) (x qual : Str) (st : Stmt) (f : Addr) (fd : FuncData) : Prop := FunD K x qual (defArgs st) (defBody st) (defScope st) [] [] f fd
section
variable {Pr : Program} {w : World} {K : PySem.W.Frag} {mg : Str → Option Value} {base : Heap} {CX : CXT} {x qual : Str} {params : Arguments} {body : List Stmt} {scope : Scope} {dvs : List V} {kws : List (Str × V)} {fa : Addr} {fd : FuncData} {Nm ps : List Str} {k : Nat} {S : SpW}
theorem FunD.okC {sp : Sp} (F : FunD K x qual params body scope dvs kws fa fd) (Sc : FnScope Nm ps scope) (len : ∀ vs H Q E, sp vs H Q E → vs.length = ps.length)
    (hbody : ∀ (A : Around) (outer : List Env) (s : Shared) (H : Hp) (vs : List V) (Q : VK) (E : XK), Room k (A.deeper (envOfC qual scope s.heap.objs.size fa (.ref (codeA K fa)))) → sp vs H Q E →
      ∃ t, PSs (cxOf CX Pr w K mg base Nm qual scope fa (.ref (codeA K fa)) A outer s H E) body t ∧ t { nx := fun _ H' => Q .non H', rt := Q } (start Nm vs) H) : FnOk Pr w K mg base CX (k + 1) fa fd ps sp := by
  obtain ⟨oc, od, dV, kV, doc, pm, an, cdv, ct, osl, rfl, lk, hcd, _, _⟩ := F.ex
  obtain ⟨c, ec⟩ := He.codeIn_ref hcd
  have e : cdv = .ref (codeA K fa) := by
    unfold codeA
    rw [lk, ec]
  subst e
  exact fn_of lk hcd Sc len fun A outer s H vs Q E hr hsp => hbody A outer s H vs Q E hr hsp
/-- P, the state told anew -/
def Fin (K : PySem.W.Frag) (P : PV) : PV := fun v c f => ∃ c' f', Wk K c f c' f' ∧ P v c' f'
theorem Fin.of {P : PV} {v : V} {c : Cs} {f : Fs} (h : P v c f) : Fin K P v c f := ⟨c, f, Wk.refl, h⟩
theorem Fin.wk {P : PV} {v : V} {c c' : Cs} {f f' : Fs} (e : Wk K c f c' f') (h : Fin K P v c' f') : Fin K P v c f := let ⟨c2, f2, e2, p⟩ := h; ⟨c2, f2, e.trans e2, p⟩
theorem Fin.dropF {P : PV} {v : V} {c : Cs} {f : Fs} {g : List V × List D} (h : Fin K P v c f) : Fin K P v c (g :: f) := h.wk Wk.dropF
theorem Fin.dropC {P : PV} {v : V} {c : Cs} {f : Fs} {x : Addr × HO} (h : Fin K P v c f) : Fin K P v (x :: c) f := h.wk Wk.dropC
/-- a def that raises nothing -/
theorem fnD (F : FunD K x qual params body scope dvs kws fa fd) (Sc : FnScope Nm ps scope) (len : ∀ vs c f P X, S vs c f P X → vs.length = ps.length)
    (hbody : ∀ (A : Around) (outer : List Env) (s : Shared) (H : Hp) (XE : XK), Room k (A.deeper (envOfC qual scope s.heap.objs.size fa (.ref (codeA K fa)))) →
      ∃ t, PSs (cxOf CX0 Pr w K mg base Nm qual scope fa (.ref (codeA K fa)) A outer s H XE).nox body t ∧ ∀ vs c f P X, S vs c f P X → SW K t (start Nm vs) c f { nx := fun _ => Fin K P .non, rt := Fin K P }) :
    FnOk Pr w K mg base CX0 (k + 1) fa fd ps (mkSp K S) := by
  refine FunD.okC F Sc (fun vs H Q E ⟨c, f, P, X, _, h, _⟩ => len vs c f P X h) fun A outer s H vs Q XE hr ⟨c, f, P, X, wd, h, hq, hx⟩ => ?_
  obtain ⟨t, h1, h2⟩ := hbody A outer s H XE hr
  exact ⟨t, PSs.nox h1, h2 vs c f P X h H wd _ ⟨fun _ c' f' H' ⟨c2, f2, e, p⟩ w' => hq _ c2 f2 H' p (e _ w'), fun v c' f' H' ⟨c2, f2, e, p⟩ w' => hq v c2 f2 H' p (e _ w'), fun _ _ _ _ z _ => z.elim, fun _ _ _ _ z _ => z.elim⟩⟩
/-- a def that may raise -/
theorem fnDX (F : FunD K x qual params body scope dvs kws fa fd) (Sc : FnScope Nm ps scope) (len : ∀ vs c f P X, S vs c f P X → vs.length = ps.length)
    (hbody : ∀ (A : Around) (outer : List Env) (s : Shared) (H : Hp) (XE : XK), Room k (A.deeper (envOfC qual scope s.heap.objs.size fa (.ref (codeA K fa)))) →
      ∃ t, PSs (cxOf (L2.CX Pr w) Pr w K mg base Nm qual scope fa (.ref (codeA K fa)) A outer s H XE) body t ∧ ∀ vs c f P X, S vs c f P X → CovE K XE X → SW K t (start Nm vs) c f { nx := fun _ => Fin K P .non, rt := Fin K P }) :
    FnOk Pr w K mg base (L2.CX Pr w) (k + 1) fa fd ps (mkSp K S) := by
  refine FunD.okC F Sc (fun vs H Q E ⟨c, f, P, X, _, h, _⟩ => len vs c f P X h) fun A outer s H vs Q XE hr ⟨c, f, P, X, wd, h, hq, hx⟩ => ?_
  obtain ⟨t, h1, h2⟩ := hbody A outer s H XE hr
  exact ⟨t, h1, h2 vs c f P X h hx H wd _ ⟨fun _ c' f' H' ⟨c2, f2, e, p⟩ w' => hq _ c2 f2 H' p (e _ w'), fun v c' f' H' ⟨c2, f2, e, p⟩ w' => hq v c2 f2 H' p (e _ w'), fun _ _ _ _ z _ => z.elim, fun _ _ _ _ z _ => z.elim⟩⟩
end
/-- a def that the top has written -/
structure Fn1 (K : PySem.W.Frag) (mg : Str → Option Value) (x : Str) (st : Stmt) (ps : List Str) where
  f : Addr
  fd : FuncData
  F : FnS K x x st f fd
  b : Binds K fd ps []
  g : mg x = some (.ref f)
/-- a class that is but named -/
structure Cl1 (mg : Str → Option Value) (x : Str) where
  C : Addr
  g : mg x = some (.ref C)
/-- an own exception class, its __init__ -/
structure Ex1 (K : PySem.W.Frag) (mg : Str → Option Value) (x : Str) (st : Stmt) (ps : List Str) where
  C : Addr
  f : Addr
  fd : FuncData
  F : FnS K "__init__" (x ++ ".__init__") st f fd
  b : Binds K fd ps []
  g : mg x = some (.ref C)
  oex : OexC K C
  xf : XfC K C
  iC : PySem.W.findIn K (.ref C) "__init__" = some (some (.ref f))
  tI : PySem.W.typeIn K (.ref f) = some (.type "function")
/-- a lambda's qualified name in the def x -/
def qL (x : Str) : Str := x ++ ".<locals>." ++ "<lambda>"
/-! ### a place in the text -/
def sAt (l : List Stmt) (i : Nat) : Stmt := l.getD i (.Pass ⟨0, 0, 0, 0⟩)
def eAt (l : List Expr) (i : Nat) : Expr := l.getD i (.Constant .none 0 ⟨0, 0, 0, 0⟩)
def stS : Stmt → List Stmt
  | .If _ b o _ => b ++ o
  | .For _ _ b _ _ => b
  | .While _ b _ _ => b
  | .Try b _ _ _ _ => b
  | _ => []
def stE : Stmt → List Expr
  | .Return (some e) _ => [e]
  | .Assign _ e _ => [e]
  | .If e _ _ _ => [e]
  | .For _ e _ _ _ => [e]
  | .While e _ _ _ => [e]
  | .Expr e _ => [e]
  | _ => []
def exE : Expr → List Expr
  | .BoolOp _ es _ => es
  | .BinOp a _ b _ => [a, b]
  | .UnaryOp _ a _ => [a]
  | .Lambda _ b _ _ => [b]
  | .IfExp t a b _ => [t, a, b]
  | .ListComp e gs _ _ => e :: gs.map (·.iter)
  | .Compare l _ cs _ => l :: cs
  | .Call f es _ _ => f :: es
  | .Attribute o _ _ => [o]
  | .Subscript o i _ => [o, i]
  | .List es _ => es
  | .Tuple es _ _ => es
  | _ => []
def lamE (e : Expr) (dv : List V) (dn : List Str) : Lam := match e with
  | .Lambda p b s _ => ⟨p, b, s, dv, dn⟩
  | _ => ⟨⟨[], [], none, [], [], none, []⟩, e, { kind := .function, names := [], isGenerator := false, isCoroutine := false }, dv, dn⟩
theorem lamBind0 {lm : Lam} (hv : lm.dv = []) (hn : lm.dn = []) (h : ∀ (q : Str) (cl : List (Str × Addr)) (doc pm cv ctv : Value), bindArgs (PySem.W.kdv_fn "<lambda>" q lm.params (.expr lm.body) lm.scope cl .none doc pm cv ctv) ⟨[], []⟩ = pure [])
    (s : Shared) (q : Str) (cl : List (Str × Addr)) (dV doc pm cv ctv : Value) (us : List Value) (hl : us.length = lm.dv.length) (hd : DfAt s.heap dV us) : BindsTo s (PySem.W.kdv_fn "<lambda>" q lm.params (.expr lm.body) lm.scope cl dV doc pm cv ctv) ⟨[], []⟩ (lm.dn.zip us) := by
  rw [hv] at hl
  have e : us = [] := List.eq_nil_of_length_eq_zero hl
  subst e
  rcases hd with ⟨_, e⟩ | ⟨h0, _⟩
  · subst e
    rw [hn]
    exact BindsTo.of_eq (h q cl doc pm cv ctv)
  · exact absurd rfl h0
theorem lamBind1 {lm : Lam} {n : Str} {v : V} (hv : lm.dv = [v]) (hn : lm.dn = [n]) (h : ∀ (q : Str) (cl : List (Str × Addr)) (T : Addr) (doc pm cv ctv u : Value), ∃ k, bindArgs (PySem.W.kdv_fn "<lambda>" q lm.params (.expr lm.body) lm.scope cl (.ref T) doc pm cv ctv) ⟨[], []⟩ = seqItems? (.ref T) >>= k ∧ k (some #[u]) = pure [(n, u)])
    (s : Shared) (q : Str) (cl : List (Str × Addr)) (dV doc pm cv ctv : Value) (us : List Value) (hl : us.length = lm.dv.length) (hd : DfAt s.heap dV us) : BindsTo s (PySem.W.kdv_fn "<lambda>" q lm.params (.expr lm.body) lm.scope cl dV doc pm cv ctv) ⟨[], []⟩ (lm.dn.zip us) := by
  rw [hv] at hl
  obtain ⟨u, rfl⟩ : ∃ u, us = [u] := by
    match us, hl with
    | [u], _ => exact ⟨u, rfl⟩
  rcases hd with ⟨e, _⟩ | ⟨_, T, o, m, e, ho, hs⟩
  · cases e
  · subst e
    obtain ⟨k, h1, h2⟩ := h q cl T doc pm cv ctv u
    rw [hn]
    exact BindsTo.of_defaults rfl ho hs h1 h2
/-! ### an own exception's __init__ -/
section
variable {K : PySem.W.Frag}
theorem init1 {C : Addr} {n : Str} {xs : List V} {H : Hp} {Q : VK} {E : XK} {E0 : Ends} (T : OexC K C) (hn : PySem.W.findIn K (.ref C) n = some none) (h : spI C 1 (fun xs => match xs with | [v] => [(n, v)] | _ => []) xs H Q E) (he : ∀ σ H', Q .non H' → E0.nx σ H') :
    tOst K n (tVar 0) (tVar 1) E0 (xs.map some) H := by
  obtain ⟨a, ys, e, hl, ha, q⟩ := h
  subst e
  obtain ⟨v, rfl⟩ : ∃ v, ys = [v] := by
    match ys, hl with
    | [v], _ => exact ⟨v, rfl⟩
  exact ⟨v, rfl, .ref a, rfl, a, C, rfl, T, hn, .inl ⟨ha, fun d nd hd => he _ _ (q d nd hd)⟩⟩
theorem spI_len {C : Addr} {n : Nat} {fs : List V → List (Str × V)} {vs : List V} {H : Hp} {Q : VK} {E : XK} (h : spI C n fs vs H Q E) : vs.length = n + 1 := by
  obtain ⟨a, ys, e, hl, _⟩ := h
  rw [e, ← hl] <;> rfl
end
/-! ### the first state -/
theorem wd_start {K : PySem.W.Frag} {H : Hp} {a : Addr} {ns : List Int} {Ps : List Addr} (hT : ∀ p ∈ Ps, H p = some (.tbl #[])) (nd : Ps.Nodup) (hS : SqL K H a (ns.map V.int)) : Wd K (Ps.map fun p => (p, HO.tbl #[])) [([.ref a], [.lst (ns.map D.int)])] H := by
  classical
  refine ⟨fun b => if b ∈ Ps then none else H b, fun b o e => ?_, fun q hq => ?_, ?_, ?_⟩
  · have e : (if b ∈ Ps then none else H b) = some o := e
    by_cases hb : b ∈ Ps
    · rw [if_pos hb] at e
      cases e
    · rw [if_neg hb] at e
      exact e
  · obtain ⟨p, hp, e⟩ := List.mem_map.mp hq
    subst e
    exact ⟨hT p hp, if_pos hp⟩
  · rw [List.map_map]
    have e : ((Prod.fst : Addr × HO → Addr) ∘ fun p => (p, HO.tbl #[])) = id := rfl
    rw [e, List.map_id]
    exact nd
  · refine Ok.cons (.cons (.lst (vs := ns.map V.int) ?_ (repA_of_flat (by simp [D.v?]))) .nil) fun g hg => by cases hg
    have nb : ∀ {o : HO}, H a = some o → o ≠ .tbl #[] → (if a ∈ Ps then none else H a) = some o := fun {o} e ne => by
      rw [if_neg (fun z => ne (Option.some.inj (e.symm.trans (hT a z))))]
      exact e
    rcases hS with (h | ⟨o, h⟩) | h
    · exact .inl (.inl (nb h (fun z => by cases z)))
    · exact .inl (.inr ⟨o, nb h (fun z => by cases z)⟩)
    · exact .inr h
end FR

set_option Elab.async false
set_option linter.all false
set_option maxRecDepth 100000
set_option maxHeartbeats 2000000
/-! Helpers over told states. -/
namespace FR
open PySem PySem.Spec L2
open PyProof.Rows hiding St

section
variable {K : PySem.W.Frag} {σ : St} {c c' : Cs} {f f' : Fs} {P : PV} {te ta tb : TE} {tl : TA} {tt : TT} {ts : TS} {v x y u : V} {vs us : List V} {d e : D} {ds es : List D} {i j : Nat} {m n : Int} {b : Bool} {E : EW} {B : PB} {N : St → Cs → Fs → Prop}
/-! ### a value known by its fact -/
theorem SW.eq (h : Ent K f v d) (e : d.v? = some u) (k : v = u → SW K ts σ c f E) : SW K ts σ c f E := fun H w => k (w.flat h e) H w
theorem TW.eq (h : Ent K f v d) (e : d.v? = some u) (k : v = u → TW K te σ c f P) : TW K te σ c f P := fun H w => k (w.flat h e) H w
theorem AW.eq {L : PL} (h : Ent K f v d) (e : d.v? = some u) (k : v = u → AW K tl σ c f L) : AW K tl σ c f L := fun H w => k (w.flat h e) H w
theorem GsW.eq {t : TGs} (h : Ent K f v d) (e : d.v? = some u) (k : v = u → GsW K t vs σ c f N) : GsW K t vs σ c f N := fun H w => k (w.flat h e) H w
theorem BW.eq (h : Ent K f v d) (e : d.v? = some u) (k : v = u → BW K tt σ c f B) : BW K tt σ c f B := fun H w => k (w.flat h e) H w
theorem gw_tupf {m : Nat} {t : TGs} (h : Ent K f v (.tup ds)) (hf : ds.map D.v? = us.map some) (hl : us.length = m) (p : GsW K t us σ c f N) : GW K (gTup K m t) v σ c f N := fun H w Q q => by
  obtain ⟨a, ws, rfl, s, e, w1⟩ := w.tup h
  have e2 : ws = us := w1.flats Ents.hd hf
  subst e2
  exact ⟨a, ws, rfl, s, hl, p H w Q q⟩
/-- a pair, its values -/
theorem gw_pair {t : TGs} {d1 d2 : D} (h : Ent K f v (.tup [d1, d2])) (p : ∀ v1 v2, GsW K t [v1, v2] σ c (([v1, v2], [d1, d2]) :: f) N) : GW K (gTup K 2 t) v σ c f N := gw_tup h rfl fun ws hl => by
  match ws, hl with
  | [v1, v2], _ => exact p v1 v2
theorem Ent.fst {d1 d2 : D} {v1 v2 : V} : Ent K (([v1, v2], [d1, d2]) :: f) v1 d1 := Ent.of_get (i := 0) Ents.hd rfl rfl
theorem Ent.snd {d1 d2 : D} {v1 v2 : V} : Ent K (([v1, v2], [d1, d2]) :: f) v2 d2 := Ent.of_get (i := 1) Ents.hd rfl rfl
/-! ### ints -/
theorem rw_eqI (p : P (.bl (decide (m = n))) c f) : R2W K rEq (.int m) (.int n) c f P := rw_eq rfl (by
  have e : decide (V.int m = V.int n) = decide (m = n) := by
    by_cases h : m = n
    · rw [decide_eq_true h, decide_eq_true (by rw [h])]
    · rw [decide_eq_false h, decide_eq_false (fun z => h (V.int.inj z))]
  rw [e]
  exact p)
theorem rw_neI (p : P (.bl (decide (m ≠ n))) c f) : R2W K rNe (.int m) (.int n) c f P := rw_ne rfl (by
  have e : (!decide (V.int m = V.int n)) = decide (m ≠ n) := by
    by_cases h : m = n
    · rw [decide_eq_true (by rw [h]), decide_eq_false (fun z => z h)] <;> rfl
    · rw [decide_eq_false (fun z => h (V.int.inj z)), decide_eq_true h] <;> rfl
  rw [e]
  exact p)
theorem ifd {p : Prop} [Decidable p] {A C : Prop} (h1 : p → A) (h2 : ¬ p → C) : if decide p = true then A else C := by
  by_cases h : p
  · rw [if_pos (decide_eq_true h)]
    exact h1 h
  · rw [if_neg (fun z => h (of_decide_eq_true z))]
    exact h2 h
theorem ifn {p : Prop} [Decidable p] {A C : Prop} (h1 : ¬ p → A) (h2 : p → C) : if (!decide p) = true then A else C := by
  by_cases h : p
  · rw [decide_eq_true h]
    exact h2 h
  · rw [decide_eq_false h]
    exact h1 h
/-! ### told anew -/
theorem SW.drop {g : List V × List D} (h : SW K ts σ c f E) : SW K ts σ c (g :: f) E := SW.wk Wk.dropF h
theorem Nxt.drop {I : St → Cs → Fs → Prop} {g : List V × List D} (h : Nxt K I σ c f) : Nxt K I σ c (g :: f) := by
  obtain ⟨c', f', e, i⟩ := h
  exact ⟨c', f', Wk.dropF.trans e, i⟩
theorem Nxt.wk {I : St → Cs → Fs → Prop} (e0 : Wk K c f c' f') (h : Nxt K I σ c' f') : Nxt K I σ c f := by
  obtain ⟨c2, f2, e, i⟩ := h
  exact ⟨c2, f2, e0.trans e, i⟩
/-- the end of a turn -/
theorem nxN {I J : St → Cs → Fs → Prop} {r : PV} {q : St → Cs → Fs → Prop} (h : Nxt K I σ c f) : (EW.mk (Nxt K I) r q (Nxt K J)).nx σ c f := h
theorem ctN {I J : St → Cs → Fs → Prop} {r : PV} {q : St → Cs → Fs → Prop} (h : Nxt K J σ c f) : (EW.mk (Nxt K I) r q (Nxt K J)).ct σ c f := h
/-! ### D's equality -/
theorem eqsBy_refl {r : D → D → Option Bool} : ∀ {ds : List D}, (∀ d ∈ ds, r d d = some true) → eqsBy r ds ds = some true
  | [], _ => rfl
  | d :: ds, h => by
    unfold eqsBy
    rw [h d (.head _), eqsBy_refl fun e he => h e (.tail _ he)] <;> rfl
/-! ### isinstance of the built-in classes -/
def isaB (t u : String) : Bool := t == u || (t == "bool" && u == "int")
theorem kit_d {t u : String} (h : d.tyn = some t) (hu : u ∈ ["int", "bool", "str", "bytes", "list", "tuple", "dict"]) : kitB t u = some (isaB t u) := by
  have ht : t ∈ ["NoneType", "bool", "int", "str", "bytes", "list", "tuple", "dict"] := by
    cases d <;> simp [D.tyn] at h <;> subst h <;> decide
  have all : ∀ t ∈ ["NoneType", "bool", "int", "str", "bytes", "list", "tuple", "dict"], ∀ u ∈ ["int", "bool", "str", "bytes", "list", "tuple", "dict"], kitB t u = some (isaB t u) := by decide +kernel
  exact all t ht u hu
theorem kit_any2 {t u1 u2 : String} {b1 b2 : Bool} (h1 : kitB t u1 = some b1) (h2 : kitB t u2 = some b2) : PySem.W.kitAny K (.type t) ([u1, u2].map Value.type) = some (b1 || b2) := by
  refine kitAny_cons (kit_ty h1) (fun e => ?_) fun e => by rw [e] <;> rfl
  rw [e]
  exact kitAny_cons (kit_ty h2) (fun e => by rw [e] <;> rfl) fun e => by rw [e] <;> rfl
theorem EntH.dropC {xo : Addr × HO} (h : EntH K c f v d) : EntH K (xo :: c) f v d := fun H w => h H (Wk.dropC H w)
theorem EntH.dropF {g : List V × List D} (h : EntH K c f v d) : EntH K c (g :: f) v d := fun H w => h H w.dropF
theorem rl_isi2 {u1 u2 : String} {t : String} {a : Addr} {k : HO → Cs} (h : EntH K c f x d) (e : d.tyn = some t) (ht : Has c a (.tup [.ty u1, .ty u2]) k) (h1 : u1 ∈ ["int", "bool", "str", "bytes", "list", "tuple", "dict"]) (h2 : u2 ∈ ["int", "bool", "str", "bytes", "list", "tuple", "dict"])
    (p : P (.bl (isaB t u1 || isaB t u2)) c f) : RLW K (rIsiT K) [x, .ref a] c f P := rl_isiT (us := [u1, u2]) h e ht (kit_any2 (kit_d e h1) (kit_d e h2)) p
theorem rl_isi1 {u t : String} (h : EntH K c f x d) (e : d.tyn = some t) (h1 : u ∈ ["int", "bool", "str", "bytes", "list", "tuple", "dict"]) (p : P (.bl (isaB t u)) c f) : RLW K (rIsi K) [x, .ty u] c f P := rl_isi h e (kit_d e h1) p
/-! ### chains, None -/
theorem tw_chain {r r' : R2} {tc : TE} (h : TW K ta σ c f fun x c1 f1 => TW K tb σ c1 f1 fun y c2 f2 => R2W K r x y c2 f2 fun z c3 f3 => ∃ b, z = .bl b ∧ if b = true then TW K tc σ c3 f3 fun w c4 f4 => R2W K r' y w c4 f4 P else P (.bl false) c3 f3) : TW K (tChain r r' ta tb tc) σ c f P := fun H w Q q =>
  h H w _ fun x c1 f1 H1 h1 w1 => h1 H1 w1 _ fun y c2 f2 H2 h2 w2 => h2 H2 w2 _ fun z c3 f3 H3 ⟨b, e, h3⟩ w3 => ⟨b, e, by
    cases b with
    | true =>
      rw [if_pos rfl] at h3 ⊢
      exact h3 H3 w3 _ fun w' c4 f4 H4 h4 w4 => h4 H4 w4 Q q
    | false =>
      rw [if_neg Bool.false_ne_true] at h3 ⊢
      exact q _ _ _ _ h3 w3⟩
theorem rw_isN (p : P (.bl (decide (x = .non))) c f) : R2W K (fun x y H Q => y = .non ∧ Q (.bl (decide (x = .non))) H) x .non c f P := fun H w _ q => ⟨rfl, q _ _ _ _ p w⟩
theorem rw_notN (p : P (.bl (!decide (x = .non))) c f) : R2W K (fun x y H Q => y = .non ∧ Q (.bl (!decide (x = .non))) H) x .non c f P := fun H w _ q => ⟨rfl, q _ _ _ _ p w⟩
/-! ### exceptions, told anew -/
def FinZ (K : PySem.W.Frag) (X : PX) : ZX := fun cls d _ c f => ∃ c' f', Wk K c f c' f' ∧ X cls d c' f'
theorem covF {XE : XK} {X : PX} (h : CovE K XE X) : CovW K (fun cls d _ H => XE cls d H) (FinZ K X) := fun cls d _ c f H ⟨c', f', e, x⟩ w => h cls d c' f' H x (e H w)
theorem FinZ.dropF {X : PX} {cls : Value} {dx : Option Addr} {g : List V × List D} (h : FinZ K X cls dx σ c f) : FinZ K X cls dx σ c (g :: f) := let ⟨c', f', e, x⟩ := h; ⟨c', f', Wk.dropF.trans e, x⟩
theorem FinZ.of {X : PX} {cls : Value} {dx : Option Addr} (h : X cls dx c f) : FinZ K X cls dx σ c f := ⟨c, f, Wk.refl, h⟩
/-! ### a list or a tuple -/
def SeqE (K : PySem.W.Frag) (c : Cs) (f : Fs) (x : V) (ds : List D) : Prop := Sq K c f x ds ∨ Ent K f x (.tup ds)
end
section
variable {X : Cx}
theorem callR_or {v : Value} {k1 k2 : List V → Hp → VK → Prop} (h1 : CallR X v k1) (h2 : CallR X v k2) : CallR X v (fun xs H Q => k1 xs H Q ∨ k2 xs H Q) := fun pins s σ H xs us Q I r h => h.elim (h1 pins s σ H xs us Q I r) (h2 pins s σ H xs us Q I r)
def iOr (a b : TI) : TI := fun σ H R => a σ H R ∨ b σ H R
theorem pi_or {tg e : Expr} {a b : TI} (h1 : PI X tg e a) (h2 : PI X tg e b) : PI X tg e (iOr a b) := ⟨fun pins s σ H R I h => h.elim (h1.run pins s σ H R I) (h2.run pins s σ H R I)⟩
theorem call_bytesQ (hc : X.calm = true) : CallR X (.type "bytes") (fun xs H Q => (∃ p ns, xs = [.ref p] ∧ SqL X.K H p (ns.map V.int) ∧ B8 ns ∧ Q (.byt (byteArr ns)) H) ∨ ∃ p ns, xs = [.ref p] ∧ SqT X.K H p (ns.map V.int) ∧ B8 ns ∧ Q (.byt (byteArr ns)) H) := callR_or (call_bytes_list hc) (call_bytes_tup hc)
theorem pi_enumQ {e : Expr} {ta : TA} {p pos tpos : Pos} {elts : List Expr} {kk : Nat} (hg : Gl X "enumerate") (hm : X.mg "enumerate" = none) (ha : PA X [e] ta) (hs : starEach [e] X.env = [(false, eval e X.env)] := by rfl) :
    PI X (.Tuple elts kk tpos) (.Call (.Name "enumerate" p) [e] [] pos) (iOr (iEnum X.K ta) (iEnumT X.K ta)) := pi_or (pi_enum hg hm ha hs) (pi_enumT hg hm ha hs)
end
section
variable {K : PySem.W.Frag} {σ : St} {c c' : Cs} {f f' : Fs} {P : PV} {te ta tb : TE} {tl : TA} {v x y u : V} {ds : List D}
variable {R : Nat → (Cs → Fs → Prop) → (Nat → V → Cs → Fs → Cs → Fs → Prop) → Cs → Fs → Prop}
theorem iw_or1 {a b : TI} (h : IW K a σ c f R) : IW K (iOr a b) σ c f R := fun H w Q q => .inl (h H w Q q)
theorem iw_or2 {a b : TI} (h : IW K b σ c f R) : IW K (iOr a b) σ c f R := fun H w Q q => .inr (h H w Q q)
theorem rl_or1 {k1 k2 : List V → Hp → VK → Prop} {xs : List V} (h : RLW K k1 xs c f P) : RLW K (fun xs H Q => k1 xs H Q ∨ k2 xs H Q) xs c f P := fun H w Q q => .inl (h H w Q q)
theorem rl_or2 {k1 k2 : List V → Hp → VK → Prop} {xs : List V} (h : RLW K k2 xs c f P) : RLW K (fun xs H Q => k1 xs H Q ∨ k2 xs H Q) xs c f P := fun H w Q q => .inr (h H w Q q)
/-- an enumeration of a variable's list or tuple -/
theorem iw_enumQ {i : Nat} (hx : SeqE K c f x ds) (hv : σ[i]? = some (some x)) (r : ∀ S : Cs → Fs → Prop, S c f → R ds.length S (YE ds) c f) : IW K (iOr (iEnum K (tCons (tVar i) tNil)) (iEnumT K (tCons (tVar i) tNil))) σ c f R := by
  rcases hx with h | h
  · exact iw_or1 (iw_enumL (aw_cons (tw_var hv (aw_nil ⟨x, ds, rfl, h, r (fun c f => Sq K c f x ds) h⟩))))
  · exact iw_or2 (iw_enumT (aw_cons (tw_var hv (aw_nil ⟨x, ds, rfl, h, r (fun _ f => Ent K f x (.tup ds)) h⟩))))
theorem rl_bytesQ {ns : List Int} (h : SeqE K c f x (ns.map D.int)) (hb : B8 ns) (p : P (.byt (byteArr ns)) c f) : RLW K (fun xs H Q => (∃ p ns, xs = [.ref p] ∧ SqL K H p (ns.map V.int) ∧ B8 ns ∧ Q (.byt (byteArr ns)) H) ∨ ∃ p ns, xs = [.ref p] ∧ SqT K H p (ns.map V.int) ∧ B8 ns ∧ Q (.byt (byteArr ns)) H) [x] c f P := by
  rcases h with h | h
  · exact rl_or1 (rl_bytesL h hb p)
  · exact rl_or2 (rl_bytesT h hb p)
/-- lists of no heap -/
theorem Wd.seqf {H : Hp} {us : List V} (w : Wd K c f H) (h : Sq K c f x ds) (hf : ds.map D.v? = us.map some) : ∃ a, x = .ref a ∧ SqL K H a us := by
  obtain ⟨a, ws, e, s, hl, w1⟩ := w.seq h
  have e2 : ws = us := w1.flats Ents.hd hf
  subst e2
  exact ⟨a, e, s⟩
theorem len_flat {us : List V} (hf : ds.map D.v? = us.map some) : us.length = ds.length := by
  have := congrArg List.length hf
  simpa using this.symm
theorem rw_catF {us ws : List V} {es : List D} (h1 : Sq K c f x ds) (h2 : Sq K c f y es) (e1 : ds.map D.v? = us.map some) (e2 : es.map D.v? = ws.map some) (hz : us.length + ws.length ≤ sizeLine) (p : ∀ a, P (.ref a) ((a, .lst (us ++ ws)) :: c) f) : R2W K (rCatQ K) x y c f P := fun H w _ q => by
  obtain ⟨a, ea, s1⟩ := w.seqf h1 e1
  obtain ⟨b, eb, s2⟩ := w.seqf h2 e2
  exact ⟨a, b, us, ws, ea, eb, s1, s2, hz, fun r nr => q _ _ _ _ (p r) (w.new nr)⟩
/-- a cut of such a list, a cell -/
theorem rw_cutF {us : List V} {lo hi : Option Int} (h : Sq K c f x ds) (e : ds.map D.v? = us.map some) (p : ∀ a, P (.ref a) ((a, .lst (cutV us lo hi)) :: c) f) : RLW K (fun _ H Q => rSlL K x lo hi H Q) [] c f P := fun H w _ q => by
  obtain ⟨a, ea, s1⟩ := w.seqf h e
  exact ⟨a, us, ea, s1, fun r nr => q _ _ _ _ (p r) (w.new nr)⟩
theorem flatI {ns : List Int} : (ns.map D.int).map D.v? = (ns.map V.int).map some := by simp [D.v?]
theorem ixN_nat {n : Nat} {i : Int} (h0 : 0 ≤ i) (h1 : i < n) : ixN n i = some i.toNat := by
  unfold ixN
  rw [if_pos h0, if_pos h1]
theorem bw_yes {B : PB} (p : B true c f) : BW K tYes σ c f B := fun H w Q q => q _ _ _ _ p w
theorem b8_nil : B8 [] := fun n h => by cases h
theorem b8_one {n : Int} (h : 0 ≤ n ∧ n ≤ 255) : B8 [n] := fun m hm => by
  have e : m = n := by simpa using hm
  omega
end
end FR

set_option Elab.async false
set_option linter.all false
set_option maxRecDepth 100000
set_option maxHeartbeats 2000000
/-! Facts that grow; equality of data. -/
namespace FR
open PySem PySem.Spec L2
open PyProof.Rows hiding St

section
variable {K : PySem.W.Frag} {σ : St} {c c' : Cs} {f f' f'' : Fs} {P : PV} {v x y u : V} {vs us : List V} {d e : D} {ds es : List D} {g : List V × List D}
/-- f' tells all that f does -/
def Ext (K : PySem.W.Frag) (f f' : Fs) : Prop := ∀ G, Ok K G f' → Ok K G f
theorem Ext.refl : Ext K f f := fun _ o => o
theorem Ext.trans (h : Ext K f f') (k : Ext K f' f'') : Ext K f f'' := fun G o => h G (k G o)
theorem Ext.cons (h : Ext K f f') : Ext K f (g :: f') := fun G o => h G o.tl
theorem Ext.one : Ext K f (g :: f) := fun _ o => o.tl
theorem Ext.two {g2 : List V × List D} : Ext K f (g :: g2 :: f) := fun _ o => o.tl.tl
theorem Ext.ents (h : Ext K f f') (k : Ents K f vs ds) : Ents K f' vs ds := fun G o => k G (h G o)
theorem Ext.ent (h : Ext K f f') (k : Ent K f v d) : Ent K f' v d := fun G o => k G (h G o)
theorem Ext.wk (h : Ext K f f') : Wk K c f' c f := fun H ⟨G, e, k, n, o⟩ => ⟨G, e, k, n, h G o⟩
theorem Ext.tab {q : Str} {ps : Array Value} (h : Ext K f f') (k : TabW K f q ps) : TabW K f' q ps := ⟨k.1, fun pos cv e => let ⟨c, e1, e2⟩ := k.2 pos cv e; ⟨c, e1, h.ent e2⟩⟩
theorem Ext.add (k : Ents K f' vs ds) (h : Ext K f f') : Ext K ((vs, ds) :: f) f' := fun G o => Ok.cons (k G o) (h G o)
theorem Ext.up (h : Ext K f f') : Ext K (g :: f) (g :: f') := fun G o => Ok.cons o.hd (h G o.tl)
theorem Fin.ext (h : Ext K f f') (p : Fin K P v c f) : Fin K P v c f' := p.wk h.wk
end
theorem SW.len {K : PySem.W.Frag} {ts : TS} {σ : St} {c : Cs} {f : Fs} {E : EW} {vs : List V} {ds : List D} (h : Ents K f vs ds) (k : vs.length = ds.length → SW K ts σ c f E) : SW K ts σ c f E := fun H w => k (w.len h) H w
/-! ### equality of data -/
theorem eq_lst {n : Nat} {xs ys : List D} : D.eq? (n + 1) (.lst xs) (.lst ys) = if xs.length = ys.length then eqsBy (D.eq? n) xs ys else some false := rfl
theorem eq_tup {n : Nat} {xs ys : List D} : D.eq? (n + 1) (.tup xs) (.tup ys) = if xs.length = ys.length then eqsBy (D.eq? n) xs ys else none := rfl
/-- data that is equal to itself -/
def D.fine : Nat → D → Bool
  | 0, _ => false
  | n + 1, d => match d with
    | .non | .bl _ | .int _ | .str _ | .byt _ => true
    | .lst ds => ds.all (D.fine n)
    | .tup ds => ds.all (D.fine n)
    | _ => false
theorem eq_self : ∀ {n : Nat} {d : D}, d.fine n = true → D.eq? n d d = some true
  | 0, _, h => by cases h
  | n + 1, d, h => by
    cases d with
    | non => rfl
    | bl b => exact congrArg some (beq_self_eq_true b)
    | int b => exact congrArg some (beq_self_eq_true b)
    | str b => exact congrArg some (beq_self_eq_true b)
    | byt b => exact congrArg some (beq_self_eq_true b.toList)
    | lst ds =>
      rw [eq_lst, if_pos rfl]
      exact eqsBy_refl fun e he => eq_self (List.all_eq_true.mp (show ds.all (D.fine n) = true from h) e he)
    | tup ds =>
      rw [eq_tup, if_pos rfl]
      exact eqsBy_refl fun e he => eq_self (List.all_eq_true.mp (show ds.all (D.fine n) = true from h) e he)
    | _ => cases h
theorem eqsI {n : Nat} : ∀ (ns ms : List Int), ns.length = ms.length → eqsBy (D.eq? (n + 1)) (ns.map D.int) (ms.map D.int) = some (decide (ns = ms))
  | [], [], _ => rfl
  | [], _ :: _, h => by cases h
  | _ :: _, [], h => by cases h
  | a :: ns, b :: ms, h => by
    have ih := eqsI (n := n) ns ms (by simpa using h)
    have h0 : D.eq? (n + 1) (.int a) (.int b) = some (a == b) := rfl
    show (match D.eq? (n + 1) (.int a) (.int b), eqsBy (D.eq? (n + 1)) (ns.map D.int) (ms.map D.int) with
      | some a, some b => some (a && b)
      | _, _ => none) = _
    rw [ih, h0]
    by_cases e : a = b
    · subst e
      simp
    · have e2 : (a == b) = false := by simpa using e
      simp [e, e2]
theorem eqI {n : Nat} (ns ms : List Int) : D.eq? (n + 2) (.lst (ns.map D.int)) (.lst (ms.map D.int)) = some (decide (ns = ms)) := by
  rw [eq_lst, List.length_map, List.length_map]
  by_cases h : ns.length = ms.length
  · rw [if_pos h, eqsI ns ms h]
  · rw [if_neg h, decide_eq_false (fun e => h (by rw [e]))]
theorem inV_int {n : Int} : ∀ {ns : List Int}, inV (.int n) (ns.map V.int) = decide (n ∈ ns)
  | [] => rfl
  | m :: ns => by
    have ih := inV_int (n := n) (ns := ns)
    have e : inV (.int n) ((m :: ns).map V.int) = ((m == n) || inV (.int n) (ns.map V.int)) := rfl
    rw [e, ih]
    by_cases h : m = n
    · subst h
      simp
    · have e2 : (m == n) = false := by simpa using h
      have e3 : ¬ n = m := fun z => h z.symm
      simp [e2, e3]
theorem idx_int : ∀ {ns : List Int} {n : Int}, n ∈ ns → (ns.map V.int)[ns.idxOf n]? = some (V.int n) ∧ (∀ (m : Nat) (z : V), m < ns.idxOf n → (ns.map V.int)[m]? = some z → eqV z (.int n) = false) ∧ ns.idxOf n < ns.length
  | [], _, h => by cases h
  | a :: ns, n, h => by
    by_cases e : a = n
    · subst e
      have q : (a :: ns).idxOf a = 0 := List.idxOf_cons_self
      rw [q]
      exact ⟨rfl, fun m z hm => by omega, by simp⟩
    · have hn : n ∈ ns := by
        rcases List.mem_cons.mp h with z | z
        · exact absurd z.symm e
        · exact z
      obtain ⟨h1, h2, h3⟩ := idx_int hn
      have q : (a :: ns).idxOf n = ns.idxOf n + 1 := by
        rw [List.idxOf_cons, show (a == n) = false by simpa using e] <;> rfl
      rw [q]
      refine ⟨by simpa using h1, fun m z hm hz => ?_, by simpa using h3⟩
      cases m with
      | zero =>
        have ez : V.int a = z := by simpa using hz
        subst ez
        show (a == n) = false
        simpa using e
      | succ m => exact h2 m z (by omega) (by simpa using hz)
section
variable {K : PySem.W.Frag} {c : Cs} {f : Fs} {P : PV} {x : V} {ns : List Int} {n : Int}
theorem rm_indexI (h : Sq K c f x (ns.map D.int)) (hn : n ∈ ns) (p : P (.int (ns.idxOf n : Nat)) c f) : RMW K (rIndex K) x [.int n] c f P :=
  rm_index h flatI rfl (by simp [flatV]) (idx_int hn).1 (by show (n == n) = true; simp) (idx_int hn).2.1 p
theorem rw_inI {neg : Bool} (h : Sq K c f x (ns.map D.int)) (p : P (.bl (if neg then !decide (n ∈ ns) else decide (n ∈ ns))) c f) : R2W K (rIn K neg) (.int n) x c f P := rw_in h flatI rfl (by simp [flatV]) (by rw [inV_int]; exact p)
end
theorem log_small {i : Int} (h : i.natAbs < 2 ^ 64) : i.natAbs.log2 < 1920 := Nat.lt_trans (PySem.Flt.log2_lt_of (by decide : 0 < 64) h) (by decide)
theorem atI_last {α : Type} {xs : List α} {y : α} : atI (xs ++ [y]) (-1) = some y := by
  have e : ixN (xs ++ [y]).length (-1) = some xs.length := by
    unfold ixN
    have hl : (xs ++ [y]).length = xs.length + 1 := by simp
    rw [hl, if_neg (by omega), if_pos (by omega)]
    exact congrArg some (by omega)
  show (ixN (xs ++ [y]).length (-1)).bind (fun j => (xs ++ [y])[j]?) = _
  rw [e]
  simp
theorem cutD_init {α : Type} {xs : List α} {y : α} : cutD (xs ++ [y]) none (some (-1)) = xs := by
  have e1 : HT.sIx (xs ++ [y]).length 0 none = 0 := rfl
  have e2 : HT.sIx (xs ++ [y]).length (xs ++ [y]).length (some (-1)) = xs.length := by
    unfold HT.sIx
    simp
    omega
  unfold cutD
  rw [e1, e2, List.drop_zero, Nat.sub_zero, List.take_left]
/-! ### lists of ints that stay -/
theorem cutD_map {α β : Type} {g : α → β} {xs : List α} {lo hi : Option Int} : cutD (xs.map g) lo hi = (cutD xs lo hi).map g := by
  unfold cutD
  rw [List.length_map, List.map_take, List.map_drop]
theorem cutD_len {α : Type} {xs : List α} {lo hi : Option Int} : (cutD xs lo hi).length ≤ xs.length := by
  unfold cutD
  exact Nat.le_trans (List.length_take_le' _ _) (by rw [List.length_drop]; omega)
theorem cutD_b8 {ns : List Int} {lo hi : Option Int} (h : B8 ns) : B8 (cutD ns lo hi) := fun n hn => h n (List.mem_of_mem_drop (List.mem_of_mem_take hn))
section
variable {K : PySem.W.Frag} {c : Cs} {f : Fs} {P : PV} {σ : St} {x y v : V} {ns ms : List Int} {tl : TA} {te : TE} {L : PL} {c' : Cs} {f' : Fs}
theorem rw_cutLI {lo hi : Option Int} (h : Sq K c f x (.map D.int ns)) (p : ∀ v, P v c (([v], [.lst ((cutD ns lo hi).map D.int)]) :: f)) : RLW K (fun _ H Q => rSlL K x lo hi H Q) [] c f P := rw_cutL h (by
  rw [cutD_map]
  exact p)
theorem rw_catI (h1 : Sq K c f x (ns.map D.int)) (h2 : Sq K c f y (ms.map D.int)) (hz : ns.length + ms.length ≤ sizeLine) (p : ∀ v, P v c (([v], [.lst ((ns ++ ms).map D.int)]) :: f)) : R2W K (rCatQ K) x y c f P := rw_cat h1 h2 (by rw [List.length_map, List.length_map]; exact hz) (by
  rw [← List.map_append]
  exact p)
theorem AW.wk (h : Wk K c f c' f') (k : AW K tl σ c' f' L) : AW K tl σ c f L := fun H w => k H (h H w)
end
theorem sz {n : Nat} (h : n ≤ 10000) : n ≤ sizeLine := Nat.le_trans h (by decide)
theorem rep_flat {n : Nat} : (List.replicate n [V.int 0]).flatten = (List.replicate n (0 : Int)).map V.int := by
  induction n with
  | zero => rfl
  | succ n ih =>
    rw [List.replicate_succ, List.flatten_cons, ih, List.replicate_succ] <;> rfl
theorem cutD_to {α : Type} {xs : List α} {i : Int} (h0 : 0 ≤ i) (h1 : i ≤ xs.length) : cutD xs none (some i) = xs.take i.toNat := by
  have e1 : HT.sIx xs.length 0 none = 0 := rfl
  have e2 : HT.sIx xs.length xs.length (some i) = i.toNat := by
    show (if i < 0 then (i + (xs.length : Int)).toNat else min i.toNat xs.length) = i.toNat
    rw [if_neg (by omega)]
    omega
  unfold cutD
  rw [e1, e2, List.drop_zero, Nat.sub_zero]
end FR

set_option Elab.async false
set_option linter.all false
set_option maxRecDepth 100000
set_option maxHeartbeats 2000000
/-! The text of bytes. -/
namespace FR
open PySem PySem.Spec L2
open PyProof.Rows hiding St

theorem slot_brepr : Slot "bytes" "__repr__" "bytes.__repr__" :=
  .of (owner := "bytes") (n := "__repr__") (by rw [typeLookup_type, builtinLookup_eq_fast]; kernel_rfl) (by decide +kernel) (by decide +kernel) (by decide +kernel)
    (by first | exact .inl (by decide +kernel) | exact .inr (by decide +kernel)) (by rw [isSubtype_type]; kernel_rfl)
theorem entry_brepr : entryFor table "bytes.__repr__" = some Builtin.«bytes.__repr__» := entryFor_of_tree (by kernel_rfl)
theorem args_brepr (a : Value) : argsOk "bytes.__repr__" ⟨[a], []⟩ := by
  unfold argsOk
  kernel_rfl
theorem call_repr_b {X : Cx} {z : Array UInt8} {y : Str} (hg : ∀ t, Gives (Builtin.«bytes.__repr__» ⟨[.bytes z t], []⟩) (.str y)) (hy : y.length ≤ sizeLine) : CallR X (.builtin "repr") (fun xs H Q => xs = [.byt z] ∧ Q (.str y) H) := by
  intro pins s σ H xs us Q I r ⟨e, q⟩
  subst e
  obtain ⟨u, rfl, t, rfl⟩ := vals1 r
  exact call_repr_gives (PySem.W.typeIs_bytes s z t) slot_brepr entry_brepr (args_brepr _) (hg t) ⟨.str y, H, I.tok _, ⟨_, rfl⟩, q⟩ (hx := hy)
end FR

set_option Elab.async false
set_option linter.all false
set_option maxRecDepth 100000
set_option maxHeartbeats 2000000
/-! The end: what the head's facts give. -/
namespace FR
open PySem PySem.Spec L2
open PyProof.Rows hiding St
def oexB (K : PySem.W.Frag) (C : Addr) : Bool := match K.lookup C with
  | some ⟨.type "type", _, .cls cd, sl⟩ => (match cd.mro, sl.toList with
    | .ref C' :: bm, [_, _, _, _, some (.builtin n), _] => C' == C && n == "ValueError.__new__" && !cd.hasDel && cd.hasDict && PySem.HandSPX.refsVE bm
    | _, _ => false)
  | _ => false
theorem oexB_ok {K : PySem.W.Frag} {C : Addr} (q : oexB K C = true) : ∃ nm q N bs bm sn sub ab col dd k0 k1 k2 k3 k5, K.lookup C = some (excClassObj nm q C N bs bm true sn sub ab col dd k0 k1 k2 k3 k5 "ValueError.__new__") ∧ PySem.HandSPX.refsVE bm = true := by
  unfold oexB at q
  split at q
  · rename_i dd cd sl ho
    split at q
    · rename_i C' bm k0 k1 k2 k3 n k5 hm hs
      simp only [Bool.and_eq_true, beq_iff_eq, Bool.not_eq_true'] at q
      obtain ⟨⟨⟨⟨rfl, rfl⟩, hdel⟩, hdic⟩, hr⟩ := q
      obtain ⟨nm, bs, mro, ns, qn, hd, sn, sub, ab, col, del⟩ := cd
      dsimp only at hm hdel hdic
      subst hm hdel hdic
      have hsl : sl = #[k0, k1, k2, k3, some (.builtin "ValueError.__new__"), k5] := by
        obtain ⟨l⟩ := sl
        simp only at hs
        rw [hs]
      subst hsl
      exact ⟨nm, qn, ns, bs, bm, sn, sub, ab, col, dd, k0, k1, k2, k3, k5, ho, hr⟩
    · cases q
  · cases q
/-- an own exception class with an __init__ of its own -/
def exX (K : PySem.W.Frag) (x : Str) : Bool := oexB K (He.ga K x) && (decide (PySem.W.findIn K (.ref (He.ga K x)) "__setattr__" = some (some (.builtin "object.__setattr__"))) && (decide (PySem.W.subIn K (.ref (He.ga K x)) (.type "BaseException") = some true) && (decide (PySem.W.typeIn K (.ref (He.ga K x)) = some (.type "type")) &&
  (PySem.W.keepIn K (.ref (He.ga K x)) && (xfB K (He.ga K x) && (decide (PySem.W.findIn K (.ref (He.ga K x)) "__init__" = some (some (.ref (He.ma K (He.ga K x) "__init__")))) && decide (PySem.W.typeIn K (.ref (He.ma K (He.ga K x) "__init__")) = some (.type "function"))))))))
theorem ex1_of {K : PySem.W.Frag} {mg : Str → Option Value} {x : Str} {st : Stmt} {ps : List Str} {fd : FuncData} (g : mg x = some (.ref (He.ga K x))) (c : exX K x = true) (F : FnS K "__init__" (x ++ ".__init__") st (He.ma K (He.ga K x) "__init__") fd) (b : Binds K fd ps []) : ∃ E : Ex1 K mg x st ps, E.C = He.ga K x := by
  obtain ⟨h1, c⟩ := He.ba c
  obtain ⟨h2, c⟩ := He.ba c
  obtain ⟨h3, c⟩ := He.ba c
  obtain ⟨h4, c⟩ := He.ba c
  obtain ⟨h5, c⟩ := He.ba c
  obtain ⟨h6, c⟩ := He.ba c
  obtain ⟨h7, h8⟩ := He.ba c
  exact ⟨⟨_, _, fd, F, b, g, ⟨oexB_ok h1, of_decide_eq_true h2, of_decide_eq_true h3, of_decide_eq_true h4, h5⟩, xfB_ok h6, of_decide_eq_true h7, of_decide_eq_true h8⟩, rfl⟩
theorem codeA_eq {K : PySem.W.Frag} {p : Str × Option Str} : He.codeOf K p = codeA K (He.fAd K p) := rfl
end FR

set_option Elab.async false
set_option linter.all false
set_option maxRecDepth 100000
set_option maxHeartbeats 2000000
namespace FR
open PySem PySem.Spec L2
open PyProof.Rows hiding St
/-! ### the text -/
def topS (i : Nat) : Stmt := PySem.Challenge.pw_forestrows_k46_keys_and_their_labels.main.body.getD i (.Pass ⟨0, 0, 0, 0⟩)
abbrev st_NoKey_init : Stmt := inClass (topS 3) 0
theorem sc_NoKey_init : FnScope ["self", "place"] ["self", "place"] (defScope st_NoKey_init) := ⟨rfl, rfl, rfl, by decide +kernel, rfl, by decide +kernel, by decide +kernel⟩
abbrev st_is_integer : Stmt := topS 5
theorem sc_is_integer : FnScope ["thing"] ["thing"] (defScope st_is_integer) := ⟨rfl, rfl, rfl, by decide +kernel, rfl, by decide +kernel, by decide +kernel⟩
abbrev st_is_sequence : Stmt := topS 6
theorem sc_is_sequence : FnScope ["thing"] ["thing"] (defScope st_is_sequence) := ⟨rfl, rfl, rfl, by decide +kernel, rfl, by decide +kernel, by decide +kernel⟩
abbrev st_key_fault : Stmt := topS 8
theorem sc_key_fault : FnScope ["key", "place", "number"] ["key"] (defScope st_key_fault) := ⟨rfl, rfl, rfl, by decide +kernel, rfl, by decide +kernel, by decide +kernel⟩
abbrev st_cut_key : Stmt := topS 9
theorem sc_cut_key : FnScope ["key", "found", "begin", "place", "number"] ["key"] (defScope st_cut_key) := ⟨rfl, rfl, rfl, by decide +kernel, rfl, by decide +kernel, by decide +kernel⟩
abbrev st_split_key : Stmt := topS 10
theorem sc_split_key : FnScope ["key", "fault"] ["key"] (defScope st_split_key) := ⟨rfl, rfl, rfl, by decide +kernel, rfl, by decide +kernel, by decide +kernel⟩
abbrev st_bytes_of : Stmt := topS 11
theorem sc_bytes_of : FnScope ["numbers", "place", "number"] ["numbers"] (defScope st_bytes_of) := ⟨rfl, rfl, rfl, by decide +kernel, rfl, by decide +kernel, by decide +kernel⟩
abbrev st_numbers_of : Stmt := topS 12
theorem sc_numbers_of : FnScope ["data"] ["data"] (defScope st_numbers_of) := ⟨rfl, rfl, rfl, by decide +kernel, rfl, by decide +kernel, by decide +kernel⟩
abbrev st_law_rng : Stmt := topS 14
theorem sc_law_rng : FnScope ["_law_cell"] ["_law_cell"] (defScope st_law_rng) := ⟨rfl, rfl, rfl, by decide +kernel, rfl, by decide +kernel, by decide +kernel⟩
abbrev st_law_draw : Stmt := topS 15
theorem sc_law_draw : FnScope ["_law_rng_here", "_law_limit", "_law_digit", "_law_mixed"] ["_law_rng_here", "_law_limit"] (defScope st_law_draw) := ⟨rfl, rfl, rfl, by decide +kernel, rfl, by decide +kernel, by decide +kernel⟩
abbrev st_law_pick : Stmt := topS 16
theorem sc_law_pick : FnScope ["_law_rng_here", "_law_items"] ["_law_rng_here", "_law_items"] (defScope st_law_pick) := ⟨rfl, rfl, rfl, by decide +kernel, rfl, by decide +kernel, by decide +kernel⟩
abbrev st_law_label : Stmt := topS 17
theorem sc_law_label : FnScope ["_law_rng_here", "_law_ahead", "_law_turn"] ["_law_rng_here"] (defScope st_law_label) := ⟨rfl, rfl, rfl, by decide +kernel, rfl, by decide +kernel, by decide +kernel⟩
abbrev st_law_said : Stmt := topS 18
theorem sc_law_said : FnScope ["_law_call", "_law_found", "e"] ["_law_call"] (defScope st_law_said) := ⟨rfl, rfl, rfl, by decide +kernel, rfl, by decide +kernel, by decide +kernel⟩
abbrev st_law_due : Stmt := topS 19
theorem sc_law_due : FnScope ["_law_numbers", "_law_found", "_law_number", "_law_label_here"] ["_law_numbers"] (defScope st_law_due) := ⟨rfl, rfl, rfl, by decide +kernel, rfl, by decide +kernel, by decide +kernel⟩
abbrev st_law_right : Stmt := topS 20
theorem sc_law_right : FnScope ["_law_rng_here", "_law_numbers", "_law_turn", "_law_at", "_law_odd", "_law_some", "_law_one", "_law_data", "_law_strange"] ["_law_rng_here"] (defScope st_law_right) := ⟨rfl, rfl, rfl, by decide +kernel, rfl, by decide +kernel, by decide +kernel⟩
def lm_law_right_0 : Lam := lamE (eAt (exE (eAt (exE (eAt (stE (sAt (stS (sAt (defBody st_law_right) 4)) 2)) 0)) 0)) 1) [] []
theorem ok_lm_law_right_0 : LamOk ["_law_rng_here", "_law_numbers", "_law_turn", "_law_at", "_law_odd", "_law_some", "_law_one", "_law_data", "_law_strange"] lm_law_right_0 := ⟨rfl, rfl, rfl, by decide +kernel, by decide +kernel, by decide +kernel, rfl, lamBind0 rfl rfl fun _ _ _ _ _ _ => rfl⟩
theorem seen_lm_law_right_0 : Seen (defScope st_law_right) lm_law_right_0.scope := seen_by (by decide +kernel)
def lm_law_right_1 : Lam := lamE (eAt (exE (eAt (exE (eAt (stE (sAt (defBody st_law_right) 6)) 0)) 0)) 1) [] []
theorem ok_lm_law_right_1 : LamOk ["_law_rng_here", "_law_numbers", "_law_turn", "_law_at", "_law_odd", "_law_some", "_law_one", "_law_data", "_law_strange"] lm_law_right_1 := ⟨rfl, rfl, rfl, by decide +kernel, by decide +kernel, by decide +kernel, rfl, lamBind0 rfl rfl fun _ _ _ _ _ _ => rfl⟩
theorem seen_lm_law_right_1 : Seen (defScope st_law_right) lm_law_right_1.scope := seen_by (by decide +kernel)
abbrev st_law : Stmt := topS 21
theorem sc_law : FnScope ["_law_script", "_law_cell", "_law_rng_here", "_law_turn", "_law_odd", "_law_calls", "_law_one"] ["_law_script"] (defScope st_law) := ⟨rfl, rfl, rfl, by decide +kernel, rfl, by decide +kernel, by decide +kernel⟩
def lm_law_0 : Lam := lamE (eAt (exE (eAt (stE (sAt (stS (sAt (defBody st_law) 1)) 0)) 0)) 0) [] []
theorem ok_lm_law_0 : LamOk ["_law_script", "_law_cell", "_law_rng_here", "_law_turn", "_law_odd", "_law_calls", "_law_one"] lm_law_0 := ⟨rfl, rfl, rfl, by decide +kernel, by decide +kernel, by decide +kernel, rfl, lamBind0 rfl rfl fun _ _ _ _ _ _ => rfl⟩
theorem seen_lm_law_0 : Seen (defScope st_law) lm_law_0.scope := seen_by (by decide +kernel)
def lm_law_1 : Lam := lamE (eAt (exE (eAt (stE (sAt (stS (sAt (defBody st_law) 1)) 0)) 0)) 1) [V.int 0] ["_law_a"]
theorem ok_lm_law_1 : LamOk ["_law_script", "_law_cell", "_law_rng_here", "_law_turn", "_law_odd", "_law_calls", "_law_one"] lm_law_1 := ⟨rfl, rfl, rfl, by decide +kernel, by decide +kernel, by decide +kernel, rfl, lamBind1 rfl rfl fun _ _ _ _ _ _ _ _ => ⟨_, rfl, rfl⟩⟩
theorem seen_lm_law_1 : Seen (defScope st_law) lm_law_1.scope := seen_by (by decide +kernel)
def lm_law_2 : Lam := lamE (eAt (exE (eAt (exE (eAt (stE (sAt (stS (sAt (defBody st_law) 2)) 0)) 0)) 0)) 1) [] []
theorem ok_lm_law_2 : LamOk ["_law_script", "_law_cell", "_law_rng_here", "_law_turn", "_law_odd", "_law_calls", "_law_one"] lm_law_2 := ⟨rfl, rfl, rfl, by decide +kernel, by decide +kernel, by decide +kernel, rfl, lamBind0 rfl rfl fun _ _ _ _ _ _ => rfl⟩
theorem seen_lm_law_2 : Seen (defScope st_law) lm_law_2.scope := seen_by (by decide +kernel)
structure Txt (K : PySem.W.Frag) (mg : Str → Option Value) where
  NoKey : Ex1 K mg "NoKey" st_NoKey_init ["self", "place"]
  is_integer : Fn1 K mg "is_integer" st_is_integer ["thing"]
  is_sequence : Fn1 K mg "is_sequence" st_is_sequence ["thing"]
  key_fault : Fn1 K mg "key_fault" st_key_fault ["key"]
  cut_key : Fn1 K mg "cut_key" st_cut_key ["key"]
  split_key : Fn1 K mg "split_key" st_split_key ["key"]
  bytes_of : Fn1 K mg "bytes_of" st_bytes_of ["numbers"]
  numbers_of : Fn1 K mg "numbers_of" st_numbers_of ["data"]
  law_rng : Fn1 K mg "_law_rng" st_law_rng ["_law_cell"]
  law_draw : Fn1 K mg "_law_draw" st_law_draw ["_law_rng_here", "_law_limit"]
  law_pick : Fn1 K mg "_law_pick" st_law_pick ["_law_rng_here", "_law_items"]
  law_label : Fn1 K mg "_law_label" st_law_label ["_law_rng_here"]
  law_said : Fn1 K mg "_law_said" st_law_said ["_law_call"]
  law_due : Fn1 K mg "_law_due" st_law_due ["_law_numbers"]
  law_right : Fn1 K mg "_law_right" st_law_right ["_law_rng_here"]
  law : Fn1 K mg "law" st_law ["_law_script"]
  NoKey_place : PySem.W.findIn K (.ref NoKey.C) "place" = some none
  n_abs : mg "abs" = none
  n_bool : mg "bool" = none
  n_bytes : mg "bytes" = none
  n_enumerate : mg "enumerate" = none
  n_int : mg "int" = none
  n_isinstance : mg "isinstance" = none
  n_len : mg "len" = none
  n_list : mg "list" = none
  n_range : mg "range" = none
  n_repr : mg "repr" = none
  n_tuple : mg "tuple" = none
  ForestError : Cl1 mg "ForestError"
  te : PySem.W.exmOne K (.ref NoKey.C) (.ref NoKey.C) = some true
local macro_rules | `(tactic| walk_at "ent") => `(tactic| first | assumption | exact Ent.hd | exact Ent.flat rfl | (refine Ent.tl ?_; walk_at "ent"))
local macro_rules | `(tactic| walk_at "has") => `(tactic| first | assumption | exact Has.hd | exact Has.again (by assumption) _ | (refine Has.tl ?_; walk_at "has"))
local macro_rules | `(tactic| walk_at "go1") => `(tactic| first
  | with_reducible refine sw_seq ?_ | with_reducible refine sw_if ?_ | with_reducible refine sw_ret ?_ | with_reducible refine sw_set ?_ | with_reducible refine sw_next ?_ | with_reducible refine sw_retN ?_ | with_reducible refine sw_drop ?_ | with_reducible refine sw_brk ?_ | with_reducible refine sw_cont ?_
  | with_reducible refine bw_test ?_ | with_reducible refine bw_val ?_ | with_reducible refine bw_and ?_ | with_reducible refine bw_or ?_ | with_reducible refine bw_not ?_
  | with_reducible refine tw_op ?_ | with_reducible refine tw_c ?_ | with_reducible refine tw_cb ?_ | with_reducible refine aw_cons ?_ | with_reducible refine aw_nil ?_ | with_reducible refine tw_not ?_ | with_reducible refine tw_and ?_ | with_reducible refine tw_or ?_ | with_reducible refine tw_un ?_ | with_reducible refine tw_if ?_ | with_reducible refine tw_sl ?_ | with_reducible refine ow_none ?_ | with_reducible refine ow_some ?_
  | with_reducible refine tw_call ?_ | with_reducible refine rw_I0 ?_ | with_reducible refine rw_U ?_
  | refine tw_var rfl ?_)
local macro_rules | `(tactic| walk_at "go") => `(tactic| repeat (walk_at "go1"))
local macro_rules | `(tactic| walk_at "ar1") => `(tactic| first
  | walk_at "go1" | refine rl_int ?_ | refine rw_ixC (by assumption) rfl ?_
  | refine rw_I (show CPow _ _ from ⟨by decide, by decide, by decide⟩) ?_
  | refine rw_I (show CMul _ _ from .inr ⟨by decide, by decide⟩) ?_ | refine rw_I (show CMul _ _ from .inl ⟨by decide, by decide⟩) ?_
  | refine rw_I (show CDivW _ _ from wide_div (b := 64) (by decide) (by decide) (by decide) (by decide)) ?_
  | refine rw_I (show (0 : Int) < _ from by first | decide | assumption) ?_
  | refine rw_I (show CMul _ _ from .inl ⟨by omega, by omega⟩) ?_)
local macro_rules | `(tactic| walk_at "ar") => `(tactic| repeat (walk_at "ar1"))
local macro_rules | `(tactic| walk_at "ext") => `(tactic| first | assumption | exact Ext.refl | (refine Ext.cons ?_; walk_at "ext"))
section
variable {Pr : Program} {w : World} {K : PySem.W.Frag} {mg : Str → Option Value} {base : Heap}
/-! ### the package -/
abbrev fsKey : List V → List (Str × V) := fun xs => match xs with | [v] => [("place", v)] | _ => []
theorem ok_NoKey_init (T : Txt K mg) : FnOk Pr w K mg base CX0 1 T.NoKey.f T.NoKey.fd ["self", "place"] (spI T.NoKey.C 1 fsKey) := by
  refine FunD.okC T.NoKey.F sc_NoKey_init (fun vs H Q E h => spI_len h) fun A outer s H vs Q E hr h => ⟨_, PSs.nox (pss_one (ps_ost (pv 0) (pv 1))), ?_⟩
  have e : start ["self", "place"] vs = vs.map some := by
    show vs.map some ++ List.replicate (2 - vs.length) none = _
    rw [spI_len h, List.replicate_zero, List.append_nil]
  rw [e]
  exact init1 T.NoKey.oex T.NoKey_place h fun _ _ q => q
/-- isinstance(x, int) and not isinstance(x, bool) -/
def S_is_integer (K : PySem.W.Frag) : SpW := fun vs c f P _ => ∃ x d t, vs = [x] ∧ EntH K c f x d ∧ d.tyn = some t ∧ P (.bl (t == "int")) c f
theorem int_test (t : String) : (isaB t "int" && !isaB t "bool") = (t == "int") := by
  by_cases h1 : t = "int"
  · subst h1
    rfl
  · by_cases h2 : t = "bool"
    · subst h2
      rfl
    · have e1 : (t == "int") = false := by simpa using h1
      have e2 : (t == "bool") = false := by simpa using h2
      unfold isaB
      rw [e1, e2] <;> rfl
theorem ok_is_integer (T : Txt K mg) : FnOk Pr w K mg base CX0 1 T.is_integer.f T.is_integer.fd ["thing"] (mkSp K (S_is_integer K)) := by
  refine fnD T.is_integer.F sc_is_integer (fun vs c f P X ⟨x, d, t, e, _⟩ => by rw [e]; rfl) fun A outer s H XE hr => ⟨_, (pss_one (ps_ret (pe_and (pe_callB call_isi (by rfl) T.n_isinstance (by decide +kernel) (pa_cons (pv 0) (pa_cons (pe_bltn (v := .ty "int") (by rfl) T.n_int (by decide +kernel) rfl) pa_nil))) (pe_one (pe_not (pe_callB call_isi (by rfl) T.n_isinstance (by decide +kernel) (pa_cons (pv 0) (pa_cons (pe_bltn (v := .ty "bool") (by rfl) T.n_bool (by decide +kernel) rfl) pa_nil)))))))), fun vs c f P X ⟨x, d, t, e, hx, ht, q⟩ => ?_⟩
  subst e
  rw [← int_test] at q
  walk_at "go"
  refine rl_isi1 hx ht (by decide) ⟨_, rfl, if2 (fun h => ?_) fun h => ?_⟩
  · rw [h] at q
    walk_at "go"
    exact rl_isi1 hx ht (by decide) ⟨_, rfl, Fin.of q⟩
  · rw [h] at q
    exact Fin.of q
/-- isinstance(x, (list, tuple)) -/
def S_is_sequence (K : PySem.W.Frag) : SpW := fun vs c f P _ => ∃ x d t, vs = [x] ∧ EntH K c f x d ∧ d.tyn = some t ∧ P (.bl (t == "list" || t == "tuple")) c f
theorem seq_test (t : String) : (isaB t "list" || isaB t "tuple") = (t == "list" || t == "tuple") := by
  unfold isaB
  rw [show ("list" == "int") = false from by decide, show ("tuple" == "int") = false from by decide, Bool.and_false, Bool.or_false, Bool.or_false]
theorem ok_is_sequence (T : Txt K mg) : FnOk Pr w K mg base CX0 1 T.is_sequence.f T.is_sequence.fd ["thing"] (mkSp K (S_is_sequence K)) := by
  refine fnD T.is_sequence.F sc_is_sequence (fun vs c f P X ⟨x, d, t, e, _⟩ => by rw [e]; rfl) fun A outer s H XE hr => ⟨_, (pss_one (ps_ret (pe_callB call_isiT (by rfl) T.n_isinstance (by decide +kernel) (pa_cons (pv 0) (pa_cons (pe_tup (pa_cons (pe_bltn (v := .ty "list") (by rfl) T.n_list (by decide +kernel) rfl) (pa_cons (pe_bltn (v := .ty "tuple") (by rfl) T.n_tuple (by decide +kernel) rfl) pa_nil))) pa_nil))))), fun vs c f P X ⟨x, d, t, e, hx, ht, q⟩ => ?_⟩
  subst e
  rw [← seq_test] at q
  walk_at "go"
  refine tw_tupC ?_
  walk_at "go"
  refine ⟨by decide, fun p => ?_⟩
  walk_at "go"
  exact rl_isi2 hx.dropC ht Has.hd (by decide) (by decide) (Fin.of q).dropC
/-- where a key's fault is -/
def faultAt (z : List Int) : Option Int := if z = [] then some (-1) else if 0 ∈ z then some (z.idxOf 0 : Nat) else if z.getLastD 0 % 2 = 1 then some (z.length : Nat) else none
def faultV (z : List Int) : V := match faultAt z with | none => .non | some i => .int i
theorem bi_size {z : Array UInt8} : (bi z).length = z.size := bi_len z
theorem getLast_bi {z : Array UInt8} {u : UInt8} {j : Nat} (hj : j + 1 = z.size) (hu : z[j]? = some u) : (bi z).getLastD 0 = ((u.toNat : Nat) : Int) := by
  have h1 : (bi z)[j]? = some ((u.toNat : Nat) : Int) := PySem.W.KBw.ints_get hu
  have h2 : (bi z).length = j + 1 := by rw [bi_len, hj]
  rw [List.getLastD_eq_getLast?, List.getLast?_eq_getElem?, h2, Nat.add_sub_cancel, h1] <;> rfl
theorem idxOf_first : ∀ {l : List Int} {a : Int} {i : Nat}, l[i]? = some a → (∀ j, j < i → l[j]? ≠ some a) → l.idxOf a = i
  | [], _, _, h, _ => by simp at h
  | x :: l, a, 0, h, _ => by
    have e : x = a := by simpa using h
    rw [e, List.idxOf_cons_self]
  | x :: l, a, i + 1, h, k => by
    have ne : x ≠ a := fun e => k 0 (by omega) (by rw [e] <;> rfl)
    have ih := idxOf_first (l := l) (i := i) (by simpa using h) fun j hj => by
      have q := k (j + 1) (by omega)
      simpa using q
    rw [List.idxOf_cons, ih, show (x == a) = false by simpa using ne] <;> rfl
def S_key_fault (K : PySem.W.Frag) : SpW := fun vs c f P _ => ∃ x, vs = [x] ∧ ((∃ z, x = .byt z ∧ z.size ≤ sizeLine ∧ P (faultV (bi z)) c f) ∨ (∃ d t, EntH K c f x d ∧ d.tyn = some t ∧ t ≠ "bytes" ∧ P (.int (-1)) c f))
theorem ok_key_fault (T : Txt K mg) : FnOk Pr w K mg base CX0 1 T.key_fault.f T.key_fault.fd ["key"] (mkSp K (S_key_fault K)) := by
  refine fnD T.key_fault.F sc_key_fault (fun vs c f P X ⟨x, e, _⟩ => by rw [e]; rfl) fun A outer s H XE hr => ⟨_, (pss_cons (ps_if (PW.pt (pw_or (pt_not (pt_val (pe_callB call_isi (by rfl) T.n_isinstance (by decide +kernel) (pa_cons (pv 0) (pa_cons (pe_bltn (v := .ty "bytes") (by rfl) T.n_bytes (by decide +kernel) rfl) pa_nil))))) (pw_or1 (pt_cmpR op_eq (pe_callB call_len (by rfl) T.n_len (by decide +kernel) (pa_cons (pv 0) pa_nil)) pe_int (nomark _))))) (pss_one (ps_ret (pe_un un_neg pe_int))) pss_nil)
      (pss_cons (ps_for PassesOwn.never rfl (pi_enumB (by rfl) T.n_enumerate (pa_cons (pv 0) pa_nil)) (pg_tup rfl (pgs_cons (pg_name (i := 1) sc_key_fault.nd rfl (Or.inl rfl)) (pgs_cons (pg_name (i := 2) sc_key_fault.nd rfl (Or.inl rfl)) pgs_nil)))
      (pss_one (ps_if (pt_cmpR op_eq (pv 2) pe_int (nomark _)) (pss_one (ps_ret (pv 1))) pss_nil)))
      (pss_one (ps_ret (pe_ifExp (pt_cmpR op_eq (pe_op op_mod (pe_callTy call_int1 (by rfl) T.n_int (by decide +kernel) (pa_cons (pe_ixB (pv 0) (pe_un un_neg pe_int) (fun _ _ => rfl)) pa_nil)) pe_int) pe_int (nomark _)) (pe_callB call_len (by rfl) T.n_len (by decide +kernel) (pa_cons (pv 0) pa_nil)) pe_non))))), fun vs c f P X ⟨x, e, h⟩ => ?_⟩
  subst e
  walk_at "go"
  rcases h with ⟨z, e, hz, p⟩ | ⟨d, t, hd, ht, hne, p⟩
  · subst e
    refine rl_isi1 (d := .byt z) (EntH.of (Ent.flat rfl)) rfl (by decide) ⟨_, rfl, if0 rfl ?_⟩
    walk_at "go"
    refine rl_lenB hz ?_
    walk_at "go"
    refine rw_eqI ⟨_, rfl, ifd (fun h => ?_) fun h => ?_⟩
    · walk_at "go"
      have e : bi z = [] := List.eq_nil_of_length_eq_zero (by rw [bi_len]; omega)
      have e2 : faultV (bi z) = .int (-1) := by rw [e]; rfl
      rw [← e2]
      exact Fin.of p
    · walk_at "go"
      have hne : bi z ≠ [] := fun e => by
        have q := bi_len z
        rw [e] at q
        exact h (by rw [← q]; rfl)
      refine sw_for (iw_enumB (aw_cons (tw_var rfl (aw_nil ⟨z, rfl, ?_⟩))))
      refine ⟨fun i σ' c' f' => c' = c ∧ f' = f ∧ (∃ a b, σ' = [some (.byt z), a, b]) ∧ ∀ j, j < i → (bi z)[j]? ≠ some 0, Nxt.of ⟨rfl, rfl, ⟨_, _, rfl⟩, fun j hj => by omega⟩, fun _ _ _ _ _ _ => trivial, fun i x σ' c' f' c2 f2 hi ⟨e1, e2, ⟨a, b, e3⟩, hno⟩ ⟨ec, d, hd, ef⟩ => ?_, fun σ' c' f' ⟨e1, e2, ⟨a, b, e3⟩, hno⟩ => ?_⟩
      · subst e1 e2 e3 ec ef
        obtain ⟨n, hn, rfl⟩ : ∃ n, (bi z)[i]? = some n ∧ d = .int n := by
          rw [List.getElem?_map] at hd
          cases q : (bi z)[i]? with
          | none => rw [q] at hd; cases hd
          | some n => rw [q] at hd; exact ⟨n, rfl, (Option.some.inj hd).symm⟩
        refine gw_tupf (us := [.int (i : Nat), .int n]) Ent.hd rfl rfl (gsw_cons (gw_name (gsw_cons (gw_name (gsw_nil ?_)))))
        walk_at "go"
        refine rw_eqI ⟨_, rfl, ifd (fun h0 => ?_) fun h0 => ?_⟩
        · subst h0
          walk_at "go"
          have e : faultV (bi z) = .int (i : Nat) := by
            unfold faultV faultAt
            rw [if_neg hne, if_pos (List.mem_of_getElem? hn)]
            rw [idxOf_first hn hno]
          rw [← e]
          exact (Fin.of p).dropF
        · walk_at "go"
          refine nxN (Nxt.drop (Nxt.of ?_))
          refine ⟨rfl, rfl, ⟨_, _, rfl⟩, fun j hj => ?_⟩
          by_cases q : j = i
          · subst q
            rw [hn]
            exact fun z => h0 (Option.some.inj z)
          · exact hno j (by omega)
      · subst e1 e2 e3
        have hz0 : z.size ≠ 0 := fun e => h (by rw [e]; rfl)
        have hlt : z.size - 1 < z.size := by omega
        have hu : z[z.size - 1]? = some z[z.size - 1] := Array.getElem?_eq_getElem hlt
        have hj : seqIndex? (-1) z.size = some (z.size - 1) := by
          unfold seqIndex?
          simp
          omega
        have no0 : ¬ (0 : Int) ∈ bi z := fun hm => by
          obtain ⟨j, hj, e⟩ := List.mem_iff_getElem.mp hm
          refine hno j ?_ (by rw [List.getElem?_eq_getElem hj, e])
          rw [← bi_len]
          exact hj
        walk_at "go"
        refine rw_ixB hz hj hu ?_
        walk_at "go"
        refine rl_int ?_
        walk_at "go"
        refine rw_I (by decide) ?_
        walk_at "go"
        have lastE := getLast_bi (by omega) hu
        refine rw_eqI ⟨_, rfl, ifd (fun h1 => ?_) fun h1 => ?_⟩
        · walk_at "go"
          refine rl_lenB hz ?_
          have e : faultV (bi z) = .int (z.size : Nat) := by
            unfold faultV faultAt
            rw [if_neg hne, if_neg no0, lastE, if_pos h1, bi_len]
          rw [← e]
          exact Fin.of p
        · walk_at "go"
          have e : faultV (bi z) = .non := by
            unfold faultV faultAt
            rw [if_neg hne, if_neg no0, lastE, if_neg h1]
          rw [← e]
          exact Fin.of p
  · have e : isaB t "bytes" = false := by
      unfold isaB
      have q : (t == "bytes") = false := by simpa using hne
      rw [q, show ("bytes" == "int") = false from by decide, Bool.and_false] <;> rfl
    refine rl_isi1 hd ht (by decide) ⟨_, rfl, if1 (by rw [e] <;> rfl) ?_⟩
    refine if1 rfl ?_
    walk_at "go"
    exact Fin.of p
/-! ### labels -/
/-- the labels ended, the one begun -/
def lab1 (s : List (List Int) × List Int) (n : Int) : List (List Int) × List Int := if n % 2 = 0 then (s.1 ++ [s.2 ++ [n]], []) else (s.1, s.2 ++ [n])
def labs (ns : List Int) : List (List Int) × List Int := ns.foldl lab1 ([], [])
theorem labs_more {ns : List Int} {i : Nat} {n : Int} (h : ns[i]? = some n) : labs (ns.take (i + 1)) = lab1 (labs (ns.take i)) n := by
  unfold labs
  rw [List.take_add_one, h, Option.toList_some, List.foldl_append] <;> rfl
theorem labs_step {ns : List Int} {i b : Nat} {n : Int} (hb : b ≤ i) (hn : ns[i]? = some n) (h : (labs (ns.take i)).2 = (ns.drop b).take (i - b)) : (labs (ns.take i)).2 ++ [n] = (ns.drop b).take (i + 1 - b) := by
  rw [h, show i + 1 - b = (i - b) + 1 by omega, List.take_add_one, List.getElem?_drop, show b + (i - b) = i by omega, hn] <;> rfl
theorem labs_len {ns : List Int} : ∀ i, (labs (ns.take i)).1.length ≤ i
  | 0 => by
    rw [List.take_zero]
    exact Nat.le_refl _
  | i + 1 => by
    cases h : ns[i]? with
    | none =>
      have e : ns.take (i + 1) = ns.take i := by rw [List.take_add_one, h, Option.toList_none, List.append_nil]
      rw [e]
      exact Nat.le_succ_of_le (labs_len i)
    | some n =>
      rw [labs_more h]
      unfold lab1
      have q := labs_len (ns := ns) i
      split
      · rw [List.length_append]
        exact Nat.succ_le_succ q
      · exact Nat.le_succ_of_le q
theorem picked_mid {ns : List Int} {b j : Nat} (hb : b ≤ ns.length) (hj : j ≤ ns.length) : PySem.W.KBy.picked (byteArr ns) (some (b : Int)) (some (j : Int)) = byteArr ((ns.drop b).take (j - b)) := by
  have e : byteArr ns = (ns.map fun n : Int => n.toNat.toUInt8).toArray := by
    unfold byteArr
    simp
  rw [e, pk_mid (by rw [List.length_map]; exact hb) (by rw [List.length_map]; exact hj), ← List.map_drop, ← List.map_take]
  unfold byteArr
  simp
theorem byteArr_size {ns : List Int} : (byteArr ns).size = ns.length := by
  unfold byteArr
  simp
def D.labels (ls : List (List Int)) : D := .lst (ls.map fun l => .byt (byteArr l))
def S_cut_key : SpW := fun vs c f P _ => ∃ ns : List Int, vs = [.byt (byteArr ns)] ∧ B8 ns ∧ ns.length < sizeLine ∧ ∀ v, P v c (([v], [D.labels (labs ns).1]) :: f)
theorem ok_cut_key (T : Txt K mg) : FnOk Pr w K mg base CX0 1 T.cut_key.f T.cut_key.fd ["key"] (mkSp K S_cut_key) := by
  refine fnD T.cut_key.F sc_cut_key (fun vs c f P X ⟨x, e, _⟩ => by rw [e]; rfl) fun A outer s H XE hr => ⟨_, (pss_cons (ps_par (i := 1) (j := 2) rfl sc_cut_key.nd rfl rfl (by decide) rfl rfl (pa_cons (pe_lst pa_nil) (pa_cons pe_int pa_nil)) (by rfl))
      (pss_cons (ps_for PassesOwn.never rfl (pi_enumB (by rfl) T.n_enumerate (pa_cons (pv 0) pa_nil)) (pg_tup rfl (pgs_cons (pg_name (i := 3) sc_cut_key.nd rfl (Or.inl rfl)) (pgs_cons (pg_name (i := 4) sc_cut_key.nd rfl (Or.inl rfl)) pgs_nil)))
      (pss_one (ps_if (pt_cmpR op_eq (pe_op op_mod (pe_callTy call_int1 (by rfl) T.n_int (by decide +kernel) (pa_cons (pv 4) pa_nil)) pe_int) pe_int (nomark _)) (pss_cons (ps_expr (pe_bm PySem.F.plainAttrs_list PySem.F.slot_list_append PySem.F.type_list_append mt_append (pv 1) (pa_cons (pe_slice sl_byt (pv 0) (po_some (pv 2)) (po_some (pe_op op_add (pv 3) pe_int))) pa_nil)))
      (pss_one (ps_set (i := 2) sc_cut_key.nd rfl (Or.inl rfl) (pe_op op_add (pv 3) pe_int)))) pss_nil)))
      (pss_one (ps_ret (pv 1))))), fun vs c f P X ⟨ns, e, hb, hz, p⟩ => ?_⟩
  subst e
  have hbi : bi (byteArr ns) = ns := bi_make hb
  walk_at "go"
  refine sw_par ?_
  walk_at "go"
  refine tw_lstC ?_
  walk_at "go"
  refine ⟨by decide, fun r => ?_⟩
  walk_at "go"
  refine ⟨_, _, rfl, ?_⟩
  walk_at "go"
  refine sw_for (iw_enumB (aw_cons (tw_var rfl (aw_nil ⟨_, rfl, ?_⟩))))
  refine ⟨fun i σ' c' f' => ∃ b a1 a2, b ≤ i ∧ σ' = [some (.byt (byteArr ns)), some (.ref r), some (.int (b : Nat)), a1, a2] ∧ c' = ((r, .lst ((labs (ns.take i)).1.map fun l => V.byt (byteArr l))) :: c) ∧ f' = f ∧ (labs (ns.take i)).2 = (ns.drop b).take (i - b), Nxt.of ⟨0, _, _, Nat.le_refl _, rfl, rfl, rfl, rfl⟩, fun _ _ _ _ _ _ => trivial, fun i x σ' c' f' c2 f2 hi ⟨b, a1, a2, hbi, e1, e2, e3, hcur⟩ ⟨ec, d, hd, ef⟩ => ?_, fun σ' c' f' ⟨b, a1, a2, hbi, e1, e2, e3, hcur⟩ => ?_⟩
  · subst e1 e2 e3 ec ef
    obtain ⟨n, hn, rfl⟩ : ∃ n, ns[i]? = some n ∧ d = .int n := by
      rw [bi_make hb, List.getElem?_map] at hd
      cases q : ns[i]? with
      | none => rw [q] at hd; cases hd
      | some n => rw [q] at hd; exact ⟨n, rfl, (Option.some.inj hd).symm⟩
    have hi' : i < ns.length := (List.getElem?_eq_some_iff.mp hn).1
    have hm := labs_more hn
    have hst := labs_step hbi hn hcur
    refine gw_tupf (us := [.int (i : Nat), .int n]) Ent.hd rfl rfl (gsw_cons (gw_name (gsw_cons (gw_name (gsw_nil ?_)))))
    walk_at "go"
    refine rl_int ?_
    walk_at "go"
    refine rw_I (by decide) ?_
    walk_at "go"
    refine rw_eqI ⟨_, rfl, ifd (fun h0 => ?_) fun h0 => ?_⟩
    · have e0 : lab1 (labs (ns.take i)) n = ((labs (ns.take i)).1 ++ [(labs (ns.take i)).2 ++ [n]], []) := if_pos h0
      rw [e0] at hm
      walk_at "go"
      refine tw_bm (tw_var rfl ⟨TyW.cell Has.hd, ?_⟩)
      walk_at "go"
      refine ⟨_, rfl, ?_⟩
      walk_at "go"
      refine ⟨_, rfl, rw_cutB (by rw [byteArr_size]; exact Nat.le_of_lt hz) ?_⟩
      rw [show ((i : Nat) : Int) + 1 = ((i + 1 : Nat) : Int) by omega, picked_mid (by omega) (by omega), ← hst]
      walk_at "go"
      refine rm_append Has.hd (by rw [List.length_map]; exact Nat.lt_of_le_of_lt (labs_len i) (by omega)) ?_
      walk_at "go"
      refine nxN (Nxt.drop (Nxt.of ?_))
      refine ⟨i + 1, _, _, Nat.le_refl _, rfl, ?_, rfl, ?_⟩
      · rw [hm, List.map_append] <;> rfl
      · rw [hm, Nat.sub_self, List.take_zero]
    · have e0 : lab1 (labs (ns.take i)) n = ((labs (ns.take i)).1, (labs (ns.take i)).2 ++ [n]) := if_neg h0
      rw [e0] at hm
      walk_at "go"
      refine nxN (Nxt.drop (Nxt.of ?_))
      refine ⟨b, _, _, by omega, rfl, ?_, rfl, ?_⟩
      · rw [hm]
      · rw [hm, ← hst]
  · subst e1 e2 e3
    walk_at "go"
    have hlen : (byteArr ns).size = ns.length := byteArr_size
    rw [hlen, List.take_length]
    refine Fin.wk (Wk.frz (Ents.flat ?_)) (Fin.of (p _))
    simp [D.v?]
def S_split_key (K : PySem.W.Frag) (C : Addr) : SpW := fun vs c f P X => ∃ x, vs = [x] ∧ ((∃ ns : List Int, x = .byt (byteArr ns) ∧ B8 ns ∧ ns.length < sizeLine ∧ (faultAt ns = none → ∀ v, P v c (([v], [D.labels (labs ns).1]) :: f)) ∧ ∀ i, faultAt ns = some i → ∀ d, X (.ref C) (some d) ((d, .xd [("place", .int i)]) :: c) f) ∨
  ∃ d t, EntH K c f x d ∧ d.tyn = some t ∧ t ≠ "bytes" ∧ ∀ d, X (.ref C) (some d) ((d, .xd [("place", .int (-1))]) :: c) f)
theorem ok_split_key (T : Txt K mg) : FnOk Pr w K mg base (L2.CX Pr w) 4 T.split_key.f T.split_key.fd ["key"] (mkSp K (S_split_key K T.NoKey.C)) := by
  refine fnDX T.split_key.F sc_split_key (fun vs c f P X ⟨x, e, _⟩ => by rw [e]; rfl) fun A outer s H XE hr => ⟨_, (pss_cons (ps_set (i := 1) sc_split_key.nd rfl (Or.inl rfl) (pe_call (ok_key_fault T) (hr.mono (by decide)) (by rfl) T.key_fault.g T.key_fault.F.kp T.key_fault.b .nil pass0 (pa_cons (pv 0) pa_nil)))
      (pss_cons (ps_if (pt_cmpR op_notN (pv 1) pe_non (nomark _)) (pss_one (ps_raise rfl (takes_of rfl rfl rfl rfl) (pmk_oex T.NoKey.oex T.NoKey.iC T.NoKey.tI (ok_NoKey_init T) (hr.mono (by decide)) T.NoKey.b .nil pass0 (by rfl) T.NoKey.g (pa_cons (pv 1) pa_nil)))) pss_nil)
      (pss_one (ps_ret (pe_call (ok_cut_key T) (hr.mono (by decide)) (by rfl) T.cut_key.g T.cut_key.F.kp T.cut_key.b .nil pass0 (pa_cons (pv 0) pa_nil)))))), fun vs c f P X ⟨x, e, h⟩ hx => ?_⟩
  subst e
  walk_at "go"
  rcases h with ⟨ns, e, hb, hz, hn, hs⟩ | ⟨d, t, hd, ht, hne, hs⟩
  · subst e
    refine ⟨_, rfl, .inl ⟨_, rfl, by rw [byteArr_size]; exact Nat.le_of_lt hz, ?_⟩⟩
    rw [bi_make hb]
    walk_at "go"
    unfold faultV
    cases hf : faultAt ns with
    | none =>
      refine rw_notN ⟨_, rfl, if0 rfl ?_⟩
      walk_at "go"
      exact ⟨ns, rfl, hb, hz, fun v => Fin.of (hn hf v)⟩
    | some i =>
      refine rw_notN ⟨_, rfl, if1 rfl ?_⟩
      refine sw_raise (covF hx) ?_
      walk_at "go"
      exact ⟨(by decide : 1 ≤ 1000), rfl, fun d => FinZ.of (hs i hf d)⟩
  · refine ⟨_, rfl, .inr ⟨d, t, hd, ht, hne, ?_⟩⟩
    walk_at "go"
    refine rw_notN ⟨_, rfl, if1 rfl ?_⟩
    refine sw_raise (covF hx) ?_
    walk_at "go"
    exact ⟨by decide, rfl, fun d => FinZ.of (hs d)⟩
/-! ### bytes and numbers -/
def isByte : D → Bool
  | .int n => decide (0 ≤ n ∧ n ≤ 255)
  | _ => false
/-- the first that is none -/
def badAt (ds : List D) : Option Nat := ds.findIdx? fun d => !isByte d
theorem badAt_first {ds : List D} {i : Nat} {d : D} (hd : ds[i]? = some d) (hb : isByte d = false) (hno : ∀ j, j < i → ∀ d, ds[j]? = some d → isByte d = true) : badAt ds = some i := by
  unfold badAt
  induction ds generalizing i with
  | nil => simp at hd
  | cons x ds ih =>
    rw [List.findIdx?_cons]
    cases i with
    | zero =>
      have e : x = d := by simpa using hd
      rw [e, hb] <;> rfl
    | succ i =>
      have e : isByte x = true := hno 0 (by omega) x rfl
      have q := ih (i := i) (by simpa using hd) fun j hj d' hd' => hno (j + 1) (by omega) d' (by simpa using hd')
      rw [e, q] <;> rfl
theorem tyn_int {d : D} (h : d.tyn = some "int") : ∃ n, d = .int n := by
  cases d <;> simp [D.tyn] at h
  exact ⟨_, rfl⟩
theorem bytes_all : ∀ {ds : List D}, (∀ d ∈ ds, isByte d = true) → ∃ ns : List Int, ds = ns.map D.int ∧ B8 ns
  | [], _ => ⟨[], rfl, fun n h => by cases h⟩
  | d :: ds, h => by
    obtain ⟨ns, e, hb⟩ := bytes_all (ds := ds) fun d hd => h d (.tail _ hd)
    have q := h d (.head _)
    cases d with
    | int n =>
      have q2 : 0 ≤ n ∧ n ≤ 255 := of_decide_eq_true q
      refine ⟨n :: ns, by rw [e] <;> rfl, fun m hm => ?_⟩
      rcases List.mem_cons.mp hm with z | z
      · subst z
        omega
      · exact hb m z
    | _ => cases q
def S_bytes_of (K : PySem.W.Frag) (C : Addr) : SpW := fun vs c f P X => ∃ x, vs = [x] ∧ ((∃ ds, SeqE K c f x ds ∧ (∀ d ∈ ds, ∃ t, d.tyn = some t) ∧ (∀ ns, ds = ns.map D.int → B8 ns → P (.byt (byteArr ns)) c f) ∧ ∀ i : Nat, badAt ds = some i → ∀ d, X (.ref C) (some d) ((d, .xd [("place", .int i)]) :: c) f) ∨
  ∃ d t, EntH K c f x d ∧ d.tyn = some t ∧ t ≠ "list" ∧ t ≠ "tuple" ∧ ∀ d, X (.ref C) (some d) ((d, .xd [("place", .int (-1))]) :: c) f)
theorem ok_bytes_of (T : Txt K mg) : FnOk Pr w K mg base (L2.CX Pr w) 4 T.bytes_of.f T.bytes_of.fd ["numbers"] (mkSp K (S_bytes_of K T.NoKey.C)) := by
  refine fnDX T.bytes_of.F sc_bytes_of (fun vs c f P X ⟨x, e, _⟩ => by rw [e]; rfl) fun A outer s H XE hr => ⟨_, (pss_cons (ps_if (pt_not (pt_val (pe_call (ok_is_sequence T) (hr.mono (by decide)) (by rfl) T.is_sequence.g T.is_sequence.F.kp T.is_sequence.b .nil pass0 (pa_cons (pv 0) pa_nil)))) (pss_one (ps_raise rfl (takes_of rfl rfl rfl rfl) (pmk_oex T.NoKey.oex T.NoKey.iC T.NoKey.tI (ok_NoKey_init T) (hr.mono (by decide)) T.NoKey.b .nil pass0 (by rfl) T.NoKey.g (pa_cons (pe_un un_neg pe_int) pa_nil)))) pss_nil)
      (pss_cons (ps_for (passes_of rfl) rfl (pi_enumQ (by rfl) T.n_enumerate (pa_cons (pv 0) pa_nil)) (pg_tup rfl (pgs_cons (pg_name (i := 1) sc_bytes_of.nd rfl (Or.inl rfl)) (pgs_cons (pg_name (i := 2) sc_bytes_of.nd rfl (Or.inl rfl)) pgs_nil)))
      (pss_one (ps_if (PW.pt (pw_or (pt_not (pt_val (pe_call (ok_is_integer T) (hr.mono (by decide)) (by rfl) T.is_integer.g T.is_integer.F.kp T.is_integer.b .nil pass0 (pa_cons (pv 2) pa_nil)))) (pw_or1 (pt_not (pt_chain op_le op_le pe_int (pv 2) pe_int))))) (pss_one (ps_raise rfl (takes_of rfl rfl rfl rfl) (pmk_oex T.NoKey.oex T.NoKey.iC T.NoKey.tI (ok_NoKey_init T) (hr.mono (by decide)) T.NoKey.b .nil pass0 (by rfl) T.NoKey.g (pa_cons (pv 1) pa_nil)))) pss_nil)))
      (pss_one (ps_ret (pe_callTy (call_bytesQ rfl) (by rfl) T.n_bytes (by decide +kernel) (pa_cons (pv 0) pa_nil)))))), fun vs c f P X ⟨x, e, h⟩ hx => ?_⟩
  subst e
  walk_at "go"
  rcases h with ⟨ds, hds, hty, hp, hs⟩ | ⟨d, t, hd, ht, h1, h2, hs⟩
  · obtain ⟨d0, t0, h1, h2, h3⟩ : ∃ d t, EntH K c f x d ∧ d.tyn = some t ∧ (t == "list" || t == "tuple") = true := by
      rcases hds with h | h
      · exact ⟨_, _, EntH.sq h, rfl, rfl⟩
      · exact ⟨_, _, EntH.of h, rfl, rfl⟩
    refine ⟨x, d0, t0, rfl, h1, h2, ?_⟩
    rw [h3]
    refine ⟨true, rfl, if0 rfl ?_⟩
    walk_at "go"
    refine sw_for (iw_enumQ hds rfl fun S hS => ?_)
    refine ⟨fun i σ' c' f' => c' = c ∧ f' = f ∧ (∃ a b, σ' = [some x, a, b]) ∧ ∀ j, j < i → ∀ d, ds[j]? = some d → isByte d = true, Nxt.of ⟨rfl, rfl, ⟨_, _, rfl⟩, fun j hj => by omega⟩, fun i σ' c' f' _ ⟨e1, e2, _⟩ => by rw [e1, e2]; exact hS, fun i v σ' c' f' c2 f2 hi ⟨e1, e2, ⟨a, b, e3⟩, hno⟩ ⟨ec, d, hd, ef⟩ => ?_, fun σ' c' f' ⟨e1, e2, ⟨a, b, e3⟩, hno⟩ => ?_⟩
    · subst e1 e2 e3 ec ef
      obtain ⟨t, ht⟩ := hty d (List.mem_of_getElem? hd)
      refine gw_pair Ent.hd fun v1 v2 => GsW.eq Ent.fst rfl fun e => ?_
      subst e
      have bad : isByte d = false → ∀ dx, FinZ K X (.ref T.NoKey.C) (some dx) [some x, some (.int (i : Nat)), some v2] ((dx, .xd [("place", .int (i : Nat))]) :: c2) (([V.int (i : Nat), v2], [D.int (i : Nat), d]) :: ([v], [D.tup [.int (i : Nat), d]]) :: f') := fun hb dx =>
        FinZ.dropF (FinZ.dropF (FinZ.of (hs i (badAt_first hd hb hno) dx)))
      refine gsw_cons (gw_name (gsw_cons (gw_name (gsw_nil ?_))))
      walk_at "go"
      refine ⟨v2, d, t, rfl, EntH.of Ent.snd, ht, ?_⟩
      by_cases hint : t = "int"
      · obtain ⟨n, rfl⟩ := tyn_int (hint ▸ ht)
        subst hint
        refine ⟨true, rfl, if0 rfl ?_⟩
        refine BW.eq Ent.snd rfl fun e => ?_
        subst e
        walk_at "go"
        refine tw_chain ?_
        walk_at "go"
        refine ⟨_, rfl, ifd (fun h0 => ?_) fun h0 => ?_⟩
        · walk_at "go"
          refine ⟨_, rfl, ifn (fun h1 => ?_) fun h1 => ?_⟩
          · refine sw_raise (covF hx) ?_
            walk_at "go"
            exact ⟨(by decide : 1 ≤ 1000), rfl, bad (by simp [isByte]; omega)⟩
          · walk_at "go"
            refine nxN (Nxt.drop (Nxt.drop (Nxt.of ?_)))
            refine ⟨rfl, rfl, ⟨_, _, rfl⟩, fun j hj d' hd' => ?_⟩
            by_cases q : j = i
            · subst q
              rw [hd] at hd'
              cases hd'
              simp [isByte]
              omega
            · exact hno j (by omega) d' hd'
        · refine ⟨_, rfl, if1 rfl ?_⟩
          refine sw_raise (covF hx) ?_
          walk_at "go"
          exact ⟨(by decide : 1 ≤ 1000), rfl, bad (by simp [isByte]; omega)⟩
      · have q : (t == "int") = false := by simpa using hint
        rw [q]
        refine ⟨false, rfl, if1 rfl ?_⟩
        refine if1 rfl ?_
        refine sw_raise (covF hx) ?_
        walk_at "go"
        refine ⟨(by decide : 1 ≤ 1000), rfl, bad ?_⟩
        cases d with
        | int n => exact absurd (Option.some.inj ht).symm hint
        | _ => rfl
    · subst e1 e2 e3
      obtain ⟨ns, e, hb⟩ := bytes_all (ds := ds) fun d hd => by
        obtain ⟨j, hj, e⟩ := List.mem_iff_getElem.mp hd
        exact hno j hj d (by rw [List.getElem?_eq_getElem hj, e])
      walk_at "go"
      subst e
      exact rl_bytesQ hds hb (Fin.of (hp ns rfl hb))
  · refine ⟨x, d, t, rfl, hd, ht, ?_⟩
    have q : (t == "list" || t == "tuple") = false := by simp [h1, h2]
    rw [q]
    refine ⟨false, rfl, if1 rfl ?_⟩
    refine sw_raise (covF hx) ?_
    walk_at "go"
    exact ⟨(by decide : 1 ≤ 1000), rfl, fun d => FinZ.of (hs d)⟩
def S_numbers_of (K : PySem.W.Frag) (C : Addr) : SpW := fun vs c f P X => ∃ x, vs = [x] ∧ ((∃ ns : List Int, x = .byt (byteArr ns) ∧ B8 ns ∧ ns.length < sizeLine ∧ ∀ v, P v c (([v], [.lst (ns.map D.int)]) :: f)) ∨
  ∃ d t, EntH K c f x d ∧ d.tyn = some t ∧ t ≠ "bytes" ∧ ∀ d, X (.ref C) (some d) ((d, .xd [("place", .int (-1))]) :: c) f)
theorem ok_numbers_of (T : Txt K mg) : FnOk Pr w K mg base (L2.CX Pr w) 4 T.numbers_of.f T.numbers_of.fd ["data"] (mkSp K (S_numbers_of K T.NoKey.C)) := by
  refine fnDX T.numbers_of.F sc_numbers_of (fun vs c f P X ⟨x, e, _⟩ => by rw [e]; rfl) fun A outer s H XE hr => ⟨_, (pss_cons (ps_if (pt_not (pt_val (pe_callB call_isi (by rfl) T.n_isinstance (by decide +kernel) (pa_cons (pv 0) (pa_cons (pe_bltn (v := .ty "bytes") (by rfl) T.n_bytes (by decide +kernel) rfl) pa_nil))))) (pss_one (ps_raise rfl (takes_of rfl rfl rfl rfl) (pmk_oex T.NoKey.oex T.NoKey.iC T.NoKey.tI (ok_NoKey_init T) (hr.mono (by decide)) T.NoKey.b .nil pass0 (by rfl) T.NoKey.g (pa_cons (pe_un un_neg pe_int) pa_nil)))) pss_nil)
      (pss_one (ps_ret (pe_callTy (call_r1 (L2.rl_listB rfl)) (by rfl) T.n_list (by decide +kernel) (pa_cons (pv 0) pa_nil))))), fun vs c f P X ⟨x, e, h⟩ hx => ?_⟩
  subst e
  walk_at "go"
  rcases h with ⟨ns, e, hb, hz, p⟩ | ⟨d, t, hd, ht, hne, hs⟩
  · subst e
    refine rl_isi1 (d := .byt (byteArr ns)) (EntH.of (Ent.flat rfl)) rfl (by decide) ⟨_, rfl, if0 rfl ?_⟩
    walk_at "go"
    refine rl_listB (by rw [byteArr_size]; exact Nat.le_of_lt hz) ?_
    rw [bi_make hb]
    exact fun v => Fin.of (p v)
  · have e : isaB t "bytes" = false := by
      unfold isaB
      have q : (t == "bytes") = false := by simpa using hne
      rw [q, show ("bytes" == "int") = false from by decide, Bool.and_false] <;> rfl
    refine rl_isi1 hd ht (by decide) ⟨_, rfl, if1 (by rw [e] <;> rfl) ?_⟩
    refine sw_raise (covF hx) ?_
    walk_at "go"
    exact ⟨(by decide : 1 ≤ 1000), rfl, fun d => FinZ.of (hs d)⟩
end
end FR

set_option Elab.async false
set_option linter.all false
set_option maxRecDepth 100000
set_option maxHeartbeats 2000000
namespace FR
open PySem PySem.Spec L2
open PyProof.Rows hiding St
local macro_rules | `(tactic| walk_at "ent") => `(tactic| first | assumption | exact Ent.hd | exact Ent.flat rfl | (refine Ent.tl ?_; walk_at "ent"))
local macro_rules | `(tactic| walk_at "has") => `(tactic| first | assumption | exact Has.hd | exact Has.again (by assumption) _ | (refine Has.tl ?_; walk_at "has"))
local macro_rules | `(tactic| walk_at "go1") => `(tactic| first
  | with_reducible refine sw_seq ?_ | with_reducible refine sw_if ?_ | with_reducible refine sw_ret ?_ | with_reducible refine sw_set ?_ | with_reducible refine sw_next ?_ | with_reducible refine sw_retN ?_ | with_reducible refine sw_drop ?_ | with_reducible refine sw_brk ?_ | with_reducible refine sw_cont ?_
  | with_reducible refine bw_test ?_ | with_reducible refine bw_val ?_ | with_reducible refine bw_and ?_ | with_reducible refine bw_or ?_ | with_reducible refine bw_not ?_
  | with_reducible refine tw_op ?_ | with_reducible refine tw_c ?_ | with_reducible refine tw_cb ?_ | with_reducible refine aw_cons ?_ | with_reducible refine aw_nil ?_ | with_reducible refine tw_not ?_ | with_reducible refine tw_and ?_ | with_reducible refine tw_or ?_ | with_reducible refine tw_un ?_ | with_reducible refine tw_if ?_ | with_reducible refine tw_sl ?_ | with_reducible refine ow_none ?_ | with_reducible refine ow_some ?_
  | with_reducible refine tw_call ?_ | with_reducible refine rw_I0 ?_ | with_reducible refine rw_U ?_
  | refine tw_var rfl ?_)
local macro_rules | `(tactic| walk_at "go") => `(tactic| repeat (walk_at "go1"))
local macro_rules | `(tactic| walk_at "ar1") => `(tactic| first
  | walk_at "go1" | refine rl_int ?_ | refine rw_ixC (by assumption) rfl ?_
  | refine rw_I (show CPow _ _ from ⟨by decide, by decide, by decide⟩) ?_
  | refine rw_I (show CMul _ _ from .inr ⟨by decide, by decide⟩) ?_ | refine rw_I (show CMul _ _ from .inl ⟨by decide, by decide⟩) ?_
  | refine rw_I (show CDivW _ _ from wide_div (b := 64) (by decide) (by decide) (by decide) (by decide)) ?_
  | refine rw_I (show (0 : Int) < _ from by first | decide | assumption) ?_
  | refine rw_I (show CMul _ _ from .inl ⟨by omega, by omega⟩) ?_)
local macro_rules | `(tactic| walk_at "ar") => `(tactic| repeat (walk_at "ar1"))
local macro_rules | `(tactic| walk_at "ext") => `(tactic| first | assumption | exact Ext.refl | (refine Ext.cons ?_; walk_at "ext"))
section
variable {Pr : Program} {w : World} {K : PySem.W.Frag} {mg : Str → Option Value} {base : Heap}
/-! ### draws -/
def rngO (a b c : Int) : HO := .lst [.int a, .int b, .int c]
def S_rng : SpW := fun vs c f P _ => ∃ z, vs = [.int z] ∧ ∀ p a b d, P (.ref p) ((p, rngO a b d) :: c) f
theorem ok_law_rng (T : Txt K mg) : FnOk Pr w K mg base CX0 1 T.law_rng.f T.law_rng.fd ["_law_cell"] (mkSp K S_rng) := by
  refine fnD T.law_rng.F sc_law_rng (fun vs c f P X ⟨z, e, _⟩ => by rw [e]; rfl) fun A outer s H XE hr => ⟨_, (pss_one (ps_ret (pe_lst (pa_cons (pe_callB call_abs (by rfl) T.n_abs (by decide +kernel) (pa_cons (pv 0) pa_nil)) (pa_cons (pe_op op_mod (pe_callTy call_int1 (by rfl) T.n_int (by decide +kernel) (pa_cons (pv 0) pa_nil)) pe_int) (pa_cons pe_int pa_nil)))))), fun vs c f P X ⟨z, e, q⟩ => ?_⟩
  subst e
  walk_at "go"
  refine tw_lstC ?_
  walk_at "go"
  refine rl_abs ?_
  walk_at "go"
  refine rl_int ?_
  walk_at "go"
  refine rw_I (by decide) ?_
  walk_at "go"
  exact ⟨(by decide : 3 ≤ sizeLine), fun p => Fin.of (q p _ _ _)⟩
def S_draw : SpW := fun vs c f P _ => ∃ r x y z n k, vs = [.ref r, .int n] ∧ Has c r (rngO x y z) k ∧ 0 < n ∧ n.natAbs < 2 ^ 8000 ∧ ∀ i x y z, 0 ≤ i → i < n → P (.int i) (k (rngO x y z)) f
theorem ok_law_draw (T : Txt K mg) : FnOk Pr w K mg base CX0 1 T.law_draw.f T.law_draw.fd ["_law_rng_here", "_law_limit"] (mkSp K S_draw) := by
  refine fnD T.law_draw.F sc_law_draw (fun vs c f P X ⟨_, _, _, _, _, _, e, _⟩ => by rw [e]; rfl) fun A outer s H XE hr => ⟨_, (pss_cons (ps_if (pt_cmpR op_ge (pe_ix ix_list (pv 0) pe_int (fun _ _ => rfl)) (pe_op op_pow pe_int pe_int) (nomark _)) (pss_cons (ps_set (i := 2) sc_law_draw.nd rfl (Or.inl rfl) (pe_op op_mod (pe_callTy call_int1 (by rfl) T.n_int (by decide +kernel) (pa_cons (pe_ix ix_list (pv 0) pe_int (fun _ _ => rfl)) pa_nil)) (pv 1)))
      (pss_cons (ps_asg (pe_op op_fdivW (pe_ix ix_list (pv 0) pe_int (fun _ _ => rfl)) (pv 1)) (pg_sub (pv 0) pe_int set_list))
      (pss_one (ps_ret (pv 2))))) pss_nil)
      (pss_cons (ps_asg (pe_op op_add (pe_ix ix_list (pv 0) pe_int (fun _ _ => rfl)) pe_int) (pg_sub (pv 0) pe_int set_list))
      (pss_cons (ps_set (i := 3) sc_law_draw.nd rfl (Or.inl rfl) (pe_op op_mod (pe_callTy call_int1 (by rfl) T.n_int (by decide +kernel) (pa_cons (pe_op op_mul (pe_op op_add (pe_op op_add (pe_ix ix_list (pv 0) pe_int (fun _ _ => rfl)) (pe_op op_mul pe_int (pe_ix ix_list (pv 0) pe_int (fun _ _ => rfl)))) pe_int) pe_int) pa_nil)) pe_int))
      (pss_cons (ps_set (i := 3) sc_law_draw.nd rfl (Or.inl rfl) (pe_op op_mod (pe_callTy call_int1 (by rfl) T.n_int (by decide +kernel) (pa_cons (pe_op op_mul (pv 3) (pe_op op_add (pe_op op_fdivW (pv 3) pe_int) pe_int)) pa_nil)) pe_int))
      (pss_one (ps_ret (pe_op op_mod (pe_callTy call_int1 (by rfl) T.n_int (by decide +kernel) (pa_cons (pe_op op_mod (pe_callTy call_int1 (by rfl) T.n_int (by decide +kernel) (pa_cons (pe_op op_add (pe_op op_fdivW (pv 3) pe_int) (pe_op op_mul (pe_op op_mod (pe_callTy call_int1 (by rfl) T.n_int (by decide +kernel) (pa_cons (pv 3) pa_nil)) pe_int) pe_int)) pa_nil)) pe_int) pa_nil)) (pv 1)))))))), fun vs c f P X ⟨r, x, y, z, n, k, e, hk, hn, hb, q⟩ => ?_⟩
  subst e
  walk_at "ar"
  refine ⟨_, rfl, ifd (fun h => ?_) fun h => ?_⟩
  · walk_at "ar"
    refine sw_asg ?_
    walk_at "ar"
    refine rw_I (wide_div hn hb (by decide) (by decide)) ?_
    refine gw_setC (tw_var rfl (tw_c ⟨r, _, 0, 0, k, rfl, rfl, hk, rfl, ?_⟩))
    walk_at "go"
    exact Fin.of (q _ _ _ _ (Int.emod_nonneg _ (by omega)) (Int.emod_lt_of_pos _ hn))
  · walk_at "go"
    refine sw_asg ?_
    walk_at "ar"
    refine gw_setC (tw_var rfl (tw_c ⟨r, _, 2, 2, k, rfl, rfl, hk, rfl, ?_⟩))
    have hk2 : Has (k (rngO x y (z + 1))) r (rngO x y (z + 1)) k := hk.again _
    walk_at "ar"
    exact Fin.of (q _ _ _ _ (Int.emod_nonneg _ (by omega)) (Int.emod_lt_of_pos _ hn))
/-- one of a list that stays -/
def S_pick (K : PySem.W.Frag) : SpW := fun vs c f P _ => ∃ r x y z k v ds, vs = [.ref r, v] ∧ Has c r (rngO x y z) k ∧ Ent K f v (.lst ds) ∧ ds ≠ [] ∧ ds.length < 2 ^ 60 ∧ ∀ d ∈ ds, ∀ x y z, (∀ u, d.v? = some u → P u (k (rngO x y z)) f) ∧ (d.v? = none → ∀ v', P v' (k (rngO x y z)) (([v'], [d]) :: f))
theorem big_nat {n : Nat} (h : n < 2 ^ 60) : ((n : Nat) : Int).natAbs < 2 ^ 8000 := Nat.lt_of_lt_of_le (by omega : ((n : Nat) : Int).natAbs < 2 ^ 60) (Nat.pow_le_pow_right (by decide) (by decide))
theorem ok_law_pick (T : Txt K mg) : FnOk Pr w K mg base CX0 2 T.law_pick.f T.law_pick.fd ["_law_rng_here", "_law_items"] (mkSp K (S_pick K)) := by
  refine fnD T.law_pick.F sc_law_pick (fun vs c f P X ⟨_, _, _, _, _, _, _, e, _⟩ => by rw [e]; rfl) fun A outer s H XE hr => ⟨_, (pss_one (ps_ret (pe_ix ix_list (pv 1) (pe_call (ok_law_draw T) (hr.mono (by decide)) (by rfl) T.law_draw.g T.law_draw.F.kp T.law_draw.b .nil pass0 (pa_cons (pv 0) (pa_cons (pe_callB call_len_seq (by rfl) T.n_len (by decide +kernel) (pa_cons (pv 1) pa_nil)) pa_nil))) (fun _ _ => rfl)))), fun vs c f P X ⟨r, x, y, z, k, v, ds, e, hk, hv, hne, hl, q⟩ => ?_⟩
  subst e
  walk_at "go"
  refine rl_lenL (.inl hv) ?_
  walk_at "go"
  have hpos : 0 < ds.length := List.length_pos_iff.mpr hne
  refine ⟨r, x, y, z, _, k, rfl, hk, by omega, big_nat hl, fun i x y z h0 h1 => ?_⟩
  have hi : i.toNat < ds.length := by omega
  have hd : ds[i.toNat]? = some ds[i.toNat] := List.getElem?_eq_getElem hi
  have e : atI ds i = some ds[i.toNat] := by
    show (ixN ds.length i).bind (fun j => ds[j]?) = _
    rw [FR.ixN_nat h0 h1]
    exact hd
  obtain ⟨q1, q2⟩ := q _ (List.getElem_mem hi) x y z
  cases hv' : (ds[i.toNat]).v? with
  | some u => exact rw_ixLf (.inl hv) e hv' (Fin.of (q1 u hv'))
  | none => exact rw_ixL (.inl hv) e fun v' => Fin.of (q2 hv' v')
/-- of ints -/
theorem pick_ints {r : Addr} {x y z : Int} {k : HO → Cs} {v : V} {c : Cs} {f : Fs} {P : PV} {X : PX} {ns : List Int} (hk : Has c r (rngO x y z) k) (hv : Ent K f v (.lst (ns.map D.int))) (hne : ns ≠ []) (hl : ns.length < 2 ^ 60) (p : ∀ n ∈ ns, ∀ x y z, P (.int n) (k (rngO x y z)) f) : S_pick K [.ref r, v] c f P X :=
  ⟨r, x, y, z, k, v, _, rfl, hk, hv, by simpa using hne, by simpa using hl, fun d hd x y z => by
    obtain ⟨n, hn, e⟩ := List.mem_map.mp hd
    subst e
    exact ⟨fun u hu => by
      cases hu
      exact p n hn x y z, fun h => by cases h⟩⟩
/-- the numbers of a label -/
def S_label : SpW := fun vs c f P _ => ∃ r x y z k, vs = [.ref r] ∧ Has c r (rngO x y z) k ∧ ∀ (ns : List Int) a x y z, ns ≠ [] → ns.length ≤ 5 → B8 ns → P (.ref a) ((a, .lst (ns.map V.int)) :: k (rngO x y z)) f
theorem ok_law_label (T : Txt K mg) : FnOk Pr w K mg base CX0 3 T.law_label.f T.law_label.fd ["_law_rng_here"] (mkSp K S_label) := by
  refine fnD T.law_label.F sc_law_label (fun vs c f P X ⟨_, _, _, _, _, e, _⟩ => by rw [e]; rfl) fun A outer s H XE hr => ⟨_, (pss_cons (ps_setLc (i := 1) (own := [("_law_turn", 2)]) rfl sc_law_label.nd rfl rfl (sw_true rfl rfl rfl (by decide +kernel)) (pi_range1 rfl T.n_range (pa_cons (pe_call (ok_law_pick T) (hr.mono (by decide)) (by rfl) T.law_pick.g T.law_pick.F.kp T.law_pick.b .nil pass0 (pa_cons (pv 0) (pa_cons (pe_lst (pa_cons pe_int (pa_cons pe_int (pa_cons pe_int (pa_cons pe_int (pa_cons pe_int (pa_cons pe_int (pa_cons pe_int pa_nil)))))))) pa_nil))) pa_nil)) (blkOk_by (N := ["_law_rng_here", "_law_ahead", "_law_turn"]) (sc := defScope st_law_label) (by decide +kernel)) (fun _ _ _ _ _ => (pg_name (i := 2) sc_law_label.nd rfl (Or.inl rfl))) (fun _ _ _ _ _ => pts_nil) (fun _ _ _ _ _ => (pe_call (ok_law_pick T) (hr.mono (by decide)) (by rfl) T.law_pick.g T.law_pick.F.kp T.law_pick.b .nil pass0 (pa_cons (pv 0) (pa_cons (pe_lst (pa_cons pe_int (pa_cons pe_int (pa_cons pe_int (pa_cons pe_int (pa_cons pe_int (pa_cons pe_int (pa_cons pe_int (pa_cons pe_int pa_nil))))))))) pa_nil)))))
      (pss_one (ps_ret (pe_op op_catQ (pv 1) (pe_lst (pa_cons (pe_call (ok_law_pick T) (hr.mono (by decide)) (by rfl) T.law_pick.g T.law_pick.F.kp T.law_pick.b .nil pass0 (pa_cons (pv 0) (pa_cons (pe_lst (pa_cons pe_int (pa_cons pe_int (pa_cons pe_int (pa_cons pe_int (pa_cons pe_int (pa_cons pe_int (pa_cons pe_int (pa_cons pe_int pa_nil))))))))) pa_nil))) pa_nil)))))), fun vs c f P X ⟨r, x, y, z, k, e, hk, q⟩ => ?_⟩
  subst e
  walk_at "go"
  refine tw_lc (iw_rng1 ?_)
  walk_at "go"
  refine tw_lst ?_
  walk_at "go"
  refine ⟨(by decide : 7 ≤ sizeLine), [0, 0, 0, 1, 1, 2, 4].map D.int, Ents.flat rfl, fun v => ?_⟩
  walk_at "go"
  refine pick_ints hk Ent.hd (by decide) (by decide) fun m hm x y z => ?_
  have hm4 : 0 ≤ m ∧ m ≤ 4 := (by decide : ∀ m ∈ ([0, 0, 0, 1, 1, 2, 4] : List Int), 0 ≤ m ∧ m ≤ 4) m hm
  walk_at "go"
  refine ⟨m, rfl, by omega, by omega, ?_⟩
  refine ⟨fun i acc c' f' => ∃ ns x y z, acc = ns.map V.int ∧ ns.length = i ∧ B8 ns ∧ c' = k (rngO x y z) ∧ f' = f, ⟨_, _, Wk.dropF, ⟨[], x, y, z, rfl, rfl, b8_nil, rfl, rfl⟩⟩, fun _ _ _ _ _ _ _ => trivial, fun i v acc Da c' f' c2 f2 hi ⟨ns, x, y, z, e1, e2, e3, e4, e5⟩ ⟨ec, ef, ev⟩ => ?_, fun acc Da c' f' ⟨ns, x, y, z, e1, e2, e3, e4, e5⟩ => ?_⟩
  · subst e1 e4 e5 ec ef ev
    refine gw_name ⟨rfl, bw_yes (if1 rfl ?_)⟩
    walk_at "go"
    refine tw_lst ?_
    walk_at "go"
    refine ⟨(by decide : 8 ≤ sizeLine), [1, 1, 3, 5, 127, 253, 255, 255].map D.int, Ents.flat rfl, fun v => ?_⟩
    walk_at "go"
    refine pick_ints (hk.again _).tl Ent.hd (by decide) (by decide) fun m' hm' x y z => ?_
    refine ⟨_, Has.hd, by rw [List.length_map]; exact Nat.lt_of_lt_of_le (by omega : ns.length < 5) (by decide), _, _, Wk.dropF, ns ++ [m'], x, y, z, by rw [List.map_append] <;> rfl, by rw [List.length_append, e2] <;> rfl, e3.app (b8_one ((by decide : ∀ m ∈ ([1, 1, 3, 5, 127, 253, 255, 255] : List Int), 0 ≤ m ∧ m ≤ 255) m' hm')), rfl, rfl⟩
  · subst e1 e4 e5
    walk_at "go"
    refine tw_lst ?_
    walk_at "go"
    refine tw_lst ?_
    walk_at "go"
    refine ⟨(by decide : 8 ≤ sizeLine), [2, 2, 4, 6, 128, 252, 254, 254].map D.int, Ents.flat rfl, fun v => ?_⟩
    walk_at "go"
    refine pick_ints (hk.again _).tl Ent.hd (by decide) (by decide) fun m' hm' x y z => ?_
    have hm2 := (by decide : ∀ m ∈ ([2, 2, 4, 6, 128, 252, 254, 254] : List Int), 0 ≤ m ∧ m ≤ 255) m' hm'
    walk_at "go"
    refine ⟨(by decide : 1 ≤ sizeLine), [.int m'], Ents.flat rfl, fun u => ?_⟩
    refine rw_catF (us := ns.map V.int) (ws := [V.int m']) (Sq.cell (ds := ns.map D.int) Has.hd (Ents.flat flatI)) (.inl Ent.hd) flatI rfl (by rw [List.length_map]; exact Nat.le_trans (by omega : ns.length + 1 ≤ 5) (by decide)) fun a => ?_
    have e : ns.map V.int ++ [V.int m'] = (ns ++ [m']).map V.int := by rw [List.map_append] <;> rfl
    rw [e]
    refine Fin.wk (Wk.swap.trans Wk.dropC) (Fin.dropF (Fin.dropF (Fin.of (q _ a _ _ _ (by simp) (by rw [List.length_append]; show ns.length + 1 ≤ 5; omega) (e3.app (b8_one hm2))))))
end
end FR

set_option Elab.async false
set_option linter.all false
set_option maxRecDepth 100000
set_option maxHeartbeats 2000000
namespace FR
open PySem PySem.Spec L2
open PyProof.Rows hiding St
local macro_rules | `(tactic| walk_at "ent") => `(tactic| first | assumption | exact Ent.hd | exact Ent.flat rfl | (refine Ent.tl ?_; walk_at "ent"))
local macro_rules | `(tactic| walk_at "has") => `(tactic| first | assumption | exact Has.hd | exact Has.again (by assumption) _ | (refine Has.tl ?_; walk_at "has"))
local macro_rules | `(tactic| walk_at "go1") => `(tactic| first
  | with_reducible refine sw_seq ?_ | with_reducible refine sw_if ?_ | with_reducible refine sw_ret ?_ | with_reducible refine sw_set ?_ | with_reducible refine sw_next ?_ | with_reducible refine sw_retN ?_ | with_reducible refine sw_drop ?_ | with_reducible refine sw_brk ?_ | with_reducible refine sw_cont ?_
  | with_reducible refine bw_test ?_ | with_reducible refine bw_val ?_ | with_reducible refine bw_and ?_ | with_reducible refine bw_or ?_ | with_reducible refine bw_not ?_
  | with_reducible refine tw_op ?_ | with_reducible refine tw_c ?_ | with_reducible refine tw_cb ?_ | with_reducible refine aw_cons ?_ | with_reducible refine aw_nil ?_ | with_reducible refine tw_not ?_ | with_reducible refine tw_and ?_ | with_reducible refine tw_or ?_ | with_reducible refine tw_un ?_ | with_reducible refine tw_if ?_ | with_reducible refine tw_sl ?_ | with_reducible refine ow_none ?_ | with_reducible refine ow_some ?_
  | with_reducible refine tw_call ?_ | with_reducible refine rw_I0 ?_ | with_reducible refine rw_U ?_
  | refine tw_var rfl ?_)
local macro_rules | `(tactic| walk_at "go") => `(tactic| repeat (walk_at "go1"))
local macro_rules | `(tactic| walk_at "ar1") => `(tactic| first
  | walk_at "go1" | refine rl_int ?_ | refine rw_ixC (by assumption) rfl ?_
  | refine rw_I (show CPow _ _ from ⟨by decide, by decide, by decide⟩) ?_
  | refine rw_I (show CMul _ _ from .inr ⟨by decide, by decide⟩) ?_ | refine rw_I (show CMul _ _ from .inl ⟨by decide, by decide⟩) ?_
  | refine rw_I (show CDivW _ _ from wide_div (b := 64) (by decide) (by decide) (by decide) (by decide)) ?_
  | refine rw_I (show (0 : Int) < _ from by first | decide | assumption) ?_
  | refine rw_I (show CMul _ _ from .inl ⟨by omega, by omega⟩) ?_)
local macro_rules | `(tactic| walk_at "ar") => `(tactic| repeat (walk_at "ar1"))
local macro_rules | `(tactic| walk_at "ext") => `(tactic| first | assumption | exact Ext.refl | (refine Ext.cons ?_; walk_at "ext"))
section
variable {Pr : Program} {w : World} {K : PySem.W.Frag} {mg : Str → Option Value} {base : Heap}
/-! ### what a question says -/
def keyD (i : Int) : D := .tup [.str "key", .str (toString i)]
def S_said (Pr : Program) (w : World) (mg : Str → Option Value) (T : Txt K mg) (base : Heap) : SpW := fun vs c f P _ => ∃ a tl Pv Px, vs = [.ref a] ∧ Clo Pr w K mg base 5 a tl ∧ LW K tl c f Pv Px ∧ (∀ v c' f', Pv v c' f' → Fin K P v c' f') ∧
  ∀ cls d c' f', Px cls d c' f' → cls = .ref T.NoKey.C ∧ ∃ dd i k, d = some dd ∧ Has c' dd (.xd [("place", .int i)]) k ∧ i.natAbs.log2 < 1920 ∧ ∀ v, Fin K P v c' (([v], [keyD i]) :: f')
theorem ok_law_said (T : Txt K mg) : FnOk Pr w K mg base CX0 6 T.law_said.f T.law_said.fd ["_law_call"] (mkSp K (S_said Pr w mg T base)) := by
  refine fnD T.law_said.F sc_law_said (fun vs c f P X ⟨_, _, _, _, e, _⟩ => by rw [e]; rfl) fun A outer s H XE hr => ⟨_, (pss_cons (ps_tryN rfl rfl takes_none5 (fun W pn xe tk ow => (pss_one (ps_set (i := 1) sc_law_said.nd rfl (Or.inl rfl) (pe_clo (P := Pr) (w := w) (K := K) (mg := mg) (base := base) (k := 5) (i := 0) tk (hr.mono (by decide)) rfl (.inl rfl) rfl rfl rfl rfl rfl)))) (HdN.named (i := 2) sc_law_said.nd rfl rfl ⟨rfl, by decide +kernel, .inl T.NoKey.g⟩ (fun a oe cls d pn hz hf => (pss_one (ps_ret (pe_tup (pa_cons pe_str (pa_cons (pe_callB SkE.call_repr_int (by rfl) T.n_repr (by decide +kernel) (pa_cons (pe_xf T.NoKey.xf T.NoKey_place hz hf (pv 2)) pa_nil)) pa_nil)))))) (HdN.plain ⟨rfl, by decide +kernel, .inl T.ForestError.g⟩ (fun a oe cls d pn hz hf => (pss_one (ps_ret pe_str))) HdN.nil)))
      (pss_one (ps_ret (pv 1)))), fun vs c f P X ⟨a, tl, Pv, Px, e, hc, hl, hv, hx⟩ => ?_⟩
  subst e
  walk_at "go"
  refine sw_try cov_none fun W hW => ?_
  walk_at "go"
  refine tw_clo hW rfl hc (hl.imp (fun v c' f' p => ?_) fun cls d c' f' x => ?_)
  · walk_at "go"
    exact hv _ _ _ p
  · obtain ⟨e1, dd, i, k, e2, hk, hi, q⟩ := hx _ _ _ _ x
    subst e1 e2
    refine ⟨true, T.te, fun _ ea => ?_, fun h => by cases h⟩
    walk_at "go"
    refine tw_tup ?_
    walk_at "go"
    refine tw_xf ?_
    walk_at "go"
    refine ⟨rfl, rfl, dd, _, _, k, rfl, hk, rfl, ?_⟩
    walk_at "go"
    refine rl_repr hi ?_
    walk_at "go"
    exact ⟨(by decide : 2 ≤ sizeLine), [.str "key", .str (toString i)], Ents.flat rfl, q⟩
theorem labs_len2 {ns : List Int} : ∀ i, (labs (ns.take i)).2.length ≤ i
  | 0 => by
    rw [List.take_zero]
    exact Nat.le_refl _
  | i + 1 => by
    cases h : ns[i]? with
    | none =>
      have e : ns.take (i + 1) = ns.take i := by rw [List.take_add_one, h, Option.toList_none, List.append_nil]
      rw [e]
      exact Nat.le_succ_of_le (labs_len2 i)
    | some n =>
      rw [labs_more h]
      unfold lab1
      have q := labs_len2 (ns := ns) i
      split
      · exact Nat.zero_le _
      · rw [List.length_append]
        exact Nat.succ_le_succ q
theorem labs_b8 {ns : List Int} (hb : B8 ns) : ∀ i, (∀ l ∈ (labs (ns.take i)).1, B8 l) ∧ B8 (labs (ns.take i)).2
  | 0 => by
    rw [List.take_zero]
    exact ⟨(fun l h => by cases h), b8_nil⟩
  | i + 1 => by
    cases h : ns[i]? with
    | none =>
      have e : ns.take (i + 1) = ns.take i := by rw [List.take_add_one, h, Option.toList_none, List.append_nil]
      rw [e]
      exact labs_b8 hb i
    | some n =>
      rw [labs_more h]
      obtain ⟨q1, q2⟩ := labs_b8 hb i
      have hn : B8 [n] := fun m hm => hb m (by
        have e : m = n := by simpa using hm
        rw [e]
        exact List.mem_of_getElem? h)
      unfold lab1
      split
      · refine ⟨fun l hl => ?_, b8_nil⟩
        rcases List.mem_append.mp hl with z | z
        · exact q1 l z
        · have e : l = (labs (ns.take i)).2 ++ [n] := by simpa using z
          rw [e]
          exact q2.app hn
      · exact ⟨q1, q2.app hn⟩
theorem int_inj : ∀ {a b : List Int}, a.map D.int = b.map D.int → a = b
  | [], [], _ => rfl
  | [], _ :: _, h => by simp at h
  | _ :: _, [], h => by simp at h
  | x :: a, y :: b, h => by
    simp only [List.map_cons, List.cons.injEq, D.int.injEq] at h
    rw [h.1, int_inj h.2]
theorem badAt_ints {l : List Int} (hb : B8 l) : badAt (l.map D.int) = none := by
  unfold badAt
  rw [List.findIdx?_eq_none_iff]
  intro d hd
  obtain ⟨n, hn, e⟩ := List.mem_map.mp hd
  subst e
  have q := hb n hn
  simp [isByte]
  omega
/-! ### what is due -/
def dueD (ns : List Int) : D := if ns = [] then keyD (-1) else if 0 ∈ ns then keyD (ns.idxOf 0 : Nat) else if (labs ns).2 ≠ [] then keyD (ns.length : Nat) else D.labels (labs ns).1
def S_due (K : PySem.W.Frag) : SpW := fun vs c f P _ => ∃ x ns, vs = [x] ∧ Ent K f x (.lst (ns.map D.int)) ∧ B8 ns ∧ ns.length < 1000000 ∧ ∀ v, P v c (([v], [dueD ns]) :: f)
theorem ok_law_due (T : Txt K mg) : FnOk Pr w K mg base CX0 5 T.law_due.f T.law_due.fd ["_law_numbers"] (mkSp K (S_due K)) := by
  refine fnD T.law_due.F sc_law_due (fun vs c f P X ⟨_, _, e, _⟩ => by rw [e]; rfl) fun A outer s H XE hr => ⟨_, (pss_cons (ps_if (pt_cmpR (op_eqQ hr.units) (pv 0) (pe_lst pa_nil) (nomark _)) (pss_one (ps_ret (pe_tup (pa_cons pe_str (pa_cons pe_str pa_nil))))) pss_nil)
      (pss_cons (ps_if (pt_cmpR op_in_seq pe_int (pv 0) (by rfl)) (pss_one (ps_ret (pe_tup (pa_cons pe_str (pa_cons (pe_callB SkE.call_repr_int (by rfl) T.n_repr (by decide +kernel) (pa_cons (pe_bm PySem.F.plainAttrs_list PySem.F.slot_list_index PySem.F.type_list_index mt_index (pv 0) (pa_cons pe_int pa_nil)) pa_nil)) pa_nil))))) pss_nil)
      (pss_cons (ps_set (i := 1) sc_law_due.nd rfl (Or.inl rfl) (pe_lst (pa_cons (pe_lst pa_nil) pa_nil)))
      (pss_cons (ps_for PassesOwn.never rfl (pi_list (pv 0)) (pg_name (i := 2) sc_law_due.nd rfl (Or.inl rfl))
      (pss_cons (ps_expr (pe_bm PySem.F.plainAttrs_list PySem.F.slot_list_append PySem.F.type_list_append mt_append (pe_ix ix_list (pv 1) (pe_un un_neg pe_int) (fun _ _ => rfl)) (pa_cons (pv 2) pa_nil)))
      (pss_one (ps_if (pt_cmpR op_eq (pe_op op_mod (pe_callTy call_int1 (by rfl) T.n_int (by decide +kernel) (pa_cons (pv 2) pa_nil)) pe_int) pe_int (nomark _)) (pss_one (ps_expr (pe_bm PySem.F.plainAttrs_list PySem.F.slot_list_append PySem.F.type_list_append mt_append (pv 1) (pa_cons (pe_lst pa_nil) pa_nil)))) pss_nil))))
      (pss_cons (ps_if (pt_cmpR (op_neQ hr.units) (pe_ix ix_list (pv 1) (pe_un un_neg pe_int) (fun _ _ => rfl)) (pe_lst pa_nil) (nomark _)) (pss_one (ps_ret (pe_tup (pa_cons pe_str (pa_cons (pe_callB SkE.call_repr_int (by rfl) T.n_repr (by decide +kernel) (pa_cons (pe_callB call_len_seq (by rfl) T.n_len (by decide +kernel) (pa_cons (pv 0) pa_nil)) pa_nil)) pa_nil))))) pss_nil)
      (pss_one (ps_ret (pe_lc (own := [("_law_label_here", 3)]) rfl sc_law_due.nd (pi_list (pe_slice sl_list (pv 1) po_none (po_some (pe_un un_neg pe_int)))) (blkOk_by (N := ["_law_numbers", "_law_found", "_law_number", "_law_label_here"]) (sc := defScope st_law_due) (by decide +kernel)) (fun _ _ _ _ _ => (pg_name (i := 3) sc_law_due.nd rfl (Or.inl rfl))) (fun _ _ _ _ _ => pts_nil) (fun _ _ _ _ _ => (pe_callS (ok_bytes_of T) (hr.mono (by decide)) (by rfl) T.bytes_of.g T.bytes_of.F.kp T.bytes_of.b (fun σ => passAt takes_none5 σ) (pa_cons (pv 3) pa_nil))))))))))), fun vs c f P X ⟨x, ns, e, hx, hb, hl, q⟩ => ?_⟩
  subst e
  walk_at "go"
  refine tw_lst ?_
  walk_at "go"
  refine ⟨(by decide : 0 ≤ sizeLine), [], Ents.nil, fun v => ?_⟩
  refine rw_eqQ (EntH.of hx.tl) (EntH.of Ent.hd) (eqI ns []) ⟨_, rfl, ifd (fun h0 => ?_) fun h0 => ?_⟩
  · walk_at "go"
    refine tw_tup ?_
    walk_at "go"
    refine ⟨(by decide : 2 ≤ sizeLine), [.str "key", .str "-1"], Ents.flat rfl, fun v => ?_⟩
    have e : dueD ns = .tup [.str "key", .str "-1"] := by
      unfold dueD
      rw [if_pos h0]
      rfl
    rw [← e]
    exact Fin.wk (Ext.up Ext.one).wk (Fin.of (q v))
  · walk_at "go"
    refine rw_in (.inl hx.tl) flatI rfl (by simp [flatV]) ⟨_, rfl, ?_⟩
    rw [if_neg Bool.false_ne_true, inV_int]
    refine ifd (fun h1 => ?_) fun h1 => ?_
    · walk_at "go"
      refine tw_tup ?_
      walk_at "go"
      refine tw_bm (tw_var rfl ⟨TyW.sq (.inl hx.tl), ?_⟩)
      walk_at "go"
      refine rm_indexI (.inl hx.tl) h1 ?_
      walk_at "go"
      have hlt := (idx_int h1).2.2
      refine rl_repr (log_small (by omega)) ?_
      walk_at "go"
      refine ⟨(by decide : 2 ≤ sizeLine), [.str "key", .str (toString ((ns.idxOf 0 : Nat) : Int))], Ents.flat rfl, fun v => ?_⟩
      have e : dueD ns = .tup [.str "key", .str (toString ((ns.idxOf 0 : Nat) : Int))] := by
        unfold dueD
        rw [if_neg h0, if_pos h1]
        rfl
      rw [← e]
      exact Fin.wk (Ext.up Ext.one).wk (Fin.of (q v))
    · walk_at "go"
      refine tw_lstC ?_
      walk_at "go"
      refine tw_lstC ?_
      walk_at "go"
      refine ⟨(by decide : 0 ≤ sizeLine), fun La => ?_⟩
      walk_at "go"
      refine ⟨(by decide : 1 ≤ sizeLine), fun Fo => ?_⟩
      walk_at "go"
      refine sw_for (iw_lst (tw_var rfl ⟨_, .inl hx.tl, ?_⟩))
      refine ⟨fun i σ' c' f' => ∃ La rs a1 a2, σ' = [some x, some (.ref Fo), a1, a2] ∧ c' = (La, .lst ((labs (ns.take i)).2.map V.int)) :: (Fo, .lst (rs ++ [.ref La])) :: c ∧ Ext K f f' ∧ Ents K f' rs ((labs (ns.take i)).1.map fun l => .lst (l.map D.int)), ?_, ?_, ?_, ?_⟩
      · refine Nxt.wk Wk.swap (Nxt.of ?_)
        exact ⟨La, [], _, _, rfl, rfl, Ext.one, Ents.nil⟩
      · rintro i σ' c' f' _ ⟨La, rs, a1, a2, e1, e2, e3, e4⟩
        exact .inl (e3.ent hx)
      · rintro i v σ' c' f' c2 f2 hi ⟨La, rs, a1, a2, e1, e2, e3, e4⟩ ⟨ec, d, hd, ef⟩
        subst e1 e2 ec ef
        obtain ⟨n, hn, rfl⟩ : ∃ n, ns[i]? = some n ∧ d = .int n := by
          rw [List.getElem?_map] at hd
          cases q : ns[i]? with
          | none => rw [q] at hd; cases hd
          | some n => rw [q] at hd; exact ⟨n, rfl, (Option.some.inj hd).symm⟩
        have hm := labs_more hn
        have hcl : (labs (ns.take i)).2.length ≤ i := labs_len2 i
        refine gw_name (SW.eq Ent.hd rfl fun ev => SW.len e4.tl fun hrs => ?_)
        subst ev
        have hi' : i < ns.length := (List.getElem?_eq_some_iff.mp hn).1
        have hrs' : (rs ++ [V.ref La]).length < sizeLine := by
          rw [List.length_append, hrs, List.length_map]
          exact Nat.lt_of_le_of_lt (Nat.add_le_add_right (labs_len i) 1) (Nat.lt_of_le_of_lt (by show i + 1 ≤ 1000000; omega) (by decide : 1000000 < sizeLine))
        walk_at "go"
        refine tw_bm ?_
        walk_at "go"
        refine rw_ixC (Has.tl Has.hd) atI_last ⟨TyW.cell Has.hd, ?_⟩
        walk_at "go"
        refine rm_append Has.hd (by rw [List.length_map]; exact Nat.lt_of_le_of_lt hcl (Nat.lt_trans (by simpa using hi) (Nat.lt_trans hl (by decide)))) ?_
        walk_at "ar"
        refine rw_eqI ⟨_, rfl, ifd (fun h2 => ?_) fun h2 => ?_⟩
        · have e0 : lab1 (labs (ns.take i)) n = ((labs (ns.take i)).1 ++ [(labs (ns.take i)).2 ++ [n]], []) := if_pos h2
          rw [e0] at hm
          walk_at "go"
          refine tw_bm (tw_var rfl ⟨TyW.cell (Has.tl Has.hd), ?_⟩)
          walk_at "go"
          refine tw_lstC ?_
          walk_at "go"
          refine ⟨(by decide : 0 ≤ sizeLine), fun La2 => ?_⟩
          walk_at "go"
          refine rm_append (Has.tl (Has.tl Has.hd)) hrs' ?_
          walk_at "go"
          have ef : (labs (ns.take i)).2.map V.int ++ [V.int n] = ((labs (ns.take i)).2 ++ [n]).map V.int := by rw [List.map_append] <;> rfl
          rw [ef]
          refine nxN (Nxt.wk (Wk.swap.trans (Wk.frz (Ents.flat flatI))) (Nxt.of ?_))
          refine ⟨La2, rs ++ [.ref La], _, _, rfl, ?_, e3.cons.cons, ?_⟩
          · rw [hm] <;> rfl
          · rw [hm]
            have e : ((labs (ns.take i)).1 ++ [(labs (ns.take i)).2 ++ [n]]).map (fun l => D.lst (l.map D.int)) = (labs (ns.take i)).1.map (fun l => D.lst (l.map D.int)) ++ [D.lst (((labs (ns.take i)).2 ++ [n]).map D.int)] := List.map_append
            show Ents K _ _ (((labs (ns.take i)).1 ++ [(labs (ns.take i)).2 ++ [n]]).map (fun l => D.lst (l.map D.int)))
            rw [e]
            exact Ents.app e4.tl.tl (Ents.one Ent.hd)
        · have e0 : lab1 (labs (ns.take i)) n = ((labs (ns.take i)).1, (labs (ns.take i)).2 ++ [n]) := if_neg h2
          rw [e0] at hm
          walk_at "go"
          refine nxN (Nxt.drop (Nxt.of ?_))
          refine ⟨La, rs, _, _, rfl, ?_, e3, ?_⟩
          · rw [hm, List.map_append] <;> rfl
          · rw [hm]
            exact e4
      · rintro σ' c' f' ⟨La, rs, a1, a2, e1, e2, e3, e4⟩
        subst e1 e2
        rw [List.length_map, List.take_length] at e4 ⊢
        walk_at "go"
        refine rw_ixC (Has.tl Has.hd) atI_last ?_
        walk_at "go"
        refine tw_lst ?_
        walk_at "go"
        refine ⟨(by decide : 0 ≤ sizeLine), [], Ents.nil, fun v => ?_⟩
        refine rw_neQ (EntH.sq (Sq.cell Has.hd (Ents.flat flatI))) (EntH.of Ent.hd) (eqI (labs ns).2 []) ⟨_, rfl, ifn (fun h2 => ?_) fun h2 => ?_⟩
        · walk_at "go"
          refine tw_tup ?_
          walk_at "go"
          refine rl_lenL (.inl (e3.ent hx).tl) ?_
          walk_at "go"
          rw [List.length_map]
          refine rl_repr (log_small (by omega)) ?_
          walk_at "go"
          refine ⟨(by decide : 2 ≤ sizeLine), [.str "key", .str (toString ((ns.length : Nat) : Int))], Ents.flat rfl, fun v => ?_⟩
          have e : dueD ns = .tup [.str "key", .str (toString ((ns.length : Nat) : Int))] := by
            unfold dueD
            rw [if_neg h0, if_neg h1, if_pos h2]
            rfl
          rw [← e]
          exact Fin.dropC (Fin.dropC (Fin.wk (Ext.up e3.cons).wk (Fin.of (q v))))
        · walk_at "go"
          refine TW.wk (Wk.frz (Ents.flat flatI)) ?_
          refine tw_lc (iw_lst ?_)
          walk_at "go"
          refine ⟨_, rfl, rw_cutL (Sq.cell (ds := ((labs ns).1.map fun l => D.lst (l.map D.int)) ++ [.lst ((labs ns).2.map D.int)]) Has.hd (Ents.app e4.tl.tl (Ents.one Ent.hd))) fun v => ⟨_, .inl Ent.hd, ?_⟩⟩
          rw [cutD_init]
          refine ⟨fun i acc c' f' => acc = ((labs ns).1.take i).map (fun l => V.byt (byteArr l)) ∧ c' = ((Fo, .lst (rs ++ [.ref La])) :: c) ∧ Ext K f f' ∧ Ent K f' v (.lst ((labs ns).1.map fun l => .lst (l.map D.int))), ⟨_, _, Wk.refl, rfl, rfl, e3.cons.cons.cons, Ent.hd⟩, fun i acc Da c' f' _ ⟨_, _, _, h4⟩ => .inl h4, ?_, ?_⟩
          · rintro i u acc Da c' f' c2 f2 hi ⟨g1, g2, g3, g4⟩ ⟨ec, d, hd, ef⟩
            subst g1 g2 ec ef
            have hlt := hl
            obtain ⟨l, hl, rfl⟩ : ∃ l, (labs ns).1[i]? = some l ∧ d = .lst (l.map D.int) := by
              rw [List.getElem?_map] at hd
              cases q : (labs ns).1[i]? with
              | none => rw [q] at hd; cases hd
              | some l => rw [q] at hd; exact ⟨l, rfl, (Option.some.inj hd).symm⟩
            refine gw_name ⟨rfl, bw_yes (if1 rfl ?_)⟩
            refine tw_callX cov_none ?_
            walk_at "go"
            have hb8 : B8 l := by
              have q := (labs_b8 hb ns.length).1
              rw [List.take_length] at q
              exact q l (List.mem_of_getElem? hl)
            refine ⟨u, rfl, .inl ⟨l.map D.int, .inl (.inl Ent.hd), fun d hd => ?_, fun ms e _ => ?_, fun j hj => ?_⟩⟩
            · obtain ⟨n, _, e⟩ := List.mem_map.mp hd
              subst e
              exact ⟨_, rfl⟩
            · have e2 : l = ms := int_inj e
              subst e2
              have hlen : ((labs ns).1.take i).length ≤ ns.length := by
                have q := labs_len (ns := ns) ns.length
                rw [List.take_length] at q
                exact Nat.le_trans (List.length_take_le' _ _) q
              refine ⟨_, Has.hd, by rw [List.length_map]; exact Nat.lt_of_le_of_lt hlen (Nat.lt_trans hlt (by decide)), _, _, Wk.dropF, ?_, rfl, g3, g4⟩
              rw [List.take_add_one, hl, Option.toList_some, List.map_append] <;> rfl
            · rw [badAt_ints hb8] at hj
              cases hj
          · rintro acc Da c' f' ⟨g1, g2, g3, g4⟩
            subst g1 g2
            rw [List.length_map, List.take_length]
            have e : dueD ns = D.labels (labs ns).1 := by
              unfold dueD
              rw [if_neg h0, if_neg h1, if_neg (fun z => z h2)]
            refine Fin.wk (Wk.frz (ds := (labs ns).1.map fun l => D.byt (byteArr l)) (Ents.flat (by simp [D.v?]))) (Fin.dropC (Fin.wk (Ext.up g3).wk (Fin.of ?_)))
            rw [show D.lst ((labs ns).1.map fun l => D.byt (byteArr l)) = dueD ns from e.symm]
            exact q _
end
end FR

set_option Elab.async false
set_option linter.all false
set_option maxRecDepth 100000
set_option maxHeartbeats 2000000
namespace FR
open PySem PySem.Spec L2
open PyProof.Rows hiding St
local macro_rules | `(tactic| walk_at "ent") => `(tactic| first | assumption | exact Ent.hd | exact Ent.flat rfl | (refine Ent.tl ?_; walk_at "ent"))
local macro_rules | `(tactic| walk_at "has") => `(tactic| first | assumption | exact Has.hd | exact Has.again (by assumption) _ | (refine Has.tl ?_; walk_at "has"))
local macro_rules | `(tactic| walk_at "go1") => `(tactic| first
  | with_reducible refine sw_seq ?_ | with_reducible refine sw_if ?_ | with_reducible refine sw_ret ?_ | with_reducible refine sw_set ?_ | with_reducible refine sw_next ?_ | with_reducible refine sw_retN ?_ | with_reducible refine sw_drop ?_ | with_reducible refine sw_brk ?_ | with_reducible refine sw_cont ?_
  | with_reducible refine bw_test ?_ | with_reducible refine bw_val ?_ | with_reducible refine bw_and ?_ | with_reducible refine bw_or ?_ | with_reducible refine bw_not ?_
  | with_reducible refine tw_op ?_ | with_reducible refine tw_c ?_ | with_reducible refine tw_cb ?_ | with_reducible refine aw_cons ?_ | with_reducible refine aw_nil ?_ | with_reducible refine tw_not ?_ | with_reducible refine tw_and ?_ | with_reducible refine tw_or ?_ | with_reducible refine tw_un ?_ | with_reducible refine tw_if ?_ | with_reducible refine tw_sl ?_ | with_reducible refine ow_none ?_ | with_reducible refine ow_some ?_
  | with_reducible refine tw_call ?_ | with_reducible refine rw_I0 ?_ | with_reducible refine rw_U ?_
  | refine tw_var rfl ?_)
local macro_rules | `(tactic| walk_at "go") => `(tactic| repeat (walk_at "go1"))
local macro_rules | `(tactic| walk_at "ar1") => `(tactic| first
  | walk_at "go1" | refine rl_int ?_ | refine rw_ixC (by assumption) rfl ?_
  | refine rw_I (show CPow _ _ from ⟨by decide, by decide, by decide⟩) ?_
  | refine rw_I (show CMul _ _ from .inr ⟨by decide, by decide⟩) ?_ | refine rw_I (show CMul _ _ from .inl ⟨by decide, by decide⟩) ?_
  | refine rw_I (show CDivW _ _ from wide_div (b := 64) (by decide) (by decide) (by decide) (by decide)) ?_
  | refine rw_I (show (0 : Int) < _ from by first | decide | assumption) ?_
  | refine rw_I (show CMul _ _ from .inl ⟨by omega, by omega⟩) ?_)
local macro_rules | `(tactic| walk_at "ar") => `(tactic| repeat (walk_at "ar1"))
local macro_rules | `(tactic| walk_at "ext") => `(tactic| first | assumption | exact Ext.refl | (refine Ext.cons ?_; walk_at "ext"))
section
variable {Pr : Program} {w : World} {K : PySem.W.Frag} {mg : Str → Option Value} {base : Heap}
/-! ### the lambdas of _law_right: slots ["_law_rng_here", "_law_numbers", "_law_turn", "_law_at", "_law_odd", "_law_some", "_law_one", "_law_data", "_law_strange"] -/
def ls_law_right (T : Txt K mg) : Lams := [(lm_law_right_0, fun E => tCallS (mkSp K (S_split_key K T.NoKey.C)) (WE fun cls d _ H => E cls d H) (tCons (tVar 7) tNil)),
  (lm_law_right_1, fun E => tCallS (mkSp K (S_bytes_of K T.NoKey.C)) (WE fun cls d _ H => E cls d H)
    (tCons (tOp (rCatQ K) (tOp (rCatQ K) (tSl (rSlL K) (tVar 1) tNoPart (tPart (tVar 3))) (tLst (tCons (tVar 8) (tCons (tC .non) tNil)))) (tSl (rSlL K) (tVar 1) (tPart (tVar 3)) tNoPart)) tNil))]
theorem hl_law_right (T : Txt K mg) {q : Str} {cells : List (Str × Addr)} : ∀ p ∈ ls_law_right T, LamOk ["_law_rng_here", "_law_numbers", "_law_turn", "_law_at", "_law_odd", "_law_some", "_law_one", "_law_data", "_law_strange"] p.1 ∧ Seen (defScope st_law_right) p.1.scope ∧ ∀ (b : Heap) (A : Around) (outer : List Env) (s : Shared) (H : Hp) (E : XK) (f c' : Addr),
      Room 4 (A.deeper (lmEnv q p.1.scope s.heap.objs.size f c' (cloFrom cells p.1.scope.names []))) → PE (lmCx Pr w K mg b ["_law_rng_here", "_law_numbers", "_law_turn", "_law_at", "_law_odd", "_law_some", "_law_one", "_law_data", "_law_strange"] A outer s H E q p.1.scope f c' (cloFrom cells p.1.scope.names [])) p.1.body (p.2 E) := by
  intro p hp
  rcases List.mem_cons.mp hp with e | hp
  · subst e
    exact ⟨ok_lm_law_right_0, seen_lm_law_right_0, fun b A outer s H E f c' hr => (pe_callS (ok_split_key T) (hr.mono (by decide)) (by rfl) T.split_key.g T.split_key.F.kp T.split_key.b (fun σ => passAt (takes_of rfl rfl rfl rfl) σ) (pa_cons (pv 7) pa_nil))⟩
  rcases List.mem_cons.mp hp with e | hp
  · subst e
    exact ⟨ok_lm_law_right_1, seen_lm_law_right_1, fun b A outer s H E f c' hr => (pe_callS (ok_bytes_of T) (hr.mono (by decide)) (by rfl) T.bytes_of.g T.bytes_of.F.kp T.bytes_of.b (fun σ => passAt (takes_of rfl rfl rfl rfl) σ) (pa_cons (pe_op op_catQ (pe_op op_catQ (pe_slice sl_list (pv 1) po_none (po_some (pv 3))) (pe_lst (pa_cons (pv 8) (pa_cons pe_non pa_nil)))) (pe_slice sl_list (pv 1) (po_some (pv 3)) po_none)) pa_nil))⟩
  · cases hp
/-- what split_key leads to -/
def saidD (ns : List Int) : D := match faultAt ns with | none => D.labels (labs ns).1 | some i => keyD i
structure Good (l : List Int) : Prop where
  b : B8 l
  n : l.length ≤ 200
abbrev qR : Str := qL "_law_right"
def S_right (K : PySem.W.Frag) (Pt : Addr) : SpW := fun vs c f P _ => ∃ r x y z ps c0, vs = [.ref r] ∧ c = ((r, rngO x y z) :: (Pt, .tbl ps) :: c0) ∧ TabW K f qR ps ∧ ∀ x y z ps f', Ext K f f' → TabW K f' qR ps → P (.bl true) ((r, rngO x y z) :: (Pt, .tbl ps) :: c0) f'
theorem fault_log {ns : List Int} {i : Int} (hn : ns.length < 1000000) (h : faultAt ns = some i) : i.natAbs < 2 ^ 64 := by
  unfold faultAt at h
  split at h
  · cases h
    decide
  · split at h
    · cases h
      rename_i h1
      have := (idx_int h1).2.2
      omega
    · split at h
      · cases h
        omega
      · cases h
theorem tw_said0 (T : Txt K mg) {σ : St} {r Pt : Addr} {x y z : Int} {ps : Array Value} {c0 : Cs} {f : Fs} {P : PV} {ms : List Int} {q : Str} {cells : List (Str × Addr)} (hs : σ[7]? = some (some (.byt (byteArr ms)))) (hb : B8 ms) (hz : ms.length < 1000000) (ht : TabW K f q ps)
    (p : ∀ v ps' g1 g2 g3, TabW K (([v], [saidD ms]) :: g1 :: g2 :: g3 :: f) q ps' → P v ((r, rngO x y z) :: (Pt, .tbl ps') :: c0) (([v], [saidD ms]) :: g1 :: g2 :: g3 :: f)) :
    TW K (tCallB Pr w K mg 5 q cells (ls_law_right T) id (fun b => mkSp K (S_said Pr w mg T b)) (tCons (tLam Pt q lm_law_right_0 (cloFrom cells lm_law_right_0.scope.names [])) tNil)) σ ((r, rngO x y z) :: (Pt, .tbl ps) :: c0) f P := by
  have hsz : ms.length < sizeLine := Nat.lt_trans hz (by decide)
  refine tw_callB ?_
  walk_at "go"
  refine tw_lam (Has.tl Has.hd) ht fun la ps' g1 g2 ht' => ?_
  walk_at "go"
  refine ⟨_, List.mem_cons_self, la, rfl, fun b hc => ?_⟩
  let fl : Fs := ([.ref la], [.raw (LamR q lm_law_right_0 (cloFrom cells lm_law_right_0.scope.names []))]) :: g1 :: g2 :: f
  refine ⟨la, _, _, _, rfl, hc, lw_lam (P := fun v c' f2 => c' = ((r, rngO x y z) :: (Pt, .tbl ps') :: c0) ∧ f2 = (([v], [saidD ms]) :: fl)) (X := fun cls d c' f2 => cls = .ref T.NoKey.C ∧ ∃ dd i, d = some dd ∧ faultAt ms = some i ∧ c' = ((dd, .xd [("place", .int i)]) :: (r, rngO x y z) :: (Pt, .tbl ps') :: c0) ∧ f2 = fl) Ent.hd (fun XE hxe => tw_callX (covE hxe) (aw_cons (tw_var hs (aw_nil ⟨_, rfl, .inl ⟨ms, rfl, hb, hsz, fun hf v => ⟨rfl, ?_⟩, fun i hf d => ⟨rfl, d, i, rfl, hf, rfl, rfl⟩⟩⟩)))), ?_, ?_⟩
  · rintro v c' f2 ⟨e1, e2⟩
    subst e1 e2
    exact Fin.of (p v ps' _ g1 g2 ht'.up)
  · rintro cls d c' f2 ⟨e1, dd, i, e2, hf, e3', e4'⟩
    subst e1 e2 e3' e4'
    refine ⟨rfl, dd, i, _, rfl, Has.hd, log_small (fault_log hz hf), fun v => Fin.dropC (Fin.of ?_)⟩
    have e : saidD ms = keyD i := by
      unfold saidD
      rw [hf]
    rw [← e]
    exact p v ps' _ g1 g2 ht'.up
  · unfold saidD
    rw [hf]
theorem bad_mid {l r : List Int} {d e : D} (hb : B8 l) (hd : isByte d = false) : badAt ((l.map D.int ++ [d, e]) ++ r.map D.int) = some l.length := by
  have hlt : l.length < (l.map D.int ++ [d, e]).length := by simp
  refine badAt_first (d := d) ?_ hd fun j hj d' hd' => ?_
  · rw [List.getElem?_append_left hlt, List.getElem?_append_right (by simp)]
    simp
  · rw [List.getElem?_append_left (by simp; omega), List.getElem?_append_left (by simpa using hj), List.getElem?_map] at hd'
    cases q : l[j]? with
    | none => rw [q] at hd'; cases hd'
    | some n =>
      rw [q] at hd'
      cases hd'
      have := hb n (List.mem_of_getElem? q)
      simp [isByte]
      omega
theorem tw_said1 (T : Txt K mg) {σ : St} {r Pt a : Addr} {x y z at_ : Int} {ps : Array Value} {c0 : Cs} {f : Fs} {P : PV} {ns : List Int} {sv : V} {d : D} {q : Str} {cells : List (Str × Addr)} (h1 : σ[1]? = some (some (.ref a))) (h3 : σ[3]? = some (some (.int at_))) (h8 : σ[8]? = some (some sv))
    (hn : Ent K f (.ref a) (.lst (ns.map D.int))) (hb : B8 ns) (hl : ns.length ≤ 35) (h0 : 0 ≤ at_) (hlt : at_ < ns.length) (hd : Ent K f sv d) (hby : isByte d = false) (hty : ∃ t, d.tyn = some t) (ht : TabW K f q ps)
    (p : ∀ v ps' f', Ext K f f' → TabW K f' q ps' → P v ((r, rngO x y z) :: (Pt, .tbl ps') :: c0) (([v], [keyD at_]) :: f')) :
    TW K (tCallB Pr w K mg 5 q cells (ls_law_right T) id (fun b => mkSp K (S_said Pr w mg T b)) (tCons (tLam Pt q lm_law_right_1 (cloFrom cells lm_law_right_1.scope.names [])) tNil)) σ ((r, rngO x y z) :: (Pt, .tbl ps) :: c0) f P := by
  refine tw_callB ?_
  walk_at "go"
  refine tw_lam (Has.tl Has.hd) ht fun la ps' g1 g2 ht' => ?_
  walk_at "go"
  refine ⟨_, List.mem_cons_of_mem _ List.mem_cons_self, la, rfl, fun b hc => ?_⟩
  let fl : Fs := ([.ref la], [.raw (LamR q lm_law_right_1 (cloFrom cells lm_law_right_1.scope.names []))]) :: g1 :: g2 :: f
  refine ⟨la, _, _, _, rfl, hc, lw_lam (P := fun _ _ _ => False) (X := fun cls d c' f2 => cls = .ref T.NoKey.C ∧ ∃ dd, d = some dd ∧ c' = ((dd, .xd [("place", .int at_)]) :: (r, rngO x y z) :: (Pt, .tbl ps') :: c0) ∧ Ext K fl f2) Ent.hd (fun XE hxe => ?_), fun _ _ _ z => z.elim, ?_⟩
  · dsimp only [id]
    refine tw_callX (covE hxe) ?_
    refine aw_cons (tw_op (tw_op (tw_sl (tw_var h1 (ow_none (ow_some (tw_var h3 ⟨_, rfl, ?_⟩)))))))
    refine rw_cutLI (.inl (by walk_at "ent")) fun w1 => ?_
    refine tw_lst (aw_cons (tw_var h8 (aw_cons (tw_c (aw_nil ⟨(by decide : 2 ≤ sizeLine), [d, .non], .cons (by walk_at "ent") (.one (Ent.flat rfl)), fun w2 => ?_⟩)))))
    have hA : ∀ {lo hi}, (cutD ns lo hi).length ≤ 35 := fun {lo hi} => Nat.le_trans cutD_len hl
    refine rw_cat (.inl (by walk_at "ent")) (.inl (by walk_at "ent")) (sz (by have := hA (lo := none) (hi := some at_); simp; omega)) fun w3 => ?_
    refine tw_sl (tw_var h1 (ow_some (tw_var h3 ⟨_, rfl, ow_none ?_⟩)))
    refine rw_cutLI (.inl (by walk_at "ent")) fun w4 => ?_
    refine rw_cat (.inl (by walk_at "ent")) (.inl (by walk_at "ent")) (sz (by have h1 := hA (lo := none) (hi := some at_); have h2 := hA (lo := some at_) (hi := none); simp; omega)) fun w5 => ?_
    refine aw_nil ⟨_, rfl, .inl ⟨_, .inl (.inl Ent.hd), ?_, ?_, ?_⟩⟩
    · intro d' hd'
      simp only [List.mem_append, List.mem_map, List.mem_cons, List.not_mem_nil, or_false] at hd'
      rcases hd' with (⟨n, _, e⟩ | e | e) | ⟨n, _, e⟩
      · subst e
        exact ⟨_, rfl⟩
      · subst e
        exact hty
      · subst e
        exact ⟨_, rfl⟩
      · subst e
        exact ⟨_, rfl⟩
    · intro ms e hms
      have hm : d ∈ ms.map D.int := by
        rw [← e]
        simp
      obtain ⟨n, hn', e'⟩ := List.mem_map.mp hm
      subst e'
      have := hms n hn'
      simp [isByte] at hby
      omega
    · intro i hi dx
      rw [bad_mid (cutD_b8 hb) hby, cutD_to h0 (by omega), List.length_take] at hi
      have e : ((i : Nat) : Int) = at_ := by
        have := Option.some.inj hi
        omega
      rw [e]
      exact ⟨rfl, dx, rfl, rfl, by walk_at "ext"⟩
  · rintro cls d' c' f2 ⟨e1, dd, e2, e3, e4⟩
    subst e1 e2 e3
    refine ⟨rfl, dd, at_, _, rfl, Has.hd, log_small (by omega), fun v => Fin.dropC (Fin.of ?_)⟩
    exact p v ps' f2 (Ext.trans (by walk_at "ext") e4) (Ext.tab e4 ht')
/-- what is due is what split_key says -/
theorem last_cur {ns : List Int} (hne : ns ≠ []) : ns.getLastD 0 % 2 = 1 ↔ (labs ns).2 ≠ [] := by
  obtain ⟨xs, n, e⟩ : ∃ xs n, ns = xs ++ [n] := ⟨_, _, (List.dropLast_concat_getLast hne).symm⟩
  subst e
  have e1 : (xs ++ [n]).getLastD 0 = n := by simp
  have e2 : labs (xs ++ [n]) = lab1 (labs xs) n := by
    unfold labs
    rw [List.foldl_append] <;> rfl
  rw [e1, e2]
  unfold lab1
  by_cases h : n % 2 = 0
  · rw [if_pos h]
    simp
    omega
  · rw [if_neg h]
    simp
    omega
theorem said_due (ns : List Int) : saidD ns = dueD ns := by
  unfold saidD dueD faultAt
  by_cases h0 : ns = []
  · rw [if_pos h0, if_pos h0]
  · rw [if_neg h0, if_neg h0]
    by_cases h1 : (0 : Int) ∈ ns
    · rw [if_pos h1, if_pos h1]
    · rw [if_neg h1, if_neg h1]
      by_cases h2 : (labs ns).2 ≠ []
      · rw [if_pos ((last_cur h0).mpr h2), if_pos h2]
      · rw [if_neg (fun z => h2 ((last_cur h0).mp z)), if_neg h2]
theorem due_fine (ns : List Int) : (dueD ns).fine 64 = true := by
  unfold dueD
  split
  · rfl
  · split
    · rfl
    · split
      · rfl
      · show ((labs ns).1.map fun l => D.byt (byteArr l)).all (D.fine 63) = true
        simp [D.fine]
theorem ok_law_right (T : Txt K mg) {Pt : Addr} (tb : LamX.TabB base mg (codeA K T.law_right.f) Pt) : FnOk Pr w K mg base CX0 7 T.law_right.f T.law_right.fd ["_law_rng_here"] (mkSp K (S_right K Pt)) := by
  refine fnD T.law_right.F sc_law_right (fun vs c f P X ⟨_, _, _, _, _, _, e, _⟩ => by rw [e]; rfl) fun A outer s H XE hr => ⟨_, (pss_cons (ps_set (i := 1) sc_law_right.nd rfl (Or.inr rfl) (pe_lst pa_nil))
      (pss_cons (ps_for PassesOwn.never rfl (pi_range1 rfl T.n_range (pa_cons (pe_op op_add pe_int (pe_call (ok_law_draw T) (hr.mono (by decide)) (by rfl) T.law_draw.g T.law_draw.F.kp T.law_draw.b .nil pass0 (pa_cons (pv 0) (pa_cons pe_int pa_nil)))) pa_nil)) (pg_name (i := 2) sc_law_right.nd rfl (Or.inl rfl))
      (pss_one (ps_expr (pe_bm PySem.F.plainAttrs_list PySem.F.slot_list_extend PySem.F.type_list_extend mt_extend (pv 1) (pa_cons (pe_call (ok_law_label T) (hr.mono (by decide)) (by rfl) T.law_label.g T.law_label.F.kp T.law_label.b .nil pass0 (pa_cons (pv 0) pa_nil)) pa_nil)))))
      (pss_cons (ps_asg (pe_tup (pa_cons (pe_call (ok_law_draw T) (hr.mono (by decide)) (by rfl) T.law_draw.g T.law_draw.F.kp T.law_draw.b .nil pass0 (pa_cons (pv 0) (pa_cons (pe_callB call_len_seq (by rfl) T.n_len (by decide +kernel) (pa_cons (pv 1) pa_nil)) pa_nil))) (pa_cons (pe_call (ok_law_pick T) (hr.mono (by decide)) (by rfl) T.law_pick.g T.law_pick.F.kp T.law_pick.b .nil pass0 (pa_cons (pv 0) (pa_cons (pe_lst (pa_cons pe_int (pa_cons pe_int (pa_cons pe_int (pa_cons pe_int (pa_cons pe_int (pa_cons (pe_call (ok_law_draw T) (hr.mono (by decide)) (by rfl) T.law_draw.g T.law_draw.F.kp T.law_draw.b .nil pass0 (pa_cons (pv 0) (pa_cons pe_int pa_nil))) pa_nil))))))) pa_nil))) pa_nil))) (pg_tup rfl (pgs_cons (pg_name (i := 3) sc_law_right.nd rfl (Or.inr rfl)) (pgs_cons (pg_name (i := 4) sc_law_right.nd rfl (Or.inl rfl)) pgs_nil))))
      (pss_cons (ps_set (i := 5) sc_law_right.nd rfl (Or.inl rfl) (pe_lst (pa_cons (pv 1) (pa_cons (pe_op op_catQ (pe_op op_catQ (pe_slice sl_list (pv 1) po_none (po_some (pv 3))) (pe_lst (pa_cons (pv 4) pa_nil))) (pe_slice sl_list (pv 1) (po_some (pe_op op_add (pv 3) pe_int)) po_none)) (pa_cons (pe_op op_catQ (pe_slice sl_list (pv 1) po_none (po_some (pv 3))) (pe_slice sl_list (pv 1) (po_some (pe_op op_add (pv 3) pe_int)) po_none)) (pa_cons (pe_slice sl_list (pv 1) po_none (po_some (pv 3))) pa_nil))))))
      (pss_cons (ps_for PassesOwn.never rfl (pi_list (pe_op op_catQ (pv 5) (pe_lst (pa_cons (pe_op op_catQ (pe_op op_catQ (pe_slice sl_list (pv 1) po_none (po_some (pv 3))) (pe_lst (pa_cons (pv 4) pa_nil))) (pe_slice sl_list (pv 1) (po_some (pv 3)) po_none)) (pa_cons (pe_op op_rep (pe_lst (pa_cons pe_int pa_nil)) (pe_call (ok_law_draw T) (hr.mono (by decide)) (by rfl) T.law_draw.g T.law_draw.F.kp T.law_draw.b .nil pass0 (pa_cons (pv 0) (pa_cons pe_int pa_nil)))) (pa_cons (pe_lst pa_nil) pa_nil)))))) (pg_name (i := 6) sc_law_right.nd rfl (Or.inl rfl))
      (pss_cons (ps_set (i := 7) sc_law_right.nd rfl (Or.inr rfl) (pe_callS (ok_bytes_of T) (hr.mono (by decide)) (by rfl) T.bytes_of.g T.bytes_of.F.kp T.bytes_of.b (fun σ => passAt takes_none5 σ) (pa_cons (pv 6) pa_nil)))
      (pss_cons (ps_if (PW.pt (pw_or (pt_cmpR (op_neQ hr.units) (pe_callS (ok_numbers_of T) (hr.mono (by decide)) (by rfl) T.numbers_of.g T.numbers_of.F.kp T.numbers_of.b (fun σ => passAt takes_none5 σ) (pa_cons (pv 7) pa_nil)) (pv 6) (nomark _)) (pw_or (pt_cmpR op_ne (pe_callS (ok_bytes_of T) (hr.mono (by decide)) (by rfl) T.bytes_of.g T.bytes_of.F.kp T.bytes_of.b (fun σ => passAt takes_none5 σ) (pa_cons (pe_callTy call_tuple_of (by rfl) T.n_tuple (by decide +kernel) (pa_cons (pv 6) pa_nil)) pa_nil)) (pv 7) (nomark _)) (pw_or1 (pt_cmpR op_ne (pe_callB call_len (by rfl) T.n_len (by decide +kernel) (pa_cons (pv 7) pa_nil)) (pe_callB call_len_seq (by rfl) T.n_len (by decide +kernel) (pa_cons (pv 6) pa_nil)) (nomark _)))))) (pss_one (ps_ret pe_bl)) pss_nil)
      (pss_one (ps_if (pt_cmpR (op_neQ hr.units) (PEG.pe (peg_callB (P := Pr) (w := w) (K := K) (mg := mg) (q := qL "_law_right") (N := ["_law_rng_here", "_law_numbers", "_law_turn", "_law_at", "_law_odd", "_law_some", "_law_one", "_law_data", "_law_strange"]) (sc0 := defScope st_law_right) (ls := ls_law_right T) (sel := id) (G := fun _ => True) (fun pins σ H s sc I _ hs => cap_now I (fun _ => rfl) hs) rfl rfl rfl rfl (fun b => ok_law_said (base := b) T) (hr.mono (by decide)) (by rfl) T.law_said.g T.law_said.F.kp T.law_said.b (hl_law_right T) (pa_cons (pe_lam (lm := lm_law_right_0) tb rfl seen_lm_law_right_0 rfl .nil (by decide)) pa_nil))) (pe_call (ok_law_due T) (hr.mono (by decide)) (by rfl) T.law_due.g T.law_due.F.kp T.law_due.b .nil pass0 (pa_cons (pv 6) pa_nil)) (nomark _)) (pss_one (ps_ret pe_bl)) pss_nil)))))
      (pss_cons (ps_set (i := 8) sc_law_right.nd rfl (Or.inr rfl) (pe_call (ok_law_pick T) (hr.mono (by decide)) (by rfl) T.law_pick.g T.law_pick.F.kp T.law_pick.b .nil pass0 (pa_cons (pv 0) (pa_cons (pe_lst (pa_cons pe_int (pa_cons (pe_un un_neg pe_int) (pa_cons pe_non (pa_cons pe_bl (pa_cons pe_str (pa_cons (pe_lst (pa_cons pe_int pa_nil)) (pa_cons (pe_op op_pow pe_int pe_int) pa_nil)))))))) pa_nil))))
      (pss_one (ps_ret (pe_cmpR (op_eqQ hr.units) (PEG.pe (peg_callB (P := Pr) (w := w) (K := K) (mg := mg) (q := qL "_law_right") (N := ["_law_rng_here", "_law_numbers", "_law_turn", "_law_at", "_law_odd", "_law_some", "_law_one", "_law_data", "_law_strange"]) (sc0 := defScope st_law_right) (ls := ls_law_right T) (sel := id) (G := fun _ => True) (fun pins σ H s sc I _ hs => cap_now I (fun _ => rfl) hs) rfl rfl rfl rfl (fun b => ok_law_said (base := b) T) (hr.mono (by decide)) (by rfl) T.law_said.g T.law_said.F.kp T.law_said.b (hl_law_right T) (pa_cons (pe_lam (lm := lm_law_right_1) tb rfl seen_lm_law_right_1 rfl .nil (by decide)) pa_nil))) (pe_tup (pa_cons pe_str (pa_cons (pe_callB SkE.call_repr_int (by rfl) T.n_repr (by decide +kernel) (pa_cons (pv 3) pa_nil)) pa_nil))) (nomark _)))))))))), fun vs c f P X ⟨r, x, y, z, ps, c0, e, ec, ht, q⟩ => ?_⟩
  subst e ec
  walk_at "go"
  refine tw_lstC ?_
  walk_at "go"
  refine ⟨(by decide : 0 ≤ sizeLine), fun a => ?_⟩
  walk_at "go"
  refine sw_for (iw_rng1 ?_)
  walk_at "go"
  refine ⟨r, x, y, z, 6, _, rfl, Has.tl Has.hd, by decide, by decide, fun m x y z h0 h6 => ?_⟩
  walk_at "go"
  refine ⟨_, rfl, by omega, by omega, ?_⟩
  refine ⟨fun i σ' c' f' => ∃ ns a2 x y z, σ' = [some (.ref r), some (.ref a), a2, none, none, none, none, none, none] ∧ c' = ((a, .lst (ns.map V.int)) :: (r, rngO x y z) :: (Pt, .tbl ps) :: c0) ∧ f' = f ∧ B8 ns ∧ ns.length ≤ 5 * i ∧ (0 < i → ns ≠ []), Nxt.of ⟨[], _, x, y, z, rfl, rfl, rfl, b8_nil, by simp, by omega⟩, fun _ _ _ _ _ _ => trivial, ?_, ?_⟩
  · rintro i v σ' c' f' c2 f2 hi ⟨ns, a2, x, y, z, e1, e2, e3, hb, hl, hne⟩ ⟨ec, ef, ev⟩
    subst e1 e2 e3 ec ef ev
    refine gw_name ?_
    walk_at "go"
    refine tw_bm (tw_var rfl ⟨TyW.cell Has.hd, ?_⟩)
    walk_at "go"
    refine ⟨r, x, y, z, _, rfl, Has.tl Has.hd, fun ms a' x y z hm0 hm5 hmb => ?_⟩
    walk_at "go"
    refine rm_extend (Has.tl Has.hd) Has.hd (by rw [List.length_map, List.length_map]; exact Nat.le_trans (by omega : ns.length + ms.length ≤ 50) (by decide)) ?_
    walk_at "go"
    refine nxN (Nxt.wk Wk.dropC (Nxt.of ?_))
    refine ⟨ns ++ ms, _, x, y, z, rfl, by rw [List.map_append], rfl, hb.app hmb, by rw [List.length_append]; omega, fun _ => by simp [hm0]⟩
  · rintro σ' c' f' ⟨ns, a2, x, y, z, e1, e2, e3, hb, hl, hne⟩
    subst e1 e2 e3
    have hne : ns ≠ [] := hne (by omega)
    have hl : ns.length ≤ 35 := by omega
    have hlp : 0 < ns.length := List.length_pos_iff.mpr hne
    -- the numbers stay from now on
    refine SW.wk (Wk.frz (Ents.flat flatI)) ?_
    have hnum : Ent K (([.ref a], [.lst (ns.map D.int)]) :: f') (.ref a) (.lst (ns.map D.int)) := Ent.hd
    walk_at "go"
    refine sw_asg (tw_tup ?_)
    walk_at "go"
    refine rl_lenL (.inl Ent.hd) ?_
    walk_at "go"
    rw [List.length_map]
    refine ⟨r, x, y, z, _, _, rfl, Has.hd, by omega, big_nat (by omega), fun at_ x y z hat0 hat1 => ?_⟩
    walk_at "go"
    refine tw_lst ?_
    walk_at "go"
    refine ⟨r, x, y, z, 256, _, rfl, Has.hd, by decide, big_nat (n := 256) (by decide), fun od x y z hod0 hod1 => ?_⟩
    walk_at "go"
    refine ⟨(by decide : 6 ≤ sizeLine), [0, 1, 2, 254, 255, od].map D.int, Ents.flat rfl, fun v => ?_⟩
    walk_at "go"
    refine pick_ints Has.hd Ent.hd (by simp) (show 6 < 2 ^ 60 by decide) fun odd hodd x y z => ?_
    have hodd : 0 ≤ odd ∧ odd ≤ 255 := by
      simp only [List.mem_cons, List.not_mem_nil, or_false] at hodd
      omega
    walk_at "go"
    refine ⟨(by decide : 2 ≤ sizeLine), [.int at_, .int odd], Ents.flat rfl, fun v2 => ?_⟩
    refine gw_tupf (us := [.int at_, .int odd]) Ent.hd rfl rfl (gsw_cons (gw_name (gsw_cons (gw_name (gsw_nil ?_)))))
    have hA : ∀ {lo hi}, (cutD ns lo hi).length ≤ 35 := fun {lo hi} => Nat.le_trans cutD_len hl
    walk_at "go"
    refine tw_lst ?_
    walk_at "go"
    refine ⟨_, rfl, rw_cutLI (.inl (by walk_at "ent")) fun u1 => ?_⟩
    walk_at "go"
    refine tw_lst ?_
    walk_at "go"
    refine ⟨(by decide : 1 ≤ sizeLine), [odd].map D.int, Ents.flat rfl, fun u2 => ?_⟩
    refine rw_catI (.inl (by walk_at "ent")) (.inl (by walk_at "ent")) (sz (by have := hA (lo := none) (hi := some at_); simp; omega)) fun u3 => ?_
    walk_at "go"
    refine ⟨_, rfl, ?_⟩
    walk_at "go"
    refine rw_cutLI (.inl (by walk_at "ent")) fun u4 => ?_
    refine rw_catI (.inl (by walk_at "ent")) (.inl (by walk_at "ent")) (sz (by have h1 := hA (lo := none) (hi := some at_); have h2 := hA (lo := some (at_ + 1)) (hi := none); simp; omega)) fun u5 => ?_
    walk_at "go"
    refine ⟨_, rfl, rw_cutLI (.inl (by walk_at "ent")) fun u6 => ?_⟩
    walk_at "go"
    refine ⟨_, rfl, ?_⟩
    walk_at "go"
    refine rw_cutLI (.inl (by walk_at "ent")) fun u7 => ?_
    refine rw_catI (.inl (by walk_at "ent")) (.inl (by walk_at "ent")) (sz (by have h1 := hA (lo := none) (hi := some at_); have h2 := hA (lo := some (at_ + 1)) (hi := none); omega)) fun u8 => ?_
    walk_at "go"
    refine ⟨_, rfl, rw_cutLI (.inl (by walk_at "ent")) fun u9 => ?_⟩
    walk_at "go"
    let L1 := cutD ns none (some at_) ++ [odd] ++ cutD ns (some (at_ + 1)) none
    let L2 := cutD ns none (some at_) ++ cutD ns (some (at_ + 1)) none
    let L3 := cutD ns none (some at_)
    refine ⟨(by decide : 4 ≤ sizeLine), [ns, L1, L2, L3].map fun l => D.lst (l.map D.int), .cons (by walk_at "ent") (.cons (by walk_at "ent") (.cons (by walk_at "ent") (.cons (by walk_at "ent") .nil))), fun u10 => ?_⟩
    let fB : Fs := ([u10], [.lst ([ns, L1, L2, L3].map fun l => D.lst (l.map D.int))]) :: ([.ref a], [.lst (ns.map D.int)]) :: f'
    refine SW.wk (Ext.wk (f := fB) (Ext.add Ents.hd (Ext.add (Ents.one (by walk_at "ent")) (by walk_at "ext")))) ?_
    walk_at "go"
    refine sw_for (iw_lst ?_)
    walk_at "go"
    refine tw_lst ?_
    walk_at "go"
    refine ⟨_, rfl, rw_cutLI (.inl (by walk_at "ent")) fun w1 => ?_⟩
    walk_at "go"
    refine tw_lst ?_
    walk_at "go"
    refine ⟨(by decide : 1 ≤ sizeLine), [odd].map D.int, Ents.flat rfl, fun w2 => ?_⟩
    refine rw_catI (.inl (by walk_at "ent")) (.inl (by walk_at "ent")) (sz (by have := hA (lo := none) (hi := some at_); simp; omega)) fun w3 => ?_
    walk_at "go"
    refine ⟨_, rfl, ?_⟩
    walk_at "go"
    refine rw_cutLI (.inl (by walk_at "ent")) fun w4 => ?_
    refine rw_catI (.inl (by walk_at "ent")) (.inl (by walk_at "ent")) (sz (by have h1 := hA (lo := none) (hi := some at_); have h2 := hA (lo := some at_) (hi := none); simp; omega)) fun w5 => ?_
    walk_at "go"
    refine tw_lstC ?_
    walk_at "go"
    refine ⟨(by decide : 1 ≤ sizeLine), fun b1 => ?_⟩
    walk_at "go"
    refine ⟨r, x, y, z, 3, _, rfl, Has.tl Has.hd, by decide, big_nat (n := 3) (by decide), fun kk x y z hk0 hk3 => ?_⟩
    refine rw_repC Has.hd (by omega) (by omega) (sz (by show 1 * kk.toNat ≤ 10000; omega)) fun b2 => ?_
    rw [rep_flat]
    refine AW.wk (Wk.frz (Ents.flat flatI)) (AW.wk Wk.dropC ?_)
    walk_at "go"
    refine tw_lst ?_
    walk_at "go"
    refine ⟨(by decide : 0 ≤ sizeLine), ([] : List Int).map D.int, Ents.nil, fun w6 => ?_⟩
    walk_at "go"
    let L4 := cutD ns none (some at_) ++ [odd] ++ cutD ns (some at_) none
    let L5 : List Int := List.replicate kk.toNat 0
    refine ⟨(by decide : 3 ≤ sizeLine), [L4, L5, []].map fun l => D.lst (l.map D.int), .cons (by walk_at "ent") (.cons (by walk_at "ent") (.cons (by walk_at "ent") .nil)), fun w7 => ?_⟩
    refine rw_cat (.inl (by walk_at "ent")) (.inl (by walk_at "ent")) (sz (by simp)) fun w8 => ⟨_, .inl Ent.hd, ?_⟩
    rw [← List.map_append]
    have good : ∀ l ∈ [ns, L1, L2, L3] ++ [L4, L5, []], Good l := by
      intro l hl
      simp only [List.mem_append, List.mem_cons, List.not_mem_nil, or_false] at hl
      rcases hl with (h | h | h | h) | h | h | h <;> subst h
      · exact ⟨hb, by omega⟩
      · exact ⟨((cutD_b8 hb).app (b8_one hodd)).app (cutD_b8 hb), by have h1 := hA (lo := none) (hi := some at_); have h2 := hA (lo := some (at_ + 1)) (hi := none); show (_ ++ [odd] ++ _ : List Int).length ≤ 200; simp only [List.length_append, List.length_cons, List.length_nil]; omega⟩
      · exact ⟨(cutD_b8 hb).app (cutD_b8 hb), by have h1 := hA (lo := none) (hi := some at_); have h2 := hA (lo := some (at_ + 1)) (hi := none); show (_ ++ _ : List Int).length ≤ 200; simp only [List.length_append, List.length_cons, List.length_nil]; omega⟩
      · exact ⟨cutD_b8 hb, Nat.le_trans hA (by decide)⟩
      · exact ⟨((cutD_b8 hb).app (b8_one hodd)).app (cutD_b8 hb), by have h1 := hA (lo := none) (hi := some at_); have h2 := hA (lo := some at_) (hi := none); show (_ ++ [odd] ++ _ : List Int).length ≤ 200; simp only [List.length_append, List.length_cons, List.length_nil]; omega⟩
      · exact ⟨fun n hn => by rw [List.eq_of_mem_replicate hn]; omega, by show (List.replicate kk.toNat (0 : Int)).length ≤ 200; rw [List.length_replicate]; omega⟩
      · exact ⟨b8_nil, by simp⟩
    generalize ([ns, L1, L2, L3] ++ [L4, L5, []]) = LL at good ⊢
    let fC : Fs := ([w8], [.lst (LL.map fun l => D.lst (l.map D.int))]) :: ([.ref a], [.lst (ns.map D.int)]) :: f'
    refine ⟨fun i σ' c' f1 => ∃ ps a6 a7, σ' = [some (.ref r), some (.ref a), a2, some (.int at_), some (.int odd), some u10, a6, a7, none] ∧ c' = ((r, rngO x y z) :: (Pt, .tbl ps) :: c0) ∧ Ext K fC f1 ∧ TabW K f1 qR ps, ?_, ?_, ?_, ?_⟩
    · refine Nxt.of ?_
      refine ⟨ps, _, _, rfl, rfl, Ext.add Ents.hd (Ext.add (Ents.one (by walk_at "ent")) (by walk_at "ext")), ?_⟩
      exact Ext.tab (f := f') (by walk_at "ext") ht
    · rintro i σ' c' f1 _ ⟨ps, a6, a7, e1, e2, e3, e4⟩
      exact .inl (e3.ent Ent.hd)
    · rintro i v σ' c' f1 c2 f2 hi ⟨ps, a6, a7, e1, e2, e3, e4⟩ ⟨ec, d, hd, ef⟩
      subst e1 e2 ec ef
      obtain ⟨ms, hms, rfl⟩ : ∃ ms, LL[i]? = some ms ∧ d = .lst (ms.map D.int) := by
        rw [List.getElem?_map] at hd
        cases q : LL[i]? with
        | none => rw [q] at hd; cases hd
        | some l => rw [q] at hd; exact ⟨l, rfl, (Option.some.inj hd).symm⟩
      have hgood := good ms (List.mem_of_getElem? hms)
      have hsz : ms.length < sizeLine := Nat.lt_of_le_of_lt hgood.n (by decide)
      have one : Ent K (([v], [D.lst (ms.map D.int)]) :: f1) v (.lst (ms.map D.int)) := Ent.hd
      have bo : ∀ (c : Cs) (f : Fs) (x : V) (P : PV) (X : PX), SeqE K c f x (ms.map D.int) → P (.byt (byteArr ms)) c f → S_bytes_of K T.NoKey.C [x] c f P X := fun c f x P X hx hp =>
        ⟨x, rfl, .inl ⟨ms.map D.int, hx, fun d hd => by
          obtain ⟨n, _, e⟩ := List.mem_map.mp hd
          subst e
          exact ⟨_, rfl⟩, fun ms' e _ => by
          have e2 : ms = ms' := int_inj e
          rw [← e2]
          exact hp, fun j hj => by
          rw [badAt_ints hgood.b] at hj
          cases hj⟩⟩
      refine gw_name ?_
      walk_at "go"
      refine tw_callX cov_none ?_
      walk_at "go"
      refine bo _ _ _ _ _ (.inl (.inl (by walk_at "ent"))) ?_
      walk_at "go"
      refine tw_callX cov_none ?_
      walk_at "go"
      refine ⟨_, rfl, .inl ⟨ms, rfl, hgood.b, hsz, fun n1 => ?_⟩⟩
      walk_at "go"
      refine rw_neQ (EntH.of Ent.hd) (EntH.of (by walk_at "ent")) (eqI ms ms) ⟨_, rfl, ifn (fun h => absurd rfl h) fun _ => ?_⟩
      walk_at "go"
      refine tw_callX cov_none ?_
      walk_at "go"
      refine rl_tupleL (.inl (by walk_at "ent")) fun n2 => ?_
      walk_at "go"
      refine bo _ _ _ _ _ (.inr Ent.hd) ?_
      walk_at "go"
      refine rw_ne rfl ⟨_, rfl, ifn (fun h => absurd rfl h) fun _ => ?_⟩
      walk_at "go"
      refine rl_lenB (by rw [byteArr_size]; exact Nat.le_of_lt hsz) ?_
      walk_at "go"
      refine rl_lenL (.inl (by walk_at "ent")) ?_
      walk_at "go"
      refine rw_neI ⟨_, rfl, ifd (fun h => absurd (by rw [byteArr_size, List.length_map]) h) fun _ => ?_⟩
      walk_at "go"
      refine tw_said0 T (ms := ms) rfl hgood.b (Nat.lt_of_le_of_lt hgood.n (by decide)) (Ext.tab (f := f1) (by walk_at "ext") e4) fun v2 ps' g1 g2 g3 ht' => ?_
      walk_at "go"
      refine ⟨_, ms, rfl, by walk_at "ent", hgood.b, Nat.lt_of_le_of_lt hgood.n (by decide), fun v3 => ?_⟩
      refine rw_neQ (d := dueD ms) (e := dueD ms) (b := true) (EntH.of (by rw [← said_due]; walk_at "ent")) (EntH.of Ent.hd) (eq_self (due_fine ms)) ⟨_, rfl, if0 rfl ?_⟩
      walk_at "go"
      refine nxN (Nxt.of ?_)
      refine ⟨ps', _, _, rfl, rfl, Ext.trans e3 (by walk_at "ext"), Ext.tab (by walk_at "ext") ht'⟩
    · rintro σ' c' f1 ⟨ps, a6, a7, e1, e2, e3, e4⟩
      subst e1 e2
      walk_at "go"
      refine tw_lst ?_
      walk_at "ar"
      refine tw_lst ?_
      walk_at "ar"
      refine ⟨(by decide : 1 ≤ sizeLine), [.int 1], Ents.flat rfl, fun w9 => ?_⟩
      walk_at "ar"
      let es : List D := [.int 256, .int (-1), .non, .bl true, .str "1", .lst [.int 1], .int (10 ^ 30)]
      have hes : ∀ d ∈ es, isByte d = false ∧ ∃ t, d.tyn = some t := by
        intro d hd
        simp only [es, List.mem_cons, List.not_mem_nil, or_false] at hd
        rcases hd with h | h | h | h | h | h | h <;> subst h <;> exact ⟨rfl, _, rfl⟩
      refine ⟨(by decide : 7 ≤ sizeLine), es, .cons (Ent.flat rfl) (.cons (Ent.flat rfl) (.cons (Ent.flat rfl) (.cons (Ent.flat rfl) (.cons (Ent.flat rfl) (.cons (by walk_at "ent") (.one (Ent.flat rfl))))))), fun w10 => ?_⟩
      walk_at "go"
      refine ⟨r, x, y, z, _, w10, es, rfl, Has.hd, Ent.hd, by simp [es], (by decide : 7 < 2 ^ 60), fun d hd x y z => ?_⟩
      obtain ⟨hby, hty⟩ := hes d hd
      have fin : ∀ (v : V) (f2 : Fs) (ps2 : Array Value), Ext K f1 f2 → TabW K f2 qR ps2 → Fin K P (.bl true) ((r, rngO x y z) :: (Pt, .tbl ps2) :: c0) f2 := fun v f2 ps2 he ht2 => Fin.of (q x y z ps2 f2 (Ext.trans (Ext.trans (by walk_at "ext") e3) he) ht2)
      refine ⟨fun u hu => ?_, fun hnf v' => ?_⟩
      · walk_at "go"
        refine tw_said1 T rfl rfl rfl (Ext.ent (by walk_at "ext") (Ext.ent e3 (Ent.tl Ent.hd))) hb hl hat0 hat1 (Ent.flat hu) hby hty (Ext.tab (f := f1) (by walk_at "ext") e4) fun v3 ps2 f2 hex ht2 => ?_
        walk_at "go"
        refine tw_tup ?_
        walk_at "go"
        refine rl_repr (log_small (by omega)) ?_
        walk_at "go"
        refine ⟨(by decide : 2 ≤ sizeLine), [.str "key", .str (toString at_)], Ents.flat rfl, fun v4 => ?_⟩
        refine rw_eqQ (d := keyD at_) (e := keyD at_) (b := true) (EntH.of (by walk_at "ent")) (EntH.of Ent.hd) (eq_self rfl) ?_
        exact fin v3 _ ps2 (Ext.cons (Ext.cons (Ext.trans (by walk_at "ext") hex))) (Ext.tab (f := f2) (by walk_at "ext") ht2)
      · walk_at "go"
        refine tw_said1 T rfl rfl rfl (Ext.ent (by walk_at "ext") (Ext.ent e3 (Ent.tl Ent.hd))) hb hl hat0 hat1 Ent.hd hby hty (Ext.tab (f := f1) (by walk_at "ext") e4) fun v3 ps2 f2 hex ht2 => ?_
        walk_at "go"
        refine tw_tup ?_
        walk_at "go"
        refine rl_repr (log_small (by omega)) ?_
        walk_at "go"
        refine ⟨(by decide : 2 ≤ sizeLine), [.str "key", .str (toString at_)], Ents.flat rfl, fun v4 => ?_⟩
        refine rw_eqQ (d := keyD at_) (e := keyD at_) (b := true) (EntH.of (by walk_at "ent")) (EntH.of Ent.hd) (eq_self rfl) ?_
        exact fin v3 _ ps2 (Ext.cons (Ext.cons (Ext.trans (by walk_at "ext") hex))) (Ext.tab (f := f2) (by walk_at "ext") ht2)
end
end FR

set_option Elab.async false
set_option linter.all false
set_option maxRecDepth 100000
set_option maxHeartbeats 4000000
namespace FR
open PySem PySem.Spec L2
open PyProof.Rows hiding St
local macro_rules | `(tactic| walk_at "ent") => `(tactic| first | assumption | exact Ent.hd | exact Ent.flat rfl | (refine Ent.tl ?_; walk_at "ent"))
local macro_rules | `(tactic| walk_at "has") => `(tactic| first | assumption | exact Has.hd | exact Has.again (by assumption) _ | (refine Has.tl ?_; walk_at "has"))
local macro_rules | `(tactic| walk_at "go1") => `(tactic| first
  | with_reducible refine sw_seq ?_ | with_reducible refine sw_if ?_ | with_reducible refine sw_ret ?_ | with_reducible refine sw_set ?_ | with_reducible refine sw_next ?_ | with_reducible refine sw_retN ?_ | with_reducible refine sw_drop ?_ | with_reducible refine sw_brk ?_ | with_reducible refine sw_cont ?_
  | with_reducible refine bw_test ?_ | with_reducible refine bw_val ?_ | with_reducible refine bw_and ?_ | with_reducible refine bw_or ?_ | with_reducible refine bw_not ?_
  | with_reducible refine tw_op ?_ | with_reducible refine tw_c ?_ | with_reducible refine tw_cb ?_ | with_reducible refine aw_cons ?_ | with_reducible refine aw_nil ?_ | with_reducible refine tw_not ?_ | with_reducible refine tw_and ?_ | with_reducible refine tw_or ?_ | with_reducible refine tw_un ?_ | with_reducible refine tw_if ?_ | with_reducible refine tw_sl ?_ | with_reducible refine ow_none ?_ | with_reducible refine ow_some ?_
  | with_reducible refine tw_call ?_ | with_reducible refine rw_I0 ?_ | with_reducible refine rw_U ?_
  | refine tw_var rfl ?_)
local macro_rules | `(tactic| walk_at "go") => `(tactic| repeat (walk_at "go1"))
local macro_rules | `(tactic| walk_at "ar1") => `(tactic| first
  | walk_at "go1" | refine rl_int ?_ | refine rw_ixC (by assumption) rfl ?_
  | refine rw_I (show CPow _ _ from ⟨by decide, by decide, by decide⟩) ?_
  | refine rw_I (show CMul _ _ from .inr ⟨by decide, by decide⟩) ?_ | refine rw_I (show CMul _ _ from .inl ⟨by decide, by decide⟩) ?_
  | refine rw_I (show CDivW _ _ from wide_div (b := 64) (by decide) (by decide) (by decide) (by decide)) ?_
  | refine rw_I (show (0 : Int) < _ from by first | decide | assumption) ?_
  | refine rw_I (show CMul _ _ from .inl ⟨by omega, by omega⟩) ?_)
local macro_rules | `(tactic| walk_at "ar") => `(tactic| repeat (walk_at "ar1"))
local macro_rules | `(tactic| walk_at "ext") => `(tactic| first | assumption | exact Ext.refl | (refine Ext.cons ?_; walk_at "ext"))
def b0 : Array UInt8 := byteArr [2, 3, 255]
theorem repr_b0 (t : Tok) : Gives (Builtin.«bytes.__repr__» ⟨[.bytes b0 t], []⟩) (.str "b'\\x02\\x03\\xff'") := .of_eq (by kernel_rfl)
theorem repr_b0z : (("b'\\x02\\x03\\xff'" : Str)).length ≤ sizeLine := by decide
theorem mapInt_inj : ∀ {a b : List Int}, a.map D.int = b.map D.int → a = b
  | [], [], _ => rfl
  | [], _ :: _, h => by cases h
  | _ :: _, [], h => by cases h
  | x :: a, y :: b, h => by
    injection h with h1 h2
    injection h1 with h1
    rw [h1, mapInt_inj h2]
section
variable {Pr : Program} {w : World} {K : PySem.W.Frag} {mg : Str → Option Value} {base : Heap}
/-! ### the lambdas of law: slots ["_law_script", "_law_cell", "_law_rng_here", "_law_turn", "_law_odd", "_law_calls", "_law_one"] -/
def ls_law (T : Txt K mg) : Lams := [(lm_law_0, fun E => tCallS (mkSp K (S_split_key K T.NoKey.C)) (WE fun cls d _ H => E cls d H) (tCons (tVar 4) tNil)),
  (lm_law_1, fun E => tCallS (mkSp K (S_numbers_of K T.NoKey.C)) (WE fun cls d _ H => E cls d H) (tCons (tVar 4) tNil)),
  (lm_law_2, fun E => tCallS (mkSp K (S_bytes_of K T.NoKey.C)) (WE fun cls d _ H => E cls d H) (tCons (tVar 4) tNil))]
theorem hl_law (T : Txt K mg) {q : Str} {cells : List (Str × Addr)} : ∀ p ∈ ls_law T, LamOk ["_law_script", "_law_cell", "_law_rng_here", "_law_turn", "_law_odd", "_law_calls", "_law_one"] p.1 ∧ Seen (defScope st_law) p.1.scope ∧ ∀ (b : Heap) (A : Around) (outer : List Env) (s : Shared) (H : Hp) (E : XK) (f c' : Addr),
      Room 4 (A.deeper (lmEnv q p.1.scope s.heap.objs.size f c' (cloFrom cells p.1.scope.names []))) → PE (lmCx Pr w K mg b ["_law_script", "_law_cell", "_law_rng_here", "_law_turn", "_law_odd", "_law_calls", "_law_one"] A outer s H E q p.1.scope f c' (cloFrom cells p.1.scope.names [])) p.1.body (p.2 E) := by
  intro p hp
  rcases List.mem_cons.mp hp with e | hp
  · subst e
    exact ⟨ok_lm_law_0, seen_lm_law_0, fun b A outer s H E f c' hr => (pe_callS (ok_split_key T) (hr.mono (by decide)) (by rfl) T.split_key.g T.split_key.F.kp T.split_key.b (fun σ => passAt (takes_of rfl rfl rfl rfl) σ) (pa_cons (pv 4) pa_nil))⟩
  rcases List.mem_cons.mp hp with e | hp
  · subst e
    exact ⟨ok_lm_law_1, seen_lm_law_1, fun b A outer s H E f c' hr => (pe_callS (ok_numbers_of T) (hr.mono (by decide)) (by rfl) T.numbers_of.g T.numbers_of.F.kp T.numbers_of.b (fun σ => passAt (takes_of rfl rfl rfl rfl) σ) (pa_cons (pv 4) pa_nil))⟩
  rcases List.mem_cons.mp hp with e | hp
  · subst e
    exact ⟨ok_lm_law_2, seen_lm_law_2, fun b A outer s H E f c' hr => (pe_callS (ok_bytes_of T) (hr.mono (by decide)) (by rfl) T.bytes_of.g T.bytes_of.F.kp T.bytes_of.b (fun σ => passAt (takes_of rfl rfl rfl rfl) σ) (pa_cons (pv 4) pa_nil))⟩
  · cases hp
/-- what is none is refused at -1 -/
theorem odd_said (T : Txt K mg) {σ2 : St} {c : Cs} {f : Fs} {P : PV} {X : PX} {v : V} {d : D} {t : String} {q : Str} {cl : List (Str × Addr)} {b : Heap} {a : Addr} {pr : Lam × (XK → TE)} (hs : σ2[4]? = some (some v)) (hd : Ent K f v d) (ht : d.tyn = some t) (hb : t ≠ "bytes")
    (hpr : pr = (lm_law_0, fun E => tCallS (mkSp K (S_split_key K T.NoKey.C)) (WE fun cls d _ H => E cls d H) (tCons (tVar 4) tNil)) ∨ pr = (lm_law_1, fun E => tCallS (mkSp K (S_numbers_of K T.NoKey.C)) (WE fun cls d _ H => E cls d H) (tCons (tVar 4) tNil)) ∨
      (pr = (lm_law_2, fun E => tCallS (mkSp K (S_bytes_of K T.NoKey.C)) (WE fun cls d _ H => E cls d H) (tCons (tVar 4) tNil)) ∧ t ≠ "list" ∧ t ≠ "tuple"))
    (hl : Ent K f (.ref a) (.raw (LamR q pr.1 cl))) (hc : Clo Pr w K mg b 5 a (fun E H Q => LamR q pr.1 cl H (.ref a) ∧ pr.2 E σ2 H Q)) (p : ∀ v, P v c (([v], [keyD (-1)]) :: f)) : S_said Pr w mg T b [.ref a] c f P X := by
  refine ⟨a, _, fun _ _ _ => False, fun cls d c' f2 => cls = .ref T.NoKey.C ∧ ∃ dd, d = some dd ∧ c' = ((dd, .xd [("place", .int (-1))]) :: c) ∧ f2 = f, rfl, hc, lw_lam hl fun XE hxe => ?_, fun _ _ _ z => z.elim, ?_⟩
  · rcases hpr with e | e | ⟨e, n1, n2⟩
    · subst e
      exact tw_callX (covE hxe) (aw_cons (tw_var hs (aw_nil ⟨_, rfl, .inr ⟨d, t, EntH.of hd, ht, hb, fun dx => ⟨rfl, dx, rfl, rfl, rfl⟩⟩⟩)))
    · subst e
      exact tw_callX (covE hxe) (aw_cons (tw_var hs (aw_nil ⟨_, rfl, .inr ⟨d, t, EntH.of hd, ht, hb, fun dx => ⟨rfl, dx, rfl, rfl, rfl⟩⟩⟩)))
    · subst e
      exact tw_callX (covE hxe) (aw_cons (tw_var hs (aw_nil ⟨_, rfl, .inr ⟨d, t, EntH.of hd, ht, n1, n2, fun dx => ⟨rfl, dx, rfl, rfl, rfl⟩⟩⟩)))
  · rintro cls d' c' f2 ⟨e1, dd, e2, e3, e4⟩
    subst e1 e2 e3 e4
    exact ⟨rfl, dd, -1, _, rfl, Has.hd, by decide, fun v => Fin.dropC (Fin.of (p v))⟩
/-- both asked, one behind the other -/
theorem tw_calls (T : Txt K mg) {σ : St} {c : Cs} {f : Fs} {P : PV} {v w1 : V} {d : D} {t : String} {q : Str} {cells : List (Str × Addr)} (h4 : (wipe σ [6])[4]? = some (some v)) (h5 : σ[5]? = some (some w1)) (h6 : 6 < σ.length)
    (k1 : Ent K f w1 (.lst [.raw (LamR q lm_law_0 (cloFrom cells lm_law_0.scope.names [])), .raw (LamR q lm_law_1 (cloFrom cells lm_law_1.scope.names []))])) (k2 : Ent K f v d) (ht : d.tyn = some t) (htb : t ≠ "bytes")
    (p : ∀ Da acc f', Ext K f f' → acc.length = 2 → Ents K f' acc [keyD (-1), keyD (-1)] → P (.ref Da) ((Da, .lst acc) :: c) f') :
    TW K (tLc (iList K (tVar 5)) (gName 6) tYes (tCallB Pr w K mg 5 q cells (ls_law T) (fun σ => wipe σ [6]) (fun b => mkSp K (S_said Pr w mg T b)) (tCons (tVar 6) tNil)) [6]) σ c f P := by
  have hw : ∀ u : V, wipe ((wipe σ [6]).set 6 (some u)) [6] = wipe σ [6] := fun u => by
    show (((σ.set 6 none).set 6 (some u)).set 6 none) = σ.set 6 none
    rw [List.set_set, List.set_set]
  have h6' : ∀ u : V, ((wipe σ [6]).set 6 (some u))[6]? = some (some u) := fun u => List.getElem?_set_self (by rw [wipe_length]; exact h6)
  refine tw_lc (iw_lst (tw_var h5 ⟨_, .inl k1, ?_⟩))
  refine ⟨fun i acc c' f' => c' = c ∧ Ext K f f' ∧ acc.length = i ∧ Ents K f' acc (List.replicate i (keyD (-1))), ⟨_, _, Wk.refl, rfl, Ext.refl, rfl, Ents.nil⟩, fun i acc Da c' f' _ ⟨_, h, _⟩ => .inl (h.ent k1), ?_, ?_⟩
  · rintro i u acc Da c' f4 c3 f5 hi ⟨g1, g2, g3, g4⟩ ⟨ec, d', hd', ef⟩
    subst g1 ec ef
    refine gw_name ⟨hw u, bw_yes (if1 rfl ?_)⟩
    have hacc : acc.length < sizeLine := by
      rw [g3]
      exact Nat.lt_trans hi (by decide : 2 < sizeLine)
    have hi2 : i = 0 ∨ i = 1 := by
      have : i < 2 := hi
      omega
    have nxt : ∀ v', ∃ c6 f6, Wk K ((Da, .lst (acc ++ [v'])) :: c') (([v'], [keyD (-1)]) :: ([u], [d']) :: f4) ((Da, .lst (acc ++ [v'])) :: c6) f6 ∧ c6 = c' ∧ Ext K f f6 ∧ (acc ++ [v']).length = i + 1 ∧ Ents K f6 (acc ++ [v']) (List.replicate (i + 1) (keyD (-1))) := fun v' =>
      ⟨_, _, Wk.refl, rfl, Ext.trans g2 (by walk_at "ext"), by rw [List.length_append, g3] <;> rfl, by
        rw [List.replicate_succ']
        exact Ents.app g4.tl.tl (Ents.one Ent.hd)⟩
    have h4' : (wipe ((wipe σ [6]).set 6 (some u)) [6])[4]? = some (some v) := by
      rw [hw]
      exact h4
    rcases hi2 with e | e
    · subst e
      cases hd'
      refine TW.lam Ent.hd fun a ea => ?_
      subst ea
      exact tw_callB (aw_cons (tw_var (h6' _) (aw_nil ⟨_, List.mem_cons_self, a, rfl, fun b hc => odd_said T (t := t) h4' (Ext.ent (by walk_at "ext") (g2.ent k2)) ht htb (.inl rfl) Ent.hd hc fun v' => ⟨_, Has.hd, hacc, nxt v'⟩⟩)))
    · subst e
      cases hd'
      refine TW.lam Ent.hd fun a ea => ?_
      subst ea
      exact tw_callB (aw_cons (tw_var (h6' _) (aw_nil ⟨_, List.mem_cons_of_mem _ List.mem_cons_self, a, rfl, fun b hc => odd_said T (t := t) h4' (Ext.ent (by walk_at "ext") (g2.ent k2)) ht htb (.inr (.inl rfl)) Ent.hd hc fun v' => ⟨_, Has.hd, hacc, nxt v'⟩⟩)))
  · rintro acc Da c' f4 ⟨g1, g2, g3, g4⟩
    subst g1
    exact p Da acc f4 g2 g3 g4
abbrev qW : Str := qL "law"
def S_law (Pt Pl : Addr) : SpW := fun vs c f P _ => ∃ (x : V) (ns : List Int), vs = [x] ∧ c = [(Pt, .tbl #[]), (Pl, .tbl #[])] ∧ f = [([x], [.lst (ns.map D.int)])] ∧ ns.length ≤ 63 ∧ ∀ c' f', P (.bl true) c' f'
theorem ok_law (T : Txt K mg) {Pt Pl : Addr} (tbr : LamX.TabB base mg (codeA K T.law_right.f) Pt) (tb : LamX.TabB base mg (codeA K T.law.f) Pl) : FnOk Pr w K mg base CX0 8 T.law.f T.law.fd ["_law_script"] (mkSp K (S_law Pt Pl)) := by
  refine fnD T.law.F sc_law (fun vs c f P X ⟨_, _, e, _⟩ => by rw [e]; rfl) fun A outer s H XE hr => ⟨_, (pss_cons (ps_for PassesOwn.never rfl (pi_list (pe_slice sl_list (pe_op op_catQ (pv 0) (pe_lst (pa_cons pe_int pa_nil))) po_none (po_some pe_int))) (pg_name (i := 1) sc_law.nd rfl (Or.inl rfl))
      (pss_cons (ps_set (i := 2) sc_law.nd rfl (Or.inl rfl) (pe_call (ok_law_rng T) (hr.mono (by decide)) (by rfl) T.law_rng.g T.law_rng.F.kp T.law_rng.b .nil pass0 (pa_cons (pv 1) pa_nil)))
      (pss_one (ps_for PassesOwn.never rfl (pi_range1 rfl T.n_range (pa_cons pe_int pa_nil)) (pg_name (i := 3) sc_law.nd rfl (Or.inl rfl))
      (pss_one (ps_if (pt_not (pt_val (pe_call (ok_law_right T tbr) (hr.mono (by decide)) (by rfl) T.law_right.g T.law_right.F.kp T.law_right.b .nil pass0 (pa_cons (pv 2) pa_nil)))) (pss_one (ps_ret pe_bl)) pss_nil))))))
      (pss_cons (ps_for PassesOwn.never rfl (pi_tup (pe_tup (pa_cons pe_non (pa_cons pe_int (pa_cons pe_str (pa_cons pe_str (pa_cons (pe_lst (pa_cons pe_int pa_nil)) (pa_cons (pe_tup (pa_cons pe_int pa_nil)) (pa_cons pe_bl (pa_cons pe_dnewK pa_nil)))))))))) (pg_name (i := 4) sc_law.nd rfl (Or.inr rfl))
      (pss_cons (ps_set (i := 5) sc_law.nd rfl (Or.inl rfl) (pe_lst (pa_cons (pe_lam (lm := lm_law_0) tb rfl seen_lm_law_0 rfl .nil (by decide)) (pa_cons (pe_lam (lm := lm_law_1) tb rfl seen_lm_law_1 rfl (.cons pe_int .nil) (by decide)) pa_nil))))
      (pss_one (ps_if (pt_cmpR (op_neQ hr.units) (pe_lcC (own := [("_law_one", 6)]) rfl sc_law.nd (pi_list (pv 5)) (blkOk_by (N := ["_law_script", "_law_cell", "_law_rng_here", "_law_turn", "_law_odd", "_law_calls", "_law_one"]) (sc := defScope st_law) (by decide +kernel)) (fun _ _ _ _ _ => (pg_name (i := 6) sc_law.nd rfl (Or.inl rfl))) (fun _ _ _ _ _ => pts_nil) (fun pins τ s H C cl fp I hx => (peg_callB (P := Pr) (w := w) (K := K) (mg := mg) (q := qL "law") (N := ["_law_script", "_law_cell", "_law_rng_here", "_law_turn", "_law_odd", "_law_calls", "_law_one"]) (sc0 := defScope st_law) (ls := ls_law T) (sel := fun σ => wipe σ [6]) (fun pins' σ' H' s' sc J hw hs => cap_blk I (fun _ => rfl) hx J hw hs) rfl rfl rfl rfl (fun b => ok_law_said (base := b) T) (hr.mono (by decide)) (by rfl) T.law_said.g T.law_said.F.kp T.law_said.b (hl_law T) (pa_cons (pv 6) pa_nil)))) (pe_op op_rep (pe_lst (pa_cons (pe_tup (pa_cons pe_str (pa_cons pe_str pa_nil))) pa_nil)) pe_int) (nomark _)) (pss_one (ps_ret pe_bl)) pss_nil))))
      (pss_cons (ps_for PassesOwn.never rfl (pi_tup (pe_tup (pa_cons pe_non (pa_cons pe_int (pa_cons pe_str (pa_cons pe_bl (pa_cons pe_dnewK pa_nil))))))) (pg_name (i := 4) sc_law.nd rfl (Or.inr rfl))
      (pss_one (ps_if (pt_cmpR (op_neQ hr.units) (PEG.pe (peg_callB (P := Pr) (w := w) (K := K) (mg := mg) (q := qL "law") (N := ["_law_script", "_law_cell", "_law_rng_here", "_law_turn", "_law_odd", "_law_calls", "_law_one"]) (sc0 := defScope st_law) (ls := ls_law T) (sel := id) (G := fun _ => True) (fun pins σ H s sc I _ hs => cap_now I (fun _ => rfl) hs) rfl rfl rfl rfl (fun b => ok_law_said (base := b) T) (hr.mono (by decide)) (by rfl) T.law_said.g T.law_said.F.kp T.law_said.b (hl_law T) (pa_cons (pe_lam (lm := lm_law_2) tb rfl seen_lm_law_2 rfl .nil (by decide)) pa_nil))) (pe_tup (pa_cons pe_str (pa_cons pe_str pa_nil))) (nomark _)) (pss_one (ps_ret pe_bl)) pss_nil)))
      (pss_one (ps_ret (pe_and (pe_cmpR op_eq (pe_callB (call_repr_b repr_b0 repr_b0z) (by rfl) T.n_repr (by decide +kernel) (pa_cons (pe_callS (ok_bytes_of T) (hr.mono (by decide)) (by rfl) T.bytes_of.g T.bytes_of.F.kp T.bytes_of.b (fun σ => passAt takes_none5 σ) (pa_cons (pe_lst (pa_cons pe_int (pa_cons pe_int (pa_cons pe_int pa_nil)))) pa_nil)) pa_nil)) pe_str (nomark _)) (pe_one (pe_cmpR (op_eqQ hr.units) (pe_callS (ok_numbers_of T) (hr.mono (by decide)) (by rfl) T.numbers_of.g T.numbers_of.F.kp T.numbers_of.b (fun σ => passAt takes_none5 σ) (pa_cons (pe_callS (ok_bytes_of T) (hr.mono (by decide)) (by rfl) T.bytes_of.g T.bytes_of.F.kp T.bytes_of.b (fun σ => passAt takes_none5 σ) (pa_cons (pe_lst pa_nil) pa_nil)) pa_nil)) (pe_lst pa_nil) (nomark _))))))))), fun vs c f P X ⟨x, ns, e, ec, ef, hn, q⟩ => ?_⟩
  subst e ec ef
  walk_at "go"
  refine sw_for (iw_lst ?_)
  walk_at "go"
  refine tw_lst ?_
  walk_at "go"
  refine ⟨(by decide : 1 ≤ sizeLine), [0].map D.int, Ents.flat rfl, fun v1 => ?_⟩
  refine rw_catI (.inl (by walk_at "ent")) (.inl (by walk_at "ent")) (sz (by simp; omega)) fun v2 => ?_
  walk_at "go"
  refine ⟨_, rfl, rw_cutLI (.inl (by walk_at "ent")) fun v3 => ⟨_, .inl Ent.hd, ?_⟩⟩
  let fA : Fs := [([v3], [.lst ((cutD (ns ++ [0]) none (some 4)).map D.int)])]
  refine ⟨fun i σ' c' f' => ∃ a1 a2 a3 ps, σ' = [some x, a1, a2, a3, none, none, none] ∧ c' = [(Pt, .tbl ps), (Pl, .tbl #[])] ∧ Ext K fA f' ∧ TabW K f' qR ps, Nxt.of ⟨_, _, _, #[], rfl, rfl, fun G o => Ok.cons o.hd (fun g hg => by cases hg), TabW.nil⟩, ?_, ?_, ?_⟩
  · rintro i σ' c' f' _ ⟨a1, a2, a3, ps, e1, e2, e3, e4⟩
    exact .inl (e3.ent Ent.hd)
  · rintro i v σ' c' f1 c2 f2 hi ⟨a1, a2, a3, ps, e1, e2, e3, e4⟩ ⟨ec, d, hd, ef⟩
    subst e1 e2 ec ef
    obtain ⟨n, hn', rfl⟩ : ∃ n, (cutD (ns ++ [0]) none (some 4))[i]? = some n ∧ d = .int n := by
      rw [List.getElem?_map] at hd
      cases q : (cutD (ns ++ [0]) none (some 4))[i]? with
      | none => rw [q] at hd; cases hd
      | some l => rw [q] at hd; exact ⟨l, rfl, (Option.some.inj hd).symm⟩
    refine gw_name (SW.eq Ent.hd rfl fun ev => ?_)
    subst ev
    walk_at "go"
    refine ⟨n, rfl, fun p a b d => ?_⟩
    walk_at "go"
    refine sw_for (iw_rng1 (aw_cons (tw_c (aw_nil ⟨8, rfl, by omega, by omega, ?_⟩))))
    refine ⟨fun i σ' c' f' => ∃ a3 ps y z u, σ' = [some x, some (.int n), some (.ref p), a3, none, none, none] ∧ c' = ((p, rngO y z u) :: (Pt, .tbl ps) :: [(Pl, .tbl #[])]) ∧ Ext K fA f' ∧ TabW K f' qR ps, Nxt.of ⟨_, ps, _, _, _, rfl, rfl, e3.cons, e4.up⟩, fun _ _ _ _ _ _ => trivial, ?_, ?_⟩
    · rintro j v σ' c' f' c2 f2 hj ⟨a3, ps, y, z, u, e1, e2, e3, e4⟩ ⟨ec, ef, ev⟩
      subst e1 e2 ec ef ev
      refine gw_name ?_
      walk_at "go"
      refine ⟨p, y, z, u, ps, _, rfl, rfl, e4, fun y z u ps2 f3 he ht => ?_⟩
      refine ⟨true, rfl, if0 rfl ?_⟩
      walk_at "go"
      refine nxN (Nxt.of ?_)
      exact ⟨_, ps2, y, z, u, rfl, rfl, Ext.trans e3 he, ht⟩
    · rintro σ' c' f' ⟨a3, ps, y, z, u, e1, e2, e3, e4⟩
      subst e1 e2
      refine nxN (Nxt.wk Wk.dropC (Nxt.of ?_))
      exact ⟨_, _, _, ps, rfl, rfl, e3, e4⟩
  · rintro σ' c' f1 ⟨a1, a2, a3, pst, e1, e2, e3, e4⟩
    subst e1 e2
    walk_at "go"
    refine sw_for (iw_tup ?_)
    refine tw_tup ?_
    walk_at "go"
    refine tw_lst ?_
    walk_at "go"
    refine ⟨(by decide : 1 ≤ sizeLine), [.int 2], Ents.flat rfl, fun v4 => ?_⟩
    walk_at "go"
    refine tw_tup ?_
    walk_at "go"
    refine ⟨(by decide : 1 ≤ sizeLine), [.int 2], Ents.flat rfl, fun v5 => ?_⟩
    walk_at "go"
    refine tw_dnew fun v6 => ?_
    walk_at "go"
    let es : List D := [.non, .int 5, .str "ab", .str "", .lst [.int 2], .tup [.int 2], .bl true, .dic []]
    refine ⟨(by decide : 8 ≤ sizeLine), es, .cons (Ent.flat rfl) (.cons (Ent.flat rfl) (.cons (Ent.flat rfl) (.cons (Ent.flat rfl) (.cons (by walk_at "ent") (.cons (by walk_at "ent") (.cons (Ent.flat rfl) (.one (by walk_at "ent")))))))), fun v7 => ⟨es, Ent.hd, ?_⟩⟩
    have hes : ∀ d ∈ es, ∃ t, d.tyn = some t ∧ t ≠ "bytes" := by
      intro d hd
      simp only [es, List.mem_cons, List.not_mem_nil, or_false] at hd
      rcases hd with h | h | h | h | h | h | h | h <;> subst h <;> exact ⟨_, rfl, by decide⟩
    let fB : Fs := [([v7], [.tup es])]
    refine ⟨fun i σ' c' f' => ∃ a4 a5 ps, σ' = [some x, a1, a2, a3, a4, a5, none] ∧ c' = [(Pt, .tbl pst), (Pl, .tbl ps)] ∧ Ext K fB f' ∧ TabW K f' qW ps, Nxt.of ⟨_, _, #[], rfl, rfl, fun G o => Ok.cons o.hd (fun g hg => by cases hg), TabW.nil⟩, ?_, ?_, ?_⟩
    · rintro i σ' c' f' _ ⟨a4, a5, ps, e1, e2, e3, e4⟩
      exact e3.ent Ent.hd
    · rintro i v σ' c' f2 c2 f3 hi ⟨a4, a5, ps, e1, e2, e5, e6⟩ ⟨ec, d, hd, ef⟩
      subst e1 e2 ec ef
      obtain ⟨t, ht, htb⟩ := hes d (List.mem_of_getElem? hd)
      refine gw_name ?_
      walk_at "go"
      refine tw_lst ?_
      walk_at "go"
      refine tw_lam (Has.tl Has.hd) (Ext.tab (f := f2) (by walk_at "ext") e6) fun la ps1 g1 g2 ht1 => ?_
      walk_at "go"
      refine tw_lam (Has.tl Has.hd) ht1 fun lb ps2 g3 g4 ht2 => ?_
      walk_at "go"
      refine ⟨(by decide : 2 ≤ sizeLine), _, .cons (Ent.tl (Ent.tl (Ent.tl Ent.hd))) (.one Ent.hd), fun w1 => ?_⟩
      walk_at "go"
      refine tw_calls T rfl rfl (show 6 < 7 by decide) Ent.hd (by walk_at "ent") ht htb fun Da acc f4 hex hlen hacc => ?_
      walk_at "go"
      refine tw_lstC ?_
      walk_at "go"
      refine tw_tup ?_
      walk_at "go"
      refine ⟨(by decide : 2 ≤ sizeLine), [.str "key", .str "-1"], Ents.flat rfl, fun t1 => ?_⟩
      walk_at "go"
      refine ⟨(by decide : 1 ≤ sizeLine), fun b1 => ?_⟩
      walk_at "go"
      refine rw_repC Has.hd (by decide) (by decide) (by decide : 1 * 2 ≤ sizeLine) fun b2 => ?_
      refine rw_neQ (d := .lst [keyD (-1), keyD (-1)]) (e := .lst [keyD (-1), keyD (-1)]) (b := true) (EntH.sq (Sq.cell (Has.tl (Has.tl Has.hd)) hacc.tl)) (EntH.sq (Sq.cell Has.hd (show Ents K _ [t1, t1] [keyD (-1), keyD (-1)] from .cons Ent.hd (.one Ent.hd)))) (eq_self rfl) ⟨_, rfl, if0 rfl ?_⟩
      walk_at "go"
      refine nxN (Nxt.wk (Wk.dropC.trans (Wk.dropC.trans Wk.dropC)) (Nxt.of ?_))
      exact ⟨_, _, ps2, rfl, rfl, Ext.trans e5 (Ext.cons (Ext.trans (by walk_at "ext") hex)), Ext.tab (Ext.cons (Ext.trans (by walk_at "ext") hex)) ht2⟩
    · rintro σ' c' f2 ⟨a4, a5, psl, e1, e2, e5, e6⟩
      subst e1 e2
      walk_at "go"
      refine sw_for (iw_tup ?_)
      refine tw_tup ?_
      walk_at "go"
      refine tw_dnew fun v8 => ?_
      walk_at "go"
      let es2 : List D := [.non, .int 5, .str "ab", .bl true, .dic []]
      refine ⟨(by decide : 5 ≤ sizeLine), es2, .cons (Ent.flat rfl) (.cons (Ent.flat rfl) (.cons (Ent.flat rfl) (.cons (Ent.flat rfl) (.one (by walk_at "ent"))))), fun v9 => ⟨es2, Ent.hd, ?_⟩⟩
      have hes2 : ∀ d ∈ es2, ∃ t, d.tyn = some t ∧ t ≠ "bytes" ∧ t ≠ "list" ∧ t ≠ "tuple" := by
        intro d hd
        simp only [es2, List.mem_cons, List.not_mem_nil, or_false] at hd
        rcases hd with h | h | h | h | h <;> subst h <;> exact ⟨_, rfl, by decide, by decide, by decide⟩
      let fC : Fs := [([v9], [.tup es2])]
      refine ⟨fun i σ' c' f' => ∃ a4 ps, σ' = [some x, a1, a2, a3, a4, a5, none] ∧ c' = [(Pt, .tbl pst), (Pl, .tbl ps)] ∧ Ext K fC f' ∧ TabW K f' qW ps, Nxt.of ⟨_, _, rfl, rfl, fun G o => Ok.cons o.hd (fun g hg => by cases hg), Ext.tab (f := f2) (by walk_at "ext") e6⟩, ?_, ?_, ?_⟩
      · rintro i σ' c' f' _ ⟨a4, ps, e1, e2, e3, e4⟩
        exact e3.ent Ent.hd
      · rintro i v σ' c' f2 c2 f3 hi ⟨a4, ps, e1, e2, e5, e6⟩ ⟨ec, d, hd, ef⟩
        subst e1 e2 ec ef
        obtain ⟨t, ht, htb, hn1, hn2⟩ := hes2 d (List.mem_of_getElem? hd)
        refine gw_name ?_
        walk_at "go"
        refine tw_callB (aw_cons (tw_lam (Has.tl Has.hd) (Ext.tab (f := f2) (by walk_at "ext") e6) fun la ps1 g1 g2 ht1 => aw_nil ⟨_, List.mem_cons_of_mem _ (List.mem_cons_of_mem _ List.mem_cons_self), la, rfl, fun b hc => odd_said T (t := t) rfl (by walk_at "ent") ht htb (.inr (.inr ⟨rfl, hn1, hn2⟩)) Ent.hd hc fun v' => ?_⟩))
        walk_at "go"
        refine tw_tup ?_
        walk_at "go"
        refine ⟨(by decide : 2 ≤ sizeLine), [.str "key", .str "-1"], Ents.flat rfl, fun t1 => ?_⟩
        refine rw_neQ (d := keyD (-1)) (e := keyD (-1)) (b := true) (EntH.of (by walk_at "ent")) (EntH.of Ent.hd) (eq_self rfl) ⟨_, rfl, if0 rfl ?_⟩
        walk_at "go"
        refine nxN (Nxt.of ?_)
        exact ⟨_, ps1, rfl, rfl, Ext.trans e5 (by walk_at "ext"), Ext.tab (by walk_at "ext") ht1⟩
      · rintro σ' c' f2 ⟨a4, ps, e1, e2, e5, e6⟩
        subst e1 e2
        walk_at "go"
        refine tw_callX cov_none ?_
        walk_at "go"
        refine tw_lst ?_
        walk_at "go"
        refine ⟨(by decide : 3 ≤ sizeLine), [.int 2, .int 3, .int 255], Ents.flat rfl, fun u1 => ?_⟩
        walk_at "go"
        refine ⟨_, rfl, .inl ⟨_, .inl (.inl Ent.hd), ?_, fun ms em hb => ?_, fun j hj => ?_⟩⟩
        · intro d hd
          simp only [List.mem_cons, List.not_mem_nil, or_false] at hd
          rcases hd with h | h | h <;> subst h <;> exact ⟨_, rfl⟩
        · have e : ms = [2, 3, 255] := by
            have h2 : ([2, 3, 255] : List Int).map D.int = ms.map D.int := em
            exact (mapInt_inj h2).symm
          subst e
          walk_at "go"
          refine fun H w Q qq => ⟨rfl, qq _ _ _ _ ?_ w⟩
          walk_at "go"
          refine rw_eq rfl ⟨true, by rw [decide_eq_true rfl], if1 rfl ?_⟩
          walk_at "go"
          refine tw_callX cov_none ?_
          walk_at "go"
          refine tw_callX cov_none ?_
          walk_at "go"
          refine tw_lst ?_
          walk_at "go"
          refine ⟨by decide, [], Ents.nil, fun u2 => ?_⟩
          walk_at "go"
          refine ⟨_, rfl, .inl ⟨[], .inl (.inl Ent.hd), fun d hd => (by cases hd), fun ms em hb => ?_, fun j hj => (by cases hj)⟩⟩
          have e : ms = [] := by
            cases ms with
            | nil => rfl
            | cons a b => cases em
          subst e
          walk_at "go"
          refine ⟨_, rfl, .inl ⟨[], rfl, hb, by decide, fun u3 => ?_⟩⟩
          walk_at "go"
          refine tw_lst ?_
          walk_at "go"
          refine ⟨by decide, [], Ents.nil, fun u4 => ?_⟩
          exact rw_eqQ (d := .lst []) (e := .lst []) (b := true) (EntH.of (by walk_at "ent")) (EntH.of Ent.hd) (eq_self rfl) (Fin.of (q _ _))
        · cases hj
end
end FR

set_option Elab.async false
set_option linter.all false
set_option maxRecDepth 100000
set_option maxHeartbeats 0
namespace FR
open PySem PySem.Spec L2
open PyProof.Rows hiding St
def dF (x : Str) (st : Stmt) : He.DefD := ⟨(x, none), x, x, defArgs st, defBody st, defScope st, [], []⟩
def fnL : List He.DefD := [⟨("NoKey", some "__init__"), "__init__", "NoKey.__init__", defArgs st_NoKey_init, defBody st_NoKey_init, defScope st_NoKey_init, [], []⟩,
  dF "is_integer" st_is_integer, dF "is_sequence" st_is_sequence, dF "key_fault" st_key_fault, dF "cut_key" st_cut_key, dF "split_key" st_split_key, dF "bytes_of" st_bytes_of, dF "numbers_of" st_numbers_of,
  dF "_law_rng" st_law_rng, dF "_law_draw" st_law_draw, dF "_law_pick" st_law_pick, dF "_law_label" st_law_label, dF "_law_said" st_law_said, dF "_law_due" st_law_due, dF "_law_right" st_law_right, dF "law" st_law]
def faL : List He.Fa := [.glo "NoKey", .glo "is_integer", .glo "is_sequence", .glo "key_fault", .glo "cut_key", .glo "split_key", .glo "bytes_of", .glo "numbers_of", .glo "_law_rng", .glo "_law_draw", .glo "_law_pick", .glo "_law_label", .glo "_law_said", .glo "_law_due", .glo "_law_right", .glo "law",
  .noat "NoKey" "place", .free "abs", .free "bool", .free "bytes", .free "enumerate", .free "int", .free "isinstance", .free "len", .free "list", .free "range", .free "repr", .free "tuple", .glo "ForestError", .exm "NoKey" "NoKey" true]
def tfL : List He.Defn := [("_law_right", none), ("law", none)]
def exL (K : PySem.W.Frag) : Bool := exX K "NoKey" && !decide ((He.cT K ("_law_right", none)).2 = (He.cT K ("law", none)).2)
abbrev RO : PySem.W.OpenRow := PySem.W.OpenLaw.row PySem.Challenge.rw_forestrows_k46_keys_and_their_labels
abbrev hkL : PySem.W.Hook := He.hookX 6 faL fnL [] tfL exL
def obL (s : PySem.W.SharedT) : He.AlX := He.obsX 6 faL fnL [] tfL exL (HandSHeadRun.getT s)
theorem obL_eq (s : PySem.W.SharedT) : obL s = hkL.obs s.abs := He.obsX_eq (HandSHeadRun.getT_eq s)
theorem txt_of {K : PySem.W.Frag} {h : Heap} {mg : Str → Option Value} {w : World} (X : K.In h) (G : h.Ns mainGlobals mg) (s : He.SaysX faL fnL [] tfL exL w h K) : ∃ T : Txt K mg, T.law_right.f = He.fAd K ("_law_right", none) ∧ T.law.f = He.fAd K ("law", none) := by
  have c := s.t.d
  obtain ⟨x1, _⟩ := He.ba s.more
  obtain ⟨fd0, F0⟩ := c.def_ 0
  obtain ⟨fd1, F1⟩ := c.def_ 1
  obtain ⟨fd2, F2⟩ := c.def_ 2
  obtain ⟨fd3, F3⟩ := c.def_ 3
  obtain ⟨fd4, F4⟩ := c.def_ 4
  obtain ⟨fd5, F5⟩ := c.def_ 5
  obtain ⟨fd6, F6⟩ := c.def_ 6
  obtain ⟨fd7, F7⟩ := c.def_ 7
  obtain ⟨fd8, F8⟩ := c.def_ 8
  obtain ⟨fd9, F9⟩ := c.def_ 9
  obtain ⟨fd10, F10⟩ := c.def_ 10
  obtain ⟨fd11, F11⟩ := c.def_ 11
  obtain ⟨fd12, F12⟩ := c.def_ 12
  obtain ⟨fd13, F13⟩ := c.def_ 13
  obtain ⟨fd14, F14⟩ := c.def_ 14
  obtain ⟨fd15, F15⟩ := c.def_ 15
  obtain ⟨E, e⟩ := ex1_of (x := "NoKey") (st := st_NoKey_init) (ps := ["self", "place"]) (He.glo_ok X G (c.fact 0 (f := .glo "NoKey") rfl)) x1 F0 (F0.bindsN fun _ _ _ _ _ _ us hl => match us, hl with | [_, _], _ => rfl)
  refine ⟨⟨E, ⟨_, fd1, F1, F1.bindsN (fun _ _ _ _ _ _ us hl => match us, hl with | [_], _ => rfl), He.glo_ok X G (c.fact 1 (f := .glo "is_integer") rfl)⟩, ⟨_, fd2, F2, F2.bindsN (fun _ _ _ _ _ _ us hl => match us, hl with | [_], _ => rfl), He.glo_ok X G (c.fact 2 (f := .glo "is_sequence") rfl)⟩, ⟨_, fd3, F3, F3.bindsN (fun _ _ _ _ _ _ us hl => match us, hl with | [_], _ => rfl), He.glo_ok X G (c.fact 3 (f := .glo "key_fault") rfl)⟩, ⟨_, fd4, F4, F4.bindsN (fun _ _ _ _ _ _ us hl => match us, hl with | [_], _ => rfl), He.glo_ok X G (c.fact 4 (f := .glo "cut_key") rfl)⟩, ⟨_, fd5, F5, F5.bindsN (fun _ _ _ _ _ _ us hl => match us, hl with | [_], _ => rfl), He.glo_ok X G (c.fact 5 (f := .glo "split_key") rfl)⟩, ⟨_, fd6, F6, F6.bindsN (fun _ _ _ _ _ _ us hl => match us, hl with | [_], _ => rfl), He.glo_ok X G (c.fact 6 (f := .glo "bytes_of") rfl)⟩, ⟨_, fd7, F7, F7.bindsN (fun _ _ _ _ _ _ us hl => match us, hl with | [_], _ => rfl), He.glo_ok X G (c.fact 7 (f := .glo "numbers_of") rfl)⟩, ⟨_, fd8, F8, F8.bindsN (fun _ _ _ _ _ _ us hl => match us, hl with | [_], _ => rfl), He.glo_ok X G (c.fact 8 (f := .glo "_law_rng") rfl)⟩, ⟨_, fd9, F9, F9.bindsN (fun _ _ _ _ _ _ us hl => match us, hl with | [_, _], _ => rfl), He.glo_ok X G (c.fact 9 (f := .glo "_law_draw") rfl)⟩, ⟨_, fd10, F10, F10.bindsN (fun _ _ _ _ _ _ us hl => match us, hl with | [_, _], _ => rfl), He.glo_ok X G (c.fact 10 (f := .glo "_law_pick") rfl)⟩, ⟨_, fd11, F11, F11.bindsN (fun _ _ _ _ _ _ us hl => match us, hl with | [_], _ => rfl), He.glo_ok X G (c.fact 11 (f := .glo "_law_label") rfl)⟩, ⟨_, fd12, F12, F12.bindsN (fun _ _ _ _ _ _ us hl => match us, hl with | [_], _ => rfl), He.glo_ok X G (c.fact 12 (f := .glo "_law_said") rfl)⟩, ⟨_, fd13, F13, F13.bindsN (fun _ _ _ _ _ _ us hl => match us, hl with | [_], _ => rfl), He.glo_ok X G (c.fact 13 (f := .glo "_law_due") rfl)⟩, ⟨_, fd14, F14, F14.bindsN (fun _ _ _ _ _ _ us hl => match us, hl with | [_], _ => rfl), He.glo_ok X G (c.fact 14 (f := .glo "_law_right") rfl)⟩, ⟨_, fd15, F15, F15.bindsN (fun _ _ _ _ _ _ us hl => match us, hl with | [_], _ => rfl), He.glo_ok X G (c.fact 15 (f := .glo "law") rfl)⟩,
    ?_, He.free_ok X G (c.fact 17 (f := .free "abs") rfl), He.free_ok X G (c.fact 18 (f := .free "bool") rfl), He.free_ok X G (c.fact 19 (f := .free "bytes") rfl), He.free_ok X G (c.fact 20 (f := .free "enumerate") rfl), He.free_ok X G (c.fact 21 (f := .free "int") rfl), He.free_ok X G (c.fact 22 (f := .free "isinstance") rfl), He.free_ok X G (c.fact 23 (f := .free "len") rfl), He.free_ok X G (c.fact 24 (f := .free "list") rfl), He.free_ok X G (c.fact 25 (f := .free "range") rfl), He.free_ok X G (c.fact 26 (f := .free "repr") rfl), He.free_ok X G (c.fact 27 (f := .free "tuple") rfl), ⟨_, He.glo_ok X G (c.fact 28 (f := .glo "ForestError") rfl)⟩, ?_⟩, rfl, rfl⟩
  · rw [e]
    exact He.noat_ok (c.fact 16 (f := .noat "NoKey" "place") rfl)
  · rw [e]
    exact He.exm_ok (c.fact 29 (f := .exm "NoKey" "NoKey" true) rfl)
theorem lawAt {w : World} {K : PySem.W.Frag} {h : Heap} {mg : Str → Option Value} {fa : Addr} (X : K.In h) (G : h.Ns mainGlobals mg) (s : He.SaysX faL fnL [] tfL exL w h K) (hmg : mg "law" = some (.ref fa)) : LamX.LawAtS PySem.Challenge.rw_forestrows_k46_keys_and_their_labels w K CX0 8 63 "_law_script" mg fa h := by
  obtain ⟨T, e1, e2⟩ := txt_of X G s
  have ef : fa = T.law.f := by
    have e := hmg.symm.trans T.law.g
    cases e
    rfl
  subst ef
  have nd : (He.cT K ("_law_right", none)).2 ≠ (He.cT K ("law", none)).2 := by
    obtain ⟨_, x2⟩ := He.ba s.more
    intro e
    rw [decide_eq_true e] at x2
    cases x2
  refine ⟨T.law.fd, tfL.map (He.cT K), mkSp K (S_law (He.cT K ("_law_right", none)).2 (He.cT K ("law", none)).2), ?_, ?_, ?_, ?_, ?_, ?_⟩
  · intro p hp
    obtain ⟨q, hq, rfl⟩ := List.mem_map.mp hp
    exact s.empty q hq
  · intro p hp
    obtain ⟨q, hq, rfl⟩ := List.mem_map.mp hp
    exact s.out q hq
  · intro p hp
    obtain ⟨q, hq, rfl⟩ := List.mem_map.mp hp
    exact PySem.W.codeHd_of_K X (s.hd q hq)
  · intro s0 u
    exact FunD.bindsA (ps := ["_law_script"]) T.law.F (fun _ _ _ _ _ _ us hl => match us, hl with | [_], _ => rfl) s0 [u] rfl
  · intro H a ns hl _ hT hS
    refine ⟨_, _, _, _, wd_start (Ps := [(He.cT K ("_law_right", none)).2, (He.cT K ("law", none)).2]) (fun p hp => ?_) ?_ hS, ⟨_, ns, rfl, rfl, rfl, hl, fun _ _ => rfl⟩, fun v _ _ _ e _ => e, fun _ _ _ _ _ z _ => z⟩
    · rcases List.mem_cons.mp hp with e | hp
      · rw [e]
        exact hT _ (List.mem_map_of_mem List.mem_cons_self)
      · rcases List.mem_cons.mp hp with e | hp
        · rw [e]
          exact hT _ (List.mem_map_of_mem (List.mem_cons_of_mem _ List.mem_cons_self))
        · cases hp
    · exact List.nodup_cons.mpr ⟨fun z => nd (List.mem_singleton.mp z), List.nodup_cons.mpr ⟨fun z => (by cases z), List.nodup_nil⟩⟩
  · intro base _ _ tb
    have r1 := tb _ (List.mem_map_of_mem (f := He.cT K) (a := (("_law_right", none) : He.Defn)) List.mem_cons_self)
    have r2 := tb _ (List.mem_map_of_mem (f := He.cT K) (a := (("law", none) : He.Defn)) (List.mem_cons_of_mem _ List.mem_cons_self))
    refine ok_law T ?_ ?_
    · rw [e1]
      exact r1
    · rw [e2]
      exact r2
def looseL : List PySem.Str := ["_wall", "__name__", "ForestError", "NoKey", "is_integer", "is_sequence", "key_fault", "cut_key", "split_key", "bytes_of", "numbers_of", "_law_rng", "_law_draw", "_law_pick", "_law_label", "_law_said", "_law_due", "_law_right"]
theorem runL (w : World) : HandSHeadRun.RunEq RO (PySem.W.view RO.prog [21]) hkL obL 4000 looseL w := by
  intro os
  kernel_rfl
end FR
open PySem PySem.W PySem.Calls PyProof.Rows
theorem PySem.Challenge.cw_forestrows_k46_keys_and_their_labels_holds : PySem.Challenge.rw_forestrows_k46_keys_and_their_labels.Holds := by
  w_on; o_law
  refine HandSHeadRun.head_any (r := OpenLaw.row PySem.Challenge.rw_forestrows_k46_keys_and_their_labels) (q := view (OpenLaw.row PySem.Challenge.rw_forestrows_k46_keys_and_their_labels).prog [21]) (H := FR.hkL) (ob := FR.obL) (M := 4000) (loose := FR.looseL) (d := HandSHeadRun.topDef (OpenLaw.row PySem.Challenge.rw_forestrows_k46_keys_and_their_labels).prog 21) (kwd := []) FR.obL_eq
    (by kernel_rfl) (fun s => by kernel_rfl) FR.runL (by kernel_rfl) (by kernel_rfl) (by kernel_rfl) (by rfl) (by first | assumption | decide +kernel) (by decide +kernel) ⟨rfl, rfl, rfl, rfl, rfl, by decide +kernel⟩ ?hw ?hc
  case hw => w_witness2
  case hc =>
    refine LamX.walk_ofTsE (l := PySem.Challenge.rw_forestrows_k46_keys_and_their_labels) (n := 63) (k := 8) (x := "_law_script") (CX := fun _ => L2.CX0) rfl (by decide) (by kernel_rfl) ⟨rfl, by decide, by decide⟩ ?F (fun _ _ _ _ _ z => z)
    intro w mg fa h Y G hmg0
    obtain ⟨K, KX, c⟩ := Y
    have hmg : mg ("law" : PySem.Str) = some (.ref fa) := by
      have e : (HandSHeadRun.topDef (OpenLaw.row PySem.Challenge.rw_forestrows_k46_keys_and_their_labels).prog 21).name = ("law" : PySem.Str) := by kernel_rfl
      rw [← e]
      exact hmg0
    exact ⟨K, KX, FR.lawAt KX G c hmg⟩
