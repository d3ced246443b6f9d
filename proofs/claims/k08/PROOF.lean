import PyProof.Rows.All
import Wide.All
import OpenK.AllK
import Wide.FinOn
import HandS.ForMost
import HandS.Wide
import HandS.Conv
import HandS.Deep
import HandS.SetFor
import HandS.More
import HandS.TupAny
import HandS.IsInst
import HandS.Flow
import HandS.Style
import HandS.SortInts
import HandS.TupLe
import HandS.Zip
import PySem.Challenge.RW_pinboard_k08_whole_places
set_option Elab.async false
set_option linter.all false
set_option maxRecDepth 1000000

namespace Mc
open PySem L2

/-! ### plain data, snapshots, clean values, clean objects -/
inductive D where
  | non | bl (b : Bool) | int (i : Int) | str (x : Str) | txt (x : D) | tup (xs : List D) | lst (xs : List D)
inductive Sn where
  | sd (x : D) | sl (xs : List Sn) | sk (ks : List Key) (vs : List Sn) | si (c : Nat) (ks : List Str) (vs : List Sn) | fk (ks : List Key) (vs : List Sn)
inductive CV where
  | d (x : D) | ref (n : Nat) | s (x : Sn) | t (xs : List CV)
inductive CO where
  | lst (xs : List CV) | dk (kvs : List (Key × CV)) | ins (c : Nat) (fs : List (Str × CV)) | box (x : Sn)
abbrev CH := List (Option CO)
abbrev Sl := List (Option CV)

/-- a snapshot's leaf is plain -/
def ofS : Sn → CV
  | .sd x => .d x
  | x => .s x

mutual
def toP : D → PyData
  | .non => .none
  | .bl b => .bool b
  | .int i => .int i
  | .str x => .str x
  | .txt x => .str (toP x).shown
  | .tup xs => .tuple (toPs xs)
  | .lst xs => .list (toPs xs)
def toPs : List D → List PyData
  | [] => []
  | x :: xs => toP x :: toPs xs
end

/-! ### worlds and relations -/
structure Wd where
  mu : List Addr
  fz : Addr → Prop
  ln : Addr → Prop
  kp : Addr → Prop
  /-- a box's own places -/
  bx : Nat → List Addr := fun _ => []
/-- what is fixed: the written part, the classes' places -/
structure Fx where
  K : PySem.W.Frag
  cls : Nat → Addr

section
variable (F : Fx)
mutual
inductive RD (W : Wd) (H : Hp) : D → V → Prop
  | non : RD W H .non .non
  | bl (b : Bool) : RD W H (.bl b) (.bl b)
  | int (i : Int) : RD W H (.int i) (.int i)
  | str (x : Str) : RD W H (.str x) (.str x)
  | txt (x : D) : RD W H (.txt x) (.str (toP x).shown)
  | tup {xs : List D} {a : Addr} {vs : List V} : SqT F.K H a vs → RDs W H xs vs → RD W H (.tup xs) (.ref a)
  | lst {xs : List D} {a : Addr} {vs : List V} : W.fz a → H a = some (.lst vs) → RDs W H xs vs → RD W H (.lst xs) (.ref a)
inductive RDs (W : Wd) (H : Hp) : List D → List V → Prop
  | nil : RDs W H [] []
  | cons {x : D} {xs : List D} {v : V} {vs : List V} : RD W H x v → RDs W H xs vs → RDs W H (x :: xs) (v :: vs)
end
mutual
inductive RS (W : Wd) (H : Hp) : Sn → V → Prop
  | sd {x : D} {v : V} : RD F W H x v → RS W H (.sd x) v
  | sl {xs : List Sn} {a : Addr} {vs : List V} : ((W.ln a ∨ W.fz a) ∨ ∀ H' : Hp, SqL F.K H' a vs) → SqL F.K H a vs → RSs W H xs vs → RS W H (.sl xs) (.ref a)
  | sk {ks : List Key} {xs : List Sn} {a : Addr} {kvs : List (Key × V)} : (W.ln a ∨ W.fz a) → Rd H a (.dK kvs) → kvs.map (·.1) = ks → RSs W H xs (kvs.map (·.2)) → RS W H (.sk ks xs) (.ref a)
  | si {c : Nat} {ks : List Str} {xs : List Sn} {a dx : Addr} {fs : List (Str × V)} : (W.ln a ∨ W.fz a) → H a = some (.ins (F.cls c) dx fs) → fs.map (·.1) = ks → RSs W H xs (fs.map (·.2)) → RS W H (.si c ks xs) (.ref a)
  | fk {ks : List Key} {xs : List Sn} {a : Addr} {o : Obj} {kvs : List (Key × V)} : W.fz a → H a = some (.frz o (.dK kvs)) → kvs.map (·.1) = ks → RSs W H xs (kvs.map (·.2)) → RS W H (.fk ks xs) (.ref a)
inductive RSs (W : Wd) (H : Hp) : List Sn → List V → Prop
  | nil : RSs W H [] []
  | cons {x : Sn} {xs : List Sn} {v : V} {vs : List V} : RS W H x v → RSs W H xs vs → RSs W H (x :: xs) (v :: vs)
end
mutual
inductive Rl (W : Wd) (H : Hp) : CV → V → Prop
  | d {x : D} {v : V} : RD F W H x v → Rl W H (.d x) v
  | ref {n : Nat} {a : Addr} : W.mu[n]? = some a → Rl W H (.ref n) (.ref a)
  | s {x : Sn} {v : V} : RS F W H x v → Rl W H (.s x) v
  | t {xs : List CV} {a : Addr} {vs : List V} : SqT F.K H a vs → Rls W H xs vs → Rl W H (.t xs) (.ref a)
inductive Rls (W : Wd) (H : Hp) : List CV → List V → Prop
  | nil : Rls W H [] []
  | cons {x : CV} {xs : List CV} {v : V} {vs : List V} : Rl W H x v → Rls W H xs vs → Rls W H (x :: xs) (v :: vs)
end
/-- what a live object may be -/
def Mu : HO → Prop
  | .lst _ => True
  | .dK _ => True
  | .ins _ _ _ => True
  | _ => False
mutual
/-- a tree of objects of its own, its places -/
inductive Tr (W : Wd) (H : Hp) : Sn → V → List Addr → Prop
  | sd {x : D} {v : V} : RD F W H x v → Tr W H (.sd x) v []
  | sl {xs : List Sn} {a : Addr} {vs : List V} {fp : List Addr} : H a = some (.lst vs) → Trs W H xs vs fp → Tr W H (.sl xs) (.ref a) (a :: fp)
  | sk {ks : List Key} {xs : List Sn} {a : Addr} {kvs : List (Key × V)} {fp : List Addr} : H a = some (.dK kvs) → kvs.map (·.1) = ks → Trs W H xs (kvs.map (·.2)) fp → Tr W H (.sk ks xs) (.ref a) (a :: fp)
  | si {c : Nat} {ks : List Str} {xs : List Sn} {a dx : Addr} {fs : List (Str × V)} {fp : List Addr} : H a = some (.ins (F.cls c) dx fs) → fs.map (·.1) = ks → Trs W H xs (fs.map (·.2)) fp → Tr W H (.si c ks xs) (.ref a) (a :: fp)
inductive Trs (W : Wd) (H : Hp) : List Sn → List V → List Addr → Prop
  | nil : Trs W H [] [] []
  | cons {x : Sn} {xs : List Sn} {v : V} {vs : List V} {fp gp : List Addr} : Tr W H x v fp → Trs W H xs vs gp → Trs W H (x :: xs) (v :: vs) (fp ++ gp)
end
/-- an object as it stands at a -/
def RO (W : Wd) (H : Hp) : CO → Addr → Prop
  | .lst xs, a => ∃ vs, H a = some (.lst vs) ∧ Rls F W H xs vs
  | .dk kvs, a => ∃ ks, H a = some (.dK ks) ∧ Paired (fun (p : Key × CV) (q : Key × V) => p.1 = q.1 ∧ Rl F W H p.2 q.2) kvs ks
  | .ins c fs, a => ∃ dx gs, H a = some (.ins (F.cls c) dx gs) ∧ Paired (fun (p : Str × CV) (q : Str × V) => p.1 = q.1 ∧ Rl F W H p.2 q.2) fs gs
  | .box _, a => ∃ u, H a = some u ∧ Mu u
/-- the boxes -/
structure Bx (W : Wd) (h : CH) (H : Hp) : Prop where
  tr : ∀ (n : Nat) (T : Sn), h[n]? = some (some (.box T)) → ∃ a, W.mu[n]? = some a ∧ Tr F W H T (.ref a) (W.bx n)
  pv : ∀ (n : Nat) (T : Sn) (x : Addr), h[n]? = some (some (.box T)) → x ∈ W.bx n → ¬ W.fz x ∧ ¬ W.ln x ∧ ¬ W.kp x
  nd : ∀ (n : Nat) (T : Sn), h[n]? = some (some (.box T)) → (W.bx n).Nodup
  lv : ∀ (n : Nat) (T : Sn) (m : Nat) (o : CO) (x : Addr), h[n]? = some (some (.box T)) → x ∈ W.bx n → h[m]? = some (some o) → W.mu[m]? = some x → m = n
  dj : ∀ (n m : Nat) (T T' : Sn) (x : Addr), h[n]? = some (some (.box T)) → h[m]? = some (some (.box T')) → x ∈ W.bx n → x ∈ W.bx m → n = m
structure Sim (W : Wd) (h : CH) (H : Hp) : Prop where
  len : h.length = W.mu.length
  obj : ∀ (n : Nat) (o : CO), h[n]? = some (some o) → ∃ a, W.mu[n]? = some a ∧ ¬ W.fz a ∧ (¬ W.ln a ∧ ¬ W.kp a) ∧ RO F W H o a
  inj : ∀ (n m : Nat) (o o' : CO) (a : Addr), h[n]? = some (some o) → h[m]? = some (some o') → W.mu[n]? = some a → W.mu[m]? = some a → n = m
  ne : ∀ a, W.fz a ∨ W.ln a ∨ W.kp a → H a ≠ none
  dj : ∀ a, W.fz a → ¬ W.ln a ∧ ¬ W.kp a
  bo : Bx F W h H
/-- what may have happened: places added, more frozen; frozen and lent things, tuples, locked things stand -/
structure Stp (W : Wd) (H : Hp) (W' : Wd) (H' : Hp) : Prop where
  mu : ∃ e, W'.mu = W.mu ++ e
  fz : ∀ a, W.fz a → W'.fz a
  ln : W'.ln = W.ln
  kp : W'.kp = W.kp
  hz : ∀ a, W.fz a ∨ W.ln a ∨ W.kp a → H' a = H a
  tp : ∀ a xs, H a = some (.tup xs) → H' a = some (.tup xs)
  fr : ∀ a o u, H a = some (.frz o u) → H' a = some (.frz o u)
def RSl (W : Wd) (H : Hp) (c : Sl) (σ : St) : Prop := c.length = σ.length ∧ ∀ (i : Nat) (x : CV), c[i]? = some (some x) → ∃ v, σ[i]? = some (some v) ∧ Rl F W H x v
end

section
variable {F : Fx} {W W' W1 W2 : Wd} {H H' H1 H2 : Hp}
theorem Stp.refl : Stp W H W H := ⟨⟨[], by simp⟩, fun _ h => h, rfl, rfl, fun _ _ => rfl, fun _ _ h => h, fun _ _ _ h => h⟩
theorem Stp.trans (a : Stp W H W1 H1) (b : Stp W1 H1 W2 H2) : Stp W H W2 H2 where
  mu := by
    obtain ⟨e, h⟩ := a.mu
    obtain ⟨e', h'⟩ := b.mu
    exact ⟨e ++ e', by rw [h', h, List.append_assoc]⟩
  fz := fun x h => b.fz x (a.fz x h)
  ln := b.ln.trans a.ln
  kp := b.kp.trans a.kp
  hz := fun x h => (b.hz x (h.imp (a.fz x) fun q => by rw [a.ln, a.kp]; exact q)).trans (a.hz x h)
  tp := fun x xs h => b.tp x xs (a.tp x xs h)
  fr := fun x o u h => b.fr x o u (a.fr x o u h)
theorem Stp.sqT (a : Stp W H W' H') {K : PySem.W.Frag} {p : Addr} {vs : List V} (h : SqT K H p vs) : SqT K H' p vs := by
  rcases h with (h | ⟨o, h⟩) | h
  · exact .inl (.inl (a.tp _ _ h))
  · exact .inl (.inr ⟨o, a.fr _ _ _ h⟩)
  · exact .inr h
theorem Stp.lf (a : Stp W H W' H') {p : Addr} (l : W.ln p ∨ W.fz p) : H' p = H p := a.hz p (l.elim (fun q => .inr (.inl q)) .inl)
theorem Stp.sqL (a : Stp W H W' H') {K : PySem.W.Frag} {p : Addr} {vs : List V} (l : W.ln p ∨ W.fz p) (h : SqL K H p vs) : SqL K H' p vs := by
  rcases h with (h | ⟨o, h⟩) | h
  · exact .inl (.inl (by rw [a.lf l]; exact h))
  · exact .inl (.inr ⟨o, a.fr _ _ _ h⟩)
  · exact .inr h
mutual
theorem RD.mono (a : Stp W H W' H') : ∀ {x : D} {v : V}, RD F W H x v → RD F W' H' x v
  | _, _, .non => .non
  | _, _, .bl b => .bl b
  | _, _, .int i => .int i
  | _, _, .str x => .str x
  | _, _, .txt x => .txt x
  | _, _, .tup h r => .tup (a.sqT h) (RDs.mono a r)
  | _, _, .lst f h r => .lst (a.fz _ f) (by rw [a.hz _ (.inl f)]; exact h) (RDs.mono a r)
theorem RDs.mono (a : Stp W H W' H') : ∀ {x : List D} {v : List V}, RDs F W H x v → RDs F W' H' x v
  | _, _, .nil => .nil
  | _, _, .cons h r => .cons (RD.mono a h) (RDs.mono a r)
end
mutual
theorem RS.mono (a : Stp W H W' H') : ∀ {x : Sn} {v : V}, RS F W H x v → RS F W' H' x v
  | _, _, .sd h => .sd (h.mono a)
  | _, _, .sl l h r => .sl (l.imp (fun q => q.imp (fun q => by rw [a.ln]; exact q) (a.fz _)) id) (l.elim (fun q => a.sqL q h) fun q => q _) (RSs.mono a r)
  | _, _, .sk l h e r => .sk (l.imp (fun q => by rw [a.ln]; exact q) (a.fz _)) (by unfold Rd at h ⊢; rw [a.lf l]; exact h) e (RSs.mono a r)
  | _, _, .si l h e r => .si (l.imp (fun q => by rw [a.ln]; exact q) (a.fz _)) (by rw [a.lf l]; exact h) e (RSs.mono a r)
  | _, _, .fk l h e r => .fk (a.fz _ l) (by rw [a.hz _ (.inl l)]; exact h) e (RSs.mono a r)
theorem RSs.mono (a : Stp W H W' H') : ∀ {x : List Sn} {v : List V}, RSs F W H x v → RSs F W' H' x v
  | _, _, .nil => .nil
  | _, _, .cons h r => .cons (RS.mono a h) (RSs.mono a r)
end
theorem Stp.at (a : Stp W H W' H') {n : Nat} {p : Addr} (h : W.mu[n]? = some p) : W'.mu[n]? = some p := by
  obtain ⟨e, q⟩ := a.mu
  rw [q]
  have hn : n < W.mu.length := (List.getElem?_eq_some_iff.mp h).1
  rw [List.getElem?_append_left hn]
  exact h
mutual
theorem Rl.mono (a : Stp W H W' H') : ∀ {x : CV} {v : V}, Rl F W H x v → Rl F W' H' x v
  | _, _, .d h => .d (RD.mono a h)
  | _, _, .ref h => .ref (a.at h)
  | _, _, .s h => .s (RS.mono a h)
  | _, _, .t h r => .t (a.sqT h) (Rls.mono a r)
theorem Rls.mono (a : Stp W H W' H') : ∀ {x : List CV} {v : List V}, Rls F W H x v → Rls F W' H' x v
  | _, _, .nil => .nil
  | _, _, .cons h r => .cons (Rl.mono a h) (Rls.mono a r)
end
theorem Rls.length : ∀ {x : List CV} {v : List V}, Rls F W H x v → x.length = v.length
  | _, _, .nil => rfl
  | _, _, .cons _ r => by simp [Rls.length r]
theorem Rls.get : ∀ {x : List CV} {v : List V} {i : Nat} {y : CV}, Rls F W H x v → x[i]? = some y → ∃ u, v[i]? = some u ∧ Rl F W H y u
  | _, _, _, _, .nil, e => by simp at e
  | _, _, 0, _, .cons r _, e => by simp at e; subst e; exact ⟨_, rfl, r⟩
  | _, _, i + 1, _, .cons _ t, e => by
    obtain ⟨u, h1, h2⟩ := Rls.get (i := i) t (by simpa using e)
    exact ⟨u, by simpa using h1, h2⟩
theorem Rls.append : ∀ {x y : List CV} {v w : List V}, Rls F W H x v → Rls F W H y w → Rls F W H (x ++ y) (v ++ w)
  | _, _, _, _, .nil, s => s
  | _, _, _, _, .cons r t, s => .cons r (Rls.append t s)
theorem Rls.take : ∀ {x : List CV} {v : List V} (n : Nat), Rls F W H x v → Rls F W H (x.take n) (v.take n)
  | _, _, 0, _ => .nil
  | _, _, _ + 1, .nil => .nil
  | _, _, n + 1, .cons r t => .cons r (Rls.take n t)
theorem Rls.drop : ∀ {x : List CV} {v : List V} (n : Nat), Rls F W H x v → Rls F W H (x.drop n) (v.drop n)
  | _, _, 0, r => r
  | _, _, _ + 1, .nil => .nil
  | _, _, n + 1, .cons _ t => Rls.drop n t
theorem Rls.set {y : CV} {u : V} (r : Rl F W H y u) : ∀ {x : List CV} {v : List V} (i : Nat), Rls F W H x v → Rls F W H (x.set i y) (v.set i u)
  | _, _, _, .nil => .nil
  | _, _, 0, .cons _ t => .cons r t
  | _, _, i + 1, .cons q t => .cons q (Rls.set r i t)
theorem Rls.ofD : ∀ {x : List D} {v : List V}, RDs F W H x v → Rls F W H (x.map .d) v
  | _, _, .nil => .nil
  | _, _, .cons h r => .cons (.d h) (Rls.ofD r)
theorem RSl.mono (a : Stp W H W' H') {c : Sl} {σ : St} (h : RSl F W H c σ) : RSl F W' H' c σ :=
  ⟨h.1, fun i x e => let ⟨v, q, r⟩ := h.2 i x e; ⟨v, q, r.mono a⟩⟩
theorem ofS_rel {x : Sn} {v : V} (h : RS F W H x v) : Rl F W H (ofS x) v := by
  cases h with
  | sd h => exact .d h
  | sl l h r => exact .s (.sl l h r)
  | sk l h e r => exact .s (.sk l h e r)
  | si l h e r => exact .s (.si l h e r)
  | fk l h e r => exact .s (.fk l h e r)
theorem Rls.ofS : ∀ {x : List Sn} {v : List V}, RSs F W H x v → Rls F W H (x.map Mc.ofS) v
  | _, _, .nil => .nil
  | _, _, .cons h r => .cons (ofS_rel h) (Rls.ofS r)
/-- plain items -/
def allD : List CV → Option (List D)
  | [] => some []
  | .d x :: r => (allD r).map (x :: ·)
  | _ :: _ => none
theorem allD_rel : ∀ {xs : List CV} {ds : List D} {vs : List V}, allD xs = some ds → Rls F W H xs vs → RDs F W H ds vs
  | [], ds, _, e, r => by
    cases r
    simp only [allD, Option.some.injEq] at e
    subst e
    exact .nil
  | .d x :: xs, ds, _, e, r => by
    cases r with
    | cons r1 r2 =>
      cases r1 with
      | d r1 =>
        simp only [allD, Option.map_eq_some_iff] at e
        obtain ⟨ds', e1, rfl⟩ := e
        exact .cons r1 (allD_rel e1 r2)
  | .ref _ :: _, _, _, e, _ => by simp [allD] at e
  | .s _ :: _, _, _, e, _ => by simp [allD] at e
  | .t _ :: _, _, _, e, _ => by simp [allD] at e
theorem allD_map : ∀ (xs : List D), allD (xs.map .d) = some xs
  | [] => rfl
  | x :: xs => by simp [allD, allD_map xs]
end
/-! ### heaps -/
section
variable {F : Fx} {W W' : Wd} {h : CH} {H H' : Hp} {p a : Addr} {o o' : CO} {u : HO} {n : Nat}
theorem RO.mu (r : RO F W H o a) : ∃ u, H a = some u ∧ Mu u := by
  cases o with
  | lst xs => obtain ⟨vs, e, _⟩ := r; exact ⟨_, e, trivial⟩
  | dk kvs => obtain ⟨vs, e, _⟩ := r; exact ⟨_, e, trivial⟩
  | ins c fs => obtain ⟨dx, vs, e, _⟩ := r; exact ⟨_, e, trivial⟩
  | box T => exact r
theorem pair_mono {κ : Type} (s : Stp W H W' H') {l : List (κ × CV)} {m : List (κ × V)} (h : Paired (fun (p : κ × CV) (q : κ × V) => p.1 = q.1 ∧ Rl F W H p.2 q.2) l m) :
    Paired (fun (p : κ × CV) (q : κ × V) => p.1 = q.1 ∧ Rl F W' H' p.2 q.2) l m := L2.Paired.mapP h fun _ _ z => ⟨z.1, z.2.mono s⟩
theorem RO.mono (s : Stp W H W' H') (e : H' a = H a) (r : RO F W H o a) : RO F W' H' o a := by
  cases o with
  | lst xs => obtain ⟨vs, q, r⟩ := r; exact ⟨vs, e.trans q, Rls.mono s r⟩
  | dk kvs => obtain ⟨vs, q, r⟩ := r; exact ⟨vs, e.trans q, pair_mono s r⟩
  | ins c fs => obtain ⟨dx, vs, q, r⟩ := r; exact ⟨dx, vs, e.trans q, pair_mono s r⟩
  | box T => obtain ⟨u, q, r⟩ := r; exact ⟨u, e.trans q, r⟩
mutual
theorem Tr.ne : ∀ {x : Sn} {v : V} {fp : List Addr} {b : Addr}, Tr F W H x v fp → b ∈ fp → H b ≠ none
  | _, _, _, _, .sd _, m => by cases m
  | _, _, _, _, .sl h r, m => (List.mem_cons.mp m).elim (fun e => by rw [e, h]; simp) fun m => Trs.ne r m
  | _, _, _, _, .sk h _ r, m => (List.mem_cons.mp m).elim (fun e => by rw [e, h]; simp) fun m => Trs.ne r m
  | _, _, _, _, .si h _ r, m => (List.mem_cons.mp m).elim (fun e => by rw [e, h]; simp) fun m => Trs.ne r m
theorem Trs.ne : ∀ {x : List Sn} {v : List V} {fp : List Addr} {b : Addr}, Trs F W H x v fp → b ∈ fp → H b ≠ none
  | _, _, _, _, .nil, m => by cases m
  | _, _, _, _, .cons h r, m => (List.mem_append.mp m).elim (fun m => Tr.ne h m) fun m => Trs.ne r m
end
mutual
theorem Tr.mono (s : Stp W H W' H') : ∀ {x : Sn} {v : V} {fp : List Addr}, (∀ b ∈ fp, H' b = H b) → Tr F W H x v fp → Tr F W' H' x v fp
  | _, _, _, _, .sd h => .sd (h.mono s)
  | _, _, _, k, .sl h r => .sl ((k _ (List.mem_cons_self ..)).trans h) (Trs.mono s (fun b m => k b (List.mem_cons_of_mem _ m)) r)
  | _, _, _, k, .sk h e r => .sk ((k _ (List.mem_cons_self ..)).trans h) e (Trs.mono s (fun b m => k b (List.mem_cons_of_mem _ m)) r)
  | _, _, _, k, .si h e r => .si ((k _ (List.mem_cons_self ..)).trans h) e (Trs.mono s (fun b m => k b (List.mem_cons_of_mem _ m)) r)
theorem Trs.mono (s : Stp W H W' H') : ∀ {x : List Sn} {v : List V} {fp : List Addr}, (∀ b ∈ fp, H' b = H b) → Trs F W H x v fp → Trs F W' H' x v fp
  | _, _, _, _, .nil => .nil
  | _, _, _, k, .cons h r => .cons (Tr.mono s (fun b m => k b (List.mem_append_left _ m)) h) (Trs.mono s (fun b m => k b (List.mem_append_right _ m)) r)
end
/-- a step that leaves the boxes' places alone -/
theorem Bx.move {h' : CH} (B : Bx F W h H) (s : Stp W H W' H') (hb : W'.bx = W.bx) (old : ∀ (n : Nat) (T : Sn), h'[n]? = some (some (.box T)) → h[n]? = some (some (.box T)))
    (same : ∀ (n : Nat) (T : Sn) (x : Addr), h'[n]? = some (some (.box T)) → x ∈ W.bx n → H' x = H x) (pv : ∀ (n : Nat) (T : Sn) (x : Addr), h'[n]? = some (some (.box T)) → x ∈ W.bx n → ¬ W'.fz x ∧ ¬ W'.ln x ∧ ¬ W'.kp x)
    (lv : ∀ (m : Nat) (o : CO) (x : Addr), h'[m]? = some (some o) → W'.mu[m]? = some x → (∃ o1, h[m]? = some (some o1) ∧ W.mu[m]? = some x) ∨ ∀ (n : Nat) (T : Sn), h'[n]? = some (some (.box T)) → x ∉ W.bx n) : Bx F W' h' H' where
  tr := fun n T e => by
    obtain ⟨a, q1, q2⟩ := B.tr n T (old n T e)
    rw [hb]
    exact ⟨a, s.at q1, q2.mono s fun x m => same n T x e m⟩
  pv := fun n T x e m => pv n T x e (hb ▸ m)
  nd := fun n T e => by rw [hb]; exact B.nd n T (old n T e)
  lv := fun n T m o x e mx e2 q => by
    rw [hb] at mx
    rcases lv m o x e2 q with ⟨o1, z1, z2⟩ | z
    · exact B.lv n T m o1 x (old n T e) mx z1 z2
    · exact absurd mx (z n T e)
  dj := fun n m T T' x e1 e2 m1 m2 => by
    rw [hb] at m1 m2
    exact B.dj n m T T' x (old n T e1) (old m T' e2) m1 m2
theorem Bx.ne (B : Bx F W h H) {n : Nat} {T : Sn} {x : Addr} (e : h[n]? = some (some (.box T))) (m : x ∈ W.bx n) : H x ≠ none := by
  obtain ⟨a, _, q⟩ := B.tr n T e
  exact q.ne m
/-- a fresh place is written -/
theorem Sim.stpNew (s : Sim F W h H) (hp : H p = none) : Stp W H W (upd H p u) where
  mu := ⟨[], by simp⟩
  fz := fun _ h => h
  ln := rfl
  kp := rfl
  hz := fun x hx => upd_ne fun e => s.ne x hx (e ▸ hp)
  tp := fun x xs e => by rw [upd_ne (ne_of_none e hp)]; exact e
  fr := fun x o v e => by rw [upd_ne (ne_of_none e hp)]; exact e
theorem stp_mu (s : Stp W H W H') : Stp W H { W with mu := W.mu ++ [p] } H' :=
  ⟨⟨[p], rfl⟩, s.fz, rfl, rfl, s.hz, s.tp, s.fr⟩
theorem stp_fz (s : Stp W H W H') : Stp W H { W with fz := fun x => W.fz x ∨ x = p } H' :=
  ⟨⟨[], by simp⟩, fun _ h => .inl h, rfl, rfl, s.hz, s.tp, s.fr⟩
/-- a new live object -/
theorem Sim.alloc (s : Sim F W h H) (hp : H p = none) (r : RO F { W with mu := W.mu ++ [p] } (upd H p u) o p) (nb : ∀ T, o ≠ .box T := by intro _ z; cases z) :
    Sim F { W with mu := W.mu ++ [p] } (h ++ [some o]) (upd H p u) where
  len := by simp [s.len]
  obj := fun n o1 e => by
    by_cases hn : n < h.length
    · rw [List.getElem?_append_left hn] at e
      obtain ⟨a, q1, q2, q3, q4⟩ := s.obj n o1 e
      obtain ⟨v, q5, _⟩ := q4.mu
      refine ⟨a, ?_, q2, q3, q4.mono (stp_mu (s.stpNew hp)) (upd_ne (ne_of_none q5 hp))⟩
      show (W.mu ++ [p])[n]? = some a
      rw [List.getElem?_append_left (s.len ▸ hn)]
      exact q1
    · have hl : n < (h ++ [some o]).length := (List.getElem?_eq_some_iff.mp e).1
      have hn' : n = h.length := by simp at hl; omega
      subst hn'
      have e1 : o = o1 := by simpa using e
      subst e1
      refine ⟨p, ?_, fun z => s.ne p (.inl z) hp, ⟨fun z => s.ne p (.inr (.inl z)) hp, fun z => s.ne p (.inr (.inr z)) hp⟩, r⟩
      show (W.mu ++ [p])[h.length]? = some p
      rw [s.len]; simp
  inj := fun n m o1 o2 a e1 e2 m1 m2 => by
    have old : ∀ {n : Nat} {o1 : CO}, (h ++ [some o])[n]? = some (some o1) → (W.mu ++ [p])[n]? = some a → (n < h.length ∧ h[n]? = some (some o1) ∧ W.mu[n]? = some a ∧ a ≠ p) ∨ (n = h.length ∧ a = p) := by
      intro n o1 e m
      by_cases hn : n < h.length
      · rw [List.getElem?_append_left hn] at e
        rw [List.getElem?_append_left (s.len ▸ hn)] at m
        obtain ⟨a', q1, _, _, q4⟩ := s.obj n o1 e
        obtain ⟨v, q5, _⟩ := q4.mu
        rw [m] at q1
        cases q1
        exact .inl ⟨hn, e, m, ne_of_none q5 hp⟩
      · have hl : n < (h ++ [some o]).length := (List.getElem?_eq_some_iff.mp e).1
        have hn' : n = h.length := by simp at hl; omega
        subst hn'
        rw [s.len] at m
        have m' : p = a := by simpa using m
        exact .inr ⟨rfl, m'.symm⟩
    rcases old e1 m1 with ⟨a1, b1, c1, d1⟩ | ⟨a1, b1⟩
    · rcases old e2 m2 with ⟨a2, b2, c2, d2⟩ | ⟨a2, b2⟩
      · exact s.inj n m o1 o2 a b1 b2 c1 c2
      · exact absurd b2 d1
    · rcases old e2 m2 with ⟨a2, b2, c2, d2⟩ | ⟨a2, b2⟩
      · exact absurd b1 d2
      · rw [a1, a2]
  ne := fun x hx => by
    have q := s.ne x hx
    intro z
    by_cases e : x = p
    · subst e; exact q hp
    · rw [upd_ne e] at z; exact q z
  dj := s.dj
  bo := by
    have old : ∀ (n : Nat) (o1 : CO), (h ++ [some o])[n]? = some (some o1) → (n < h.length ∧ h[n]? = some (some o1)) ∨ (n = h.length ∧ o1 = o) := by
      intro n o1 e
      by_cases hn : n < h.length
      · rw [List.getElem?_append_left hn] at e; exact .inl ⟨hn, e⟩
      · have hl : n < (h ++ [some o]).length := (List.getElem?_eq_some_iff.mp e).1
        have hn' : n = h.length := by simp at hl; omega
        subst hn'
        have e1 : o = o1 := by simpa using e
        exact .inr ⟨rfl, e1.symm⟩
    have oldb : ∀ (n : Nat) (T : Sn), (h ++ [some o])[n]? = some (some (.box T)) → h[n]? = some (some (.box T)) := fun n T e => (old n _ e).elim (fun z => z.2) fun z => absurd z.2.symm (nb T)
    have far : ∀ (n : Nat) (T : Sn) (x : Addr), (h ++ [some o])[n]? = some (some (.box T)) → x ∈ W.bx n → x ≠ p := fun n T x e m z => s.bo.ne (oldb n T e) m (z ▸ hp)
    refine s.bo.move (stp_mu (s.stpNew hp)) rfl oldb (fun n T x e m => upd_ne (far n T x e m)) (fun n T x e m => s.bo.pv n T x (oldb n T e) m) fun m o1 x e q => ?_
    have q : (W.mu ++ [p])[m]? = some x := q
    rcases old m o1 e with ⟨hl, e1⟩ | ⟨hl, _⟩
    · rw [List.getElem?_append_left (s.len ▸ hl)] at q
      exact .inl ⟨o1, e1, q⟩
    · subst hl
      rw [s.len] at q
      have q' : p = x := by simpa using q
      exact .inr fun n T e m => far n T x e m q'.symm
/-- a new frozen (or tuple) object: nothing of the clean heap -/
theorem Sim.froz (s : Sim F W h H) (hp : H p = none) : Sim F { W with fz := fun x => W.fz x ∨ x = p } h (upd H p u) where
  len := s.len
  obj := fun n o1 e => by
    obtain ⟨a, q1, q2, q3, q4⟩ := s.obj n o1 e
    obtain ⟨v, q5, _⟩ := q4.mu
    have na := ne_of_none q5 hp
    exact ⟨a, q1, fun z => z.elim q2 na, q3, q4.mono (stp_fz (s.stpNew hp)) (upd_ne na)⟩
  inj := s.inj
  ne := fun x hx z => by
    by_cases e : x = p
    · subst e; rw [upd_same] at z; cases z
    · rw [upd_ne e] at z
      rcases hx with (hx | hx) | hx
      · exact s.ne x (.inl hx) z
      · exact e hx
      · exact s.ne x (.inr hx) z
  dj := fun x hx => by
    rcases hx with hx | hx
    · exact s.dj x hx
    · exact ⟨fun z => s.ne x (.inr (.inl z)) (hx ▸ hp), fun z => s.ne x (.inr (.inr z)) (hx ▸ hp)⟩
  bo := by
    have far : ∀ (n : Nat) (T : Sn) (x : Addr), h[n]? = some (some (.box T)) → x ∈ W.bx n → x ≠ p := fun n T x e m z => s.bo.ne e m (z ▸ hp)
    exact s.bo.move (stp_fz (s.stpNew hp)) rfl (fun _ _ e => e) (fun n T x e m => upd_ne (far n T x e m)) (fun n T x e m => ⟨fun z => z.elim (s.bo.pv n T x e m).1 (far n T x e m), (s.bo.pv n T x e m).2⟩) fun m o1 x e q => .inl ⟨o1, e, q⟩
/-- a new object that nobody names (a tuple) -/
theorem Sim.fresh (s : Sim F W h H) (hp : H p = none) : Sim F W h (upd H p u) where
  len := s.len
  obj := fun n o1 e => by
    obtain ⟨a, q1, q2, q3, q4⟩ := s.obj n o1 e
    obtain ⟨v, q5, _⟩ := q4.mu
    exact ⟨a, q1, q2, q3, q4.mono (s.stpNew hp) (upd_ne (ne_of_none q5 hp))⟩
  inj := s.inj
  ne := fun x hx z => by
    have q := s.ne x hx
    by_cases e : x = p
    · subst e; exact q hp
    · rw [upd_ne e] at z; exact q z
  dj := s.dj
  bo := s.bo.move (s.stpNew hp) rfl (fun _ _ e => e) (fun n T x e m => upd_ne fun z => s.bo.ne e m (z ▸ hp)) (fun n T x e m => s.bo.pv n T x e m) fun m o1 x e q => .inl ⟨o1, e, q⟩
/-- a live object is written -/
theorem Sim.stpWrite (s : Sim F W h H) (hn : h[n]? = some (some o)) (ha : W.mu[n]? = some a) : Stp W H W (upd H a u) := by
  obtain ⟨a', q1, q2, q3, q4⟩ := s.obj n o hn
  rw [ha] at q1
  cases q1
  obtain ⟨v, q5, mu⟩ := q4.mu
  refine ⟨⟨[], by simp⟩, fun _ h => h, rfl, rfl, fun x hx => upd_ne fun e => ?_, fun x xs e => ?_, fun x o v e => ?_⟩
  · subst e; exact hx.elim q2 fun z => z.elim q3.1 q3.2
  · rw [upd_ne (fun z => ?_)]; exact e
    subst z; rw [e] at q5; cases q5; exact mu
  · rw [upd_ne (fun z => ?_)]; exact e
    subst z; rw [e] at q5; cases q5; exact mu
theorem Sim.write (s : Sim F W h H) (hn : h[n]? = some (some o)) (ha : W.mu[n]? = some a) (r : RO F W (upd H a u) o' a) (nb : ∀ T, o' ≠ .box T := by intro _ z; cases z) : Sim F W (h.set n (some o')) (upd H a u) where
  len := by simp [s.len]
  obj := fun m o1 e => by
    by_cases hm : n = m
    · subst hm
      have hl : n < h.length := (List.getElem?_eq_some_iff.mp hn).1
      rw [List.getElem?_set_self hl] at e
      cases e
      obtain ⟨a', q1, q2, q3, q4⟩ := s.obj n o hn
      rw [ha] at q1
      cases q1
      exact ⟨a, ha, q2, q3, r⟩
    · rw [List.getElem?_set_ne hm] at e
      obtain ⟨b, q1, q2, q3, q4⟩ := s.obj m o1 e
      refine ⟨b, q1, q2, q3, q4.mono (s.stpWrite hn ha) (upd_ne fun z => ?_)⟩
      subst z
      exact hm (s.inj n m o o1 b hn e ha q1)
  inj := fun m k o1 o2 b e1 e2 m1 m2 => by
    have old : ∀ {m : Nat} {o1 : CO}, (h.set n (some o'))[m]? = some (some o1) → ∃ o2, h[m]? = some (some o2) := by
      intro m o1 e
      by_cases hm : n = m
      · subst hm; exact ⟨o, hn⟩
      · rw [List.getElem?_set_ne hm] at e; exact ⟨_, e⟩
    obtain ⟨x1, y1⟩ := old e1
    obtain ⟨x2, y2⟩ := old e2
    exact s.inj m k x1 x2 b y1 y2 m1 m2
  ne := fun x hx z => by
    have q := s.ne x hx
    by_cases e : x = a
    · subst e; rw [upd_same] at z; cases z
    · rw [upd_ne e] at z; exact q z
  dj := s.dj
  bo := by
    have hl : n < h.length := (List.getElem?_eq_some_iff.mp hn).1
    have old : ∀ (m : Nat) (T : Sn), (h.set n (some o'))[m]? = some (some (.box T)) → n ≠ m ∧ h[m]? = some (some (.box T)) := by
      intro m T e
      by_cases hm : n = m
      · subst hm
        rw [List.getElem?_set_self hl] at e
        cases e
        exact absurd rfl (nb T)
      · rw [List.getElem?_set_ne hm] at e; exact ⟨hm, e⟩
    refine s.bo.move (s.stpWrite hn ha) rfl (fun m T e => (old m T e).2) (fun m T x e q => upd_ne fun z => (old m T e).1 (s.bo.lv m T n o x (old m T e).2 q hn (z ▸ ha))) (fun m T x e q => s.bo.pv m T x (old m T e).2 q) fun m o1 x e q => .inl ?_
    by_cases hm : n = m
    · subst hm; exact ⟨o, hn, q⟩
    · rw [List.getElem?_set_ne hm] at e; exact ⟨o1, e, q⟩
/-- a live object is frozen: it leaves the clean heap -/
theorem Sim.freeze (s : Sim F W h H) (hn : h[n]? = some (some o)) (ha : W.mu[n]? = some a) : Sim F { W with fz := fun x => W.fz x ∨ x = a } (h.set n none) H where
  len := by simp [s.len]
  obj := fun m o1 e => by
    have hl : n < h.length := (List.getElem?_eq_some_iff.mp hn).1
    by_cases hm : n = m
    · subst hm
      rw [List.getElem?_set_self hl] at e
      cases e
    · rw [List.getElem?_set_ne hm] at e
      obtain ⟨b, q1, q2, q3, q4⟩ := s.obj m o1 e
      refine ⟨b, q1, fun z => z.elim q2 fun z => ?_, q3, q4.mono (stp_fz .refl) rfl⟩
      subst z
      exact hm (s.inj n m o o1 b hn e ha q1)
  inj := fun m k o1 o2 b e1 e2 m1 m2 => by
    have hl : n < h.length := (List.getElem?_eq_some_iff.mp hn).1
    have old : ∀ {m : Nat} {o1 : CO}, (h.set n none)[m]? = some (some o1) → h[m]? = some (some o1) := by
      intro m o1 e
      by_cases hm : n = m
      · subst hm; rw [List.getElem?_set_self hl] at e; cases e
      · rw [List.getElem?_set_ne hm] at e; exact e
    exact s.inj m k o1 o2 b (old e1) (old e2) m1 m2
  ne := fun x hx => by
    rcases hx with (hx | hx) | hx
    · exact s.ne x (.inl hx)
    · obtain ⟨a', q1, q2, q3, q4⟩ := s.obj n o hn
      rw [ha] at q1
      cases q1
      obtain ⟨v, q5, _⟩ := q4.mu
      subst hx
      rw [q5]; simp
    · exact s.ne x (.inr hx)
  dj := fun x hx => by
    rcases hx with hx | hx
    · exact s.dj x hx
    · obtain ⟨a', q1, q2, q3, q4⟩ := s.obj n o hn
      rw [ha] at q1
      cases q1
      exact hx ▸ q3
  bo := by
    have hl : n < h.length := (List.getElem?_eq_some_iff.mp hn).1
    have old : ∀ {m : Nat} {o1 : CO}, (h.set n none)[m]? = some (some o1) → n ≠ m ∧ h[m]? = some (some o1) := by
      intro m o1 e
      by_cases hm : n = m
      · subst hm; rw [List.getElem?_set_self hl] at e; cases e
      · rw [List.getElem?_set_ne hm] at e; exact ⟨hm, e⟩
    exact s.bo.move (stp_fz .refl) rfl (fun m T e => (old e).2) (fun _ _ _ _ _ => rfl) (fun m T x e q => ⟨fun z => z.elim (s.bo.pv m T x (old e).2 q).1 fun z => (old e).1 (s.bo.lv m T n o x (old e).2 q hn (z ▸ ha)), (s.bo.pv m T x (old e).2 q).2⟩) fun m o1 x e q => .inl ⟨o1, (old e).2, q⟩
/-- an object leaves the clean heap -/
theorem Sim.drop (s : Sim F W h H) (n : Nat) : Sim F W (h.set n none) H where
  len := by simp [s.len]
  obj := fun m o1 e => by
    by_cases hm : n = m
    · subst hm
      by_cases hl : n < h.length
      · rw [List.getElem?_set_self hl] at e; cases e
      · rw [List.getElem?_eq_none (by simpa using hl)] at e; cases e
    · rw [List.getElem?_set_ne hm] at e; exact s.obj m o1 e
  inj := fun m k o1 o2 b e1 e2 m1 m2 => by
    have old : ∀ {m : Nat} {o1 : CO}, (h.set n none)[m]? = some (some o1) → h[m]? = some (some o1) := by
      intro m o1 e
      by_cases hm : n = m
      · subst hm
        by_cases hl : n < h.length
        · rw [List.getElem?_set_self hl] at e; cases e
        · rw [List.getElem?_eq_none (by simpa using hl)] at e; cases e
      · rw [List.getElem?_set_ne hm] at e; exact e
    exact s.inj m k o1 o2 b (old e1) (old e2) m1 m2
  ne := s.ne
  dj := s.dj
  bo := by
    have old : ∀ {m : Nat} {o1 : CO}, (h.set n none)[m]? = some (some o1) → h[m]? = some (some o1) := by
      intro m o1 e
      by_cases hm : n = m
      · subst hm
        by_cases hl : n < h.length
        · rw [List.getElem?_set_self hl] at e; cases e
        · rw [List.getElem?_eq_none (by simpa using hl)] at e; cases e
      · rw [List.getElem?_set_ne hm] at e; exact e
    exact s.bo.move .refl rfl (fun m T e => old e) (fun _ _ _ _ _ => rfl) (fun m T x e q => s.bo.pv m T x (old e) q) fun m o1 x e q => .inl ⟨o1, old e, q⟩
end
end Mc


namespace Mc
open PySem L2

/-! ### equality of plain data -/
mutual
def eqD : D → D → Option Bool
  | .non, .non => some true
  | .bl a, .bl b => some (a == b)
  | .int i, .int j => some (decide (i = j))
  | .str x, .str y => some (decide (x = y))
  | .txt x, .txt y => if eqD x y = some true then some true else none
  | .tup xs, .tup ys => eqDs xs ys
  | .lst xs, .lst ys => eqDs xs ys
  | .non, .bl _ => some false
  | .non, .int _ => some false
  | .non, .str _ => some false
  | .non, .tup _ => some false
  | .non, .lst _ => some false
  | .bl _, .non => some false
  | .bl _, .str _ => some false
  | .bl _, .tup _ => some false
  | .bl _, .lst _ => some false
  | .int _, .non => some false
  | .int _, .str _ => some false
  | .int _, .tup _ => some false
  | .int _, .lst _ => some false
  | .str _, .non => some false
  | .str _, .bl _ => some false
  | .str _, .int _ => some false
  | .str _, .tup _ => some false
  | .str _, .lst _ => some false
  | .tup _, .non => some false
  | .tup _, .bl _ => some false
  | .tup _, .int _ => some false
  | .tup _, .str _ => some false
  | .tup _, .lst _ => some false
  | .lst _, .non => some false
  | .lst _, .bl _ => some false
  | .lst _, .int _ => some false
  | .lst _, .str _ => some false
  | .lst _, .tup _ => some false
  | _, _ => none
def eqDs : List D → List D → Option Bool
  | [], [] => some true
  | [], _ :: _ => some false
  | _ :: _, [] => some false
  | x :: xs, y :: ys => match eqD x y with
    | some true => eqDs xs ys
    | some false => some false
    | none => none
end
mutual
theorem eqD_refl : ∀ x : D, eqD x x = some true
  | .non => by simp [eqD]
  | .bl b => by simp [eqD]
  | .int i => by simp [eqD]
  | .str x => by simp [eqD]
  | .txt x => by simp [eqD, eqD_refl x]
  | .tup xs => by simp [eqD, eqDs_refl xs]
  | .lst xs => by simp [eqD, eqDs_refl xs]
theorem eqDs_refl : ∀ x : List D, eqDs x x = some true
  | [] => by simp [eqDs]
  | x :: xs => by simp [eqDs, eqD_refl x, eqDs_refl xs]
end
mutual
theorem eqD_eq : ∀ (x y : D), eqD x y = some true → x = y
  | .non, y, h => by cases y <;> simp [eqD] at h ⊢
  | .bl b, y, h => by cases y <;> simp_all [eqD]
  | .int i, y, h => by cases y <;> simp_all [eqD]
  | .str s, y, h => by cases y <;> simp_all [eqD]
  | .txt x, y, h => by
    cases y with
    | txt y => simp only [eqD] at h; split at h
               · rename_i q; rw [eqD_eq x y q]
               · cases h
    | _ => simp [eqD] at h
  | .tup xs, y, h => by
    cases y with
    | tup ys => simp only [eqD] at h; rw [eqDs_eq xs ys h]
    | _ => simp [eqD] at h
  | .lst xs, y, h => by
    cases y with
    | lst ys => simp only [eqD] at h; rw [eqDs_eq xs ys h]
    | _ => simp [eqD] at h
theorem eqDs_eq : ∀ (x y : List D), eqDs x y = some true → x = y
  | [], [], _ => rfl
  | [], _ :: _, h => by simp [eqDs] at h
  | _ :: _, [], h => by simp [eqDs] at h
  | x :: xs, y :: ys, h => by
    simp only [eqDs] at h
    split at h
    · rename_i q; rw [eqD_eq x y q, eqDs_eq xs ys h]
    · cases h
    · cases h
end
/-! what == may be asked of: at most n deep, no token within -/
mutual
def okD : Nat → D → Bool
  | _, .non => true
  | _, .bl _ => true
  | _, .int _ => true
  | _, .str x => PyData.strOk x
  | _, .txt _ => false
  | 0, .tup _ => false
  | 0, .lst _ => false
  | n + 1, .tup xs => okDs n xs
  | n + 1, .lst xs => okDs n xs
def okDs : Nat → List D → Bool
  | _, [] => true
  | n, x :: xs => okD n x && okDs n xs
end
mutual
theorem okD_lay : ∀ (n : Nat) (x : D), okD n x = true → (toP x).canLay0 = true ∧ (toP x).depth ≤ n + 1
  | _, .non, _ => ⟨rfl, by simp [toP, PyData.depth]⟩
  | _, .bl _, _ => ⟨rfl, by simp [toP, PyData.depth]⟩
  | _, .int _, _ => ⟨rfl, by simp [toP, PyData.depth]⟩
  | _, .str x, h => ⟨by simpa [okD, toP, PyData.canLay0] using h, by simp [toP, PyData.depth]⟩
  | _, .txt _, h => by simp [okD] at h
  | 0, .tup _, h => by simp [okD] at h
  | 0, .lst _, h => by simp [okD] at h
  | n + 1, .tup xs, h => by
    have q := okDs_lay n xs (by simpa [okD] using h)
    simp only [toP, PyData.canLay0, PyData.depth]
    exact ⟨q.1, by omega⟩
  | n + 1, .lst xs, h => by
    have q := okDs_lay n xs (by simpa [okD] using h)
    simp only [toP, PyData.canLay0, PyData.depth]
    exact ⟨q.1, by omega⟩
theorem okDs_lay : ∀ (n : Nat) (x : List D), okDs n x = true → PyData.canLayAll0 (toPs x) = true ∧ PyData.depthAll (toPs x) ≤ n + 1
  | _, [], _ => ⟨rfl, by simp [toPs, PyData.depthAll]⟩
  | n, x :: xs, h => by
    have h' : okD n x = true ∧ okDs n xs = true := by simpa [okDs] using h
    have q1 := okD_lay n x h'.1
    have q2 := okDs_lay n xs h'.2
    simp only [toPs, PyData.canLayAll0, PyData.depthAll, q1.1, q2.1, Bool.and_self, true_and]
    omega
end
theorem okD_shaped {x : D} (h : okD 8 x = true) : SeqAt.shaped (toP x) = true := by
  obtain ⟨a, b⟩ := okD_lay 8 x h
  simp [SeqAt.shaped, a]
  omega
mutual
theorem eqD_eqv : ∀ (n : Nat) (x y : D) (r : Bool), okD n x = true → okD n y = true → eqD x y = some r → PyData.eqv (toP x) (toP y) = r
  | n, .non, y, r, _, h2, h => by cases y <;> simp_all [eqD, toP, PyData.eqv, okD]
  | n, .bl b, y, r, _, h2, h => by cases y <;> simp_all [eqD, toP, PyData.eqv, okD]
  | n, .int i, y, r, _, h2, h => by
    cases y <;> simp_all [eqD, toP, PyData.eqv, okD]
    rw [← h]; exact Bool.beq_eq_decide_eq _ _
  | n, .str s, y, r, _, h2, h => by
    cases y <;> simp_all [eqD, toP, PyData.eqv, okD]
    rw [← h]; exact Bool.beq_eq_decide_eq _ _
  | _, .txt _, _, _, h, _, _ => by simp [okD] at h
  | 0, .tup _, _, _, h, _, _ => by simp [okD] at h
  | 0, .lst _, _, _, h, _, _ => by simp [okD] at h
  | n + 1, .tup xs, y, r, h1, h2, h => by
    cases y with
    | tup ys =>
      simp only [okD] at h1 h2
      simp only [eqD] at h
      simp only [toP, PyData.eqv]
      exact eqDs_eqv n xs ys r h1 h2 h
    | txt _ => simp [okD] at h2
    | _ => simp_all [eqD, toP, PyData.eqv]
  | n + 1, .lst xs, y, r, h1, h2, h => by
    cases y with
    | lst ys =>
      simp only [okD] at h1 h2
      simp only [eqD] at h
      simp only [toP, PyData.eqv]
      exact eqDs_eqv n xs ys r h1 h2 h
    | txt _ => simp [okD] at h2
    | _ => simp_all [eqD, toP, PyData.eqv]
theorem eqDs_eqv : ∀ (n : Nat) (x y : List D) (r : Bool), okDs n x = true → okDs n y = true → eqDs x y = some r → PyData.eqvAll (toPs x) (toPs y) = r
  | _, [], [], r, _, _, h => by simp_all [eqDs, toPs, PyData.eqvAll]
  | _, [], _ :: _, r, _, _, h => by simp_all [eqDs, toPs, PyData.eqvAll]
  | _, _ :: _, [], r, _, _, h => by simp_all [eqDs, toPs, PyData.eqvAll]
  | n, x :: xs, y :: ys, r, h1, h2, h => by
    have h1' : okD n x = true ∧ okDs n xs = true := by simpa [okDs] using h1
    have h2' : okD n y = true ∧ okDs n ys = true := by simpa [okDs] using h2
    simp only [eqDs] at h
    simp only [toPs, PyData.eqvAll]
    split at h
    · rename_i q
      rw [eqD_eqv n x y true h1'.1 h2'.1 q, eqDs_eqv n xs ys r h1'.2 h2'.2 h, Bool.true_and]
    · rename_i q
      rw [eqD_eqv n x y false h1'.1 h2'.1 q, Bool.false_and]
      exact Option.some.inj h
    · cases h
end
theorem okDs_all {n : Nat} : ∀ {xs : List D}, (∀ x ∈ xs, okD n x = true) → okDs n xs = true
  | [], _ => rfl
  | x :: xs, h => by simp [okDs, h x (by simp), okDs_all (xs := xs) fun y hy => h y (by simp [hy])]
theorem okDs_mem {n : Nat} : ∀ {xs : List D} {x : D}, okDs n xs = true → x ∈ xs → okD n x = true
  | y :: xs, x, h, hx => by
    have h' : okD n y = true ∧ okDs n xs = true := by simpa [okDs] using h
    rcases List.mem_cons.mp hx with rfl | hx
    · exact h'.1
    · exact okDs_mem h'.2 hx
theorem toPs_map : ∀ (xs : List D), toPs xs = xs.map toP
  | [] => rfl
  | x :: xs => by simp [toPs, toPs_map xs]
theorem eqDs_len {xs ys : List D} (h : xs.length ≠ ys.length) (hn : eqDs xs ys ≠ none) : eqDs xs ys = some false := by
  induction xs generalizing ys with
  | nil => cases ys with
    | nil => simp at h
    | cons y ys => simp [eqDs]
  | cons x xs ih => cases ys with
    | nil => simp [eqDs]
    | cons y ys =>
      simp only [eqDs] at hn ⊢
      split
      · rename_i q
        rw [q] at hn
        exact ih (by simpa using h) hn
      · rfl
      · rename_i q; rw [q] at hn; exact absurd rfl hn

section
variable {F : Fx} {W : Wd} {H : Hp}
mutual
theorem RD.dp : ∀ {x : D} {v : V}, RD F W H x v → Dp F.K H v (toP x)
  | _, _, .non => .non
  | _, _, .bl b => .bl b
  | _, _, .int i => .int i
  | _, _, .str x => .str x
  | _, _, .txt x => .str _
  | _, _, .tup h r => by simp only [toP]; exact .tup h (RDs.dp r)
  | _, _, .lst f h r => by simp only [toP]; exact .lst (.of h) (RDs.dp r)
theorem RDs.dp : ∀ {x : List D} {v : List V}, RDs F W H x v → DpAll F.K H v (toPs x)
  | _, _, .nil => .nil
  | _, _, .cons h r => .cons (RD.dp h) (RDs.dp r)
end
end
end Mc


namespace Mc
open PySem L2

abbrev ME := Sl → CH → Option (CV × CH)
abbrev MT := Sl → CH → Option (Bool × CH)
abbrev MA := Sl → CH → Option (List CV × CH)
inductive Fl where
  | nx | rt (x : CV) | bk | ct
abbrev MS := Sl → CH → Option (Fl × Sl × CH)
abbrev MG := CV → Sl → CH → Option (Sl × CH)

/-- the reading of a machine that gives values -/
def tX {α β : Type} (F : Fx) (R : Wd → Hp → α → β → Prop) (m : Sl → CH → Option (α × CH)) : St → Hp → (β → Hp → Prop) → Prop := fun σ H Q =>
  ∃ W c h x h', RSl F W H c σ ∧ Sim F W h H ∧ m c h = some (x, h') ∧ ∀ W' H' v, Stp W H W' H' → Sim F W' h' H' → R W' H' x v → Q v H'
def RB (_ : Wd) (_ : Hp) (x y : Bool) : Prop := y = x
abbrev tE (F : Fx) (m : ME) : TE := tX F (Rl F) m
abbrev tT (F : Fx) (m : MT) : TT := tX F RB m
abbrev tA (F : Fx) (m : MA) : TA := tX F (Rls F) m
/-- what is wanted behind a statement's machine -/
@[reducible] def EndS (F : Fx) (D : Ends) (W : Wd) (H : Hp) (c : Sl) : Fl → Prop
  | .nx => ∀ σ, RSl F W H c σ → D.nx σ H
  | .rt x => ∀ v, Rl F W H x v → D.rt v H
  | .bk => ∀ σ, RSl F W H c σ → D.bk σ H
  | .ct => ∀ σ, RSl F W H c σ → D.ct σ H
def tS (F : Fx) (m : MS) : TS := fun D σ H =>
  ∃ W c h f c' h', RSl F W H c σ ∧ Sim F W h H ∧ m c h = some (f, c', h') ∧ ∀ W' H', Stp W H W' H' → Sim F W' h' H' → EndS F D W' H' c' f

section
variable {X : Cx}
theorem wkE {e : Expr} {t t' : TE} (h : PE X e t) (i : ∀ σ H Q, t' σ H Q → t σ H Q) : PE X e t' := ⟨fun pins s σ H Q I q => h.run pins s σ H Q I (i σ H Q q)⟩
theorem wkT {e : Expr} {t t' : TT} (h : PT X e t) (i : ∀ σ H Q, t' σ H Q → t σ H Q) : PT X e t' := ⟨fun pins s σ H Q I q => h.run pins s σ H Q I (i σ H Q q)⟩
theorem wkW {e : Expr} {t t' : TT} (h : PW X e t) (i : ∀ σ H Q, t' σ H Q → t σ H Q) : PW X e t' := ⟨fun wh pins s σ H Q I q => h.run wh pins s σ H Q I (i σ H Q q)⟩
theorem wkA {e : List Expr} {t t' : TA} (h : PA X e t) (i : ∀ σ H Q, t' σ H Q → t σ H Q) : PA X e t' := ⟨fun pos pins s σ H Q I q => h.run pos pins s σ H Q I (i σ H Q q)⟩
theorem wkS {e : Stmt} {t t' : TS} (h : PS X e t) (i : ∀ D σ H, t' D σ H → t D σ H) : PS X e t' := ⟨fun pins s σ H D I q => h.run pins s σ H D I (i D σ H q)⟩
theorem wkSs {e : List Stmt} {t t' : TS} (h : PSs X e t) (i : ∀ D σ H, t' D σ H → t D σ H) : PSs X e t' := ⟨fun pins s σ H D I q => h.run pins s σ H D I (i D σ H q)⟩
theorem wkG {e : Expr} {t t' : TG} (h : PG X e t) (i : ∀ v σ H Q, t' v σ H Q → t v σ H Q) : PG X e t' := ⟨fun pins s σ H v u Q I r q => h.run pins s σ H v u Q I r (i v σ H Q q)⟩
theorem wkGs {e : List Expr} {t t' : TGs} (h : PGs X e t) (i : ∀ v σ H Q, t' v σ H Q → t v σ H Q) : PGs X e t' := ⟨fun pins s σ H v u Q I r q => h.run pins s σ H v u Q I r (i v σ H Q q)⟩

variable {F : Fx}
/-- two machines in a row, the second's reading asked at the first's end -/
theorem seqX {α β : Type} {R : Wd → Hp → α → β → Prop} {ma : Sl → CH → Option (α × CH)} {W : Wd} {c : Sl} {h h1 : CH} {x : α} {σ : St} {H : Hp} {Q : β → Hp → Prop}
    (rs : RSl F W H c σ) (s : Sim F W h H) (e : ma c h = some (x, h1))
    (k : ∀ W' H' v, Stp W H W' H' → Sim F W' h1 H' → R W' H' x v → Q v H') : tX F R ma σ H Q := ⟨W, c, h, x, h1, rs, s, e, k⟩

/-! ### names, constants -/
def mVar (i : Nat) : ME := fun c h => match c[i]? with
  | some (some x) => some (x, h)
  | _ => none
def mC (x : D) : ME := fun _ h => some (.d x, h)
theorem tVar_of {i : Nat} {σ : St} {H : Hp} {Q : VK} (h : tE F (mVar i) σ H Q) : tVar i σ H Q := by
  obtain ⟨W, c, h, x, h', rs, s, e, k⟩ := h
  unfold mVar at e
  split at e
  · rename_i y q
    simp only [Option.some.injEq, Prod.mk.injEq] at e
    obtain ⟨rfl, rfl⟩ := e
    obtain ⟨v, q2, r⟩ := rs.2 i _ q
    exact ⟨v, q2, k W H v .refl s r⟩
  · cases e
theorem e_var (i : Nat) {x : Str} {pos : Pos} (hN : X.N[i]? = some x := by rfl) (hv : Vis X.env.scope x := by first | exact Or.inl rfl | exact Or.inr (Or.inl rfl) | exact Or.inr (Or.inr rfl)) (hd : (x == ("__debug__" : Str)) = false := by decide)
    (hcd : (x == ("__classdict__" : Str)) = false := by decide) : PE X (.Name x pos) (tE F (mVar i)) := wkE (pe_var hN hv hd hcd) fun _ _ _ => tVar_of
theorem tC_of {x : D} {v : V} {σ : St} {H : Hp} {Q : VK} (r : ∀ W, RD F W H x v) (h : tE F (mC x) σ H Q) : tC v σ H Q := by
  obtain ⟨W, c, h, y, h', rs, s, e, k⟩ := h
  simp only [mC, Option.some.injEq, Prod.mk.injEq] at e
  obtain ⟨rfl, rfl⟩ := e
  exact k W H v .refl s (.d (r W))
theorem e_int {i j pos} : PE X (.Constant (.int i) j pos) (tE F (mC (.int i))) := wkE pe_int fun _ _ _ => tC_of fun _ => .int i
theorem e_bl {b j pos} : PE X (.Constant (.bool b) j pos) (tE F (mC (.bl b))) := wkE pe_bl fun _ _ _ => tC_of fun _ => .bl b
theorem e_non {j pos} : PE X (.Constant .none j pos) (tE F (mC .non)) := wkE pe_non fun _ _ _ => tC_of fun _ => .non
theorem e_str {x j pos} : PE X (.Constant (.str x) j pos) (tE F (mC (.str x))) := wkE pe_str fun _ _ _ => tC_of fun _ => .str x
/-- a module's whole number -/
theorem e_gint {x : Str} {i : Int} {t : Tok} {pos : Pos} (hm : X.mg x = some (.int i t)) (hg : Gl X x := by rfl) (hd : (x == ("__debug__" : Str)) = false := by decide) : PE X (.Name x pos) (tE F (mC (.int i))) :=
  wkE (pe_glob (v := .int i) hg hm ⟨t, rfl⟩ hd) fun _ _ _ => tC_of fun _ => .int i

/-! ### operations by values -/
/-- what f gives, the reading r of the hand layer gives -/
def OpS (F : Fx) (f : CH → CV → CV → Option (CV × CH)) (r : R2) : Prop := ∀ (W : Wd) (h : CH) (H : Hp) (x y z : CV) (h' : CH) (u v : V) (Q : VK), Sim F W h H → f h x y = some (z, h') → Rl F W H x u → Rl F W H y v →
  (∀ W' H' w, Stp W H W' H' → Sim F W' h' H' → Rl F W' H' z w → Q w H') → r u v H Q
def mOp (f : CH → CV → CV → Option (CV × CH)) (ma mb : ME) : ME := fun c h => (ma c h).bind fun p => (mb c p.2).bind fun q => f q.2 p.1 q.1
theorem tOp_of {f : CH → CV → CV → Option (CV × CH)} {r : R2} {ma mb : ME} (o : OpS F f r) {σ : St} {H : Hp} {Q : VK} (h : tE F (mOp f ma mb) σ H Q) : tOp r (tE F ma) (tE F mb) σ H Q := by
  obtain ⟨W, c, h, z, h', rs, s, e, k⟩ := h
  unfold mOp at e
  simp only [Option.bind_eq_some_iff, Prod.exists] at e
  obtain ⟨x, h1, e1, y, h2, e2, e3⟩ := e
  refine seqX rs s e1 fun W1 H1 u st1 s1 r1 => seqX (rs.mono st1) s1 e2 fun W2 H2 v st2 s2 r2 => ?_
  exact o W2 h2 H2 x y z h' u v Q s2 e3 (r1.mono st2) r2 fun W3 H3 w st3 s3 r3 => k W3 H3 w ((st1.trans st2).trans st3) s3 r3
theorem e_op {a b : Expr} {op : Operator} {pos : Pos} {f : CH → CV → CV → Option (CV × CH)} {r : R2} {ma mb : ME} (ho : OpR X (binaryOp op) r) (o : OpS F f r) (ha : PE X a (tE F ma)) (hb : PE X b (tE F mb)) :
    PE X (.BinOp a op b pos) (tE F (mOp f ma mb)) := wkE (pe_op ho ha hb) fun _ _ _ => tOp_of o
theorem OpS.or {f g : CH → CV → CV → Option (CV × CH)} {r r' : R2} (a : OpS F f r) (b : OpS F g r') : OpS F (fun h x y => (f h x y).or (g h x y)) (fun x y H Q => r x y H Q ∨ r' x y H Q) := by
  intro W h H x y z h' u v Q s e ru rv k
  have e : (f h x y).or (g h x y) = some (z, h') := e
  cases q : f h x y with
  | some p => rw [q] at e; cases e; exact .inl (a W h H x y z h' u v Q s q ru rv k)
  | none => rw [q] at e; exact .inr (b W h H x y z h' u v Q s (by simpa using e) ru rv k)
theorem Rl.int {W : Wd} {H : Hp} {i : Int} {v : V} (h : Rl F W H (.d (.int i)) v) : v = .int i := by
  cases h with | d h => cases h; rfl
theorem Rl.bl {W : Wd} {H : Hp} {i : Bool} {v : V} (h : Rl F W H (.d (.bl i)) v) : v = .bl i := by
  cases h with | d h => cases h; rfl
theorem Rl.str {W : Wd} {H : Hp} {i : Str} {v : V} (h : Rl F W H (.d (.str i)) v) : v = .str i := by
  cases h with | d h => cases h; rfl
theorem Rl.non {W : Wd} {H : Hp} {v : V} (h : Rl F W H (.d .non) v) : v = .non := by
  cases h with | d h => cases h; rfl
/-- two whole numbers -/
def fI (C : Int → Int → Bool) (g : Int → Int → D) : CH → CV → CV → Option (CV × CH)
  | h, .d (.int i), .d (.int j) => if C i j then some (.d (g i j), h) else none
  | _, _, _ => none
def fI0 (g : Int → Int → D) : CH → CV → CV → Option (CV × CH)
  | h, .d (.int i), .d (.int j) => some (.d (g i j), h)
  | _, _, _ => none
theorem fI_ok {C : Int → Int → Bool} {P : Int → Int → Prop} {g : Int → Int → D} {g' : Int → Int → V} (hC : ∀ i j, C i j = true → P i j) (hg : ∀ (W : Wd) (H : Hp) i j, RD F W H (g i j) (g' i j)) : OpS F (fI C g) (rI P g') := by
  intro W h H x y z h' u v Q s e ru rv k
  unfold fI at e
  split at e
  · split at e
    · rename_i i j hc
      cases e
      refine ⟨i, j, ru.int, rv.int, hC _ _ hc, k W H _ .refl s (.d (hg _ _ _ _))⟩
    · cases e
  · cases e
theorem fI0_ok {g : Int → Int → D} {g' : Int → Int → V} (hg : ∀ (W : Wd) (H : Hp) i j, RD F W H (g i j) (g' i j)) : OpS F (fI0 g) (rI0 g') := by
  intro W h H x y z h' u v Q s e ru rv k
  unfold fI0 at e
  split at e
  · rename_i i j
    cases e
    exact ⟨i, j, ru.int, rv.int, k W H _ .refl s (.d (hg _ _ _ _))⟩
  · cases e

/-! ### lists and tuples that are read -/
def seqL (h : CH) : CV → Option (List CV)
  | .d (.lst xs) => some (xs.map .d)
  | .s (.sl xs) => some (xs.map ofS)
  | .ref n => match h[n]? with
    | some (some (.lst xs)) => some xs
    | _ => none
  | _ => none
def seqT : CV → Option (List CV)
  | .d (.tup xs) => some (xs.map .d)
  | .t xs => some xs
  | _ => none
/-- .. a list, not locked -/
def seqM (h : CH) : CV → Option (List CV)
  | .d (.lst xs) => some (xs.map .d)
  | .ref n => match h[n]? with
    | some (some (.lst xs)) => some xs
    | _ => none
  | _ => none
theorem seqL_rel {W : Wd} {h : CH} {H : Hp} {x : CV} {xs : List CV} {v : V} (s : Sim F W h H) (e : seqL h x = some xs) (r : Rl F W H x v) : ∃ a vs, v = .ref a ∧ SqL F.K H a vs ∧ Rls F W H xs vs := by
  unfold seqL at e
  split at e
  · cases e
    cases r with
    | d r => cases r with | lst f q r => exact ⟨_, _, rfl, .of q, .ofD r⟩
  · cases e
    cases r with
    | s r => cases r with | sl l q r => exact ⟨_, _, rfl, q, .ofS r⟩
  · split at e
    · rename_i q
      cases e
      cases r with
      | ref m =>
        obtain ⟨a, q1, _, _, vs, q4, r⟩ := s.obj _ _ q
        rw [m] at q1
        cases q1
        exact ⟨_, _, rfl, .of q4, r⟩
    · cases e
  · cases e
theorem seqM_rel {W : Wd} {h : CH} {H : Hp} {x : CV} {xs : List CV} {v : V} (s : Sim F W h H) (e : seqM h x = some xs) (r : Rl F W H x v) : ∃ a vs, v = .ref a ∧ H a = some (.lst vs) ∧ Rls F W H xs vs := by
  unfold seqM at e
  split at e
  · cases e
    cases r with
    | d r => cases r with | lst f q r => exact ⟨_, _, rfl, q, .ofD r⟩
  · split at e
    · rename_i q
      cases e
      cases r with
      | ref m =>
        obtain ⟨a, q1, _, _, vs, q4, r⟩ := s.obj _ _ q
        rw [m] at q1
        cases q1
        exact ⟨_, _, rfl, q4, r⟩
    · cases e
  · cases e
theorem seqT_rel {W : Wd} {H : Hp} {x : CV} {xs : List CV} {v : V} (e : seqT x = some xs) (r : Rl F W H x v) : ∃ a vs, v = .ref a ∧ SqT F.K H a vs ∧ Rls F W H xs vs := by
  unfold seqT at e
  split at e
  · cases e
    cases r with
    | d r => cases r with | tup q r => exact ⟨_, _, rfl, q, .ofD r⟩
  · cases e
    cases r with
    | t q r => exact ⟨_, _, rfl, q, r⟩
  · cases e

/-! ### new plain lists and tuples -/
def lim : Nat := 16777216
/-- a number of a common size -/
def okI (i : Int) : Bool := decide (i.natAbs ≤ 1099511627776)
theorem okI_of {i : Int} (h : okI i = true) : -1099511627776 ≤ i ∧ i ≤ 1099511627776 := by
  have := of_decide_eq_true h
  omega
theorem newL {W : Wd} {h : CH} {H : Hp} {p : Addr} {ds : List D} {vs : List V} (s : Sim F W h H) (hp : H p = none) (r : RDs F W H ds vs) :
    ∃ W', Stp W H W' (upd H p (.lst vs)) ∧ Sim F W' h (upd H p (.lst vs)) ∧ RD F W' (upd H p (.lst vs)) (.lst ds) (.ref p) :=
  ⟨_, stp_fz (s.stpNew hp), s.froz hp, .lst (.inr rfl) upd_same (r.mono (stp_fz (s.stpNew hp)))⟩
theorem newT {W : Wd} {h : CH} {H : Hp} {p : Addr} {ds : List D} {vs : List V} (s : Sim F W h H) (hp : H p = none) (r : RDs F W H ds vs) :
    Stp W H W (upd H p (.tup vs)) ∧ Sim F W h (upd H p (.tup vs)) ∧ RD F W (upd H p (.tup vs)) (.tup ds) (.ref p) :=
  ⟨s.stpNew hp, s.fresh hp, .tup (.of upd_same) (r.mono (s.stpNew hp))⟩
/-- a new live list -/
theorem newR {W : Wd} {h : CH} {H : Hp} {p : Addr} {xs : List CV} {vs : List V} (s : Sim F W h H) (hp : H p = none) (r : Rls F W H xs vs) :
    ∃ W', Stp W H W' (upd H p (.lst vs)) ∧ Sim F W' (h ++ [some (.lst xs)]) (upd H p (.lst vs)) ∧ Rl F W' (upd H p (.lst vs)) (.ref h.length) (.ref p) := by
  have st := stp_mu (p := p) (s.stpNew (u := .lst vs) hp)
  refine ⟨_, st, s.alloc hp ⟨vs, upd_same, r.mono st⟩, .ref ?_⟩
  show (W.mu ++ [p])[h.length]? = some p
  rw [s.len]; simp
end
end Mc


namespace Mc
open PySem L2

/-! ### new lists: plain (fr) or live -/
def mk (fr : Bool) (h : CH) (xs : List CV) : Option (CV × CH) := match fr with
  | true => (allD xs).map fun ds => (.d (.lst ds), h)
  | false => some (.ref h.length, h ++ [some (.lst xs)])
section
variable {F : Fx}
theorem mk_ok {fr : Bool} {W : Wd} {h h' : CH} {H : Hp} {p : Addr} {x : CV} {xs : List CV} {vs : List V} (s : Sim F W h H) (e : mk fr h xs = some (x, h')) (r : Rls F W H xs vs) (hp : H p = none) :
    ∃ W', Stp W H W' (upd H p (.lst vs)) ∧ Sim F W' h' (upd H p (.lst vs)) ∧ Rl F W' (upd H p (.lst vs)) x (.ref p) := by
  cases fr with
  | true =>
    simp only [mk, Option.map_eq_some_iff, Prod.mk.injEq] at e
    obtain ⟨ds, e1, rfl, rfl⟩ := e
    obtain ⟨W', a, b, c⟩ := newL s hp (allD_rel e1 r)
    exact ⟨W', a, b, .d c⟩
  | false =>
    simp only [mk, Option.some.injEq, Prod.mk.injEq] at e
    obtain ⟨rfl, rfl⟩ := e
    exact newR s hp r
/-- a new tuple -/
def mkT (xs : List CV) : CV := match allD xs with
  | some ds => .d (.tup ds)
  | none => .t xs
theorem mkT_ok {W : Wd} {h : CH} {H : Hp} {p : Addr} {xs : List CV} {vs : List V} (s : Sim F W h H) (r : Rls F W H xs vs) (hp : H p = none) :
    Stp W H W (upd H p (.tup vs)) ∧ Sim F W h (upd H p (.tup vs)) ∧ Rl F W (upd H p (.tup vs)) (mkT xs) (.ref p) := by
  refine ⟨s.stpNew hp, s.fresh hp, ?_⟩
  unfold mkT
  split
  · rename_i ds e
    exact .d (.tup (.of upd_same) ((allD_rel e r).mono (s.stpNew hp)))
  · exact .t (.of upd_same) (r.mono (s.stpNew hp))

/-! ### + -/
def fCatT : CH → CV → CV → Option (CV × CH)
  | h, .d (.tup xs), .d (.tup ys) => if xs.length + ys.length ≤ lim then some (.d (.tup (xs ++ ys)), h) else none
  | _, _, _ => none
def fCatL (fr : Bool) (h : CH) (x y : CV) : Option (CV × CH) := (seqM h x).bind fun xs => (seqM h y).bind fun ys => if xs.length + ys.length ≤ lim then mk fr h (xs ++ ys) else none
def fAdd (fr : Bool) (h : CH) (x y : CV) : Option (CV × CH) := (fI0 (fun i j => .int (i + j)) h x y).or ((fCatT h x y).or (fCatL fr h x y))
theorem lim_line {n : Nat} (h : n ≤ lim) : n ≤ sizeLine := h
theorem RDs.length {W : Wd} {H : Hp} : ∀ {x : List D} {v : List V}, RDs F W H x v → x.length = v.length
  | _, _, .nil => rfl
  | _, _, .cons _ r => by simp [RDs.length r]
theorem RDs.append {W : Wd} {H : Hp} : ∀ {x y : List D} {v w : List V}, RDs F W H x v → RDs F W H y w → RDs F W H (x ++ y) (v ++ w)
  | _, _, _, _, .nil, s => s
  | _, _, _, _, .cons r t, s => .cons r (RDs.append t s)
theorem fCatT_ok : OpS F fCatT (rCatA F.K) := by
  intro W h H x y z h' u v Q s e ru rv k
  unfold fCatT at e
  split at e
  · split at e
    · rename_i xs ys hl
      cases e
      cases ru with
      | d ru => cases rv with
        | d rv => cases ru with
          | @tup _ a vs q1 r1 => cases rv with
            | @tup _ b ws q2 r2 =>
              refine ⟨a, b, vs, ws, rfl, rfl, q1, q2, by rw [← r1.length, ← r2.length]; exact lim_line hl, fun e => ?_, fun _ e => ?_, fun _ _ p hp => ?_⟩
              · subst e
                cases r1
                exact k W H _ .refl s (.d (.tup q2 r2))
              · subst e
                cases r2
                rw [List.append_nil] at k
                exact k W H _ .refl s (.d (.tup q1 r1))
              · obtain ⟨st, s', r'⟩ := newT s hp (r1.append r2)
                exact k W _ _ st s' (.d r')
    · cases e
  · cases e
theorem fCatL_ok {fr : Bool} : OpS F (fCatL fr) rCat := by
  intro W h H x y z h' u v Q s e ru rv k
  unfold fCatL at e
  simp only [Option.bind_eq_some_iff] at e
  obtain ⟨xs, e1, ys, e2, e3⟩ := e
  split at e3
  · rename_i hl
    obtain ⟨a, vs, rfl, q1, r1⟩ := seqM_rel s e1 ru
    obtain ⟨b, ws, rfl, q2, r2⟩ := seqM_rel s e2 rv
    refine ⟨a, b, vs, ws, rfl, rfl, q1, q2, by rw [← r1.length, ← r2.length]; exact lim_line hl, fun p hp => ?_⟩
    obtain ⟨W', st, s', r'⟩ := mk_ok s e3 (r1.append r2) hp
    exact k W' _ _ st s' r'
  · cases e3
theorem fAdd_ok {fr : Bool} : OpS F (fAdd fr) (fun x y H Q => rI0 (fun i j => .int (i + j)) x y H Q ∨ (rCatA F.K x y H Q ∨ rCat x y H Q)) :=
  (fI0_ok fun _ _ i j => .int _).or (fCatT_ok.or fCatL_ok)
variable {X : Cx} {a b : Expr} {pos : Pos} {ma mb : ME}
/-- the context's written part is what is fixed -/
theorem e_add (fr : Bool) (hK : F.K = X.K) (ha : PE X a (tE F ma)) (hb : PE X b (tE F mb)) : PE X (.BinOp a .Add b pos) (tE F (mOp (fAdd fr) ma mb)) :=
  e_op (OpR.or op_add (OpR.or (hK ▸ op_catA) op_cat)) fAdd_ok ha hb
/-! ### -, *, //, %, ** -/
theorem e_sub (ha : PE X a (tE F ma)) (hb : PE X b (tE F mb)) : PE X (.BinOp a .Sub b pos) (tE F (mOp (fI0 fun i j => .int (i - j)) ma mb)) :=
  e_op op_sub (fI0_ok fun _ _ i j => .int _) ha hb
def okMul (i j : Int) : Bool := decide (i.natAbs.log2 + j.natAbs.log2 < 1000000)
def fRep (fr : Bool) (h : CH) (x : CV) : CV → Option (CV × CH)
  | .d (.int k) => (seqM h x).bind fun xs => if okI k = true ∧ xs.length * k.toNat ≤ lim then mk fr h (List.replicate k.toNat xs).flatten else none
  | _ => none
theorem Rls.flat {W : Wd} {H : Hp} {xs : List CV} {vs : List V} (r : Rls F W H xs vs) : ∀ n : Nat, Rls F W H (List.replicate n xs).flatten (List.replicate n vs).flatten
  | 0 => .nil
  | n + 1 => by
    rw [List.replicate_succ, List.replicate_succ, List.flatten_cons, List.flatten_cons]
    exact r.append (r.flat n)
theorem fRep_ok {fr : Bool} : OpS F (fRep fr) rRep := by
  intro W h H x y z h' u v Q s e ru rv k
  unfold fRep at e
  split at e
  · rename_i n
    simp only [Option.bind_eq_some_iff] at e
    obtain ⟨xs, e1, e3⟩ := e
    split at e3
    · rename_i hl
      obtain ⟨a, vs, rfl, q1, r1⟩ := seqM_rel s e1 ru
      refine ⟨a, n, vs, rfl, rv.int, q1, by have := okI_of hl.1; omega, by have := okI_of hl.1; omega, by rw [← r1.length]; exact lim_line hl.2, fun p hp => ?_⟩
      obtain ⟨W', st, s', r'⟩ := mk_ok s e3 (r1.flat n.toNat) hp
      exact k W' _ _ st s' r'
    · cases e3
  · cases e
def fMul (fr : Bool) (h : CH) (x y : CV) : Option (CV × CH) := (fI okMul (fun i j => .int (i * j)) h x y).or (fRep fr h x y)
theorem fMul_ok {fr : Bool} : OpS F (fMul fr) (fun x y H Q => rI CMulW (fun i j => .int (i * j)) x y H Q ∨ rRep x y H Q) :=
  (fI_ok (fun i j h => of_decide_eq_true h) fun _ _ i j => .int _).or fRep_ok
theorem e_mul (fr : Bool) (ha : PE X a (tE F ma)) (hb : PE X b (tE F mb)) : PE X (.BinOp a .Mult b pos) (tE F (mOp (fMul fr) ma mb)) :=
  e_op (OpR.or op_mulW op_rep) fMul_ok ha hb
def okDiv (_ j : Int) : Bool := decide (0 < j) && decide (j.natAbs.log2 < 9000)
theorem e_fdiv (ha : PE X a (tE F ma)) (hb : PE X b (tE F mb)) : PE X (.BinOp a .FloorDiv b pos) (tE F (mOp (fI okDiv fun i j => .int (i / j)) ma mb)) :=
  e_op op_fdivW (fI_ok (fun i j h => by simp [okDiv] at h; exact h) fun _ _ i j => .int _) ha hb
def okMod (_ j : Int) : Bool := decide (0 < j)
theorem e_mod (ha : PE X a (tE F ma)) (hb : PE X b (tE F mb)) : PE X (.BinOp a .Mod b pos) (tE F (mOp (fI okMod fun i j => .int (i % j)) ma mb)) :=
  e_op op_mod (fI_ok (fun i j h => of_decide_eq_true h) fun _ _ i j => .int _) ha hb
def okPow (i j : Int) : Bool := decide (0 ≤ j) && decide (j ≤ 1000000) && decide (i.natAbs < 2 ^ 64)
theorem e_pow (ha : PE X a (tE F ma)) (hb : PE X b (tE F mb)) : PE X (.BinOp a .Pow b pos) (tE F (mOp (fI okPow fun i j => .int (i ^ j.toNat)) ma mb)) :=
  e_op op_pow (fI_ok (fun i j h => by simp [okPow, and_assoc] at h; exact h) fun _ _ i j => .int _) ha hb
def mNeg (ma : ME) : ME := fun c h => (ma c h).bind fun p => match p.1 with
  | .d (.int i) => some (.d (.int (-i)), p.2)
  | _ => none
theorem e_neg (ha : PE X a (tE F ma)) : PE X (.UnaryOp .USub a pos) (tE F (mNeg ma)) := wkE (pe_un un_neg ha) fun σ H Q hh => by
  obtain ⟨W, c, h, z, h', rs, s, e, k⟩ := hh
  unfold mNeg at e
  simp only [Option.bind_eq_some_iff, Prod.exists] at e
  obtain ⟨x, h1, e1, e2⟩ := e
  refine seqX rs s e1 fun W1 H1 u st1 s1 r1 => ?_
  split at e2
  · rename_i i
    cases e2
    exact ⟨i, r1.int, k W1 H1 _ st1 s1 (.d (.int _))⟩
  · cases e2

/-! ### comparisons -/
abbrev CI (p : Int → Int → Bool) : CH → CV → CV → Option (CV × CH) := fI0 fun i j => .bl (p i j)
theorem e_cmp {op : CmpOp} {f : CH → CV → CV → Option (CV × CH)} {r : R2} (ho : OpR X (compareOp op) r) (o : OpS F f r) (hm : behindInMarks op b = false) (ha : PE X a (tE F ma)) (hb : PE X b (tE F mb)) :
    PE X (.Compare a [op] [b] pos) (tE F (mOp f ma mb)) := wkE (pe_cmpR ho ha hb hm) fun _ _ _ => tOp_of o
/-- a machine's value as a test -/
def mTE (m : ME) : MT := fun c h => (m c h).bind fun p => match p.1 with
  | .d (.bl b) => some (b, p.2)
  | _ => none
theorem tTE_of {m : ME} {σ : St} {H : Hp} {Q : Bool → Hp → Prop} (hh : tT F (mTE m) σ H Q) : tE F m σ H (fun x H1 => ∃ c, x = .bl c ∧ Q c H1) := by
  obtain ⟨W, c, h, z, h', rs, s, e, k⟩ := hh
  unfold mTE at e
  simp only [Option.bind_eq_some_iff, Prod.exists] at e
  obtain ⟨x, h1, e1, e2⟩ := e
  split at e2
  · cases e2
    exact ⟨W, c, h, _, _, rs, s, e1, fun W' H' v st s' r => ⟨_, r.bl, k W' H' _ st s' rfl⟩⟩
  · cases e2
theorem t_cmp {op : CmpOp} {f : CH → CV → CV → Option (CV × CH)} {r : R2} (ho : OpR X (compareOp op) r) (o : OpS F f r) (hm : behindInMarks op b = false) (ha : PE X a (tE F ma)) (hb : PE X b (tE F mb)) :
    PT X (.Compare a [op] [b] pos) (tT F (mTE (mOp f ma mb))) := wkT (pt_cmpR ho ha hb hm) fun σ H Q hh => tOp_of o (tTE_of hh)
theorem t_val {m : ME} {e : Expr} (h : PE X e (tE F m)) (he : ∀ whole, isTrue e X.env whole = (do let v ← whole; standAt e.pos; holding [v] (truthy v)) := by intro _; rfl) : PT X e (tT F (mTE m)) :=
  wkT (pt_val h he) fun _ _ _ => tTE_of
/-- a op b op' c -/
def mChain (f g : CH → CV → CV → Option (CV × CH)) (ma mb mc : ME) : ME := fun c h => (ma c h).bind fun p => (mb c p.2).bind fun q => (f q.2 p.1 q.1).bind fun r => match r.1 with
  | .d (.bl true) => (mc c r.2).bind fun t => g t.2 q.1 t.1
  | .d (.bl false) => some (.d (.bl false), r.2)
  | _ => none
theorem tChain_of {f g : CH → CV → CV → Option (CV × CH)} {r r' : R2} {mc : ME} (o : OpS F f r) (o' : OpS F g r') {σ : St} {H : Hp} {Q : VK} (hh : tE F (mChain f g ma mb mc) σ H Q) : tChain r r' (tE F ma) (tE F mb) (tE F mc) σ H Q := by
  obtain ⟨W, c, h, z, h', rs, s, e, k⟩ := hh
  unfold mChain at e
  simp only [Option.bind_eq_some_iff, Prod.exists] at e
  obtain ⟨x, h1, e1, y, h2, e2, w, h3, e3, e4⟩ := e
  refine seqX rs s e1 fun W1 H1 u st1 s1 r1 => seqX (rs.mono st1) s1 e2 fun W2 H2 v st2 s2 r2 => ?_
  refine o W2 h2 H2 x y w h3 u v _ s2 e3 (r1.mono st2) r2 fun W3 H3 w' st3 s3 r3 => ?_
  split at e4
  · refine ⟨true, r3.bl, ?_⟩
    rw [if_pos rfl]
    simp only [Option.bind_eq_some_iff, Prod.exists] at e4
    obtain ⟨t, h4, e5, e6⟩ := e4
    refine seqX ((rs.mono st1).mono (st2.trans st3)) s3 e5 fun W4 H4 t' st4 s4 r4 => ?_
    exact o' W4 h4 H4 y t z h' v t' Q s4 e6 ((r2.mono st3).mono st4) r4 fun W5 H5 w5 st5 s5 r5 => k W5 H5 w5 ((((st1.trans st2).trans st3).trans st4).trans st5) s5 r5
  · cases e4
    refine ⟨false, r3.bl, ?_⟩
    rw [if_neg Bool.false_ne_true]
    exact k W3 H3 _ ((st1.trans st2).trans st3) s3 (.d (.bl false))
  · cases e4
theorem e_chain {op op' : CmpOp} {c : Expr} {mc : ME} {f g : CH → CV → CV → Option (CV × CH)} {r r' : R2} (ho : OpR X (compareOp op) r) (o : OpS F f r) (ho' : OpR X (compareOp op') r') (o' : OpS F g r')
    (ha : PE X a (tE F ma)) (hb : PE X b (tE F mb)) (hc : PE X c (tE F mc)) (hm : lastMarks [op, op'] [b, c] = false := by with_unfolding_all rfl) :
    PE X (.Compare a [op, op'] [b, c] pos) (tE F (mChain f g ma mb mc)) := wkE (pe_chain ho ho' ha hb hc hm) fun _ _ _ => tChain_of o o'
theorem t_chain {op op' : CmpOp} {c : Expr} {mc : ME} {f g : CH → CV → CV → Option (CV × CH)} {r r' : R2} (ho : OpR X (compareOp op) r) (o : OpS F f r) (ho' : OpR X (compareOp op') r') (o' : OpS F g r')
    (ha : PE X a (tE F ma)) (hb : PE X b (tE F mb)) (hc : PE X c (tE F mc)) (hm : lastMarks [op, op'] [b, c] = false := by with_unfolding_all rfl) :
    PT X (.Compare a [op, op'] [b, c] pos) (tT F (mTE (mChain f g ma mb mc))) := wkT (pt_chain ho ho' ha hb hc hm) fun σ H Q hh => tChain_of o o' (tTE_of hh)

/-! ### and, or, not -/
def mAndT (ma mb : MT) : MT := fun c h => (ma c h).bind fun p => match p.1 with
  | true => mb c p.2
  | false => some (false, p.2)
def mOrT (ma mb : MT) : MT := fun c h => (ma c h).bind fun p => match p.1 with
  | true => some (true, p.2)
  | false => mb c p.2
def mNotT (ma : MT) : MT := fun c h => (ma c h).bind fun p => some (!p.1, p.2)
variable {ta tb : MT} {rest : List Expr}
theorem tAnd_of {σ : St} {H : Hp} {Q : Bool → Hp → Prop} (hh : tT F (mAndT ta tb) σ H Q) : tAnd (tT F ta) (tT F tb) σ H Q := by
  obtain ⟨W, c, h, z, h', rs, s, e, k⟩ := hh
  unfold mAndT at e
  simp only [Option.bind_eq_some_iff, Prod.exists] at e
  obtain ⟨x, h1, e1, e2⟩ := e
  refine seqX rs s e1 fun W1 H1 u st1 s1 r1 => ?_
  cases (show u = x from r1)
  cases x with
  | true => rw [if_pos rfl]; exact seqX (rs.mono st1) s1 e2 fun W2 H2 v st2 s2 r2 => k W2 H2 v (st1.trans st2) s2 r2
  | false => rw [if_neg Bool.false_ne_true]; cases e2; exact k W1 H1 _ st1 s1 rfl
theorem tOr_of {σ : St} {H : Hp} {Q : Bool → Hp → Prop} (hh : tT F (mOrT ta tb) σ H Q) : tOr (tT F ta) (tT F tb) σ H Q := by
  obtain ⟨W, c, h, z, h', rs, s, e, k⟩ := hh
  unfold mOrT at e
  simp only [Option.bind_eq_some_iff, Prod.exists] at e
  obtain ⟨x, h1, e1, e2⟩ := e
  refine seqX rs s e1 fun W1 H1 u st1 s1 r1 => ?_
  cases (show u = x from r1)
  cases x with
  | true => rw [if_pos rfl]; cases e2; exact k W1 H1 _ st1 s1 rfl
  | false => rw [if_neg Bool.false_ne_true]; exact seqX (rs.mono st1) s1 e2 fun W2 H2 v st2 s2 r2 => k W2 H2 v (st1.trans st2) s2 r2
theorem w_and1 (ha : PT X a (tT F ta)) : PW X (.BoolOp .And [a] pos) (tT F ta) := pw_and1 ha
theorem w_or1 (ha : PT X a (tT F ta)) : PW X (.BoolOp .Or [a] pos) (tT F ta) := pw_or1 ha
theorem w_and (ha : PT X a (tT F ta)) (hb : PW X (.BoolOp .And (b :: rest) pos) (tT F tb)) : PW X (.BoolOp .And (a :: b :: rest) pos) (tT F (mAndT ta tb)) := wkW (pw_and ha hb) fun _ _ _ => tAnd_of
theorem w_or (ha : PT X a (tT F ta)) (hb : PW X (.BoolOp .Or (b :: rest) pos) (tT F tb)) : PW X (.BoolOp .Or (a :: b :: rest) pos) (tT F (mOrT ta tb)) := wkW (pw_or ha hb) fun _ _ _ => tOr_of
theorem t_w {e : Expr} (h : PW X e (tT F ta)) : PT X e (tT F ta) := h.pt
theorem t_not (ha : PT X a (tT F ta)) : PT X (.UnaryOp .Not a pos) (tT F (mNotT ta)) := wkT (pt_not ha) fun σ H Q hh => by
  obtain ⟨W, c, h, z, h', rs, s, e, k⟩ := hh
  unfold mNotT at e
  simp only [Option.bind_eq_some_iff, Prod.exists, Option.some.injEq, Prod.mk.injEq] at e
  obtain ⟨x, h1, e1, rfl, rfl⟩ := e
  exact seqX rs s e1 fun W1 H1 u st1 s1 r1 => k W1 H1 _ st1 s1 (by cases (show u = x from r1); rfl)
/-- .. as values -/
def mET (m : MT) : ME := fun c h => (m c h).bind fun p => some (.d (.bl p.1), p.2)
def mAndV (ma mb : ME) : ME := fun c h => (mTE ma c h).bind fun p => match p.1 with
  | true => mb c p.2
  | false => some (.d (.bl false), p.2)
def mOrV (ma mb : ME) : ME := fun c h => (mTE ma c h).bind fun p => match p.1 with
  | true => some (.d (.bl true), p.2)
  | false => mb c p.2
theorem e_one {op} {m : ME} (h : PE X a (tE F m)) : PE X (.BoolOp op [a] pos) (tE F m) := pe_one h
theorem e_and (ha : PE X a (tE F ma)) (hb : PE X (.BoolOp .And (b :: rest) pos) (tE F mb)) : PE X (.BoolOp .And (a :: b :: rest) pos) (tE F (mAndV ma mb)) := wkE (pe_and ha hb) fun σ H Q hh => by
  obtain ⟨W, c, h, z, h', rs, s, e, k⟩ := hh
  unfold mAndV at e
  simp only [Option.bind_eq_some_iff, Prod.exists] at e
  obtain ⟨x, h1, e1, e2⟩ := e
  have q : tT F (mTE ma) σ H (fun b H1 => if b = true then tE F mb σ H1 Q else Q (.bl false) H1) := seqX rs s e1 fun W1 H1 u st1 s1 r1 => by
    cases (show u = x from r1)
    cases x with
    | true => rw [if_pos rfl]; exact seqX (rs.mono st1) s1 e2 fun W2 H2 v st2 s2 r2 => k W2 H2 v (st1.trans st2) s2 r2
    | false => rw [if_neg Bool.false_ne_true]; cases e2; exact k W1 H1 _ st1 s1 (.d (.bl false))
  exact tTE_of q
theorem e_or (ha : PE X a (tE F ma)) (hb : PE X (.BoolOp .Or (b :: rest) pos) (tE F mb)) : PE X (.BoolOp .Or (a :: b :: rest) pos) (tE F (mOrV ma mb)) := wkE (pe_or ha hb) fun σ H Q hh => by
  obtain ⟨W, c, h, z, h', rs, s, e, k⟩ := hh
  unfold mOrV at e
  simp only [Option.bind_eq_some_iff, Prod.exists] at e
  obtain ⟨x, h1, e1, e2⟩ := e
  have q : tT F (mTE ma) σ H (fun b H1 => if b = true then Q (.bl true) H1 else tE F mb σ H1 Q) := seqX rs s e1 fun W1 H1 u st1 s1 r1 => by
    cases (show u = x from r1)
    cases x with
    | true => rw [if_pos rfl]; cases e2; exact k W1 H1 _ st1 s1 (.d (.bl true))
    | false => rw [if_neg Bool.false_ne_true]; exact seqX (rs.mono st1) s1 e2 fun W2 H2 v st2 s2 r2 => k W2 H2 v (st1.trans st2) s2 r2
  exact tTE_of q
def mNotV (ma : ME) : ME := fun c h => (mTE ma c h).bind fun p => some (.d (.bl (!p.1)), p.2)
theorem e_not (ha : PE X a (tE F ma)) : PE X (.UnaryOp .Not a pos) (tE F (mNotV ma)) := wkE (pe_not ha) fun σ H Q hh => by
  obtain ⟨W, c, h, z, h', rs, s, e, k⟩ := hh
  unfold mNotV at e
  simp only [Option.bind_eq_some_iff, Prod.exists, Option.some.injEq, Prod.mk.injEq] at e
  obtain ⟨x, h1, e1, rfl, rfl⟩ := e
  have q : tT F (mTE ma) σ H (fun b H1 => Q (.bl (!b)) H1) := seqX rs s e1 fun W1 H1 u st1 s1 r1 => by
    cases (show u = x from r1)
    exact k W1 H1 _ st1 s1 (.d (.bl _))
  exact tTE_of q
/-- a if t else b -/
def mIf (t : MT) (ma mb : ME) : ME := fun c h => (t c h).bind fun p => match p.1 with
  | true => ma c p.2
  | false => mb c p.2
theorem e_if {c : Expr} (hc : PT X c (tT F ta)) (ha : PE X a (tE F ma)) (hb : PE X b (tE F mb)) : PE X (.IfExp c a b pos) (tE F (mIf ta ma mb)) := wkE (pe_ifExp hc ha hb) fun σ H Q hh => by
  obtain ⟨W, c, h, z, h', rs, s, e, k⟩ := hh
  unfold mIf at e
  simp only [Option.bind_eq_some_iff, Prod.exists] at e
  obtain ⟨x, h1, e1, e2⟩ := e
  refine seqX rs s e1 fun W1 H1 u st1 s1 r1 => ?_
  cases (show u = x from r1)
  cases x with
  | true => rw [if_pos rfl]; exact seqX (rs.mono st1) s1 e2 fun W2 H2 v st2 s2 r2 => k W2 H2 v (st1.trans st2) s2 r2
  | false => rw [if_neg Bool.false_ne_true]; exact seqX (rs.mono st1) s1 e2 fun W2 H2 v st2 s2 r2 => k W2 H2 v (st1.trans st2) s2 r2
end
end Mc


namespace Mc
open PySem L2

/-! ### what stands in a value, as plain data -/
mutual
def snD : Sn → Option D
  | .sd x => some x
  | .sl xs => (snDs xs).map .lst
  | .sk _ _ => none
  | .si _ _ _ => none
  | .fk _ _ => none
def snDs : List Sn → Option (List D)
  | [] => some []
  | x :: xs => (snD x).bind fun y => (snDs xs).map (y :: ·)
end
/-- to a depth -/
def cont : Nat → CH → CV → Option D
  | _, _, .d x => some x
  | _, _, .s x => snD x
  | 0, _, .ref _ => none
  | 0, _, .t _ => none
  | k + 1, h, .ref n => match h[n]? with
    | some (some (.lst xs)) => (xs.mapM (cont k h)).map .lst
    | _ => none
  | k + 1, h, .t xs => (xs.mapM (cont k h)).map .tup
section
variable {F : Fx}
mutual
theorem snD_dp {W : Wd} {H : Hp} : ∀ {x : Sn} {d : D} {v : V}, snD x = some d → RS F W H x v → Dp F.K H v (toP d)
  | .sd x, d, v, e, r => by
    simp only [snD, Option.some.injEq] at e
    subst e
    cases r with | sd r => exact r.dp
  | .sl xs, d, v, e, r => by
    simp only [snD, Option.map_eq_some_iff] at e
    obtain ⟨ds, e1, rfl⟩ := e
    cases r with | sl l q r => simp only [toP]; exact .lst q (snDs_dp e1 r)
  | .sk _ _, d, v, e, r => by simp [snD] at e
  | .si _ _ _, d, v, e, r => by simp [snD] at e
  | .fk _ _, d, v, e, r => by simp [snD] at e
theorem snDs_dp {W : Wd} {H : Hp} : ∀ {x : List Sn} {d : List D} {v : List V}, snDs x = some d → RSs F W H x v → DpAll F.K H v (toPs d)
  | [], d, v, e, r => by
    simp only [snDs, Option.some.injEq] at e
    subst e
    cases r
    exact .nil
  | x :: xs, d, v, e, r => by
    simp only [snDs, Option.bind_eq_some_iff, Option.map_eq_some_iff] at e
    obtain ⟨y, e1, ys, e2, rfl⟩ := e
    cases r with
    | cons r1 r2 => exact .cons (snD_dp e1 r1) (snDs_dp e2 r2)
end
theorem mapM_dp {W : Wd} {h : CH} {H : Hp} {g : CV → Option D} (ih : ∀ {x : CV} {d : D} {v : V}, g x = some d → Rl F W H x v → Dp F.K H v (toP d)) :
    ∀ {xs : List CV} {ds : List D} {vs : List V}, xs.mapM g = some ds → Rls F W H xs vs → DpAll F.K H vs (toPs ds)
  | [], ds, vs, e, r => by
    simp only [List.mapM_nil, Option.pure_def, Option.some.injEq] at e
    subst e
    cases r
    exact .nil
  | x :: xs, ds, vs, e, r => by
    simp only [List.mapM_cons, Option.bind_eq_bind, Option.bind_eq_some_iff, Option.pure_def, Option.some.injEq] at e
    obtain ⟨y, e1, ys, e2, rfl⟩ := e
    cases r with
    | cons r1 r2 => exact .cons (ih e1 r1) (mapM_dp (h := h) ih e2 r2)
theorem cont_dp {W : Wd} {h : CH} {H : Hp} (s : Sim F W h H) : ∀ (k : Nat) {x : CV} {d : D} {v : V}, cont k h x = some d → Rl F W H x v → Dp F.K H v (toP d) := by
  intro k
  induction k with
  | zero =>
    intro x d v e r
    cases x with
    | d x => simp only [cont, Option.some.injEq] at e; subst e; cases r with | d r => exact r.dp
    | s x => simp only [cont] at e; cases r with | s r => exact snD_dp e r
    | ref n => simp [cont] at e
    | t xs => simp [cont] at e
  | succ k ih =>
    intro x d v e r
    cases x with
    | d x => simp only [cont, Option.some.injEq] at e; subst e; cases r with | d r => exact r.dp
    | s x => simp only [cont] at e; cases r with | s r => exact snD_dp e r
    | ref n =>
      simp only [cont] at e
      split at e
      · rename_i xs q
        simp only [Option.map_eq_some_iff] at e
        obtain ⟨ds, e1, rfl⟩ := e
        cases r with
        | ref m =>
          obtain ⟨a, q1, _, _, vs, q4, r⟩ := s.obj _ _ q
          rw [m] at q1
          cases q1
          simp only [toP]
          exact .lst (.of q4) (mapM_dp (h := h) ih e1 r)
      · cases e
    | t xs =>
      simp only [cont, Option.map_eq_some_iff] at e
      obtain ⟨ds, e1, rfl⟩ := e
      cases r with
      | t q r => simp only [toP]; exact .tup q (mapM_dp (h := h) ih e1 r)

/-! ### ==, != -/
/-- texts that str gave -/
def fEqT (neg : Bool) : CH → CV → CV → Option (CV × CH)
  | h, .d (.txt x), .d (.txt y) => if eqD x y = some true then some (.d (.bl (!neg)), h) else none
  | _, _, _ => none
/-- data -/
def fEqC (neg : Bool) (h : CH) (x y : CV) : Option (CV × CH) := (cont 6 h x).bind fun a => (cont 6 h y).bind fun b => if (okD 8 a && okD 8 b) = true then (eqD a b).map fun r => (.d (.bl (r != neg)), h) else none
def fEq (neg : Bool) (h : CH) (x y : CV) : Option (CV × CH) := (fEqT neg h x y).or (fEqC neg h x y)
theorem fEqT_ok : OpS F (fEqT false) rEq := by
  intro W h H x y z h' u v Q s e ru rv k
  unfold fEqT at e
  split at e
  · split at e
    · rename_i x y q
      cases e
      cases eqD_eq x y q
      cases ru with | d ru => cases rv with | d rv =>
        cases ru
        cases rv
        refine ⟨rfl, k W H _ .refl s ?_⟩
        rw [decide_eq_true rfl]
        exact .d (.bl true)
    · cases e
  · cases e
theorem fNeT_ok : OpS F (fEqT true) rNe := by
  intro W h H x y z h' u v Q s e ru rv k
  unfold fEqT at e
  split at e
  · split at e
    · rename_i x y q
      cases e
      cases eqD_eq x y q
      cases ru with | d ru => cases rv with | d rv =>
        cases ru
        cases rv
        refine ⟨rfl, k W H _ .refl s ?_⟩
        rw [decide_eq_true rfl]
        exact .d (.bl false)
    · cases e
  · cases e
theorem fEqC_mid {neg : Bool} {W : Wd} {h : CH} {H : Hp} {x y z : CV} {h' : CH} {u v : V} (s : Sim F W h H) (e : fEqC neg h x y = some (z, h')) (ru : Rl F W H x u) (rv : Rl F W H y v) :
    ∃ a b, Dp F.K H u a ∧ Dp F.K H v b ∧ SeqAt.shaped a = true ∧ SeqAt.shaped b = true ∧ h' = h ∧ z = .d (.bl (PyData.eqv a b != neg)) := by
  unfold fEqC at e
  simp only [Option.bind_eq_some_iff] at e
  obtain ⟨a, e1, b, e2, e3⟩ := e
  split at e3
  · rename_i q
    simp only [Bool.and_eq_true] at q
    simp only [Option.map_eq_some_iff, Prod.mk.injEq] at e3
    obtain ⟨r, e4, rfl, rfl⟩ := e3
    exact ⟨_, _, cont_dp s 6 e1 ru, cont_dp s 6 e2 rv, okD_shaped q.1, okD_shaped q.2, rfl, by rw [eqD_eqv 8 a b r q.1 q.2 e4]⟩
  · cases e3
theorem fEqC_ok : OpS F (fEqC false) (rEqD F.K) := by
  intro W h H x y z h' u v Q s e ru rv k
  obtain ⟨a, b, h1, h2, h3, h4, rfl, rfl⟩ := fEqC_mid s e ru rv
  refine ⟨a, b, h1, h2, h3, h4, k W H _ .refl s ?_⟩
  rw [Bool.bne_false]
  exact .d (.bl _)
theorem fNeC_ok : OpS F (fEqC true) (rNeD F.K) := by
  intro W h H x y z h' u v Q s e ru rv k
  obtain ⟨a, b, h1, h2, h3, h4, rfl, rfl⟩ := fEqC_mid s e ru rv
  refine ⟨a, b, h1, h2, h3, h4, k W H _ .refl s ?_⟩
  rw [Bool.bne_true]
  exact .d (.bl _)
/-! ### is None, is not None, is True .. -/
def fIs (neg : Bool) : CH → CV → CV → Option (CV × CH)
  | h, .d x, .d .non => match x with
    | .non => some (.d (.bl (!neg)), h)
    | _ => some (.d (.bl neg), h)
  | h, .ref _, .d .non => some (.d (.bl neg), h)
  | h, .t _, .d .non => some (.d (.bl neg), h)
  | h, .d (.bl a), .d (.bl b) => some (.d (.bl (decide (a = b) != neg)), h)
  | _, _, _ => none
abbrev rIs : R2 := fun x y H Q => y = .non ∧ Q (.bl (decide (x = .non))) H
abbrev rIsNot : R2 := fun x y H Q => y = .non ∧ Q (.bl (!decide (x = .non))) H
abbrev rIsB : R2 := fun x y H Q => ∃ a b, x = .bl a ∧ y = .bl b ∧ Q (.bl (decide (a = b))) H
abbrev rIsNotB : R2 := fun x y H Q => ∃ a b, x = .bl a ∧ y = .bl b ∧ Q (.bl (!decide (a = b))) H

theorem RD.notNon {W : Wd} {H : Hp} {x : D} {v : V} (r : RD F W H x v) (h : x ≠ .non) : v ≠ .non := by
  cases r with
  | non => exact absurd rfl h
  | _ => intro z; cases z
theorem fIs_mid {neg : Bool} {W : Wd} {h : CH} {H : Hp} {x y z : CV} {h' : CH} {u v : V} (e : fIs neg h x y = some (z, h')) (ru : Rl F W H x u) (rv : Rl F W H y v) :
    h' = h ∧ ((v = .non ∧ z = .d (.bl (decide (u = .non) != neg))) ∨ ∃ a b, u = .bl a ∧ v = .bl b ∧ z = .d (.bl (decide (a = b) != neg))) := by
  unfold fIs at e
  split at e
  · have hv := rv.non
    split at e
    · cases e
      refine ⟨rfl, .inl ⟨hv, ?_⟩⟩
      rw [ru.non]
      simp
    · rename_i x hx
      cases e
      refine ⟨rfl, .inl ⟨hv, ?_⟩⟩
      cases ru with
      | d ru => rw [decide_eq_false (ru.notNon hx)]; simp
  · cases e
    refine ⟨rfl, .inl ⟨rv.non, ?_⟩⟩
    cases ru
    simp
  · cases e
    refine ⟨rfl, .inl ⟨rv.non, ?_⟩⟩
    cases ru
    simp
  · cases e
    exact ⟨rfl, .inr ⟨_, _, ru.bl, rv.bl, rfl⟩⟩
  · cases e
theorem fIs_ok : OpS F (fIs false) (fun x y H Q => rIs x y H Q ∨ rIsB x y H Q) := by
  intro W h H x y z h' u v Q s e ru rv k
  obtain ⟨rfl, ⟨hv, rfl⟩ | ⟨a, b, hu, hv, rfl⟩⟩ := fIs_mid e ru rv
  · refine .inl ⟨hv, k W H _ .refl s ?_⟩
    rw [Bool.bne_false]; exact .d (.bl _)
  · refine .inr ⟨a, b, hu, hv, k W H _ .refl s ?_⟩
    rw [Bool.bne_false]; exact .d (.bl _)
theorem fIsNot_ok : OpS F (fIs true) (fun x y H Q => rIsNot x y H Q ∨ rIsNotB x y H Q) := by
  intro W h H x y z h' u v Q s e ru rv k
  obtain ⟨rfl, ⟨hv, rfl⟩ | ⟨a, b, hu, hv, rfl⟩⟩ := fIs_mid e ru rv
  · refine .inl ⟨hv, k W H _ .refl s ?_⟩
    rw [Bool.bne_true]; exact .d (.bl _)
  · refine .inr ⟨a, b, hu, hv, k W H _ .refl s ?_⟩
    rw [Bool.bne_true]; exact .d (.bl _)

/-! ### in, not in, over lists -/
def inD (x : D) : List D → Option Bool
  | [] => some false
  | y :: ys => match eqD y x with
    | some true => some true
    | some false => inD x ys
    | none => none
theorem inD_any {x : D} (hx : okD 8 x = true) : ∀ {ys : List D} {r : Bool}, okDs 7 ys = true → inD x ys = some r → ((toPs ys).any fun z => PyData.eqv z (toP x)) = r
  | [], r, _, e => by simp [inD] at e; simp [toPs, e]
  | y :: ys, r, h, e => by
    have h' : okD 7 y = true ∧ okDs 7 ys = true := by simpa [okDs] using h
    have hy : okD 8 y = true := okD_up h'.1
    simp only [inD] at e
    simp only [toPs, List.any_cons]
    split at e
    · rename_i q
      rw [eqD_eqv 8 y x true hy hx q]
      simpa using e
    · rename_i q
      rw [eqD_eqv 8 y x false hy hx q, Bool.false_or]
      exact inD_any hx h'.2 e
    · cases e
where
  okD_up : ∀ {y : D}, okD 7 y = true → okD 8 y = true := fun {y} h => okD_succ 7 y h
  okD_succ : ∀ (n : Nat) (x : D), okD n x = true → okD (n + 1) x = true := fun n x => (up n x)
  up : ∀ (n : Nat) (x : D), okD n x = true → okD (n + 1) x = true
    | _, .non, _ => rfl
    | _, .bl _, _ => rfl
    | _, .int _, _ => rfl
    | _, .str x, h => by simpa [okD] using h
    | _, .txt _, h => by simp [okD] at h
    | 0, .tup _, h => by simp [okD] at h
    | 0, .lst _, h => by simp [okD] at h
    | n + 1, .tup xs, h => by
      simp only [okD] at h ⊢
      exact okDs_all fun x hx => up n x (okDs_mem h hx)
    | n + 1, .lst xs, h => by
      simp only [okD] at h ⊢
      exact okDs_all fun x hx => up n x (okDs_mem h hx)
def fIn (neg : Bool) (h : CH) (x y : CV) : Option (CV × CH) := (cont 6 h x).bind fun a => (cont 6 h y).bind fun b => match b with
  | .lst ys => if (okD 8 a && okDs 7 ys) = true then (inD a ys).map fun r => (.d (.bl (r != neg)), h) else none
  | _ => none
theorem fIn_mid {neg : Bool} {W : Wd} {h : CH} {H : Hp} {x y z : CV} {h' : CH} {u v : V} (s : Sim F W h H) (e : fIn neg h x y = some (z, h')) (ru : Rl F W H x u) (rv : Rl F W H y v) :
    ∃ a b, Dp F.K H u a ∧ Dp F.K H v (.list b) ∧ SeqAt.shaped a = true ∧ SeqAt.shaped (.list b) = true ∧ h' = h ∧ z = .d (.bl ((b.any fun z => PyData.eqv z a) != neg)) := by
  unfold fIn at e
  simp only [Option.bind_eq_some_iff] at e
  obtain ⟨a, e1, b, e2, e3⟩ := e
  split at e3
  · rename_i ys
    split at e3
    · rename_i q
      simp only [Bool.and_eq_true] at q
      simp only [Option.map_eq_some_iff, Prod.mk.injEq] at e3
      obtain ⟨r, e4, rfl, rfl⟩ := e3
      have d2 := cont_dp s 6 e2 rv
      simp only [toP] at d2
      have sh : SeqAt.shaped (toP (.lst ys)) = true := okD_shaped (by simpa [okD] using q.2)
      simp only [toP] at sh
      exact ⟨_, _, cont_dp s 6 e1 ru, d2, okD_shaped q.1, sh, rfl, by rw [inD_any q.1 q.2 e4]⟩
    · cases e3
  · cases e3
theorem fIn_ok : OpS F (fIn false) (rInD F.K) := by
  intro W h H x y z h' u v Q s e ru rv k
  obtain ⟨a, b, h1, h2, h3, h4, rfl, rfl⟩ := fIn_mid s e ru rv
  refine ⟨a, b, h1, h2, h3, h4, k W H _ .refl s ?_⟩
  rw [Bool.bne_false]; exact .d (.bl _)
theorem fNotIn_ok : OpS F (fIn true) (rNotInD F.K) := by
  intro W h H x y z h' u v Q s e ru rv k
  obtain ⟨a, b, h1, h2, h3, h4, rfl, rfl⟩ := fIn_mid s e ru rv
  refine ⟨a, b, h1, h2, h3, h4, k W H _ .refl s ?_⟩
  rw [Bool.bne_true]; exact .d (.bl _)

/-! ### the rules: comparisons as values and as tests -/
/-- what the context must be -/
structure Gd (F : Fx) (X : Cx) : Prop where
  hK : F.K = X.K
  calm : X.calm = true
  nd : X.N.Nodup
  un : X.A.units + 100 < cLine
variable {X : Cx} {a b : Expr} {pos : Pos} {ma mb : ME}
theorem or_eq (g : Gd F X) : OpR X (compareOp .Eq) (fun x y H Q => rEq x y H Q ∨ rEqD F.K x y H Q) := OpR.or op_eq (by rw [g.hK]; exact op_eqD (by have := g.un; omega))
theorem or_ne (g : Gd F X) : OpR X (compareOp .NotEq) (fun x y H Q => rNe x y H Q ∨ rNeD F.K x y H Q) := OpR.or op_ne (by rw [g.hK]; exact op_neD (by have := g.un; omega))
theorem or_in (g : Gd F X) : OpR X (compareOp .In) (rInD F.K) := by rw [g.hK]; exact op_inD (by have := g.un; omega)
theorem or_nin (g : Gd F X) : OpR X (compareOp .NotIn) (rNotInD F.K) := by rw [g.hK]; exact op_notInD (by have := g.un; omega)
theorem or_is : OpR X (compareOp .Is) (fun x y H Q => rIs x y H Q ∨ rIsB x y H Q) := OpR.or op_isN op_is_bl
theorem or_isnot : OpR X (compareOp .IsNot) (fun x y H Q => rIsNot x y H Q ∨ rIsNotB x y H Q) := OpR.or op_notN op_isnot_bl
theorem os_eq : OpS F (fEq false) (fun x y H Q => rEq x y H Q ∨ rEqD F.K x y H Q) := fEqT_ok.or fEqC_ok
theorem os_ne : OpS F (fEq true) (fun x y H Q => rNe x y H Q ∨ rNeD F.K x y H Q) := fNeT_ok.or fNeC_ok
abbrev fLt : CH → CV → CV → Option (CV × CH) := fI0 fun i j => .bl (decide (i < j))
abbrev fLe : CH → CV → CV → Option (CV × CH) := fI0 fun i j => .bl (decide (i ≤ j))
abbrev fGt : CH → CV → CV → Option (CV × CH) := fI0 fun i j => .bl (decide (j < i))
abbrev fGe : CH → CV → CV → Option (CV × CH) := fI0 fun i j => .bl (decide (j ≤ i))
theorem os_lt : OpS F fLt (rI0 fun i j => .bl (decide (i < j))) := fI0_ok fun _ _ i j => .bl _
theorem os_le : OpS F fLe (rI0 fun i j => .bl (decide (i ≤ j))) := fI0_ok fun _ _ i j => .bl _
theorem os_gt : OpS F fGt (rI0 fun i j => .bl (decide (j < i))) := fI0_ok fun _ _ i j => .bl _
theorem os_ge : OpS F fGe (rI0 fun i j => .bl (decide (j ≤ i))) := fI0_ok fun _ _ i j => .bl _
theorem e_eq (g : Gd F X) (ha : PE X a (tE F ma)) (hb : PE X b (tE F mb)) : PE X (.Compare a [.Eq] [b] pos) (tE F (mOp (fEq false) ma mb)) := e_cmp (or_eq g) os_eq (nomark _) ha hb
theorem e_ne (g : Gd F X) (ha : PE X a (tE F ma)) (hb : PE X b (tE F mb)) : PE X (.Compare a [.NotEq] [b] pos) (tE F (mOp (fEq true) ma mb)) := e_cmp (or_ne g) os_ne (nomark _) ha hb
theorem e_lt (g : Gd F X) (ha : PE X a (tE F ma)) (hb : PE X b (tE F mb)) : PE X (.Compare a [.Lt] [b] pos) (tE F (mOp fLt ma mb)) := e_cmp op_lt os_lt (nomark _) ha hb
theorem e_le (g : Gd F X) (ha : PE X a (tE F ma)) (hb : PE X b (tE F mb)) : PE X (.Compare a [.LtE] [b] pos) (tE F (mOp fLe ma mb)) := e_cmp op_le os_le (nomark _) ha hb
theorem e_gt (g : Gd F X) (ha : PE X a (tE F ma)) (hb : PE X b (tE F mb)) : PE X (.Compare a [.Gt] [b] pos) (tE F (mOp fGt ma mb)) := e_cmp op_gt os_gt (nomark _) ha hb
theorem e_ge (g : Gd F X) (ha : PE X a (tE F ma)) (hb : PE X b (tE F mb)) : PE X (.Compare a [.GtE] [b] pos) (tE F (mOp fGe ma mb)) := e_cmp op_ge os_ge (nomark _) ha hb
theorem e_is (g : Gd F X) (ha : PE X a (tE F ma)) (hb : PE X b (tE F mb)) : PE X (.Compare a [.Is] [b] pos) (tE F (mOp (fIs false) ma mb)) := e_cmp or_is fIs_ok (nomark _) ha hb
theorem e_isnot (g : Gd F X) (ha : PE X a (tE F ma)) (hb : PE X b (tE F mb)) : PE X (.Compare a [.IsNot] [b] pos) (tE F (mOp (fIs true) ma mb)) := e_cmp or_isnot fIsNot_ok (nomark _) ha hb
theorem e_in (g : Gd F X) (ha : PE X a (tE F ma)) (hb : PE X b (tE F mb)) (hm : behindInMarks .In b = false := by rfl) : PE X (.Compare a [.In] [b] pos) (tE F (mOp (fIn false) ma mb)) := e_cmp (or_in g) fIn_ok hm ha hb
theorem e_nin (g : Gd F X) (ha : PE X a (tE F ma)) (hb : PE X b (tE F mb)) (hm : behindInMarks .NotIn b = false := by rfl) : PE X (.Compare a [.NotIn] [b] pos) (tE F (mOp (fIn true) ma mb)) := e_cmp (or_nin g) fNotIn_ok hm ha hb
theorem t_eq (g : Gd F X) (ha : PE X a (tE F ma)) (hb : PE X b (tE F mb)) : PT X (.Compare a [.Eq] [b] pos) (tT F (mTE (mOp (fEq false) ma mb))) := t_cmp (or_eq g) os_eq (nomark _) ha hb
theorem t_ne (g : Gd F X) (ha : PE X a (tE F ma)) (hb : PE X b (tE F mb)) : PT X (.Compare a [.NotEq] [b] pos) (tT F (mTE (mOp (fEq true) ma mb))) := t_cmp (or_ne g) os_ne (nomark _) ha hb
theorem t_lt (g : Gd F X) (ha : PE X a (tE F ma)) (hb : PE X b (tE F mb)) : PT X (.Compare a [.Lt] [b] pos) (tT F (mTE (mOp fLt ma mb))) := t_cmp op_lt os_lt (nomark _) ha hb
theorem t_le (g : Gd F X) (ha : PE X a (tE F ma)) (hb : PE X b (tE F mb)) : PT X (.Compare a [.LtE] [b] pos) (tT F (mTE (mOp fLe ma mb))) := t_cmp op_le os_le (nomark _) ha hb
theorem t_gt (g : Gd F X) (ha : PE X a (tE F ma)) (hb : PE X b (tE F mb)) : PT X (.Compare a [.Gt] [b] pos) (tT F (mTE (mOp fGt ma mb))) := t_cmp op_gt os_gt (nomark _) ha hb
theorem t_ge (g : Gd F X) (ha : PE X a (tE F ma)) (hb : PE X b (tE F mb)) : PT X (.Compare a [.GtE] [b] pos) (tT F (mTE (mOp fGe ma mb))) := t_cmp op_ge os_ge (nomark _) ha hb
theorem t_is (g : Gd F X) (ha : PE X a (tE F ma)) (hb : PE X b (tE F mb)) : PT X (.Compare a [.Is] [b] pos) (tT F (mTE (mOp (fIs false) ma mb))) := t_cmp or_is fIs_ok (nomark _) ha hb
theorem t_isnot (g : Gd F X) (ha : PE X a (tE F ma)) (hb : PE X b (tE F mb)) : PT X (.Compare a [.IsNot] [b] pos) (tT F (mTE (mOp (fIs true) ma mb))) := t_cmp or_isnot fIsNot_ok (nomark _) ha hb
theorem t_in (g : Gd F X) (ha : PE X a (tE F ma)) (hb : PE X b (tE F mb)) (hm : behindInMarks .In b = false := by rfl) : PT X (.Compare a [.In] [b] pos) (tT F (mTE (mOp (fIn false) ma mb))) := t_cmp (or_in g) fIn_ok hm ha hb
theorem t_nin (g : Gd F X) (ha : PE X a (tE F ma)) (hb : PE X b (tE F mb)) (hm : behindInMarks .NotIn b = false := by rfl) : PT X (.Compare a [.NotIn] [b] pos) (tT F (mTE (mOp (fIn true) ma mb))) := t_cmp (or_nin g) fNotIn_ok hm ha hb
end
end Mc


namespace Mc
open PySem L2
section
variable {F : Fx} {X : Cx} {a b e : Expr} {es : List Expr} {pos : Pos} {ma mb me : ME}

/-! ### argument lists, displays -/
def mNil : MA := fun _ h => some ([], h)
def mCons (m : ME) (r : MA) : MA := fun c h => (m c h).bind fun p => (r c p.2).bind fun q => some (p.1 :: q.1, q.2)
theorem a_nil : PA X [] (tA F mNil) := wkA pa_nil fun σ H Q hh => by
  obtain ⟨W, c, h, z, h', rs, s, e, k⟩ := hh
  cases e
  exact k W H _ .refl s .nil
theorem tCons_of {m : ME} {r : MA} {σ : St} {H : Hp} {Q : List V → Hp → Prop} (hh : tA F (mCons m r) σ H Q) : tCons (tE F m) (tA F r) σ H Q := by
  obtain ⟨W, c, h, z, h', rs, s, e, k⟩ := hh
  unfold mCons at e
  simp only [Option.bind_eq_some_iff, Prod.exists, Option.some.injEq, Prod.mk.injEq] at e
  obtain ⟨x, h1, e1, y, h2, e2, rfl, rfl⟩ := e
  exact seqX rs s e1 fun W1 H1 u st1 s1 r1 => seqX (rs.mono st1) s1 e2 fun W2 H2 v st2 s2 r2 => k W2 H2 _ (st1.trans st2) s2 (.cons (r1.mono st2) r2)
theorem a_cons {m : ME} {r : MA} (ha : PE X e (tE F m)) (hr : PA X es (tA F r)) (hs : starEach (e :: es) X.env = (false, eval e X.env) :: starEach es X.env := by rfl) : PA X (e :: es) (tA F (mCons m r)) :=
  wkA (pa_cons ha hr hs) fun _ _ _ => tCons_of
def mTup (r : MA) : ME := fun c h => (r c h).bind fun p => if p.1.length ≤ lim then some (mkT p.1, p.2) else none
def mLst (fr : Bool) (r : MA) : ME := fun c h => (r c h).bind fun p => if p.1.length ≤ lim then mk fr p.2 p.1 else none
theorem e_tup {r : MA} {x1} (h : PA X es (tA F r)) : PE X (.Tuple es x1 pos) (tE F (mTup r)) := wkE (pe_tup h) fun σ H Q hh => by
  obtain ⟨W, c, h, z, h', rs, s, e, k⟩ := hh
  unfold mTup at e
  simp only [Option.bind_eq_some_iff, Prod.exists] at e
  obtain ⟨x, h1, e1, e2⟩ := e
  refine seqX rs s e1 fun W1 H1 u st1 s1 r1 => ?_
  split at e2
  · rename_i hl
    cases e2
    refine ⟨by rw [← r1.length]; exact lim_line hl, fun p hp => ?_⟩
    obtain ⟨st2, s2, r2⟩ := mkT_ok s1 r1 hp
    exact k W1 _ _ (st1.trans st2) s2 r2
  · cases e2
theorem e_lst (fr : Bool) {r : MA} (h : PA X es (tA F r)) : PE X (.List es pos) (tE F (mLst fr r)) := wkE (pe_lst h) fun σ H Q hh => by
  obtain ⟨W, c, h, z, h', rs, s, e, k⟩ := hh
  unfold mLst at e
  simp only [Option.bind_eq_some_iff, Prod.exists] at e
  obtain ⟨x, h1, e1, e2⟩ := e
  refine seqX rs s e1 fun W1 H1 u st1 s1 r1 => ?_
  split at e2
  · rename_i hl
    refine ⟨by rw [← r1.length]; exact lim_line hl, fun p hp => ?_⟩
    obtain ⟨W2, st2, s2, r2⟩ := mk_ok s1 e2 r1 hp
    exact k W2 _ _ (st1.trans st2) s2 r2
  · cases e2

/-! ### subscripts -/
def fIx (h : CH) (x : CV) : CV → Option (CV × CH)
  | .d (.int i) => ((seqL h x).or (seqT x)).bind fun xs => (atI xs i).map fun y => (y, h)
  | _ => none
theorem Rls.atI {W : Wd} {H : Hp} {xs : List CV} {vs : List V} {i : Int} {y : CV} (r : Rls F W H xs vs) (h : L2.atI xs i = some y) : ∃ v, L2.atI vs i = some v ∧ Rl F W H y v := by
  unfold L2.atI at h ⊢
  simp only [Option.bind_eq_some_iff] at h
  obtain ⟨j, e1, e2⟩ := h
  obtain ⟨v, e3, r'⟩ := r.get e2
  exact ⟨v, by rw [← r.length, e1]; exact e3, r'⟩
theorem fIx_ok : OpS F fIx (fun x y H Q => rIxL F.K x y H Q ∨ rIxT F.K x y H Q) := by
  intro W h H x y z h' u v Q s e ru rv k
  unfold fIx at e
  split at e
  · rename_i i
    simp only [Option.bind_eq_some_iff, Option.map_eq_some_iff, Prod.mk.injEq] at e
    obtain ⟨xs, e1, y, e2, rfl, rfl⟩ := e
    cases q : seqL h x with
    | some ys =>
      rw [q] at e1
      cases e1
      obtain ⟨p, vs, rfl, q1, r1⟩ := seqL_rel s q ru
      obtain ⟨w, q2, r2⟩ := r1.atI e2
      exact .inl ⟨p, vs, i, w, rfl, rv.int, q1, q2, k W H _ .refl s r2⟩
    | none =>
      rw [q] at e1
      obtain ⟨p, vs, rfl, q1, r1⟩ := seqT_rel (by simpa using e1) ru
      obtain ⟨w, q2, r2⟩ := r1.atI e2
      exact .inr ⟨p, vs, i, w, rfl, rv.int, q1, q2, k W H _ .refl s r2⟩
  · cases e
theorem e_ix (g : Gd F X) (ha : PE X a (tE F ma)) (hb : PE X b (tE F mb)) (hs : PlainIx b := by exact fun _ _ => rfl) : PE X (.Subscript a b pos) (tE F (mOp fIx ma mb)) :=
  wkE (pe_ix (IxR.or (by rw [g.hK]; exact ix_list) (by rw [g.hK]; exact ix_tup)) ha hb hs) fun _ _ _ => tOp_of fIx_ok

/-! ### slices -/
abbrev MO := Sl → CH → Option (Option Int × CH)
def RO' (_ : Wd) (_ : Hp) (x y : Option Int) : Prop := y = x
def oNone : MO := fun _ h => some (none, h)
def oSome (m : ME) : MO := fun c h => (m c h).bind fun p => match p.1 with
  | .d (.int i) => some (some i, p.2)
  | _ => none
theorem o_none : PO X none (tX F RO' oNone) := ⟨fun pins s σ H Q I hh => po_none.run pins s σ H Q I (by
  obtain ⟨W, c, h, z, h', rs, s, e, k⟩ := hh
  cases e
  exact k W H _ .refl s rfl)⟩
theorem o_some {m : ME} (ha : PE X e (tE F m)) : PO X (some e) (tX F RO' (oSome m)) := ⟨fun pins s σ H Q I hh => (po_some ha).run pins s σ H Q I (by
  obtain ⟨W, c, h, z, h', rs, s, e, k⟩ := hh
  unfold oSome at e
  simp only [Option.bind_eq_some_iff, Prod.exists] at e
  obtain ⟨x, h1, e1, e2⟩ := e
  refine seqX rs s e1 fun W1 H1 u st1 s1 r1 => ?_
  split at e2
  · rename_i i
    cases e2
    exact ⟨i, r1.int, k W1 H1 _ st1 s1 rfl⟩
  · cases e2)⟩
def cut {α : Type} (xs : List α) (lo hi : Option Int) : List α := (xs.drop (HT.sIx xs.length 0 lo)).take (HT.sIx xs.length xs.length hi - HT.sIx xs.length 0 lo)
def fSl (fr : Bool) (h : CH) (x : CV) (lo hi : Option Int) : Option (CV × CH) := match x with
  | .d (.tup xs) => some (.d (.tup (cut xs lo hi)), h)
  | x => (seqL h x).bind fun xs => mk fr h (cut xs lo hi)
def mSl (fr : Bool) (m : ME) (lo hi : MO) : ME := fun c h => (m c h).bind fun p => (lo c p.2).bind fun q => (hi c q.2).bind fun r => fSl fr r.2 p.1 q.1 r.1
theorem Rls.cut {W : Wd} {H : Hp} {xs : List CV} {vs : List V} (r : Rls F W H xs vs) (lo hi : Option Int) : Rls F W H (Mc.cut xs lo hi) (cutV vs lo hi) := by
  unfold Mc.cut cutV
  rw [r.length]
  exact (r.drop _).take _
theorem RDs.take {W : Wd} {H : Hp} : ∀ {x : List D} {v : List V} (n : Nat), RDs F W H x v → RDs F W H (x.take n) (v.take n)
  | _, _, 0, _ => .nil
  | _, _, _ + 1, .nil => .nil
  | _, _, n + 1, .cons r t => .cons r (RDs.take n t)
theorem RDs.drop {W : Wd} {H : Hp} : ∀ {x : List D} {v : List V} (n : Nat), RDs F W H x v → RDs F W H (x.drop n) (v.drop n)
  | _, _, 0, r => r
  | _, _, _ + 1, .nil => .nil
  | _, _, n + 1, .cons _ t => RDs.drop n t
theorem RDs.cut {W : Wd} {H : Hp} {xs : List D} {vs : List V} (r : RDs F W H xs vs) (lo hi : Option Int) : RDs F W H (Mc.cut xs lo hi) (cutV vs lo hi) := by
  unfold Mc.cut cutV
  rw [r.length]
  exact (r.drop _).take _
theorem cut_whole {α : Type} {xs : List α} {lo hi : Option Int} (h : HT.sIx xs.length 0 lo = 0 ∧ HT.sIx xs.length xs.length hi = xs.length) : cut xs lo hi = xs := by
  unfold cut
  rw [h.1, h.2]
  simp
theorem fSl_ok {fr : Bool} {W : Wd} {h h' : CH} {H : Hp} {x z : CV} {lo hi : Option Int} {u : V} {Q : VK} (s : Sim F W h H) (e : fSl fr h x lo hi = some (z, h')) (ru : Rl F W H x u)
    (k : ∀ W' H' w, Stp W H W' H' → Sim F W' h' H' → Rl F W' H' z w → Q w H') : rSlL F.K u lo hi H Q ∨ rSlA F.K u lo hi H Q := by
  have lists : (seqL h x).bind (fun xs => mk fr h (cut xs lo hi)) = some (z, h') → rSlL F.K u lo hi H Q := fun e => by
    simp only [Option.bind_eq_some_iff] at e
    obtain ⟨xs, e1, e2⟩ := e
    obtain ⟨p, vs, rfl, q1, r1⟩ := seqL_rel s e1 ru
    refine ⟨p, vs, rfl, q1, fun q hq => ?_⟩
    obtain ⟨W2, st2, s2, r2⟩ := mk_ok s e2 (r1.cut lo hi) hq
    exact k W2 _ _ st2 s2 r2
  unfold fSl at e
  split at e
  · rename_i xs
    cases e
    cases ru with
    | d ru => cases ru with
      | @tup _ p vs q1 r1 =>
        refine .inr ⟨p, vs, rfl, q1, fun hw => ?_, fun hw q hq => ?_⟩
        · rw [← r1.length] at hw
          rw [cut_whole hw] at k
          exact k W H _ .refl s (.d (.tup q1 r1))
        · obtain ⟨st2, s2, r2⟩ := newT s hq (r1.cut lo hi)
          exact k W _ _ st2 s2 (.d r2)
  · exact .inl (lists e)
theorem e_slice (fr : Bool) {lo hi : Option Expr} {ml mh : MO} {p2 : Pos} (g : Gd F X) (ha : PE X e (tE F me)) (hl : PO X lo (tX F RO' ml)) (hu : PO X hi (tX F RO' mh)) :
    PE X (.Subscript e (.Slice lo hi none p2) pos) (tE F (mSl fr me ml mh)) :=
  wkE (pe_slice (SlR.or (show SlR X (rSlL F.K) by rw [g.hK]; exact sl_list) (show SlR X (rSlA F.K) by rw [g.hK]; exact sl_tupA)) ha hl hu) fun σ H Q hh => by
    obtain ⟨W, c, h, z, h', rs, s, e, k⟩ := hh
    unfold mSl at e
    simp only [Option.bind_eq_some_iff, Prod.exists] at e
    obtain ⟨x, h1, e1, l, h2, e2, u, h3, e3, e4⟩ := e
    refine seqX rs s e1 fun W1 H1 v st1 s1 r1 => seqX (rs.mono st1) s1 e2 fun W2 H2 l' st2 s2 r2 => seqX ((rs.mono st1).mono st2) s2 e3 fun W3 H3 u' st3 s3 r3 => ?_
    cases (show l' = l from r2)
    cases (show u' = u from r3)
    exact fSl_ok s3 e4 ((r1.mono st2).mono st3) fun W4 H4 w st4 s4 r4 => k W4 H4 w (((st1.trans st2).trans st3).trans st4) s4 r4
/-- xs[::-1] -/
def mRev (fr : Bool) (m : ME) : ME := fun c h => (m c h).bind fun p => (seqL p.2 p.1).bind fun xs => mk fr p.2 xs.reverse
theorem Rls.reverse {W : Wd} {H : Hp} : ∀ {xs : List CV} {vs : List V}, Rls F W H xs vs → Rls F W H xs.reverse vs.reverse
  | _, _, .nil => .nil
  | _, _, .cons r t => by
    rw [List.reverse_cons, List.reverse_cons]
    exact (Rls.reverse t).append (.cons r .nil)
theorem e_rev (fr : Bool) {k : Nat} {p1 p2 p3 : Pos} (g : Gd F X) (ha : PE X e (tE F me)) : PE X (.Subscript e (.Slice none none (some (.UnaryOp .USub (.Constant (.int 1) k p1) p2)) p3) pos) (tE F (mRev fr me)) :=
  wkE (pe_revL ha) fun σ H Q hh => by
    obtain ⟨W, c, h, z, h', rs, s, e, k⟩ := hh
    unfold mRev at e
    simp only [Option.bind_eq_some_iff, Prod.exists] at e
    obtain ⟨x, h1, e1, xs, e2, e3⟩ := e
    refine seqX rs s e1 fun W1 H1 v st1 s1 r1 => ?_
    obtain ⟨p, vs, rfl, q1, r2⟩ := seqL_rel s1 e2 r1
    refine ⟨p, vs, rfl, g.hK ▸ q1, fun q hq => ?_⟩
    obtain ⟨W2, st2, s2, r3⟩ := mk_ok s1 e3 r2.reverse hq
    exact k W2 _ _ (st1.trans st2) s2 r3

/-! ### calls of built-ins by values -/
def ClS (F : Fx) (g : CH → List CV → Option (CV × CH)) (r : List V → Hp → VK → Prop) : Prop := ∀ (W : Wd) (h : CH) (H : Hp) (xs : List CV) (z : CV) (h' : CH) (us : List V) (Q : VK), Sim F W h H → g h xs = some (z, h') → Rls F W H xs us →
  (∀ W' H' w, Stp W H W' H' → Sim F W' h' H' → Rl F W' H' z w → Q w H') → r us H Q
def mCB (g : CH → List CV → Option (CV × CH)) (r : MA) : ME := fun c h => (r c h).bind fun p => g p.2 p.1
theorem ClS.or {f g : CH → List CV → Option (CV × CH)} {r r' : List V → Hp → VK → Prop} (a : ClS F f r) (b : ClS F g r') : ClS F (fun h x => (f h x).or (g h x)) (fun x H Q => r x H Q ∨ r' x H Q) := by
  intro W h H x z h' u Q s e ru k
  have e : (f h x).or (g h x) = some (z, h') := e
  cases q : f h x with
  | some p => rw [q] at e; cases e; exact .inl (a W h H x z h' u Q s q ru k)
  | none => rw [q] at e; exact .inr (b W h H x z h' u Q s (by simpa using e) ru k)
theorem tCB_of {g : CH → List CV → Option (CV × CH)} {r : List V → Hp → VK → Prop} {m : MA} (o : ClS F g r) {σ : St} {H : Hp} {Q : VK} (hh : tE F (mCB g m) σ H Q) : tCB r (tA F m) σ H Q := by
  obtain ⟨W, c, h, z, h', rs, s, e, k⟩ := hh
  unfold mCB at e
  simp only [Option.bind_eq_some_iff, Prod.exists] at e
  obtain ⟨x, h1, e1, e2⟩ := e
  exact seqX rs s e1 fun W1 H1 u st1 s1 r1 => o W1 h1 H1 x z h' u Q s1 e2 r1 fun W2 H2 w st2 s2 r2 => k W2 H2 w (st1.trans st2) s2 r2
theorem e_cb {x : Str} {id : String} {p : Pos} {r : List V → Hp → VK → Prop} {gg : CH → List CV → Option (CV × CH)} {m : MA} (hc : CallR X (.builtin id) r) (o : ClS F gg r) (hm : X.mg x = none) (hv : bootBuiltins x = some (.builtin id)) (ha : PA X (e :: es) (tA F m))
    (hg : Gl X x := by rfl) (hn : x ≠ "__name__" := by decide) (hdb : (x == ("__debug__" : Str)) = false := by decide)
    (he : starEach (e :: es) X.env = (false, eval e X.env) :: starEach es X.env := by rfl) (hpl : (backTo pos (starEach es X.env)).any (·.1) = false := by rfl) : PE X (.Call (.Name x p) (e :: es) [] pos) (tE F (mCB gg m)) :=
  wkE (pe_callB hc hg hm hv ha hn hdb he hpl) fun _ _ _ => tCB_of o
theorem e_cty {x : Str} {T : String} {p : Pos} {r : List V → Hp → VK → Prop} {gg : CH → List CV → Option (CV × CH)} {m : MA} (hc : CallR X (.type T) r) (o : ClS F gg r) (hm : X.mg x = none) (hv : bootBuiltins x = some (.type T)) (ha : PA X (e :: es) (tA F m))
    (hg : Gl X x := by rfl) (hn : x ≠ "__name__" := by decide) (hdb : (x == ("__debug__" : Str)) = false := by decide)
    (he : starEach (e :: es) X.env = (false, eval e X.env) :: starEach es X.env := by rfl) (hpl : (backTo pos (starEach es X.env)).any (·.1) = false := by rfl) : PE X (.Call (.Name x p) (e :: es) [] pos) (tE F (mCB gg m)) :=
  wkE (pe_callTy hc hg hm hv ha hn hdb he hpl) fun _ _ _ => tCB_of o
/-- len -/
def gLen : CH → List CV → Option (CV × CH)
  | h, [x] => ((seqL h x).or (seqT x)).map fun xs => (.d (.int xs.length), h)
  | _, _ => none
theorem seq_either {W : Wd} {h : CH} {H : Hp} {x : CV} {xs : List CV} {v : V} (s : Sim F W h H) (e : (seqL h x).or (seqT x) = some xs) (r : Rl F W H x v) : ∃ p vs, v = .ref p ∧ (SqL F.K H p vs ∨ SqT F.K H p vs) ∧ Rls F W H xs vs := by
  cases q : seqL h x with
  | some ys =>
    rw [q] at e
    cases e
    obtain ⟨p, vs, rfl, q1, r1⟩ := seqL_rel s q r
    exact ⟨p, vs, rfl, .inl q1, r1⟩
  | none =>
    rw [q] at e
    obtain ⟨p, vs, rfl, q1, r1⟩ := seqT_rel (by simpa using e) r
    exact ⟨p, vs, rfl, .inr q1, r1⟩
theorem Rls.one {W : Wd} {H : Hp} {x : CV} {us : List V} (r : Rls F W H [x] us) : ∃ u, us = [u] ∧ Rl F W H x u := by
  cases r with | cons r1 r2 => cases r2; exact ⟨_, rfl, r1⟩
theorem Rls.two {W : Wd} {H : Hp} {x y : CV} {us : List V} (r : Rls F W H [x, y] us) : ∃ u v, us = [u, v] ∧ Rl F W H x u ∧ Rl F W H y v := by
  cases r with | cons r1 r2 => obtain ⟨v, rfl, r3⟩ := r2.one; exact ⟨_, v, rfl, r1, r3⟩
theorem gLen_ok : ClS F gLen (fun xs H Q => ∃ p ys, xs = [.ref p] ∧ (SqL F.K H p ys ∨ SqT F.K H p ys) ∧ Q (.int ys.length) H) := by
  intro W h H xs z h' us Q s e r k
  unfold gLen at e
  split at e
  · simp only [Option.map_eq_some_iff, Prod.mk.injEq] at e
    obtain ⟨ys, e1, rfl, rfl⟩ := e
    obtain ⟨u, rfl, r1⟩ := r.one
    obtain ⟨p, vs, rfl, q1, r2⟩ := seq_either s e1 r1
    exact ⟨p, vs, rfl, q1, k W H _ .refl s (by rw [r2.length]; exact .d (.int _))⟩
  · cases e
theorem e_len {p : Pos} {m : MA} (g : Gd F X) (hm : X.mg "len" = none) (ha : PA X [e] (tA F m)) (hg : Gl X "len" := by rfl) (he : starEach [e] X.env = (false, eval e X.env) :: starEach [] X.env := by rfl) : PE X (.Call (.Name "len" p) [e] [] pos) (tE F (mCB gLen m)) :=
  e_cb (by rw [g.hK]; exact call_len_seq) gLen_ok hm PySem.boot_len ha hg (he := he) (hpl := rfl)
/-- whole numbers of a list -/
def allI : List CV → Option (List Int)
  | [] => some []
  | .d (.int i) :: r => (allI r).map (i :: ·)
  | _ :: _ => none
theorem allI_rel {W : Wd} {H : Hp} : ∀ {xs : List CV} {ns : List Int} {vs : List V}, allI xs = some ns → Rls F W H xs vs → vs = ns.map V.int
  | [], ns, _, e, r => by
    cases r
    simp only [allI, Option.some.injEq] at e
    subst e; rfl
  | .d (.int i) :: xs, ns, _, e, r => by
    cases r with
    | cons r1 r2 =>
      simp only [allI, Option.map_eq_some_iff] at e
      obtain ⟨ns', e1, rfl⟩ := e
      rw [r1.int, allI_rel e1 r2]; rfl
  | .d .non :: _, _, _, e, _ => by simp [allI] at e
  | .d (.bl _) :: _, _, _, e, _ => by simp [allI] at e
  | .d (.str _) :: _, _, _, e, _ => by simp [allI] at e
  | .d (.txt _) :: _, _, _, e, _ => by simp [allI] at e
  | .d (.tup _) :: _, _, _, e, _ => by simp [allI] at e
  | .d (.lst _) :: _, _, _, e, _ => by simp [allI] at e
  | .ref _ :: _, _, _, e, _ => by simp [allI] at e
  | .s _ :: _, _, _, e, _ => by simp [allI] at e
  | .t _ :: _, _, _, e, _ => by simp [allI] at e
theorem allI_map (ns : List Int) : allI ((ns.map D.int).map .d) = some ns := by
  induction ns with
  | nil => rfl
  | cons n ns ih => simp only [List.map_cons, allI, ih, Option.map_some]
theorem Rls.ints {W : Wd} {H : Hp} : ∀ (ns : List Int), RDs F W H (ns.map D.int) (ns.map V.int)
  | [] => .nil
  | n :: ns => .cons (.int n) (Rls.ints ns)
/-- min of a list of whole numbers; of two -/
def least : Int → List Int → Int
  | i, [] => i
  | i, j :: r => least (if j < i then j else i) r
theorem least_mem : ∀ (l : List Int) (i : Int), least i l ∈ i :: l
  | [], i => by simp [least]
  | j :: r, i => by
    have := least_mem r (if j < i then j else i)
    simp only [least]
    rcases List.mem_cons.mp this with h | h
    · rw [h]; split <;> simp
    · exact List.mem_cons_of_mem _ (List.mem_cons_of_mem _ h)
theorem least_le : ∀ (l : List Int) (i : Int), ∀ y ∈ i :: l, least i l ≤ y
  | [], i, y, h => by simp at h; subst h; exact Int.le_refl _
  | j :: r, i, y, h => by
    simp only [least]
    have ih := least_le r (if j < i then j else i)
    have h0 := ih _ List.mem_cons_self
    have h1 : (if j < i then j else i) ≤ i ∧ (if j < i then j else i) ≤ j := by split <;> omega
    rcases List.mem_cons.mp h with rfl | h
    · exact Int.le_trans h0 h1.1
    · rcases List.mem_cons.mp h with rfl | h
      · exact Int.le_trans h0 h1.2
      · exact ih y (List.mem_cons_of_mem _ h)
def gMin : CH → List CV → Option (CV × CH)
  | h, [x] => (seqL h x).bind fun xs => (allI xs).bind fun ns => match ns with
    | [] => none
    | n :: r => some (.d (.int (least n r)), h)
  | _, _ => none
theorem gMin_ok : ClS F gMin (rMin F.K) := by
  intro W h H xs z h' us Q s e r k
  unfold gMin at e
  split at e
  · simp only [Option.bind_eq_some_iff] at e
    obtain ⟨ys, e1, ns, e2, e3⟩ := e
    obtain ⟨u, rfl, r1⟩ := r.one
    obtain ⟨p, vs, rfl, q1, r2⟩ := seqL_rel s e1 r1
    cases allI_rel e2 r2
    split at e3
    · cases e3
    · rename_i n t
      cases e3
      refine ⟨p, n :: t, rfl, q1, by simp, fun m hm hl => ?_⟩
      have e : least n t = m := Int.le_antisymm (least_le t n m hm) (hl _ (least_mem t n))
      rw [e] at k
      exact k W H _ .refl s (.d (.int _))
  · cases e
def gMin2 : CH → List CV → Option (CV × CH)
  | h, [.d (.int i), .d (.int j)] => some (.d (.int (if j < i then j else i)), h)
  | _, _ => none
theorem gMin2_ok : ClS F gMin2 (fun xs H Q => ∃ i j, xs = [.int i, .int j] ∧ Q (.int (if j < i then j else i)) H) := by
  intro W h H xs z h' us Q s e r k
  unfold gMin2 at e
  split at e
  · rename_i i j
    cases e
    obtain ⟨u, v, rfl, r1, r2⟩ := r.two
    exact ⟨i, j, by rw [r1.int, r2.int], k W H _ .refl s (.d (.int _))⟩
  · cases e
theorem e_min {p : Pos} {m : MA} (g : Gd F X) (hm : X.mg "min" = none) (ha : PA X [e] (tA F m)) (hg : Gl X "min" := by rfl) (he : starEach [e] X.env = (false, eval e X.env) :: starEach [] X.env := by rfl) : PE X (.Call (.Name "min" p) [e] [] pos) (tE F (mCB gMin m)) :=
  e_cb (by rw [g.hK]; exact cr_min g.calm) gMin_ok hm (by decide +kernel) ha hg (he := he) (hpl := rfl)
theorem e_min2 {p : Pos} {m : MA} (g : Gd F X) (hm : X.mg "min" = none) (ha : PA X [a, b] (tA F m)) (hg : Gl X "min" := by rfl) (he : starEach [a, b] X.env = (false, eval a X.env) :: starEach [b] X.env := by rfl) (hpl : (backTo pos (starEach [b] X.env)).any (·.1) = false := by rfl) :
    PE X (.Call (.Name "min" p) [a, b] [] pos) (tE F (mCB gMin2 m)) :=
  e_cb (call_min2 g.calm) gMin2_ok hm (by decide +kernel) ha hg (he := he) (hpl := hpl)
def gAbs : CH → List CV → Option (CV × CH)
  | h, [.d (.int i)] => some (.d (.int (if i < 0 then -i else i)), h)
  | _, _ => none
theorem gAbs_ok : ClS F gAbs (fun xs H Q => ∃ i, xs = [.int i] ∧ Q (.int (if i < 0 then -i else i)) H) := by
  intro W h H xs z h' us Q s e r k
  unfold gAbs at e
  split at e
  · rename_i i
    cases e
    obtain ⟨u, rfl, r1⟩ := r.one
    exact ⟨i, by rw [r1.int], k W H _ .refl s (.d (.int _))⟩
  · cases e
theorem e_abs {p : Pos} {m : MA} (g : Gd F X) (hm : X.mg "abs" = none) (ha : PA X [e] (tA F m)) (hg : Gl X "abs" := by rfl) (he : starEach [e] X.env = (false, eval e X.env) :: starEach [] X.env := by rfl) : PE X (.Call (.Name "abs" p) [e] [] pos) (tE F (mCB gAbs m)) :=
  e_cb call_abs gAbs_ok hm (by decide +kernel) ha hg (he := he) (hpl := rfl)
/-- list(x) -/
def gList (fr : Bool) : CH → List CV → Option (CV × CH)
  | h, [x] => ((seqL h x).or (seqT x)).bind fun xs => mk fr h xs
  | _, _ => none
theorem gList_ok {fr : Bool} : ClS F (gList fr) (fun xs H Q => ∃ p ys, xs = [.ref p] ∧ (SqL F.K H p ys ∨ SqT F.K H p ys) ∧ ∀ l, H l = none → Q (.ref l) (upd H l (.lst ys))) := by
  intro W h H xs z h' us Q s e r k
  unfold gList at e
  split at e
  · simp only [Option.bind_eq_some_iff] at e
    obtain ⟨ys, e1, e2⟩ := e
    obtain ⟨u, rfl, r1⟩ := r.one
    obtain ⟨p, vs, rfl, q1, r2⟩ := seq_either s e1 r1
    refine ⟨p, vs, rfl, q1, fun l hl => ?_⟩
    obtain ⟨W2, st2, s2, r3⟩ := mk_ok s e2 r2 hl
    exact k W2 _ _ st2 s2 r3
  · cases e
theorem e_list (fr : Bool) {p : Pos} {m : MA} (g : Gd F X) (hm : X.mg "list" = none) (ha : PA X [e] (tA F m)) (hg : Gl X "list" := by rfl) (he : starEach [e] X.env = (false, eval e X.env) :: starEach [] X.env := by rfl) : PE X (.Call (.Name "list" p) [e] [] pos) (tE F (mCB (gList fr) m)) :=
  e_cty (by rw [g.hK]; exact call_list_of) gList_ok hm PyProof.Rows.boot_list ha hg (he := he) (hpl := rfl)
/-- list(range(..)) -/
def rgD (lo hi : Int) : List Int := (List.range (hi - lo).toNat).map fun i => lo + (i : Nat)
def okRg (lo hi : Int) : Bool := okI lo && (okI hi && decide ((hi - lo).toNat ≤ lim))
theorem okRg_ok {lo hi : Int} (h : okRg lo hi = true) : RgOk lo hi := by
  simp only [okRg, Bool.and_eq_true, decide_eq_true_eq] at h
  have h1 := okI_of h.1
  have h2 := okI_of h.2.1
  exact ⟨by omega, by omega, by omega, by omega, h.2.2⟩
theorem ofInts (ns : List Int) {W : Wd} {H : Hp} : Rls F W H ((ns.map D.int).map .d) (ns.map V.int) := .ofD (Rls.ints ns)
def mListRg (fr : Bool) (ml mh : ME) : ME := fun c h => (ml c h).bind fun p => (mh c p.2).bind fun q => match p.1, q.1 with
  | .d (.int i), .d (.int j) => if okRg i j then mk fr q.2 (((rgD i j).map D.int).map .d) else none
  | _, _ => none
theorem e_listRg1 (fr : Bool) {p p2 pos2 : Pos} (g : Gd F X) (hm : X.mg "list" = none) (hm2 : X.mg "range" = none) (ha : PE X a (tE F ma)) (hg : Gl X "list" := by rfl) (hg2 : Gl X "range" := by rfl)
    (na : starEach [a] X.env = (false, eval a X.env) :: starEach [] X.env := by rfl) (na2 : starEach [.Call (.Name "range" p2) [a] [] pos2] X.env = (false, eval (.Call (.Name "range" p2) [a] [] pos2) X.env) :: starEach [] X.env := by rfl) :
    PE X (.Call (.Name "list" p) [.Call (.Name "range" p2) [a] [] pos2] [] pos) (tE F (mListRg fr (mC (.int 0)) ma)) :=
  wkE (pe_listRg g.calm hg hm (prg_1 hg2 hm2 ha na) na2) fun σ H Q hh => by
    obtain ⟨W, c, h, z, h', rs, s, e, k⟩ := hh
    unfold mListRg at e
    simp only [mC, Option.bind_eq_some_iff, Prod.exists, Option.some.injEq, Prod.mk.injEq] at e
    obtain ⟨x, h1, ⟨rfl, rfl⟩, y, h2, e2, e3⟩ := e
    refine seqX rs s e2 fun W1 H1 v st1 s1 r1 => ?_
    split at e3
    · rename_i i j q1
      cases q1
      split at e3
      · rename_i ok
        refine ⟨j, r1.int, okRg_ok ok, fun q hq => ?_⟩
        have r2 : Rls F W1 H1 (((rgD 0 j).map D.int).map .d) (rgV 0 j) := by
          have := ofInts (F := F) (rgD 0 j) (W := W1) (H := H1)
          rw [show rgV 0 j = (rgD 0 j).map V.int by unfold rgV rgD; rw [List.map_map]; rfl]
          exact this
        obtain ⟨W2, st2, s2, r3⟩ := mk_ok s1 e3 r2 hq
        exact k W2 _ _ (st1.trans st2) s2 r3
      · cases e3
    · cases e3
theorem e_listRg2 (fr : Bool) {p p2 pos2 : Pos} (g : Gd F X) (hm : X.mg "list" = none) (hm2 : X.mg "range" = none) (ha : PE X a (tE F ma)) (hb : PE X b (tE F mb)) (hg : Gl X "list" := by rfl) (hg2 : Gl X "range" := by rfl)
    (na : starEach [a, b] X.env = (false, eval a X.env) :: starEach [b] X.env := by rfl) (nb : starEach [b] X.env = (false, eval b X.env) :: starEach [] X.env := by rfl) (hp : (backTo pos2 (starEach [b] X.env)).any (·.1) = false := by rfl)
    (na2 : starEach [.Call (.Name "range" p2) [a, b] [] pos2] X.env = (false, eval (.Call (.Name "range" p2) [a, b] [] pos2) X.env) :: starEach [] X.env := by rfl) :
    PE X (.Call (.Name "list" p) [.Call (.Name "range" p2) [a, b] [] pos2] [] pos) (tE F (mListRg fr ma mb)) :=
  wkE (pe_listRg g.calm hg hm (prg_2 hg2 hm2 ha hb na nb hp) na2) fun σ H Q hh => by
    obtain ⟨W, c, h, z, h', rs, s, e, k⟩ := hh
    unfold mListRg at e
    simp only [Option.bind_eq_some_iff, Prod.exists] at e
    obtain ⟨x, h1, e1, y, h2, e2, e3⟩ := e
    refine seqX rs s e1 fun W0 H0 u st0 s0 r0 => seqX (rs.mono st0) s0 e2 fun W1 H1 v st1 s1 r1 => ?_
    split at e3
    · rename_i i j
      split at e3
      · rename_i ok
        refine ⟨i, j, r0.int, r1.int, okRg_ok ok, fun q hq => ?_⟩
        have r2 : Rls F W1 H1 (((rgD i j).map D.int).map .d) (rgV i j) := by
          have := ofInts (F := F) (rgD i j) (W := W1) (H := H1)
          rw [show rgV i j = (rgD i j).map V.int by unfold rgV rgD; rw [List.map_map]; rfl]
          exact this
        obtain ⟨W2, st2, s2, r3⟩ := mk_ok s1 e3 r2 hq
        exact k W2 _ _ ((st0.trans st1).trans st2) s2 r3
      · cases e3
    · cases e3
/-- sorted -/
def ins (i : Int) : List Int → List Int
  | [] => [i]
  | j :: r => if i ≤ j then i :: j :: r else j :: ins i r
def isort : List Int → List Int
  | [] => []
  | i :: r => ins i (isort r)
theorem ins_perm (i : Int) : ∀ l, (ins i l).Perm (i :: l)
  | [] => .refl _
  | j :: r => by
    unfold ins
    split
    · exact .refl _
    · exact ((ins_perm i r).cons j).trans (.swap i j r)
theorem isort_perm : ∀ l, (isort l).Perm l
  | [] => .refl _
  | i :: r => (ins_perm i _).trans ((isort_perm r).cons i)
theorem ins_sorted (i : Int) : ∀ l : List Int, l.Pairwise (· ≤ ·) → (ins i l).Pairwise (· ≤ ·)
  | [], _ => by simp [ins]
  | j :: r, h => by
    unfold ins
    have h' := List.pairwise_cons.mp h
    split
    · rename_i q
      refine List.pairwise_cons.mpr ⟨fun x hx => ?_, h⟩
      rcases List.mem_cons.mp hx with rfl | hx
      · exact q
      · exact Int.le_trans q (h'.1 x hx)
    · rename_i q
      refine List.pairwise_cons.mpr ⟨fun x hx => ?_, ins_sorted i r h'.2⟩
      rcases List.mem_cons.mp ((ins_perm i r).mem_iff.mp hx) with rfl | hx
      · omega
      · exact h'.1 x hx
theorem isort_sorted : ∀ l : List Int, (isort l).Pairwise (· ≤ ·)
  | [] => .nil
  | i :: r => ins_sorted i _ (isort_sorted r)
theorem isort_unique {l m : List Int} (p : m.Perm l) (s : m.Pairwise (· ≤ ·)) : m = isort l :=
  List.Perm.eq_of_pairwise (le := (· ≤ ·)) (fun a b _ _ h1 h2 => Int.le_antisymm h1 h2) s (isort_sorted l) (p.trans (isort_perm l).symm)
def gSorted (fr : Bool) : CH → List CV → Option (CV × CH)
  | h, [x] => (seqL h x).bind fun xs => (allI xs).bind fun ns => mk fr h (((isort ns).map D.int).map .d)
  | _, _ => none
theorem gSorted_ok {fr : Bool} : ClS F (gSorted fr) (rSortedI F.K) := by
  intro W h H xs z h' us Q s e r k
  unfold gSorted at e
  split at e
  · simp only [Option.bind_eq_some_iff] at e
    obtain ⟨ys, e1, ns, e2, e3⟩ := e
    obtain ⟨u, rfl, r1⟩ := r.one
    obtain ⟨p, vs, rfl, q1, r2⟩ := seqL_rel s e1 r1
    cases allI_rel e2 r2
    refine ⟨p, ns, rfl, q1, fun ns' q hp hs hq => ?_⟩
    cases isort_unique hp hs
    obtain ⟨W2, st2, s2, r3⟩ := mk_ok s e3 (ofInts _) hq
    exact k W2 _ _ st2 s2 r3
  · cases e
theorem e_sorted (fr : Bool) {p : Pos} {m : MA} (g : Gd F X) (hm : X.mg "sorted" = none) (ha : PA X [e] (tA F m)) (hg : Gl X "sorted" := by rfl) (he : starEach [e] X.env = (false, eval e X.env) :: starEach [] X.env := by rfl) : PE X (.Call (.Name "sorted" p) [e] [] pos) (tE F (mCB (gSorted fr) m)) :=
  e_cb (by rw [g.hK]; exact cr_sortedI) gSorted_ok hm PyProof.Rows.boot_sorted ha hg (he := he) (hpl := rfl)
/-- any, all of truths; sum of whole numbers -/
def allB : List CV → Option (List Bool)
  | [] => some []
  | .d (.bl i) :: r => (allB r).map (i :: ·)
  | _ :: _ => none
theorem allB_rel {W : Wd} {H : Hp} : ∀ {xs : List CV} {ns : List Bool} {vs : List V}, allB xs = some ns → Rls F W H xs vs → vs = ns.map V.bl
  | [], ns, _, e, r => by
    cases r
    simp only [allB, Option.some.injEq] at e
    subst e; rfl
  | .d (.bl i) :: xs, ns, _, e, r => by
    cases r with
    | cons r1 r2 =>
      simp only [allB, Option.map_eq_some_iff] at e
      obtain ⟨ns', e1, rfl⟩ := e
      rw [r1.bl, allB_rel e1 r2]; rfl
  | .d .non :: _, _, _, e, _ => by simp [allB] at e
  | .d (.int _) :: _, _, _, e, _ => by simp [allB] at e
  | .d (.str _) :: _, _, _, e, _ => by simp [allB] at e
  | .d (.txt _) :: _, _, _, e, _ => by simp [allB] at e
  | .d (.tup _) :: _, _, _, e, _ => by simp [allB] at e
  | .d (.lst _) :: _, _, _, e, _ => by simp [allB] at e
  | .ref _ :: _, _, _, e, _ => by simp [allB] at e
  | .s _ :: _, _, _, e, _ => by simp [allB] at e
  | .t _ :: _, _, _, e, _ => by simp [allB] at e
theorem allB_map (ns : List Bool) : allB ((ns.map D.bl).map .d) = some ns := by
  induction ns with
  | nil => rfl
  | cons n ns ih => simp only [List.map_cons, allB, ih, Option.map_some]
def gBs (f : List Bool → Bool) : CH → List CV → Option (CV × CH)
  | h, [x] => (seqL h x).bind fun xs => (allB xs).map fun bs => (.d (.bl (f bs)), h)
  | _, _ => none
theorem gBs_ok {f : List Bool → Bool} : ClS F (gBs f) (fun vs H Q => ∃ (a : Addr) (bs : List Bool), vs = [V.ref a] ∧ SqL F.K H a (bs.map V.bl) ∧ Q (.bl (f bs)) H) := by
  intro W h H xs z h' us Q s e r k
  unfold gBs at e
  split at e
  · simp only [Option.bind_eq_some_iff, Option.map_eq_some_iff, Prod.mk.injEq] at e
    obtain ⟨ys, e1, ns, e2, rfl, rfl⟩ := e
    obtain ⟨u, rfl, r1⟩ := r.one
    obtain ⟨p, vs, rfl, q1, r2⟩ := seqL_rel s e1 r1
    cases allB_rel e2 r2
    exact ⟨p, ns, rfl, q1, k W H _ .refl s (.d (.bl _))⟩
  · cases e
abbrev gAny := gBs fun l => l.any id
abbrev gAll := gBs fun l => l.all id
theorem e_any {p : Pos} {m : MA} (g : Gd F X) (hm : X.mg "any" = none) (ha : PA X [e] (tA F m)) (hg : Gl X "any" := by rfl) (he : starEach [e] X.env = (false, eval e X.env) :: starEach [] X.env := by rfl) : PE X (.Call (.Name "any" p) [e] [] pos) (tE F (mCB gAny m)) :=
  e_cb (cr_any g.calm) (by rw [← g.hK]; exact gBs_ok) hm (by decide +kernel) ha hg (he := he) (hpl := rfl)
theorem e_all {p : Pos} {m : MA} (g : Gd F X) (hm : X.mg "all" = none) (ha : PA X [e] (tA F m)) (hg : Gl X "all" := by rfl) (he : starEach [e] X.env = (false, eval e X.env) :: starEach [] X.env := by rfl) : PE X (.Call (.Name "all" p) [e] [] pos) (tE F (mCB gAll m)) :=
  e_cb (cr_all g.calm) (by rw [← g.hK]; exact gBs_ok) hm (by decide +kernel) ha hg (he := he) (hpl := rfl)
def gSum : CH → List CV → Option (CV × CH)
  | h, [x] => (seqL h x).bind fun xs => (allI xs).map fun ns => (.d (.int ns.sum), h)
  | _, _ => none
theorem gSum_ok : ClS F gSum (rSum F.K) := by
  intro W h H xs z h' us Q s e r k
  unfold gSum at e
  split at e
  · simp only [Option.bind_eq_some_iff, Option.map_eq_some_iff, Prod.mk.injEq] at e
    obtain ⟨ys, e1, ns, e2, rfl, rfl⟩ := e
    obtain ⟨u, rfl, r1⟩ := r.one
    obtain ⟨p, vs, rfl, q1, r2⟩ := seqL_rel s e1 r1
    cases allI_rel e2 r2
    exact ⟨p, ns, rfl, q1, k W H _ .refl s (.d (.int _))⟩
  · cases e
theorem e_sum {p : Pos} {m : MA} (g : Gd F X) (hm : X.mg "sum" = none) (ha : PA X [e] (tA F m)) (hg : Gl X "sum" := by rfl) (he : starEach [e] X.env = (false, eval e X.env) :: starEach [] X.env := by rfl) : PE X (.Call (.Name "sum" p) [e] [] pos) (tE F (mCB gSum m)) :=
  e_cb (by rw [g.hK]; exact cr_sum g.calm) gSum_ok hm (by decide +kernel) ha hg (he := he) (hpl := rfl)
end
end Mc


namespace Mc
open PySem L2
section
variable {F : Fx} {X : Cx} {a b e : Expr} {es : List Expr} {pos : Pos} {ma mb me : ME}

/-! ### methods of lists -/
def MtS (F : Fx) (f : CH → CV → List CV → Option (CV × CH)) (r : V → List V → Hp → VK → Prop) : Prop := ∀ (W : Wd) (h : CH) (H : Hp) (x : CV) (xs : List CV) (z : CV) (h' : CH) (u : V) (us : List V) (Q : VK), Sim F W h H → f h x xs = some (z, h') → Rl F W H x u → Rls F W H xs us →
  (∀ W' H' w, Stp W H W' H' → Sim F W' h' H' → Rl F W' H' z w → Q w H') → r u us H Q
def mMt (f : CH → CV → List CV → Option (CV × CH)) (mo : ME) (r : MA) : ME := fun c h => (mo c h).bind fun p => if (seqL p.2 p.1).isSome = true then (r c p.2).bind fun q => f q.2 p.1 q.1 else none
theorem e_mt {o : Expr} {name : Str} {id : String} {apos cpos : Pos} {f : CH → CV → List CV → Option (CV × CH)} {r : V → List V → Hp → VK → Prop} {m : MA} (g : Gd F X) (slot : Slot "list" name id) (hty : typeOf (.builtin id) = pure (.type "method_descriptor")) (hm : MtR X id r) (os : MtS F f r)
    (ho : PE X o (tE F me)) (ha : PA X (e :: es) (tA F m)) (hbase : attributeBase o name X.env (eval o X.env) = eval o X.env := by rfl)
    (hfew : ((backTo cpos (starEach (e :: es) X.env)).all (fun x => !x.1) && (backToKw cpos (keywordEach [] X.env)).all (fun x => x.1.isSome) && decide ((e :: es).length + ([] : List Keyword).length + (if ([] : List Keyword).isEmpty then 0 else 1) < 30)) = true := by rfl)
    (hline : (apos.endLine == cpos.line) = true := by rfl) (hs : starEach (e :: es) X.env = (false, eval e X.env) :: starEach es X.env := by rfl) (hplain : (backTo cpos (starEach es X.env)).any (·.1) = false := by rfl) :
    PE X (.Call (.Attribute o name apos) (e :: es) [] cpos) (tE F (mMt f me m)) :=
  wkE (pe_bm PySem.F.plainAttrs_list slot hty hm ho ha hbase hfew hline hs hplain) fun σ H Q hh => by
    obtain ⟨W, c, h, z, h', rs, s, e, k⟩ := hh
    unfold mMt at e
    simp only [Option.bind_eq_some_iff, Prod.exists] at e
    obtain ⟨x, h1, e1, e2⟩ := e
    refine seqX rs s e1 fun W1 H1 u st1 s1 r1 => ?_
    split at e2
    · rename_i hl
      obtain ⟨ys, hy⟩ := Option.isSome_iff_exists.mp hl
      obtain ⟨p, vs, rfl, q1, r2⟩ := seqL_rel s1 hy r1
      refine ⟨.inl ⟨rfl, vs, g.hK ▸ q1⟩, ?_⟩
      simp only [Option.bind_eq_some_iff, Prod.exists] at e2
      obtain ⟨xs, h2, e3, e4⟩ := e2
      exact seqX (rs.mono st1) s1 e3 fun W2 H2 us st2 s2 r3 => os W2 h2 H2 x xs z h' _ us Q s2 e4 (r1.mono st2) r3 fun W3 H3 w st3 s3 r4 => k W3 H3 w ((st1.trans st2).trans st3) s3 r4
    · cases e2
def mMt0 (f : CH → CV → List CV → Option (CV × CH)) (mo : ME) : ME := fun c h => (mo c h).bind fun p => f p.2 p.1 []
theorem e_mt0 {o : Expr} {name : Str} {id : String} {apos cpos : Pos} {f : CH → CV → List CV → Option (CV × CH)} {r : V → List V → Hp → VK → Prop} (g : Gd F X) (slot : Slot "list" name id) (hty : typeOf (.builtin id) = pure (.type "method_descriptor")) (hm : MtR X id r) (os : MtS F f r) (hl : ∀ h x xs z, f h x xs = some z → (seqL h x).isSome = true)
    (ho : PE X o (tE F me)) (hbase : attributeBase o name X.env (eval o X.env) = eval o X.env := by rfl) (hline : (apos.endLine == cpos.line) = true := by rfl) :
    PE X (.Call (.Attribute o name apos) [] [] cpos) (tE F (mMt0 f me)) :=
  wkE (pe_bm0 PySem.F.plainAttrs_list slot hty hm ho hbase hline) fun σ H Q hh => by
    obtain ⟨W, c, h, z, h', rs, s, e, k⟩ := hh
    unfold mMt0 at e
    simp only [Option.bind_eq_some_iff, Prod.exists] at e
    obtain ⟨x, h1, e1, e2⟩ := e
    refine seqX rs s e1 fun W1 H1 u st1 s1 r1 => ?_
    obtain ⟨ys, hy⟩ := Option.isSome_iff_exists.mp (hl _ _ _ _ e2)
    obtain ⟨p, vs, rfl, q1, r2⟩ := seqL_rel s1 hy r1
    exact ⟨.inl ⟨rfl, vs, g.hK ▸ q1⟩, os W1 h1 H1 x [] z h' _ [] Q s1 e2 r1 .nil fun W2 H2 w st2 s2 r4 => k W2 H2 w (st1.trans st2) s2 r4⟩
/-- a live list and its place -/
theorem live {W : Wd} {h : CH} {H : Hp} {n : Nat} {xs : List CV} {u : V} (s : Sim F W h H) (q : h[n]? = some (some (.lst xs))) (r : Rl F W H (.ref n) u) : ∃ p vs, u = .ref p ∧ W.mu[n]? = some p ∧ H p = some (.lst vs) ∧ Rls F W H xs vs := by
  cases r with
  | @ref _ p m =>
    obtain ⟨a, q1, _, _, vs, q4, r⟩ := s.obj _ _ q
    rw [m] at q1
    cases q1
    exact ⟨p, vs, rfl, m, q4, r⟩
/-- .. written -/
theorem wr {W : Wd} {h : CH} {H : Hp} {n : Nat} {p : Addr} {xs ys : List CV} {vs : List V} (s : Sim F W h H) (q : h[n]? = some (some (.lst xs))) (m : W.mu[n]? = some p) (r : Rls F W H ys vs) :
    Stp W H W (upd H p (.lst vs)) ∧ Sim F W (h.set n (some (.lst ys))) (upd H p (.lst vs)) :=
  ⟨s.stpWrite q m, s.write q m ⟨vs, upd_same, r.mono (s.stpWrite q m)⟩⟩
def fAppend : CH → CV → List CV → Option (CV × CH)
  | h, .ref n, [y] => match h[n]? with
    | some (some (.lst xs)) => if xs.length < lim then some (.d .non, h.set n (some (.lst (xs ++ [y])))) else none
    | _ => none
  | _, _, _ => none
theorem fAppend_ok : MtS F fAppend rAppend := by
  intro W h H x xs z h' u us Q s e ru rs k
  unfold fAppend at e
  split at e
  · split at e
    · rename_i n y _ xs q
      split at e
      · rename_i hl
        cases e
        obtain ⟨p, vs, rfl, m, q1, r1⟩ := live s q ru
        obtain ⟨w, rfl, r2⟩ := rs.one
        obtain ⟨st, s'⟩ := wr s q m (r1.append (.cons r2 .nil))
        exact ⟨p, vs, w, rfl, rfl, q1, by rw [← r1.length]; exact hl, k W _ _ st s' (.d .non)⟩
      · cases e
    · cases e
  · cases e
def fExtend : CH → CV → List CV → Option (CV × CH)
  | h, .ref n, [y] => match h[n]? with
    | some (some (.lst xs)) => (seqM h y).bind fun ys => if xs.length + ys.length ≤ lim then some (.d .non, h.set n (some (.lst (xs ++ ys)))) else none
    | _ => none
  | _, _, _ => none
theorem fExtend_ok : MtS F fExtend rExtend := by
  intro W h H x xs z h' u us Q s e ru rs k
  unfold fExtend at e
  split at e
  · split at e
    · rename_i n y _ xs q
      simp only [Option.bind_eq_some_iff] at e
      obtain ⟨ys, e1, e2⟩ := e
      split at e2
      · rename_i hl
        cases e2
        obtain ⟨p, vs, rfl, m, q1, r1⟩ := live s q ru
        obtain ⟨w, rfl, r2⟩ := rs.one
        obtain ⟨p2, ws, rfl, q2, r3⟩ := seqM_rel s e1 r2
        obtain ⟨st, s'⟩ := wr s q m (r1.append r3)
        exact ⟨p, p2, vs, ws, rfl, rfl, q1, q2, by rw [← r1.length, ← r3.length]; exact hl, k W _ _ st s' (.d .non)⟩
      · cases e2
    · cases e
  · cases e
def fInsert : CH → CV → List CV → Option (CV × CH)
  | h, .ref n, [.d (.int i), y] => match h[n]? with
    | some (some (.lst xs)) => if xs.length < lim ∧ 0 ≤ i ∧ okI i = true then some (.d .non, h.set n (some (.lst (xs.take i.toNat ++ [y] ++ xs.drop i.toNat)))) else none
    | _ => none
  | _, _, _ => none
abbrev rInsert : V → List V → Hp → VK → Prop := fun x vs H Q => ∃ (l : Addr) (xs : List V) (i : Int) (y : V), x = .ref l ∧ vs = [.int i, y] ∧ H l = some (.lst xs) ∧ xs.length < sizeLine ∧ 0 ≤ i ∧ i < 2 ^ 63 ∧ Q .non (upd H l (.lst (xs.take i.toNat ++ [y] ++ xs.drop i.toNat)))
theorem fInsert_ok : MtS F fInsert rInsert := by
  intro W h H x xs z h' u us Q s e ru rs k
  unfold fInsert at e
  split at e
  · split at e
    · rename_i n i y _ xs q
      split at e
      · rename_i hl
        cases e
        obtain ⟨p, vs, rfl, m, q1, r1⟩ := live s q ru
        obtain ⟨w, w2, rfl, r2, r3⟩ := rs.two
        obtain ⟨st, s'⟩ := wr s q m (((r1.take i.toNat).append (.cons r3 .nil)).append (r1.drop i.toNat))
        exact ⟨p, vs, i, w2, rfl, by rw [r2.int], q1, by rw [← r1.length]; exact hl.1, hl.2.1, by have := okI_of hl.2.2; omega, k W _ _ st s' (.d .non)⟩
      · cases e
    · cases e
  · cases e
def fPop : CH → CV → List CV → Option (CV × CH)
  | h, .ref n, [] => match h[n]? with
    | some (some (.lst xs)) => (xs[xs.length - 1]?).map fun y => (y, h.set n (some (.lst xs.dropLast)))
    | _ => none
  | _, _, _ => none
theorem Rls.dropLast {W : Wd} {H : Hp} {xs : List CV} {vs : List V} (r : Rls F W H xs vs) : Rls F W H xs.dropLast vs.dropLast := by
  rw [List.dropLast_eq_take, List.dropLast_eq_take, r.length]
  exact r.take _
theorem fPop_ok : MtS F fPop rPop := by
  intro W h H x xs z h' u us Q s e ru rs k
  unfold fPop at e
  split at e
  · split at e
    · rename_i n _ xs q
      simp only [Option.map_eq_some_iff, Prod.mk.injEq] at e
      obtain ⟨y, e1, rfl, rfl⟩ := e
      obtain ⟨p, vs, rfl, m, q1, r1⟩ := live s q ru
      cases rs
      obtain ⟨w, q2, r2⟩ := r1.get e1
      obtain ⟨st, s'⟩ := wr s q m r1.dropLast
      exact ⟨p, vs, w, rfl, rfl, q1, by rw [← r1.length]; exact q2, k W _ _ st s' (r2.mono st)⟩
    · cases e
  · cases e
def fPopAt : CH → CV → List CV → Option (CV × CH)
  | h, .ref n, [.d (.int i)] => match h[n]? with
    | some (some (.lst xs)) => (ixN xs.length i).bind fun j => if okI i = true then (xs[j]?).map fun y => (y, h.set n (some (.lst (xs.eraseIdx j)))) else none
    | _ => none
  | _, _, _ => none
theorem Rls.eraseIdx {W : Wd} {H : Hp} : ∀ {xs : List CV} {vs : List V} (n : Nat), Rls F W H xs vs → Rls F W H (xs.eraseIdx n) (vs.eraseIdx n)
  | _, _, _, .nil => .nil
  | _, _, 0, .cons _ t => t
  | _, _, n + 1, .cons r t => .cons r (Rls.eraseIdx n t)
theorem fPopAt_ok : MtS F fPopAt rPopAt := by
  intro W h H x xs z h' u us Q s e ru rs k
  unfold fPopAt at e
  split at e
  · split at e
    · rename_i n i _ xs q
      simp only [Option.bind_eq_some_iff] at e
      obtain ⟨j, e1, e2⟩ := e
      split at e2
      · rename_i hl
        simp only [Option.map_eq_some_iff, Prod.mk.injEq] at e2
        obtain ⟨y, e3, rfl, rfl⟩ := e2
        obtain ⟨p, vs, rfl, m, q1, r1⟩ := live s q ru
        obtain ⟨w, rfl, r2⟩ := rs.one
        obtain ⟨w2, q2, r3⟩ := r1.get e3
        obtain ⟨st, s'⟩ := wr s q m (r1.eraseIdx j)
        exact ⟨p, vs, i, j, w2, rfl, by rw [r2.int], q1, by have := okI_of hl; omega, by have := okI_of hl; omega, by rw [← r1.length]; exact (ixN_seq e1).1, q2, k W _ _ st s' (r3.mono st)⟩
      · cases e2
    · cases e
  · cases e
def fReverse : CH → CV → List CV → Option (CV × CH)
  | h, .ref n, [] => match h[n]? with
    | some (some (.lst xs)) => some (.d .non, h.set n (some (.lst xs.reverse)))
    | _ => none
  | _, _, _ => none
theorem fReverse_ok : MtS F fReverse rReverse := by
  intro W h H x xs z h' u us Q s e ru rs k
  unfold fReverse at e
  split at e
  · split at e
    · rename_i n _ xs q
      cases e
      obtain ⟨p, vs, rfl, m, q1, r1⟩ := live s q ru
      cases rs
      obtain ⟨st, s'⟩ := wr s q m r1.reverse
      exact ⟨p, vs, rfl, rfl, q1, k W _ _ st s' (.d .non)⟩
    · cases e
  · cases e
def fClear : CH → CV → List CV → Option (CV × CH)
  | h, .ref n, [] => match h[n]? with
    | some (some (.lst xs)) => some (.d .non, h.set n (some (.lst [])))
    | _ => none
  | _, _, _ => none
theorem fClear_ok : MtS F fClear rClear := by
  intro W h H x xs z h' u us Q s e ru rs k
  unfold fClear at e
  split at e
  · split at e
    · rename_i n _ xs q
      cases e
      obtain ⟨p, vs, rfl, m, q1, r1⟩ := live s q ru
      cases rs
      obtain ⟨st, s'⟩ := wr (ys := []) (vs := []) s q m .nil
      exact ⟨p, vs, rfl, rfl, q1, k W _ _ st s' (.d .non)⟩
    · cases e
  · cases e
/-- xs.remove(k), whole numbers -/
def fRemove : CH → CV → List CV → Option (CV × CH)
  | h, .ref n, [.d (.int k)] => match h[n]? with
    | some (some (.lst xs)) => (allI xs).bind fun ns => if k ∈ ns then some (.d .non, h.set n (some (.lst (((ns.erase k).map D.int).map .d)))) else none
    | _ => none
  | _, _, _ => none
theorem erase_at {ns : List Int} {k : Int} (h : k ∈ ns) : ∃ j, ns[j]? = some k ∧ (∀ m : Nat, m < j → ns[m]? ≠ some k) ∧ ns.erase k = ns.eraseIdx j := by
  induction ns with
  | nil => cases h
  | cons n ns ih =>
    by_cases e : n = k
    · subst e
      exact ⟨0, rfl, fun m hm => absurd hm (Nat.not_lt_zero _), by simp⟩
    · obtain ⟨j, h1, h2, h3⟩ := ih ((List.mem_cons.mp h).resolve_left fun q => e q.symm)
      refine ⟨j + 1, by simpa using h1, fun m hm => ?_, ?_⟩
      · cases m with
        | zero => simpa using e
        | succ m => simpa using h2 m (by omega)
      · rw [List.erase_cons_tail (by simpa using e), h3]; rfl
theorem fRemove_ok : MtS F fRemove rRemI := by
  intro W h H x xs z h' u us Q s e ru rs k
  unfold fRemove at e
  split at e
  · split at e
    · rename_i n i _ xs q
      simp only [Option.bind_eq_some_iff] at e
      obtain ⟨ns, e1, e2⟩ := e
      split at e2
      · rename_i hl
        cases e2
        obtain ⟨p, vs, rfl, m, q1, r1⟩ := live s q ru
        obtain ⟨w, rfl, r2⟩ := rs.one
        cases allI_rel e1 r1
        obtain ⟨j, h1, h2, h3⟩ := erase_at hl
        obtain ⟨st, s'⟩ := wr s q m (ofInts (F := F) (ns.erase i) (W := W) (H := H))
        exact ⟨p, ns, i, j, rfl, by rw [r2.int], q1, h1, h2, by rw [← h3]; exact k W _ _ st s' (.d .non)⟩
      · cases e2
    · cases e
  · cases e
/-- xs.index(x): it is there -/
def fIndex (h : CH) (x : CV) : List CV → Option (CV × CH)
  | [y] => (cont 6 h x).bind fun a => (cont 6 h y).bind fun b => match a with
    | .lst xs => if (okDs 7 xs && okD 8 b) = true then (ixD b xs).map fun j => (.d (.int (j : Nat)), h) else none
    | _ => none
  | _ => none
where
  ixD (b : D) : List D → Option Nat
    | [] => none
    | x :: xs => match eqD x b with
      | some true => some 0
      | some false => (ixD b xs).map (· + 1)
      | none => none
theorem ixD_ok {b : D} (hb : okD 8 b = true) : ∀ {xs : List D} {j : Nat}, okDs 7 xs = true → fIndex.ixD b xs = some j →
    ∃ z, (toPs xs)[j]? = some z ∧ PyData.eqv z (toP b) = true ∧ ∀ (m : Nat) (z' : PyData), m < j → (toPs xs)[m]? = some z' → PyData.eqv z' (toP b) = false
  | [], j, _, e => by simp [fIndex.ixD] at e
  | x :: xs, j, h, e => by
    have h' : okD 7 x = true ∧ okDs 7 xs = true := by simpa [okDs] using h
    have hx : okD 8 x = true := inD_any.okD_up h'.1
    simp only [fIndex.ixD] at e
    split at e
    · rename_i q
      cases e
      exact ⟨toP x, rfl, eqD_eqv 8 x b true hx hb q, fun m z' hm => absurd hm (Nat.not_lt_zero _)⟩
    · rename_i q
      simp only [Option.map_eq_some_iff] at e
      obtain ⟨i, e1, rfl⟩ := e
      obtain ⟨z, h1, h2, h3⟩ := ixD_ok hb h'.2 e1
      refine ⟨z, by simpa [toPs] using h1, h2, fun m z' hm hz => ?_⟩
      cases m with
      | zero =>
        have hz' : toP x = z' := by simpa [toPs] using hz
        subst hz'
        exact eqD_eqv 8 x b false hx hb q
      | succ m => exact h3 m z' (by omega) (by simpa [toPs] using hz)
    · cases e
theorem fIndex_ok : MtS F fIndex (rIndexD F.K) := by
  intro W h H x xs z h' u us Q s e ru rs k
  unfold fIndex at e
  split at e
  · rename_i y
    simp only [Option.bind_eq_some_iff] at e
    obtain ⟨a, e1, b, e2, e3⟩ := e
    obtain ⟨w, rfl, r2⟩ := rs.one
    split at e3
    · rename_i ys
      split at e3
      · rename_i q
        simp only [Bool.and_eq_true] at q
        simp only [Option.map_eq_some_iff, Prod.mk.injEq] at e3
        obtain ⟨j, e4, rfl, rfl⟩ := e3
        have d1 := cont_dp s 6 e1 ru
        simp only [toP] at d1
        have sh : SeqAt.shaped (toP (.lst ys)) = true := okD_shaped (by simpa [okD] using q.1)
        simp only [toP] at sh
        obtain ⟨z, h1, h2, h3⟩ := ixD_ok q.2 q.1 e4
        have hu : ∃ p, u = .ref p := by cases d1; exact ⟨_, rfl⟩
        obtain ⟨p, rfl⟩ := hu
        exact ⟨p, w, toP b, toPs ys, j, z, rfl, rfl, d1, cont_dp s 6 e2 r2, sh, okD_shaped q.2, h1, h2, h3, k W H _ .refl s (.d (.int _))⟩
      · cases e3
    · cases e3
  · cases e
end
end Mc


namespace Mc
open PySem L2
section
variable {F : Fx} {X : Cx} {a b e : Expr} {es : List Expr} {pos : Pos} {ma mb me : ME} {W W' : Wd} {h h' : CH} {H H' : Hp} {p : Addr}
/-! ### a place that nobody knows yet -/
structure Priv (W : Wd) (h : CH) (p : Addr) : Prop where
  fz : ¬ W.fz p
  ln : ¬ W.ln p
  kp : ¬ W.kp p
  lv : ∀ (n : Nat) (o : CO), h[n]? = some (some o) → W.mu[n]? ≠ some p
  bx : ∀ (n : Nat) (T : Sn), h[n]? = some (some (.box T)) → p ∉ W.bx n
/-- .. kept while the others work -/
def Wd.keep (W : Wd) (p : Addr) : Wd := { W with kp := fun a => W.kp a ∨ a = p }
def Wd.back (W' W : Wd) : Wd := { W' with kp := W.kp }
mutual
theorem RD.up {W2 : Wd} (hf : ∀ a, W.fz a → W2.fz a) : ∀ {x : D} {v : V}, RD F W H x v → RD F W2 H x v
  | _, _, .non => .non
  | _, _, .bl b => .bl b
  | _, _, .int i => .int i
  | _, _, .str x => .str x
  | _, _, .txt x => .txt x
  | _, _, .tup h r => .tup h (RDs.up hf r)
  | _, _, .lst f h r => .lst (hf _ f) h (RDs.up hf r)
theorem RDs.up {W2 : Wd} (hf : ∀ a, W.fz a → W2.fz a) : ∀ {x : List D} {v : List V}, RDs F W H x v → RDs F W2 H x v
  | _, _, .nil => .nil
  | _, _, .cons h r => .cons (RD.up hf h) (RDs.up hf r)
end
mutual
theorem RS.up {W2 : Wd} (hf : ∀ a, W.fz a → W2.fz a) (hl : ∀ a, W.ln a → W2.ln a) : ∀ {x : Sn} {v : V}, RS F W H x v → RS F W2 H x v
  | _, _, .sd h => .sd (h.up hf)
  | _, _, .sl l h r => .sl (l.imp (fun q => q.imp (hl _) (hf _)) id) h (RSs.up hf hl r)
  | _, _, .sk l h e r => .sk (l.imp (hl _) (hf _)) h e (RSs.up hf hl r)
  | _, _, .si l h e r => .si (l.imp (hl _) (hf _)) h e (RSs.up hf hl r)
  | _, _, .fk l h e r => .fk (hf _ l) h e (RSs.up hf hl r)
theorem RSs.up {W2 : Wd} (hf : ∀ a, W.fz a → W2.fz a) (hl : ∀ a, W.ln a → W2.ln a) : ∀ {x : List Sn} {v : List V}, RSs F W H x v → RSs F W2 H x v
  | _, _, .nil => .nil
  | _, _, .cons h r => .cons (RS.up hf hl h) (RSs.up hf hl r)
end
mutual
theorem Rl.up {W2 : Wd} (hm : W2.mu = W.mu) (hf : ∀ a, W.fz a → W2.fz a) (hl : ∀ a, W.ln a → W2.ln a) : ∀ {x : CV} {v : V}, Rl F W H x v → Rl F W2 H x v
  | _, _, .d h => .d (RD.up hf h)
  | _, _, .ref h => .ref (by rw [hm]; exact h)
  | _, _, .s h => .s (RS.up hf hl h)
  | _, _, .t h r => .t h (Rls.up hm hf hl r)
theorem Rls.up {W2 : Wd} (hm : W2.mu = W.mu) (hf : ∀ a, W.fz a → W2.fz a) (hl : ∀ a, W.ln a → W2.ln a) : ∀ {x : List CV} {v : List V}, Rls F W H x v → Rls F W2 H x v
  | _, _, .nil => .nil
  | _, _, .cons h r => .cons (Rl.up hm hf hl h) (Rls.up hm hf hl r)
end
theorem pair_up {κ : Type} {W2 : Wd} (hm : W2.mu = W.mu) (hf : ∀ a, W.fz a → W2.fz a) (hl : ∀ a, W.ln a → W2.ln a) {l : List (κ × CV)} {m : List (κ × V)} (h : Paired (fun (p : κ × CV) (q : κ × V) => p.1 = q.1 ∧ Rl F W H p.2 q.2) l m) :
    Paired (fun (p : κ × CV) (q : κ × V) => p.1 = q.1 ∧ Rl F W2 H p.2 q.2) l m := L2.Paired.mapP h fun _ _ z => ⟨z.1, z.2.up hm hf hl⟩
theorem RO.up {W2 : Wd} (hm : W2.mu = W.mu) (hf : ∀ a, W.fz a → W2.fz a) (hl : ∀ a, W.ln a → W2.ln a) {o : CO} (r : RO F W H o p) : RO F W2 H o p := by
  cases o with
  | lst xs => obtain ⟨vs, q, r⟩ := r; exact ⟨vs, q, Rls.up hm hf hl r⟩
  | dk kvs => obtain ⟨vs, q, r⟩ := r; exact ⟨vs, q, pair_up hm hf hl r⟩
  | ins c fs => obtain ⟨dx, vs, q, r⟩ := r; exact ⟨dx, vs, q, pair_up hm hf hl r⟩
  | box T => exact r
mutual
theorem Tr.up {W2 : Wd} (hf : ∀ a, W.fz a → W2.fz a) : ∀ {x : Sn} {v : V} {fp : List Addr}, Tr F W H x v fp → Tr F W2 H x v fp
  | _, _, _, .sd h => .sd (h.up hf)
  | _, _, _, .sl h r => .sl h (Trs.up hf r)
  | _, _, _, .sk h e r => .sk h e (Trs.up hf r)
  | _, _, _, .si h e r => .si h e (Trs.up hf r)
theorem Trs.up {W2 : Wd} (hf : ∀ a, W.fz a → W2.fz a) : ∀ {x : List Sn} {v : List V} {fp : List Addr}, Trs F W H x v fp → Trs F W2 H x v fp
  | _, _, _, .nil => .nil
  | _, _, _, .cons h r => .cons (Tr.up hf h) (Trs.up hf r)
end
/-- the boxes stand in another world with the same names -/
theorem Bx.up {W2 : Wd} (B : Bx F W h H) (hm : W2.mu = W.mu) (hb : W2.bx = W.bx) (hf : ∀ a, W.fz a → W2.fz a) (pv : ∀ (n : Nat) (T : Sn) (x : Addr), h[n]? = some (some (.box T)) → x ∈ W.bx n → ¬ W2.fz x ∧ ¬ W2.ln x ∧ ¬ W2.kp x) : Bx F W2 h H where
  tr := fun n T e => by
    obtain ⟨a, q1, q2⟩ := B.tr n T e
    exact ⟨a, by rw [hm]; exact q1, by rw [hb]; exact q2.up hf⟩
  pv := fun n T x e m => pv n T x e (hb ▸ m)
  nd := fun n T e => by rw [hb]; exact B.nd n T e
  lv := fun n T m o x e m1 e2 q => B.lv n T m o x e (hb ▸ m1) e2 (hm ▸ q)
  dj := fun n m T T' x e1 e2 m1 m2 => B.dj n m T T' x e1 e2 (hb ▸ m1) (hb ▸ m2)
theorem RSl.up {W2 : Wd} (hm : W2.mu = W.mu) (hf : ∀ a, W.fz a → W2.fz a) (hl : ∀ a, W.ln a → W2.ln a) {c : Sl} {σ : St} (r : RSl F W H c σ) : RSl F W2 H c σ :=
  ⟨r.1, fun i x e => let ⟨v, q, z⟩ := r.2 i x e; ⟨v, q, z.up hm hf hl⟩⟩
theorem Sim.keep (s : Sim F W h H) (pr : Priv W h p) (hp : H p ≠ none) : Sim F (W.keep p) h H where
  len := s.len
  obj := fun n o e => by
    obtain ⟨a, q1, q2, q3, q4⟩ := s.obj n o e
    exact ⟨a, q1, q2, ⟨q3.1, fun z => z.elim q3.2 fun z => pr.lv n o e (z ▸ q1)⟩, RO.up (W := W) (W2 := W.keep p) rfl (fun _ h => h) (fun _ h => h) q4⟩
  inj := s.inj
  ne := fun a h => h.elim (fun q => s.ne a (.inl q)) fun q => q.elim (fun q => s.ne a (.inr (.inl q))) fun q => q.elim (fun q => s.ne a (.inr (.inr q))) fun q => q ▸ hp
  dj := fun a h => ⟨(s.dj a h).1, fun z => z.elim (s.dj a h).2 fun z => pr.fz (z ▸ h)⟩
  bo := Bx.up (W := W) (W2 := W.keep p) s.bo rfl rfl (fun _ h => h) fun n T x e m => ⟨(s.bo.pv n T x e m).1, (s.bo.pv n T x e m).2.1, fun z => z.elim (s.bo.pv n T x e m).2.2 fun z => pr.bx n T e (z ▸ m)⟩
theorem Sim.back (s : Sim F W' h H) (hk : ∀ a, W.kp a → W'.kp a) : Sim F (W'.back W) h H where
  len := s.len
  obj := fun n o e => by
    obtain ⟨a, q1, q2, q3, q4⟩ := s.obj n o e
    exact ⟨a, q1, q2, ⟨q3.1, fun z => q3.2 (hk a z)⟩, RO.up (W := W') (W2 := W'.back W) rfl (fun _ h => h) (fun _ h => h) q4⟩
  inj := s.inj
  ne := fun a h => s.ne a (h.imp id fun q => q.imp id (hk a))
  dj := fun a h => ⟨(s.dj a h).1, fun z => (s.dj a h).2 (hk a z)⟩
  bo := Bx.up (W := W') (W2 := W'.back W) s.bo rfl rfl (fun _ h => h) fun n T x e m => ⟨(s.bo.pv n T x e m).1, (s.bo.pv n T x e m).2.1, fun z => (s.bo.pv n T x e m).2.2 (hk x z)⟩
theorem Stp.back (st : Stp (W.keep p) H W' H') : Stp W H (W'.back W) H' where
  mu := st.mu
  fz := st.fz
  ln := st.ln
  kp := rfl
  hz := fun a h => st.hz a (h.imp id fun q => q.imp id .inl)
  tp := st.tp
  fr := st.fr
/-- still private behind it -/
theorem Priv.back (s : Sim F W' h' H') (st : Stp (W.keep p) H W' H') (pr : Priv W h p) : Priv (W'.back W) h' p where
  fz := fun z => (s.dj p z).2 (by rw [st.kp]; exact .inr rfl)
  ln := fun z => pr.ln (by have z : W'.ln p := z; rw [st.ln] at z; exact z)
  kp := pr.kp
  lv := fun n o e q => by
    obtain ⟨a, q1, q2, q3, q4⟩ := s.obj n o e
    have q : W'.mu[n]? = some p := q
    rw [q] at q1
    cases q1
    exact q3.2 (by rw [st.kp]; exact .inr rfl)
  bx := fun n T e m => (s.bo.pv n T p e m).2.2 (by rw [st.kp]; exact .inr rfl)
/-- the private one is written -/
theorem Priv.stp {u : HO} (pr : Priv W h p) (hp : ∃ vs, H p = some (.lst vs)) : Stp W H W (upd H p u) where
  mu := ⟨[], by simp⟩
  fz := fun _ h => h
  ln := rfl
  kp := rfl
  hz := fun a hx => upd_ne fun e => by subst e; exact hx.elim pr.fz fun z => z.elim pr.ln pr.kp
  tp := fun a xs e => by
    obtain ⟨vs, q⟩ := hp
    rw [upd_ne (ne_of e q (fun z => nomatch z))]; exact e
  fr := fun a o v e => by
    obtain ⟨vs, q⟩ := hp
    rw [upd_ne (ne_of e q (fun z => nomatch z))]; exact e
theorem Sim.priv {u : HO} (s : Sim F W h H) (pr : Priv W h p) (hp : ∃ vs, H p = some (.lst vs)) : Sim F W h (upd H p u) where
  len := s.len
  obj := fun n o e => by
    obtain ⟨a, q1, q2, q3, q4⟩ := s.obj n o e
    exact ⟨a, q1, q2, q3, q4.mono (pr.stp hp) (upd_ne fun z => pr.lv n o e (z ▸ q1))⟩
  inj := s.inj
  ne := fun a h z => by
    rw [upd_ne (fun e => by subst e; exact h.elim pr.fz fun z => z.elim pr.ln pr.kp)] at z
    exact s.ne a h z
  dj := s.dj
  bo := s.bo.move (pr.stp hp) rfl (fun _ _ e => e) (fun n T x e m => upd_ne fun z => pr.bx n T e (z ▸ m)) (fun n T x e m => s.bo.pv n T x e m) fun m o1 x e q => .inl ⟨o1, e, q⟩
theorem adoptR {xs : List CV} {vs : List V} (s : Sim F W h H) (pr : Priv W h p) (hp : H p = some (.lst vs)) (r : Rls F W H xs vs) :
    Sim F { W with mu := W.mu ++ [p] } (h ++ [some (.lst xs)]) H ∧ Rl F { W with mu := W.mu ++ [p] } H (.ref h.length) (.ref p) := by
    have st : Stp W H { W with mu := W.mu ++ [p] } H := stp_mu .refl
    have hlast : (W.mu ++ [p])[h.length]? = some p := by rw [s.len]; simp
    have old : ∀ {n : Nat} {o1 : CO}, (h ++ [some (CO.lst xs)])[n]? = some (some o1) → (n < h.length ∧ h[n]? = some (some o1) ∧ (W.mu ++ [p])[n]? = W.mu[n]?) ∨ (n = h.length ∧ o1 = .lst xs) := by
      intro n o1 e
      by_cases hn : n < h.length
      · rw [List.getElem?_append_left hn] at e
        exact .inl ⟨hn, e, List.getElem?_append_left (s.len ▸ hn)⟩
      · have hl : n < (h ++ [some (CO.lst xs)]).length := (List.getElem?_eq_some_iff.mp e).1
        have hn' : n = h.length := by simp at hl; omega
        subst hn'
        have e1 : CO.lst xs = o1 := by simpa using e
        exact .inr ⟨rfl, e1.symm⟩
    have bo : Bx F { W with mu := W.mu ++ [p] } (h ++ [some (.lst xs)]) H := by
      have oldb : ∀ (n : Nat) (T : Sn), (h ++ [some (CO.lst xs)])[n]? = some (some (.box T)) → h[n]? = some (some (.box T)) := fun n T e => (old e).elim (fun z => z.2.1) fun z => nomatch z.2
      refine s.bo.move st rfl oldb (fun _ _ _ _ _ => rfl) (fun n T x e m => s.bo.pv n T x (oldb n T e) m) fun m o1 x e q => ?_
      have q : (W.mu ++ [p])[m]? = some x := q
      rcases old e with ⟨_, e1, e2⟩ | ⟨rfl, rfl⟩
      · exact .inl ⟨o1, e1, e2 ▸ q⟩
      · rw [hlast] at q
        cases q
        exact .inr fun n T e m => pr.bx n T (oldb n T e) m
    refine ⟨⟨by simp [s.len], fun n o e => ?_, fun n m o o' a e1 e2 m1 m2 => ?_, s.ne, s.dj, bo⟩, .ref hlast⟩
    · rcases old e with ⟨_, e1, e2⟩ | ⟨rfl, rfl⟩
      · obtain ⟨a, q1, q2, q3, q4⟩ := s.obj n o e1
        exact ⟨a, e2.trans q1, q2, q3, q4.mono st rfl⟩
      · exact ⟨p, hlast, pr.fz, ⟨pr.ln, pr.kp⟩, vs, hp, r.mono st⟩
    · have m1 : (W.mu ++ [p])[n]? = some a := m1
      have m2 : (W.mu ++ [p])[m]? = some a := m2
      rcases old e1 with ⟨_, q1, q2⟩ | ⟨q1, q2⟩
      · rcases old e2 with ⟨_, q3, q4⟩ | ⟨q3, q4⟩
        · exact s.inj n m o o' a q1 q3 (q2 ▸ m1) (q4 ▸ m2)
        · rw [q3, hlast] at m2
          cases m2
          exact absurd (q2 ▸ m1) (pr.lv n o q1)
      · rcases old e2 with ⟨_, q3, q4⟩ | ⟨q3, q4⟩
        · rw [q1, hlast] at m1
          cases m1
          exact absurd (q4 ▸ m2) (pr.lv m o' q3)
        · rw [q1, q3]
/-- another private one stays private -/
theorem Priv.adopted {a : Addr} {xs : List CV} (s : Sim F W h H) (pr : Priv W h a) (na : a ≠ p) : Priv { W with mu := W.mu ++ [p] } (h ++ [some (.lst xs)]) a where
  fz := pr.fz
  ln := pr.ln
  kp := pr.kp
  lv := fun n o e m => by
    have m : (W.mu ++ [p])[n]? = some a := m
    by_cases hn : n < h.length
    · rw [List.getElem?_append_left hn] at e
      rw [List.getElem?_append_left (s.len ▸ hn)] at m
      exact pr.lv n o e m
    · have hl : n < (h ++ [some (CO.lst xs)]).length := (List.getElem?_eq_some_iff.mp e).1
      have hn' : n = h.length := by simp at hl; omega
      subst hn'
      rw [s.len] at m
      have m' : p = a := by simpa using m
      exact na m'.symm
  bx := fun n T e m => by
    by_cases hn : n < h.length
    · rw [List.getElem?_append_left hn] at e
      exact pr.bx n T e m
    · have hl : n < (h ++ [some (CO.lst xs)]).length := (List.getElem?_eq_some_iff.mp e).1
      have hn' : n = h.length := by simp at hl; omega
      subst hn'
      have e1 : CO.lst xs = CO.box T := by simpa using e
      cases e1
/-- the private one becomes known: plain, or live -/
theorem adopt {fr : Bool} {x : CV} {xs : List CV} {vs : List V} (s : Sim F W h H) (pr : Priv W h p) (hp : H p = some (.lst vs)) (e : mk fr h xs = some (x, h')) (r : Rls F W H xs vs) :
    ∃ W', Stp W H W' H ∧ Sim F W' h' H ∧ Rl F W' H x (.ref p) := by
  cases fr with
  | true =>
    simp only [mk, Option.map_eq_some_iff, Prod.mk.injEq] at e
    obtain ⟨ds, e1, rfl, rfl⟩ := e
    refine ⟨{ W with fz := fun x => W.fz x ∨ x = p }, stp_fz .refl, ⟨s.len, fun n o e => ?_, s.inj, fun a h => ?_, fun a h => ?_, s.bo.move (stp_fz .refl) rfl (fun _ _ e => e) (fun _ _ _ _ _ => rfl) (fun n T x e m => ⟨fun z => z.elim (s.bo.pv n T x e m).1 fun z => pr.bx n T e (z ▸ m), (s.bo.pv n T x e m).2⟩) fun m o1 x e q => .inl ⟨o1, e, q⟩⟩, .d (.lst (.inr rfl) hp ((allD_rel e1 r).mono (stp_fz .refl)))⟩
    · obtain ⟨a, q1, q2, q3, q4⟩ := s.obj n o e
      exact ⟨a, q1, fun z => z.elim q2 fun z => pr.lv n o e (z ▸ q1), q3, q4.mono (stp_fz .refl) rfl⟩
    · rcases h with (h | h) | h
      · exact s.ne a (.inl h)
      · rw [h, hp]; simp
      · exact s.ne a (.inr h)
    · rcases h with h | h
      · exact s.dj a h
      · subst h; exact ⟨pr.ln, pr.kp⟩
  | false =>
    simp only [mk, Option.some.injEq, Prod.mk.injEq] at e
    obtain ⟨rfl, rfl⟩ := e
    obtain ⟨a, b⟩ := adoptR s pr hp r
    exact ⟨_, stp_mu .refl, a, b⟩
theorem Stp.keepBack {W2 : Wd} (st : Stp (W.keep p) H W2 H') {x : List CV} {v : List V} (r : Rls F (W2.back W) H' x v) : Rls F W2 H' x v := Rls.up (W := W2.back W) (W2 := W2) rfl (fun _ h => h) (fun _ h => h) r
end
end Mc


namespace Mc
open PySem L2
section
variable {F : Fx} {X : Cx} {a b e : Expr} {es : List Expr} {pos : Pos} {ma mb me : ME} {st : Stmt} {rest : List Stmt}

/-! ### targets: the slots that P names may change -/
def Ag (P : Nat → Prop) (σ σ' : St) : Prop := σ'.length = σ.length ∧ ∀ i, ¬ P i → σ'[i]? = σ[i]?
theorem Ag.refl {P : Nat → Prop} {σ : St} : Ag P σ σ := ⟨rfl, fun _ _ => rfl⟩
theorem Ag.trans {P : Nat → Prop} {σ σ' σ2 : St} (a : Ag P σ σ') (b : Ag P σ' σ2) : Ag P σ σ2 := ⟨b.1.trans a.1, fun i h => (b.2 i h).trans (a.2 i h)⟩
def tGP (F : Fx) (P : Nat → Prop) (m : MG) : TG := fun v σ H Q =>
  ∃ W c h x c' h', RSl F W H c σ ∧ Sim F W h H ∧ Rl F W H x v ∧ m x c h = some (c', h') ∧ ∀ W' H' σ', Stp W H W' H' → Sim F W' h' H' → RSl F W' H' c' σ' → Ag P σ σ' → Q σ' H'
def tGsP (F : Fx) (P : Nat → Prop) (m : List CV → Sl → CH → Option (Sl × CH)) : TGs := fun vs σ H Q =>
  ∃ W c h xs c' h', RSl F W H c σ ∧ Sim F W h H ∧ Rls F W H xs vs ∧ m xs c h = some (c', h') ∧ ∀ W' H' σ', Stp W H W' H' → Sim F W' h' H' → RSl F W' H' c' σ' → Ag P σ σ' → Q σ' H'
def gNm (i : Nat) : MG := fun x c h => some (c.set i (some x), h)
theorem RSl.set {W : Wd} {H : Hp} {c : Sl} {σ : St} {i : Nat} {x : CV} {v : V} (rs : RSl F W H c σ) (r : Rl F W H x v) : RSl F W H (c.set i (some x)) (σ.set i (some v)) := by
  refine ⟨by simp [rs.1], fun j y e => ?_⟩
  by_cases hj : i = j
  · subst hj
    by_cases hi : i < c.length
    · rw [List.getElem?_set_self hi] at e
      cases e
      exact ⟨v, by rw [List.getElem?_set_self (rs.1 ▸ hi)], r⟩
    · rw [List.getElem?_eq_none (by simpa using hi)] at e
      cases e
  · rw [List.getElem?_set_ne hj] at e
    rw [List.getElem?_set_ne hj]
    exact rs.2 j y e
theorem g_name (i : Nat) {x : Str} {P : Nat → Prop} (hP : P i) (hN : X.N.Nodup) (hi : X.N[i]? = some x := by rfl) (hx : Loc X.env.scope x := by first | exact Or.inl rfl | exact Or.inr rfl) (hf : X.fn x = true ∨ X.env.scope.names.lookup x = some .local := by first | exact .inl rfl | exact .inr rfl) :
    PG X (.Name x pos) (tGP F P (gNm i)) := wkG (pg_name hN hi hx hf) fun v σ H Q hh => by
  obtain ⟨W, c, h, y, c', h', rs, s, r, e, k⟩ := hh
  cases e
  refine k W H _ .refl s (rs.set r) ⟨by simp, fun j hj => ?_⟩
  rw [List.getElem?_set_ne]
  rintro rfl
  exact hj hP
def gsNil : List CV → Sl → CH → Option (Sl × CH)
  | [], c, h => some (c, h)
  | _, _, _ => none
def gsCons (g : MG) (r : List CV → Sl → CH → Option (Sl × CH)) : List CV → Sl → CH → Option (Sl × CH)
  | x :: xs, c, h => (g x c h).bind fun p => r xs p.1 p.2
  | [], _, _ => none
theorem gs_nil {P : Nat → Prop} : PGs X [] (tGsP F P gsNil) := wkGs pgs_nil fun v σ H Q hh => by
  obtain ⟨W, c, h, y, c', h', rs, s, r, e, k⟩ := hh
  unfold gsNil at e
  split at e
  · cases e
    cases r
    exact ⟨rfl, k W H σ .refl s rs .refl⟩
  · cases e
theorem gs_cons {P : Nat → Prop} {g : MG} {r : List CV → Sl → CH → Option (Sl × CH)} (h1 : PG X e (tGP F P g)) (h2 : PGs X es (tGsP F P r)) (hs : (assignEach (e :: es) X.env).map (·.2) = assign e X.env :: (assignEach es X.env).map (·.2) := by rfl) : PGs X (e :: es) (tGsP F P (gsCons g r)) :=
  wkGs (pgs_cons h1 h2 hs) fun v σ H Q hh => by
    obtain ⟨W, c, h, y, c', h', rs, s, rr, e, k⟩ := hh
    unfold gsCons at e
    split at e
    · simp only [Option.bind_eq_some_iff, Prod.exists] at e
      obtain ⟨c1, h1, e1, e2⟩ := e
      cases rr with
      | cons r1 r2 =>
        exact ⟨_, _, rfl, W, c, h, _, c1, h1, rs, s, r1, e1, fun W1 H1 σ1 st1 s1 rs1 a1 => ⟨W1, c1, h1, _, c', h', rs1, s1, r2.mono st1, e2, fun W2 H2 σ2 st2 s2 rs2 a2 => k W2 H2 σ2 (st1.trans st2) s2 rs2 (a1.trans a2)⟩⟩
    · cases e
def gTp (n : Nat) (r : List CV → Sl → CH → Option (Sl × CH)) : MG := fun x c h => (seqT x).bind fun xs => if xs.length = n then r xs c h else none
theorem g_tup {P : Nat → Prop} {k : Nat} {n : Nat} {r : List CV → Sl → CH → Option (Sl × CH)} (g : Gd F X) (h : PGs X es (tGsP F P r)) (hn : (assignEach es X.env).length = n := by rfl) (hst : (assignEach es X.env).findIdx? (·.1) = none := by rfl) :
    PG X (.Tuple es k pos) (tGP F P (gTp n r)) := wkG (pg_tup g.calm h hn hst) fun v σ H Q hh => by
  obtain ⟨W, c, h, y, c', h', rs, s, rr, e, k⟩ := hh
  unfold gTp at e
  simp only [Option.bind_eq_some_iff] at e
  obtain ⟨xs, e1, e2⟩ := e
  split at e2
  · rename_i hl
    obtain ⟨p, vs, rfl, q1, r1⟩ := seqT_rel e1 rr
    exact ⟨p, vs, rfl, g.hK ▸ q1, by rw [← r1.length]; exact hl, W, c, h, xs, c', h', rs, s, r1, e2, k⟩
  · cases e2

/-! ### statements -/
def mSeq (m r : MS) : MS := fun c h => (m c h).bind fun p => match p.1 with
  | .nx => r p.2.1 p.2.2
  | f => some (f, p.2)
def mNext : MS := fun c h => some (.nx, c, h)
theorem tS_mk {m : MS} {W : Wd} {c c' : Sl} {h h' : CH} {f : Fl} {D : Ends} {σ : St} {H : Hp} (rs : RSl F W H c σ) (s : Sim F W h H) (e : m c h = some (f, c', h'))
    (k : ∀ W' H', Stp W H W' H' → Sim F W' h' H' → EndS F D W' H' c' f) : tS F m D σ H := ⟨W, c, h, f, c', h', rs, s, e, k⟩
theorem ss_nil : PSs X [] (tS F mNext) := wkSs pss_nil fun D σ H hh => by
  obtain ⟨W, c, h, f, c', h', rs, s, e, k⟩ := hh
  cases e
  exact k W H .refl s σ rs
theorem ss_cons {m r : MS} (h1 : PS X st (tS F m)) (h2 : PSs X rest (tS F r)) : PSs X (st :: rest) (tS F (mSeq m r)) := wkSs (pss_cons h1 h2) fun D σ H hh => by
  obtain ⟨W, c, h, f, c', h', rs, s, e, k⟩ := hh
  unfold mSeq at e
  simp only [Option.bind_eq_some_iff, Prod.exists] at e
  obtain ⟨f1, c1, h1, e1, e2⟩ := e
  refine tS_mk rs s e1 fun W1 H1 st1 s1 => ?_
  cases f1 with
  | nx =>
    intro σ1 rs1
    refine tS_mk rs1 s1 e2 fun W2 H2 st2 s2 => ?_
    exact k W2 H2 (st1.trans st2) s2
  | rt x => cases e2; exact k W1 H1 st1 s1
  | bk => cases e2; exact k W1 H1 st1 s1
  | ct => cases e2; exact k W1 H1 st1 s1
theorem ss_one {m : MS} (h1 : PS X st (tS F m)) : PSs X [st] (tS F m) := pss_one h1
def mDrop (m : ME) : MS := fun c h => (m c h).bind fun p => some (.nx, c, p.2)
theorem s_expr {m : ME} (he : PE X e (tE F m)) (hs : swapsWith e none pos.line X.env = pure false := by rfl) : PS X (.Expr e pos) (tS F (mDrop m)) := wkS (ps_expr he hs) fun D σ H hh => by
  obtain ⟨W, c, h, f, c', h', rs, s, e, k⟩ := hh
  unfold mDrop at e
  simp only [Option.bind_eq_some_iff, Prod.exists, Option.some.injEq, Prod.mk.injEq] at e
  obtain ⟨x, h1, e1, rfl, rfl, rfl⟩ := e
  exact seqX rs s e1 fun W1 H1 u st1 s1 r1 => k W1 H1 st1 s1 σ (rs.mono st1)
def mRet (m : ME) : MS := fun c h => (m c h).bind fun p => some (.rt p.1, c, p.2)
theorem s_ret {m : ME} (he : PE X e (tE F m)) : PS X (.Return (some e) pos) (tS F (mRet m)) := wkS (ps_ret he) fun D σ H hh => by
  obtain ⟨W, c, h, f, c', h', rs, s, e, k⟩ := hh
  unfold mRet at e
  simp only [Option.bind_eq_some_iff, Prod.exists, Option.some.injEq, Prod.mk.injEq] at e
  obtain ⟨x, h1, e1, rfl, rfl, rfl⟩ := e
  exact seqX rs s e1 fun W1 H1 u st1 s1 r1 => k W1 H1 st1 s1 u r1
def mIfS (t : MT) (m r : MS) : MS := fun c h => (t c h).bind fun p => match p.1 with
  | true => m c p.2
  | false => r c p.2
theorem s_if {p q : List Stmt} {t : MT} {m r : MS} (hc : PT X e (tT F t)) (ha : PSs X p (tS F m)) (hb : PSs X q (tS F r)) : PS X (.If e p q pos) (tS F (mIfS t m r)) := wkS (ps_if hc ha hb) fun D σ H hh => by
  obtain ⟨W, c, h, f, c', h', rs, s, e, k⟩ := hh
  unfold mIfS at e
  simp only [Option.bind_eq_some_iff, Prod.exists] at e
  obtain ⟨x, h1, e1, e2⟩ := e
  refine seqX rs s e1 fun W1 H1 u st1 s1 r1 => ?_
  cases (show u = x from r1)
  cases x with
  | true => rw [if_pos rfl]; exact tS_mk (rs.mono st1) s1 e2 fun W2 H2 st2 s2 => k W2 H2 (st1.trans st2) s2
  | false => rw [if_neg Bool.false_ne_true]; exact tS_mk (rs.mono st1) s1 e2 fun W2 H2 st2 s2 => k W2 H2 (st1.trans st2) s2
/-- never come to -/
def mStuck : MS := fun _ _ => none
theorem s_stuck : PS X st (tS F mStuck) := wkS ps_never fun D σ H hh => by
  obtain ⟨W, c, h, f, c', h', rs, s, e, k⟩ := hh
  cases e
theorem ss_stuck {sts : List Stmt} : PSs X sts (tS F mStuck) := wkSs pss_never fun D σ H hh => by
  obtain ⟨W, c, h, f, c', h', rs, s, e, k⟩ := hh
  cases e
def mBrk : MS := fun c h => some (.bk, c, h)
def mCnt : MS := fun c h => some (.ct, c, h)
theorem s_break : PS X (.Break pos) (tS F mBrk) := wkS ps_break fun D σ H hh => by
  obtain ⟨W, c, h, f, c', h', rs, s, e, k⟩ := hh
  cases e
  exact k W H .refl s σ rs
theorem s_cont : PS X (.Continue pos) (tS F mCnt) := wkS ps_continue fun D σ H hh => by
  obtain ⟨W, c, h, f, c', h', rs, s, e, k⟩ := hh
  cases e
  exact k W H .refl s σ rs
theorem s_pass : PS X (.Pass pos) (tS F mNext) := wkS ps_pass fun D σ H hh => by
  obtain ⟨W, c, h, f, c', h', rs, s, e, k⟩ := hh
  cases e
  exact k W H .refl s σ rs
abbrev All : Nat → Prop := fun _ => True
/-- target = value -/
def mAsg (m : ME) (g : MG) : MS := fun c h => (m c h).bind fun p => (g p.1 c p.2).bind fun q => some (.nx, q.1, q.2)
theorem tAsg_of {m : ME} {g : MG} {P : Nat → Prop} {D : Ends} {σ : St} {H : Hp} (hh : tS F (mAsg m g) D σ H) : tAsg (tE F m) (tGP F P g) D σ H := by
  obtain ⟨W, c, h, f, c', h', rs, s, e, k⟩ := hh
  unfold mAsg at e
  simp only [Option.bind_eq_some_iff, Prod.exists, Option.some.injEq, Prod.mk.injEq] at e
  obtain ⟨x, h1, e1, c2, h2, e2, rfl, rfl, rfl⟩ := e
  exact seqX rs s e1 fun W1 H1 u st1 s1 r1 => ⟨W1, c, h1, x, c2, h2, rs.mono st1, s1, r1, e2, fun W2 H2 σ2 st2 s2 rs2 _ => k W2 H2 (st1.trans st2) s2 σ2 rs2⟩
theorem s_asg {tg : Expr} {m : ME} {g : MG} (he : PE X e (tE F m)) (hg : PG X tg (tGP F All g)) (hs : swapsWithSole [tg] e pos.line X.env = pure false := by rfl) (hw : swappedStores [tg] e X.env = pure none := by rfl) (h1 : (assignEach [tg] X.env).map (·.2) = [assign tg X.env] := by rfl) :
    PS X (.Assign [tg] e pos) (tS F (mAsg m g)) := wkS (ps_asg he hg hs hw h1) fun _ _ _ => tAsg_of
theorem s_set (i : Nat) {x : Str} {pos' : Pos} {m : ME} (hN : X.N.Nodup) (he : PE X e (tE F m)) (hi : X.N[i]? = some x := by rfl) (hx : Loc X.env.scope x := by first | exact Or.inl rfl | exact Or.inr rfl) (hs : swapsWith e (some (.Name x pos')) pos.line X.env = pure false := by rfl)
    (hf : X.fn x = true ∨ X.env.scope.names.lookup x = some .local := by first | exact .inl rfl | exact .inr rfl) : PS X (.Assign [.Name x pos'] e pos) (tS F (mAsg m (gNm i))) :=
  wkS (ps_set hN hi hx he hs hf) fun D σ H hh => by
    obtain ⟨W, c, h, f, c', h', rs, s, e, k⟩ := hh
    unfold mAsg gNm at e
    simp only [Option.bind_eq_some_iff, Prod.exists, Option.some.injEq, Prod.mk.injEq] at e
    obtain ⟨x, h1, e1, c2, h2, ⟨rfl, rfl⟩, rfl, rfl, rfl⟩ := e
    exact seqX rs s e1 fun W1 H1 u st1 s1 r1 => k W1 H1 st1 s1 _ ((rs.mono st1).set r1)
/-- a, b = x, y; a, b, c = x, y, z (plain local names) -/
def mPar2 (i j : Nat) (r : MA) : MS := fun c h => (r c h).bind fun p => match p.1 with
  | [x, y] => some (.nx, (c.set i (some x)).set j (some y), p.2)
  | _ => none
theorem s_par2 (i j : Nat) {x y : Str} {r : MA} {px py pt : Pos} {kt k2 pt2} (g : Gd F X) (hij : i ≠ j) (ha : PA X [a, b] (tA F r)) (hw : swappedStores [.Tuple [.Name x px, .Name y py] kt pt] (.Tuple [a, b] k2 pt2) X.env = pure (some [x, y]))
    (hi : X.N[i]? = some x := by rfl) (hj : X.N[j]? = some y := by rfl) (hx : X.env.scope.names.lookup x = some .local := by rfl) (hy : X.env.scope.names.lookup y = some .local := by rfl)
    (hs : swapsWithSole [.Tuple [.Name x px, .Name y py] kt pt] (.Tuple [a, b] k2 pt2) pos.line X.env = pure false := by rfl) :
    PS X (.Assign [.Tuple [.Name x px, .Name y py] kt pt] (.Tuple [a, b] k2 pt2) pos) (tS F (mPar2 i j r)) :=
  wkS (ps_par g.calm g.nd hi hj hij hx hy ha hw hs) fun D σ H hh => by
    obtain ⟨W, c, h, f, c', h', rs, s, e, k⟩ := hh
    unfold mPar2 at e
    simp only [Option.bind_eq_some_iff, Prod.exists] at e
    obtain ⟨xs, h1, e1, e2⟩ := e
    refine seqX rs s e1 fun W1 H1 us st1 s1 r1 => ?_
    split at e2
    · cases e2
      obtain ⟨u, v, rfl, r2, r3⟩ := r1.two
      exact ⟨u, v, rfl, k W1 H1 st1 s1 _ (((rs.mono st1).set r2).set r3)⟩
    · cases e2
def mPar3 (i j l : Nat) (r : MA) : MS := fun c h => (r c h).bind fun p => match p.1 with
  | [x, y, z] => some (.nx, ((c.set i (some x)).set j (some y)).set l (some z), p.2)
  | _ => none
theorem Rls.three {W : Wd} {H : Hp} {x y z : CV} {us : List V} (r : Rls F W H [x, y, z] us) : ∃ u v w, us = [u, v, w] ∧ Rl F W H x u ∧ Rl F W H y v ∧ Rl F W H z w := by
  cases r with | cons r1 r2 => obtain ⟨v, w, rfl, r3, r4⟩ := r2.two; exact ⟨_, v, w, rfl, r1, r3, r4⟩
theorem s_par3 (i j l : Nat) {x y z : Str} {cc : Expr} {r : MA} {px py pz pt : Pos} {kt k2 pt2} (g : Gd F X) (hij : i ≠ j) (hil : i ≠ l) (hjl : j ≠ l) (ha : PA X [a, b, cc] (tA F r)) (hw : swappedStores [.Tuple [.Name x px, .Name y py, .Name z pz] kt pt] (.Tuple [a, b, cc] k2 pt2) X.env = pure (some [x, y, z]))
    (hi : X.N[i]? = some x := by rfl) (hj : X.N[j]? = some y := by rfl) (hl : X.N[l]? = some z := by rfl) (hx : X.env.scope.names.lookup x = some .local := by rfl) (hy : X.env.scope.names.lookup y = some .local := by rfl) (hz : X.env.scope.names.lookup z = some .local := by rfl)
    (hs : swapsWithSole [.Tuple [.Name x px, .Name y py, .Name z pz] kt pt] (.Tuple [a, b, cc] k2 pt2) pos.line X.env = pure false := by rfl) :
    PS X (.Assign [.Tuple [.Name x px, .Name y py, .Name z pz] kt pt] (.Tuple [a, b, cc] k2 pt2) pos) (tS F (mPar3 i j l r)) :=
  wkS (ps_par3 g.calm g.nd hi hj hl hij hil hjl hx hy hz ha hw hs) fun D σ H hh => by
    obtain ⟨W, c, h, f, c', h', rs, s, e, k⟩ := hh
    unfold mPar3 at e
    simp only [Option.bind_eq_some_iff, Prod.exists] at e
    obtain ⟨xs, h1, e1, e2⟩ := e
    refine seqX rs s e1 fun W1 H1 us st1 s1 r1 => ?_
    split at e2
    · cases e2
      obtain ⟨u, v, w, rfl, r2, r3, r4⟩ := r1.three
      exact ⟨u, v, w, rfl, k W1 H1 st1 s1 _ ((((rs.mono st1).set r2).set r3).set r4)⟩
    · cases e2
/-- xs[i] = v, a live list -/
def fSet (h : CH) (x i v : CV) : Option CH := match x, i with
  | .ref n, .d (.int k) => match h[n]? with
    | some (some (.lst xs)) => (ixN xs.length k).map fun j => h.set n (some (.lst (xs.set j v)))
    | _ => none
  | _, _ => none
def gIx (mo mi : ME) : MG := fun x c h => (mo c h).bind fun p => (mi c p.2).bind fun q => (fSet q.2 p.1 q.1 x).map fun h' => (c, h')
theorem g_ix {o i : Expr} {mo mi : ME} {P : Nat → Prop} (ho : PE X o (tE F mo)) (hi : PE X i (tE F mi))
    (ha : ∀ v, assign (.Subscript o i pos) X.env v = (do
      let ov ← holding [v] (eval o X.env)
      let iv ← holding [v, ov] (eval i X.env)
      standAt pos
      holding [v, ov, iv] (setItem ov iv v)
      release [v, ov, iv] []) := by intro _; rfl) : PG X (.Subscript o i pos) (tGP F P (gIx mo mi)) :=
  wkG (pg_sub ho hi set_list ha) fun v σ H Q hh => by
    obtain ⟨W, c, h, y, c', h', rs, s, rr, e, k⟩ := hh
    unfold gIx at e
    simp only [Option.bind_eq_some_iff, Prod.exists, Option.map_eq_some_iff, Prod.mk.injEq] at e
    obtain ⟨x, h1, e1, i, h2, e2, h3, e3, rfl, rfl⟩ := e
    refine seqX rs s e1 fun W1 H1 u st1 s1 r1 => seqX (rs.mono st1) s1 e2 fun W2 H2 w st2 s2 r2 => ?_
    unfold fSet at e3
    split at e3
    · rename_i n j
      split at e3
      · rename_i xs q
        simp only [Option.map_eq_some_iff] at e3
        obtain ⟨l, e4, rfl⟩ := e3
        obtain ⟨p, vs, rfl, m, q1, r3⟩ := live s2 q (r1.mono st2)
        obtain ⟨st3, s3⟩ := wr s2 q m (Rls.set (rr.mono (st1.trans st2)) l r3)
        exact ⟨p, vs, j, l, rfl, r2.int, q1, by rw [← r3.length]; exact e4, k W2 _ _ ((st1.trans st2).trans st3) s3 (((rs.mono st1).mono st2).mono st3) .refl⟩
      · cases e3
    · cases e3

/-! ### what is walked -/
/-- an iterator J feeds the items while St stands -/
structure Feed (F : Fx) (J : It) (items : List CV) (St : Wd → Hp → Prop) : Prop where
  mono : ∀ W H W' H', Stp W H W' H' → St W H → St W' H'
  keep : ∀ W H p, St W H → St (W.keep p) H
  go : ∀ i W H, i < items.length → St W H → J.go i H
  stop : ∀ W H, St W H → J.stop items.length H
  yld : ∀ i W h H x H' y, St W H → Sim F W h H → items[i]? = some y → J.yld i H x H' → ∃ W', Stp W H W' H' ∧ Sim F W' h H' ∧ Rl F W' H' y x
def tI (F : Fx) (m : MA) : TI := fun σ H R => ∃ W c h items h', RSl F W H c σ ∧ Sim F W h H ∧ m c h = some (items, h') ∧ ∀ W' H' J St, Stp W H W' H' → Sim F W' h' H' → Feed F J items St → St W' H' → R J H'
theorem wkI {tg : Expr} {t t' : TI} (h : PI X tg e t) (i : ∀ σ H R, t' σ H R → t σ H R) : PI X tg e t' := ⟨fun pins s σ H R I q => h.run pins s σ H R I (i σ H R q)⟩
/-- range -/
def mRg (ml mh : ME) : MA := fun c h => (ml c h).bind fun p => (mh c p.2).bind fun q => match p.1, q.1 with
  | .d (.int i), .d (.int j) => if okI i = true ∧ okI j = true then some (((rgD i j).map D.int).map .d, q.2) else none
  | _, _ => none
theorem feed_rg (lo hi : Int) : Feed F (Itr lo (hi - lo).toNat) (((rgD lo hi).map D.int).map .d) (fun _ _ => True) where
  mono := fun _ _ _ _ _ _ => trivial
  keep := fun _ _ _ _ => trivial
  go := fun i W H h _ => by
    have e : (((rgD lo hi).map D.int).map CV.d).length = (hi - lo).toNat := by simp only [List.length_map, rgD, List.length_range]
    show i < (hi - lo).toNat
    omega
  stop := fun W H _ => by
    have e : (((rgD lo hi).map D.int).map CV.d).length = (hi - lo).toNat := by simp only [List.length_map, rgD, List.length_range]
    show (hi - lo).toNat ≤ _
    omega
  yld := fun i W h H x H' y _ s e q => by
    obtain ⟨rfl, rfl⟩ := q
    refine ⟨W, .refl, s, ?_⟩
    simp only [List.map_map, List.getElem?_map, Option.map_eq_some_iff, rgD] at e
    obtain ⟨j, hj, rfl⟩ := e
    have hlt := (List.getElem?_eq_some_iff.mp hj)
    obtain ⟨hl, hj⟩ := hlt
    rw [List.getElem_range] at hj
    subst hj
    exact .d (.int _)
theorem i_rg1 {tg : Expr} {p : Pos} (hm : X.mg "range" = none) (ha : PE X a (tE F ma)) (hg : Gl X "range" := by rfl) (hs : starEach [a] X.env = [(false, eval a X.env)] := by rfl) (h0 : starEach [a] X.env = (false, eval a X.env) :: starEach [] X.env := by rfl) :
    PI X tg (.Call (.Name "range" p) [a] [] pos) (tI F (mRg (mC (.int 0)) ma)) := wkI (pi_range1 hg hm (a_cons ha a_nil h0) hs) fun σ H R hh => by
  obtain ⟨W, c, h, z, h', rs, s, e, k⟩ := hh
  unfold mRg at e
  simp only [mC, Option.bind_eq_some_iff, Prod.exists, Option.some.injEq, Prod.mk.injEq] at e
  obtain ⟨x, h1, ⟨rfl, rfl⟩, y, h2, e2, e3⟩ := e
  refine ⟨W, c, h, [y], h2, rs, s, ?_, fun W1 H1 us st1 s1 r1 => ?_⟩
  · unfold mCons mNil
    rw [e2]; rfl
  · obtain ⟨v, rfl, r2⟩ := r1.one
    split at e3
    · rename_i i j q1
      cases q1
      split at e3
      · rename_i ok
        cases e3
        exact ⟨j, by rw [r2.int], by have := okI_of ok.2; omega, by have := okI_of ok.2; omega, by
          have := k W1 H1 (Itr 0 (j - 0).toNat) _ st1 s1 (feed_rg 0 j) trivial
          rwa [Int.sub_zero] at this⟩
      · cases e3
    · cases e3
theorem i_rg2 {tg : Expr} {p : Pos} (hm : X.mg "range" = none) (ha : PE X a (tE F ma)) (hb : PE X b (tE F mb)) (hg : Gl X "range" := by rfl) (hs : starEach [a, b] X.env = [(false, eval a X.env), (false, eval b X.env)] := by rfl) (hs2 : starEach [b] X.env = [(false, eval b X.env)] := by rfl)
    (h0 : starEach [a, b] X.env = (false, eval a X.env) :: starEach [b] X.env := by rfl) (h1 : starEach [b] X.env = (false, eval b X.env) :: starEach [] X.env := by rfl) :
    PI X tg (.Call (.Name "range" p) [a, b] [] pos) (tI F (mRg ma mb)) := wkI (pi_range2 hg hm (a_cons ha (a_cons hb a_nil h1) h0) hs hs2) fun σ H R hh => by
  obtain ⟨W, c, h, z, h', rs, s, e, k⟩ := hh
  unfold mRg at e
  simp only [Option.bind_eq_some_iff, Prod.exists] at e
  obtain ⟨x, h1, e1, y, h2, e2, e3⟩ := e
  refine ⟨W, c, h, [x, y], h2, rs, s, ?_, fun W1 H1 us st1 s1 r1 => ?_⟩
  · unfold mCons mNil
    rw [e1]; show Option.bind _ _ = _
    simp [e2]
  · obtain ⟨u, v, rfl, r2, r3⟩ := r1.two
    split at e3
    · rename_i i j
      split at e3
      · rename_i ok
        cases e3
        exact ⟨i, j, by rw [r2.int, r3.int], ⟨by have := okI_of ok.1; omega, by have := okI_of ok.1; omega, by have := okI_of ok.2; omega, by have := okI_of ok.2; omega⟩, k W1 H1 _ _ st1 s1 (feed_rg i j) trivial⟩
      · cases e3
    · cases e3
/-- a list that stands (plain, or lent); a tuple -/
def seqS : CV → Option (List CV)
  | .d (.lst xs) => some (xs.map .d)
  | .s (.sl xs) => some (xs.map ofS)
  | _ => none
theorem seqS_L {h : CH} {x : CV} {xs : List CV} (e : seqS x = some xs) : seqL h x = some xs := by
  unfold seqS at e
  split at e
  · cases e; rfl
  · cases e; rfl
  · cases e
theorem seqS_rel {W : Wd} {h : CH} {H : Hp} {x : CV} {xs : List CV} {v : V} (e : seqS x = some xs) (r : Rl F W H x v) : ∃ a vs, v = .ref a ∧ ∀ W' H', Stp W H W' H' → SqL F.K H' a vs ∧ Rls F W' H' xs vs := by
  unfold seqS at e
  split at e
  · cases e
    cases r with
    | d r => cases r with | @lst _ a vs f q r => exact ⟨a, vs, rfl, fun W' H' st => ⟨.of (by rw [st.hz _ (.inl f)]; exact q), .ofD (r.mono st)⟩⟩
  · cases e
    cases r with
    | s r => cases r with | @sl _ a vs l q r => exact ⟨a, vs, rfl, fun W' H' st => ⟨l.elim (fun z => st.sqL z q) fun z => z _, .ofS (r.mono st)⟩⟩
  · cases e
def mIt (m : ME) : MA := fun c h => (m c h).bind fun p => (seqS p.1).map fun xs => (xs, p.2)
def mItT (m : ME) : MA := fun c h => (m c h).bind fun p => (seqT p.1).map fun xs => (xs, p.2)
theorem feed_l (a : Addr) (vs : List V) (items : List CV) : Feed F (Itl F.K a) items (fun W H => ∀ W' H', Stp W H W' H' → SqL F.K H' a vs ∧ Rls F W' H' items vs) where
  mono := fun W H W' H' st h W2 H2 st2 => h W2 H2 (st.trans st2)
  keep := fun W H p h W2 H2 st2 => ⟨(h _ _ st2.back).1, st2.keepBack (h _ _ st2.back).2⟩
  go := fun i W H hi h => by
    obtain ⟨q, r⟩ := h W H .refl
    exact ⟨vs, vs[i]'(r.length ▸ hi), q, List.getElem?_eq_getElem _⟩
  stop := fun W H h => by
    obtain ⟨q, r⟩ := h W H .refl
    exact ⟨vs, q, Nat.le_of_eq r.length.symm⟩
  yld := fun i W h H x H' y st s e q => by
    obtain ⟨rfl, q⟩ := q
    obtain ⟨q1, r⟩ := st W _ .refl
    obtain ⟨v, q2, r2⟩ := r.get e
    rw [q vs q1] at q2
    cases q2
    exact ⟨W, .refl, s, r2⟩
theorem feed_t (a : Addr) (vs : List V) (items : List CV) : Feed F (Itt F.K a) items (fun W H => SqT F.K H a vs ∧ Rls F W H items vs) where
  mono := fun W H W' H' st h => ⟨st.sqT h.1, h.2.mono st⟩
  keep := fun W H p h => ⟨h.1, Rls.up (W := W) (W2 := W.keep p) rfl (fun _ h => h) (fun _ h => h) h.2⟩
  go := fun i W H hi h => ⟨vs, vs[i]'(h.2.length ▸ hi), h.1, List.getElem?_eq_getElem _⟩
  stop := fun W H h => ⟨vs, h.1, Nat.le_of_eq h.2.length.symm⟩
  yld := fun i W h H x H' y st s e q => by
    obtain ⟨rfl, q⟩ := q
    obtain ⟨v, q2, r2⟩ := st.2.get e
    rw [q vs st.1] at q2
    cases q2
    exact ⟨W, .refl, s, r2⟩
theorem i_l {tg : Expr} (g : Gd F X) (h : PE X e (tE F me)) : PI X tg e (tI F (mIt me)) := wkI (pi_list h) fun σ H R hh => by
  obtain ⟨W, c, h, z, h', rs, s, e, k⟩ := hh
  unfold mIt at e
  simp only [Option.bind_eq_some_iff, Prod.exists, Option.map_eq_some_iff, Prod.mk.injEq] at e
  obtain ⟨x, h1, e1, xs, e2, rfl, rfl⟩ := e
  refine seqX rs s e1 fun W1 H1 u st1 s1 r1 => ?_
  obtain ⟨p, vs, rfl, q⟩ := seqS_rel (h := h1) e2 r1
  refine ⟨p, rfl, ⟨vs, ?_⟩, ?_⟩
  · rw [← g.hK]; exact (q W1 H1 .refl).1
  · rw [← g.hK]; exact k W1 H1 _ _ st1 s1 (feed_l p vs xs) q
theorem i_t {tg : Expr} (g : Gd F X) (h : PE X e (tE F me)) : PI X tg e (tI F (mItT me)) := wkI (pi_tup h) fun σ H R hh => by
  obtain ⟨W, c, h, z, h', rs, s, e, k⟩ := hh
  unfold mItT at e
  simp only [Option.bind_eq_some_iff, Prod.exists, Option.map_eq_some_iff, Prod.mk.injEq] at e
  obtain ⟨x, h1, e1, xs, e2, rfl, rfl⟩ := e
  refine seqX rs s e1 fun W1 H1 u st1 s1 r1 => ?_
  obtain ⟨p, vs, rfl, q, r2⟩ := seqT_rel e2 r1
  refine ⟨p, rfl, ⟨vs, ?_⟩, ?_⟩
  · rw [← g.hK]; exact q
  · rw [← g.hK]; exact k W1 H1 _ _ st1 s1 (feed_t p vs xs) ⟨q, r2⟩

/-! ### for -/
def loop (g : MG) (b : MS) : List CV → Sl → CH → Option (Fl × Sl × CH)
  | [], c, h => some (.nx, c, h)
  | x :: xs, c, h => (g x c h).bind fun p => (b p.1 p.2).bind fun q => match q.1 with
    | .nx => loop g b xs q.2.1 q.2.2
    | .ct => loop g b xs q.2.1 q.2.2
    | .bk => some (.nx, q.2)
    | .rt x => some (.rt x, q.2)
def mFor (it : MA) (g : MG) (b : MS) : MS := fun c h => (it c h).bind fun p => loop g b p.1 c p.2
theorem tFor_of {it : MA} {g : MG} {b : MS} {D : Ends} {σ : St} {H : Hp} (hh : tS F (mFor it g b) D σ H) : tFor (tI F it) (tGP F All g) (tS F b) D σ H := by
  obtain ⟨W0, c0, h0, f, c', h', rs0, s0, e0, k⟩ := hh
  unfold mFor at e0
  simp only [Option.bind_eq_some_iff, Prod.exists] at e0
  obtain ⟨items, h1, e1, e2⟩ := e0
  refine ⟨W0, c0, h0, items, h1, rs0, s0, e1, fun W1 H1 J St st1 s1 fd hst => ?_⟩
  refine ⟨fun i m σ H => ∃ W c h, m = items.length - i ∧ i ≤ items.length ∧ RSl F W H c σ ∧ Sim F W h H ∧ St W H ∧ Stp W1 H1 W H ∧ loop g b (items.drop i) c h = some (f, c', h'),
    ⟨items.length, W1, c0, h1, by simp, Nat.zero_le _, rs0.mono st1, s1, hst, .refl, by simpa using e2⟩, ?_⟩
  rintro i m σ H ⟨W, c, h, rfl, hi, rs, s, hst, st, e⟩
  by_cases hlt : i < items.length
  · rw [List.drop_eq_getElem_cons hlt] at e
    unfold loop at e
    simp only [Option.bind_eq_some_iff, Prod.exists] at e
    obtain ⟨c2, h2, e3, f2, c3, h3, e4, e5⟩ := e
    refine .inr ⟨fd.go i W H hlt hst, _, fun σ' H' w => ⟨items.length - (i + 1), Nat.sub_lt_sub_left hlt (Nat.lt_succ_self _), w⟩, fun x H' y => ?_⟩
    obtain ⟨W2, st2, s2, r2⟩ := fd.yld i W h H x H' _ hst s (List.getElem?_eq_getElem hlt) y
    refine ⟨W2, c, h, _, c2, h2, rs.mono st2, s2, r2, e3, fun W3 H3 σ3 st3 s3 rs3 _ => ?_⟩
    refine tS_mk rs3 s3 e4 fun W4 H4 st4 s4 => ?_
    have stt : Stp W1 H1 W4 H4 := ((st.trans st2).trans st3).trans st4
    have hs4 : St W4 H4 := fd.mono _ _ _ _ ((st2.trans st3).trans st4) hst
    cases f2 with
    | nx => exact fun σ4 rs4 => ⟨W4, c3, h3, rfl, hlt, rs4, s4, hs4, stt, e5⟩
    | ct => exact fun σ4 rs4 => ⟨W4, c3, h3, rfl, hlt, rs4, s4, hs4, stt, e5⟩
    | bk => cases e5; exact k W4 H4 (st1.trans stt) s4
    | rt x => cases e5; exact k W4 H4 (st1.trans stt) s4
  · have hi' : i = items.length := by omega
    subst hi'
    rw [List.drop_length] at e
    unfold loop at e
    cases e
    exact .inl ⟨fd.stop W H hst, k W H (st1.trans st) s σ rs⟩
theorem s_for {tg iter : Expr} {body : List Stmt} {it : MA} {g : MG} {b : MS} (gd : Gd F X) (hxe : PassesOwn (model X.prog X.w) X.A X.env X.xe) (hi : PI X tg iter (tI F it)) (hg : PG X tg (tGP F All g)) (hb : PSs X body (tS F b))
    (hs : ∀ x, foldedSetIterable iter X.env x = pure x := by intro _; rfl) : PS X (.For tg iter body [] pos) (tS F (mFor it g b)) := wkS (ps_for hxe gd.calm hi hg hb hs) fun _ _ _ => tFor_of
/-! ### while -/
def wloop (t : MT) (b : MS) : Nat → Sl → CH → Option (Fl × Sl × CH)
  | 0, _, _ => none
  | n + 1, c, h => (t c h).bind fun p => match p.1 with
    | false => some (.nx, c, p.2)
    | true => (b c p.2).bind fun q => match q.1 with
      | .nx => wloop t b n q.2.1 q.2.2
      | .ct => wloop t b n q.2.1 q.2.2
      | .bk => some (.nx, q.2)
      | .rt x => some (.rt x, q.2)
def mWhile (n : Nat) (t : MT) (b : MS) : MS := wloop t b n
theorem s_while (n : Nat) {body : List Stmt} {t : MT} {b : MS} (hxe : PassesOwn (model X.prog X.w) X.A X.env X.xe) (hc : PT X e (tT F t)) (hb : PSs X body (tS F b)) : PS X (.While e body [] pos) (tS F (mWhile n t b)) := wkS (ps_while hxe hc hb) fun D σ H hh => by
  obtain ⟨W0, c0, h0, f, c', h', rs0, s0, e0, k⟩ := hh
  refine ⟨fun m σ H => ∃ W c h, RSl F W H c σ ∧ Sim F W h H ∧ Stp W0 _ W H ∧ wloop t b m c h = some (f, c', h'), ⟨n, W0, c0, h0, rs0, s0, .refl, e0⟩, ?_⟩
  rintro m σ H ⟨W, c, h, rs, s, st, e⟩
  cases m with
  | zero => cases e
  | succ m =>
    unfold wloop at e
    simp only [Option.bind_eq_some_iff, Prod.exists] at e
    obtain ⟨x, h1, e1, e2⟩ := e
    refine seqX rs s e1 fun W1 H1 u st1 s1 r1 => ?_
    cases (show u = x from r1)
    cases x with
    | false =>
      rw [if_neg Bool.false_ne_true]
      cases e2
      exact k W1 H1 (st.trans st1) s1 σ (rs.mono st1)
    | true =>
      rw [if_pos rfl]
      simp only [Option.bind_eq_some_iff, Prod.exists] at e2
      obtain ⟨f2, c3, h3, e4, e5⟩ := e2
      refine ⟨_, fun σ' H' w => ⟨m, Nat.lt_succ_self m, w⟩, ?_⟩
      refine tS_mk (rs.mono st1) s1 e4 fun W4 H4 st4 s4 => ?_
      have stt := (st.trans st1).trans st4
      cases f2 with
      | nx => exact fun σ4 rs4 => ⟨W4, c3, h3, rs4, s4, stt, e5⟩
      | ct => exact fun σ4 rs4 => ⟨W4, c3, h3, rs4, s4, stt, e5⟩
      | bk => cases e5; exact k W4 H4 stt s4
      | rt x => cases e5; exact k W4 H4 stt s4
end
end Mc


namespace Mc
open PySem L2
section
variable {F : Fx} {X : Cx} {a b e : Expr} {es : List Expr} {pos : Pos} {ma mb me : ME} {W W' : Wd} {h h' : CH} {H H' : Hp} {p : Addr}

/-! ### list comprehensions -/
def wipeC (c : Sl) : List Nat → Sl
  | [] => c
  | v :: vs => (wipeC c vs).set v none
theorem wipeC_len (c : Sl) : ∀ vs, (wipeC c vs).length = c.length
  | [] => rfl
  | v :: vs => by unfold wipeC; rw [List.length_set, wipeC_len c vs]
theorem wipeC_some {c : Sl} {i : Nat} {x : CV} : ∀ {vs : List Nat}, (wipeC c vs)[i]? = some (some x) → c[i]? = some (some x) ∧ i ∉ vs
  | [], h => ⟨h, by simp⟩
  | v :: vs, h => by
    unfold wipeC at h
    by_cases hi : v = i
    · subst hi
      by_cases hv : v < (wipeC c vs).length
      · rw [List.getElem?_set_self hv] at h; cases h
      · rw [List.getElem?_eq_none (by simpa using hv)] at h; cases h
    · rw [List.getElem?_set_ne hi] at h
      obtain ⟨h1, h2⟩ := wipeC_some h
      exact ⟨h1, by simp only [List.mem_cons, not_or]; exact ⟨fun e => hi e.symm, h2⟩⟩
theorem wipe_out' {σ : St} {i : Nat} : ∀ {vs : List Nat}, i ∉ vs → (wipe σ vs)[i]? = σ[i]?
  | [], _ => rfl
  | v :: vs, h => by
    unfold wipe
    simp only [List.mem_cons, not_or] at h
    rw [List.getElem?_set_ne (fun e => h.1 e.symm)]
    exact wipe_out' h.2
theorem wipe_in {σ : St} {i : Nat} : ∀ {vs : List Nat}, i ∈ vs → (wipe σ vs)[i]? = if i < σ.length then some none else none
  | v :: vs, h => by
    unfold wipe
    by_cases hv : v = i
    · subst hv
      split
      · rename_i hl
        rw [List.getElem?_set_self (by rw [wipe_length]; exact hl)]
      · rename_i hl
        rw [List.getElem?_eq_none (by rw [List.length_set, wipe_length]; omega)]
    · rw [List.getElem?_set_ne hv]
      rcases List.mem_cons.mp h with q | q
      · exact absurd q.symm hv
      · exact wipe_in q
theorem wipe_ag {σ σ' : St} {vs : List Nat} (a : Ag (· ∈ vs) σ σ') : wipe σ' vs = wipe σ vs := by
  apply List.ext_getElem?
  intro i
  by_cases h : i ∈ vs
  · rw [wipe_in h, wipe_in h, a.1]
  · rw [wipe_out' h, wipe_out' h, a.2 i h]
theorem wipe_wipe {σ : St} {vs : List Nat} : wipe (wipe σ vs) vs = wipe σ vs := by
  apply List.ext_getElem?
  intro i
  by_cases h : i ∈ vs
  · rw [wipe_in h, wipe_in h, wipe_length]
  · rw [wipe_out' h]
theorem RSl.wipe {c : Sl} {σ : St} (r : RSl F W H c σ) (vs : List Nat) : RSl F W H (wipeC c vs) (L2.wipe σ vs) :=
  ⟨by rw [wipeC_len, wipe_length]; exact r.1, fun i x e => by
    obtain ⟨e1, h1⟩ := wipeC_some e
    rw [wipe_out' h1]
    exact r.2 i x e1⟩
def cloop (g : MG) (t : MT) (m : ME) (c : Sl) : List CV → CH → Option (List CV × CH)
  | [], h => some ([], h)
  | x :: xs, h => (g x c h).bind fun p => (t p.1 p.2).bind fun q => match q.1 with
    | false => cloop g t m c xs q.2
    | true => (m p.1 q.2).bind fun r => (cloop g t m c xs r.2).bind fun s => some (r.1 :: s.1, s.2)
def mLc (fr : Bool) (it : MA) (own : List Nat) (g : MG) (t : MT) (m : ME) : ME := fun c h => (it c h).bind fun p => if p.1.length ≤ lim then (cloop g t m (wipeC c own) p.1 p.2).bind fun q => mk fr q.2 q.1 else none
def mYes : MT := fun _ h => some (true, h)
theorem p_nil : PTs X [] (tT F mYes) := ⟨fun pins s σ H Q I hh => pts_nil.run pins s σ H Q I (by
  obtain ⟨W, c, h, z, h', rs, s, e, k⟩ := hh
  cases e
  exact k W H _ .refl s rfl)⟩
theorem p_one {t : MT} (h : PT X e (tT F t)) : PTs X [e] (tT F t) := pts_one h
theorem tLc_of {fr : Bool} {it : MA} {own : List Nat} {g : MG} {t : MT} {m : ME} {σ : St} {H : Hp} {Q : VK} (hh : tE F (mLc fr it own g t m) σ H Q) : tLc (tI F it) (tGP F (· ∈ own) g) (tT F t) (tE F m) own σ H Q := by
  obtain ⟨W0, c0, h0, z, h', rs0, s0, e0, k⟩ := hh
  unfold mLc at e0
  simp only [Option.bind_eq_some_iff, Prod.exists] at e0
  obtain ⟨items, h1, e1, e2⟩ := e0
  split at e2
  · rename_i hlim
    simp only [Option.bind_eq_some_iff, Prod.exists] at e2
    obtain ⟨total, h2, e3, e4⟩ := e2
    refine ⟨W0, c0, h0, items, h1, rs0, s0, e1, fun W1 H1 J St st1 s1 fd hst D hD => ?_⟩
    have pr1 : Priv W1 h1 D := ⟨fun z => s1.ne D (.inl z) hD, fun z => s1.ne D (.inr (.inl z)) hD, fun z => s1.ne D (.inr (.inr z)) hD, fun n o e q => (by
      obtain ⟨a, q1, _, _, q4⟩ := s1.obj n o e
      obtain ⟨v, q5, _⟩ := q4.mu
      rw [q] at q1
      cases q1
      rw [hD] at q5; cases q5), fun n T e q => s1.bo.ne e q hD⟩
    have st2 := s1.stpNew (u := .lst []) hD
    refine ⟨fun i m' H => ∃ W h acc acc', m' = items.length - i ∧ i ≤ items.length ∧ Sim F W h H ∧ St W H ∧ Stp W1 H1 W H ∧ Priv W h D ∧ H D = some (.lst acc) ∧ Rls F W H acc' acc ∧ acc.length ≤ i ∧ ∃ rest, cloop g t m (wipeC c0 own) (items.drop i) h = some (rest, h2) ∧ acc' ++ rest = total,
      ⟨items.length, W1, h1, [], [], by simp, Nat.zero_le _, s1.fresh hD, fd.mono _ _ _ _ st2 hst, st2, pr1, upd_same, .nil, Nat.le_refl _, total, by simpa using e3, by simp⟩, ?_⟩
    rintro i m' H ⟨W, h, acc, acc', rfl, hi, s, hst, st, pr, hacc, racc, hlen, rest, e, et⟩
    by_cases hlt : i < items.length
    · rw [List.drop_eq_getElem_cons hlt] at e
      unfold cloop at e
      simp only [Option.bind_eq_some_iff, Prod.exists] at e
      obtain ⟨c2, h3, e5, b, h4, e6, e7⟩ := e
      refine .inr ⟨fd.go i W H hlt hst, _, fun H' w => ⟨items.length - (i + 1), Nat.sub_lt_sub_left hlt (Nat.lt_succ_self _), w⟩, fun x H' y => ?_⟩
      have sk := s.keep pr (by rw [hacc]; simp)
      have hstk := fd.keep W H D hst
      obtain ⟨W2, stA, s2, r2⟩ := fd.yld i (W.keep D) h H x H' _ hstk sk (List.getElem?_eq_getElem hlt) y
      have base : RSl F (W.keep D) H (wipeC c0 own) (wipe σ own) := RSl.up (W := W) (W2 := W.keep D) rfl (fun _ h => h) (fun _ h => h) (((rs0.mono st1).mono st).wipe own)
      refine ⟨W2, wipeC c0 own, h, _, c2, h3, base.mono stA, s2, r2, e5, fun W3 H3 σ3 stB s3 rs3 ag => ⟨(wipe_ag ag).trans wipe_wipe |>.trans wipe_wipe.symm |>.trans (by rw [wipe_wipe]), ?_⟩⟩
      refine seqX rs3 s3 e6 fun W4 H4 u stC s4 rb => ?_
      cases (show u = b from rb)
      have stAC := (stA.trans stB).trans stC
      -- the turn's end, at W5, H5: D as it was
      cases b with
      | false =>
        rw [if_neg Bool.false_ne_true]
        have hD5 : H4 D = some (.lst acc) := (stAC.hz D (.inr (.inr (.inr rfl)))).trans hacc
        have stK := stAC.back
        exact ⟨W4.back W, h4, acc, acc', rfl, hlt, s4.back fun a z => by rw [stAC.kp]; exact .inl z, fd.mono _ _ _ _ stK hst, st.trans stK, pr.back s4 stAC, hD5, racc.mono stK, Nat.le_succ_of_le hlen, rest, e7, et⟩
      | true =>
        rw [if_pos rfl]
        simp only [Option.bind_eq_some_iff, Prod.exists, Option.some.injEq, Prod.mk.injEq] at e7
        obtain ⟨y1, h5, e8, ys, h6, e9, rfl, rfl⟩ := e7
        refine seqX (rs3.mono stC) s4 e8 fun W5 H5 v stD s5 r5 => ?_
        have stAD := stAC.trans stD
        have hD5 : H5 D = some (.lst acc) := (stAD.hz D (.inr (.inr (.inr rfl)))).trans hacc
        have stK := stAD.back
        have pr5 := pr.back s5 stAD
        have s5' : Sim F (W5.back W) h5 H5 := s5.back fun a z => by rw [stAD.kp]; exact .inl z
        have stE : Stp (W5.back W) H5 (W5.back W) (upd H5 D (.lst (acc ++ [v]))) := pr5.stp ⟨_, hD5⟩
        have r5' : Rl F (W5.back W) H5 y1 v := Rl.up (W := W5) (W2 := W5.back W) rfl (fun _ h => h) (fun _ h => h) r5
        refine ⟨acc, hD5, Nat.lt_of_lt_of_le (Nat.lt_of_le_of_lt hlen hlt) hlim, W5.back W, h5, acc ++ [v], acc' ++ [y1], rfl, hlt, s5'.priv pr5 ⟨_, hD5⟩, fd.mono _ _ _ _ (stK.trans stE) hst, (st.trans stK).trans stE, pr5, upd_same, (racc.mono (stK.trans stE)).append (.cons (r5'.mono stE) .nil), ?_, ys, e9, by simpa using et⟩
        rw [List.length_append, List.length_singleton]
        exact Nat.succ_le_succ hlen
    · have hi' : i = items.length := by omega
      subst hi'
      rw [List.drop_length] at e
      unfold cloop at e
      cases e
      rw [List.append_nil] at et
      subst et
      refine .inl ⟨fd.stop W H hst, ?_⟩
      obtain ⟨W2, st2, s2, r2⟩ := adopt s pr hacc e4 racc
      exact k W2 H _ ((st1.trans st).trans st2) s2 r2
  · cases e2
end
end Mc


namespace Mc
open PySem PySem.Spec PyProof.Rows L2
section
variable {F : Fx} {X : Cx} {a b e : Expr} {es : List Expr} {pos : Pos} {ma mb me : ME}

/-! ### list comprehensions: the rules -/
theorem Gd.blk (g : Gd F X) {s : Shared} {H : Hp} {scope : Scope} {cenv : Env} {fp : List Addr} : Gd F (X.blk s H scope cenv fp) := ⟨g.hK, g.calm, g.nd, g.un⟩
theorem e_lc (fr : Bool) {tg iter : Expr} {ifs : List Expr} {scope : Scope} {own : List (Str × Nat)} {it : MA} {gg : MG} {t : MT} {m : ME} (g : Gd F X) (hi : PI X tg iter (tI F it)) (ok : BlkOk X.N X.env.scope scope own)
    (hg : ∀ (s : Shared) (H : Hp) (C : Addr) (cl : List (Str × Addr)) (fp : List Addr), PG (X.blk s H scope (compEnvC scope cl C X.env) fp) tg (tGP F (· ∈ own.map (·.2)) gg))
    (ht : ∀ (s : Shared) (H : Hp) (C : Addr) (cl : List (Str × Addr)) (fp : List Addr), PTs (X.blk s H scope (compEnvC scope cl C X.env) fp) ifs (tT F t))
    (he : ∀ (s : Shared) (H : Hp) (C : Addr) (cl : List (Str × Addr)) (fp : List Addr), PE (X.blk s H scope (compEnvC scope cl C X.env) fp) e (tE F m)) (hs : ∀ x, foldedSetIterable iter X.env x = pure x := by intro _; rfl) :
    PE X (.ListComp e [⟨tg, iter, ifs, 0⟩] scope pos) (tE F (mLc fr it (own.map (·.2)) gg t m)) := wkE (pe_lc g.calm g.nd hi ok hg ht he hs) fun _ _ _ => tLc_of
/-- name = [..], the name a plain local -/
theorem s_setLc (fr : Bool) (i : Nat) {y : Str} {py spos : Pos} {tg iter : Expr} {ifs : List Expr} {scope : Scope} {own : List (Str × Nat)} {it : MA} {gg : MG} {t : MT} {m : ME} (g : Gd F X) (hi : PI X tg iter (tI F it)) (ok : BlkOk X.N X.env.scope scope own)
    (hg : ∀ (s : Shared) (H : Hp) (C : Addr) (cl : List (Str × Addr)) (fp : List Addr), PG (X.blk s H scope (compEnvC scope cl C X.env) fp) tg (tGP F (· ∈ own.map (·.2)) gg))
    (ht : ∀ (s : Shared) (H : Hp) (C : Addr) (cl : List (Str × Addr)) (fp : List Addr), PTs (X.blk s H scope (compEnvC scope cl C X.env) fp) ifs (tT F t))
    (he : ∀ (s : Shared) (H : Hp) (C : Addr) (cl : List (Str × Addr)) (fp : List Addr), PE (X.blk s H scope (compEnvC scope cl C X.env) fp) e (tE F m))
    (hy : X.N[i]? = some y := by rfl) (hyl : X.env.scope.names.lookup y = some .local := by rfl) (hsw : swapsWith (.ListComp e [⟨tg, iter, ifs, 0⟩] scope pos) (some (.Name y py)) spos.line X.env = pure true := by exact sw_true rfl rfl rfl (by decide +kernel))
    (hs : ∀ x, foldedSetIterable iter X.env x = pure x := by intro _; rfl) :
    PS X (.Assign [.Name y py] (.ListComp e [⟨tg, iter, ifs, 0⟩] scope pos) spos) (tS F (mAsg (mLc fr it (own.map (·.2)) gg t m) (gNm i))) := wkS (ps_setLc g.calm g.nd hy hyl hsw hi ok hg ht he hs) fun D σ H hh => by
  obtain ⟨W, c, h, f, c', h', rs, s, e, k⟩ := hh
  unfold mAsg gNm at e
  simp only [Option.bind_eq_some_iff, Prod.exists, Option.some.injEq, Prod.mk.injEq] at e
  obtain ⟨x, h1, e1, c2, h2, ⟨rfl, rfl⟩, rfl, rfl, rfl⟩ := e
  exact tLc_of (seqX rs s e1 fun W1 H1 u st1 s1 r1 => k W1 H1 st1 s1 _ ((rs.mono st1).set r1))

/-! ### defs and calls; the frames' guards are told -/
/-- a def keeps its promise wherever nothing is being shown -/
structure Fn (P : Program) (w : World) (K : PySem.W.Frag) (mg : Str → Option Value) (base : Heap) (k : Nat) (f : Addr) (fd : FuncData) (n : Nat) (ps : List Str) (sp : Sp) : Prop where
  cnt : ps.length = n
  len : ∀ vs H Q, sp vs H Q E0 → vs.length = n
  go : ∀ (A : Around) (outer : List Env) (s : Shared) (H : Hp) (args : Args) (us : List Value) (vs : List V) (Q : VK), Room k A → A.guards = some [] → Env0 P w K mg base A outer s H → BindsTo s fd args (ps.zip us) → Vals vs us → sp vs H Q E0 →
    codeAny (model P w) A (.call (.ref f) args) (CR CX0 outer P w H s Q E0) s
theorem Fn.mono {P : Program} {w : World} {K : PySem.W.Frag} {mg : Str → Option Value} {base : Heap} {j k : Nat} {f : Addr} {fd : FuncData} {n : Nat} {ps : List Str} {sp : Sp} (Z : Fn P w K mg base j f fd n ps sp) (h : j ≤ k) : Fn P w K mg base k f fd n ps sp :=
  ⟨Z.cnt, Z.len, fun A outer s H args us vs Q hr => Z.go A outer s H args us vs Q (hr.mono h)⟩
def spM (F : Fx) (n : Nat) (f : List CV → CH → Option (CV × CH)) : Sp := fun vs H Q _ => vs.length = n ∧ ∃ W h xs x h', Rls F W H xs vs ∧ Sim F W h H ∧ f xs h = some (x, h') ∧ ∀ W' H' v, Stp W H W' H' → Sim F W' h' H' → Rl F W' H' x v → Q v H'
/-- a def's machine, of its body's: N names -/
def mFn (N : Nat) (b : MS) : List CV → CH → Option (CV × CH) := fun xs h => (b (xs.map some ++ List.replicate (N - xs.length) none) h).bind fun p => match p.1 with
  | .rt x => some (x, p.2.2)
  | .nx => some (.d .non, p.2.2)
  | _ => none
section
variable {P : Program} {w : World} {K : PySem.W.Frag} {mg : Str → Option Value} {base : Heap}
theorem RSl.start {W : Wd} {H : Hp} {N : List Str} {xs : List CV} {vs : List V} (r : Rls F W H xs vs) : RSl F W H (xs.map some ++ List.replicate (N.length - xs.length) none) (L2.start N vs) := by
  refine ⟨by unfold L2.start; simp [r.length], fun i x e => ?_⟩
  unfold L2.start
  by_cases hi : i < xs.length
  · rw [List.getElem?_append_left (by simpa using hi), List.getElem?_map] at e
    simp only [Option.map_eq_some_iff, Option.some.injEq] at e
    obtain ⟨y, e1, rfl⟩ := e
    obtain ⟨v, e2, r2⟩ := r.get e1
    exact ⟨v, by rw [List.getElem?_append_left (by simpa [← r.length] using hi), List.getElem?_map, e2]; rfl, r2⟩
  · rw [List.getElem?_append_right (by simpa using hi), List.getElem?_replicate] at e
    split at e <;> cases e
/-- THE RULE for a def -/
theorem fn_ok {x qual : Str} {st : Stmt} {f : Addr} {fd : FuncData} {N ps : List Str} {n k : Nat} {b : MS} (hK : F.K = K) (Z : Fun K x qual st f fd) (S : FnScope N ps (defScope st)) (hn : ps.length = n)
    (hb : ∀ (cdv : Value) (A : Around) (outer : List Env) (s : Shared) (H : Hp), Gd F (cxOf CX0 P w K mg base N qual (defScope st) f cdv A outer s H E0).nox → Room k (A.deeper (envOfC qual (defScope st) s.heap.objs.size f cdv)) → A.guards = some [] →
      PSs (cxOf CX0 P w K mg base N qual (defScope st) f cdv A outer s H E0).nox (defBody st) (tS F b)) : Fn P w K mg base (k + 1) f fd n ps (spM F n (mFn N.length b)) := by
  obtain ⟨oc, od, kV, doc, pm, an, cdv, ct, osl, rfl, look, code⟩ := Z.ex
  refine ⟨hn, fun vs H Q h => h.1, fun A outer s H args us vs Q room gu env bound rel want => ?_⟩
  have here := want.1.trans hn.symm
  obtain ⟨_, W, h, xs, y, h', rx, sim, run, kk⟩ := want
  have KX : K.In s.heap := env.mod.kin.keeps fun b o e => (env.bs b o e).1
  have kinds : ∀ y ∈ ps.zip us, (defScope st).names.lookup y.1 = some .local ∨ ((defScope st).names.lookup y.1 = some .cell ∧ ((cellsFrom (s.heap.objs.size + 1) (defScope st).names []).lookup y.1).isSome = true) := by
    rintro ⟨nm, v⟩ hy
    have hp := S.par nm (List.of_mem_zip hy).1
    exact hp.imp id fun q => ⟨q, PySem.W.cellsFrom_some _ _ _ (.inl q)⟩
  refine codeAny_call_function room.depth (KX f _ look) rfl S.co S.gen rfl (PySem.W.codeRec_of KX code) ?_
  refine bound _ _ _ _ (wpAny_newFunctionEnv_cells S.kind kinds ?_)
  rintro _ rfl s1 inside
  refine ⟨(env.mod.nolimit.keeps fun b o e => (env.bs b o e).1).keeps inside.toInCall.keep, codeAny_func ?_⟩
  have room' := room.deeper (envOfC qual (defScope st) s.heap.objs.size f cdv)
  have I : Inv (cxOf CX0 P w K mg base N qual (defScope st) f cdv A outer s H E0) [] (L2.start N vs) H s1 := inv_start S room.hd env here rel inside
  have gd : Gd F (cxOf CX0 P w K mg base N qual (defScope st) f cdv A outer s H E0).nox := ⟨hK, rfl, S.nd, by have := room'.un; show (A.deeper _).units + 100 < _; omega⟩
  have body := (hb cdv A outer s H gd room' gu).nox
  unfold mFn at run
  simp only [Option.bind_eq_some_iff, Prod.exists] at run
  obtain ⟨fl, c2, h2, e1, e2⟩ := run
  refine wpAny_mono (body.run [] s1 (L2.start N vs) H ⟨fun _ H' => Q .non H', Q, fun _ _ => False, fun _ _ => False⟩ I ?_) (fun g s' done => ?_) (fun _ _ z => z)
  · refine ⟨W, _, h, fl, c2, h2, RSl.start rx, sim, e1, fun W' H' st2 s2 => ?_⟩
    cases fl with
    | nx => cases e2; exact fun σ _ => kk W' H' .non st2 s2 (.d .non)
    | rt z => cases e2; exact fun v r => kk W' H' v st2 s2 r
    | bk => cases e2
    | ct => cases e2
  · cases g with
    | ret u =>
      obtain ⟨v, σ', H', J, rv, q⟩ := done
      exact ⟨v, H', J.os, J.bare, J.base, J.hok, rv, q⟩
    | next =>
      obtain ⟨σ', H', J, q⟩ := done
      exact ⟨V.non, H', J.os, J.bare, J.base, J.hok, rfl, q⟩
    | brk => obtain ⟨_, _, _, q⟩ := done; exact q.elim
    | cont => obtain ⟨_, _, _, q⟩ := done; exact q.elim
end
variable {f C : Addr} {fd : FuncData} {ps : List Str} {n k : Nat} {sp : Sp} {x m : Str} {p apos : Pos} {o : Expr} {r : MA} {ff : List CV → CH → Option (CV × CH)}
theorem go_fn {pins : List (Addr × Obj)} {σ : L2.St} {H : Hp} {s : Shared} {Q : VK} {us : List Value} {vs : List V} (Z : Fn X.prog X.w X.K X.mg X.base k f fd n ps sp) (hr : Room k X.A) (gu : X.A.guards = some []) (hb : Binds X.K fd ps [])
    (I : Inv X pins σ H s) (rv : Vals vs us) (h : sp vs H Q E0) : wpAny (model X.prog X.w) X.A (call (.ref f) us) (EP X pins σ Q) X.xe s := by
  have same : (us ++ []).length = ps.length := by rw [List.append_nil, ← rv.length, Z.cnt]; exact Z.len _ _ _ h
  have bd := hb s us I.kIn same
  rw [List.append_nil] at bd
  refine wpAny_call (codeAny_mono (Z.go X.A X.stack s H ⟨us, []⟩ us vs Q hr gu I.env0 bd rv h) ?_)
  rintro (e | fl) s' done
  · exact (show False from done).elim
  · cases fl with
    | ret u => exact I.after done
    | _ => exact (show False from done).elim
/-- f(..) -/
def mCall (ff : List CV → CH → Option (CV × CH)) (r : MA) : ME := fun c h => (r c h).bind fun p => ff p.1 p.2
theorem tCallM {H : Hp} {σ : L2.St} {Q : VK} (hn : ∀ c h xs h', r c h = some (xs, h') → xs.length = n) (hh : tE F (mCall ff r) σ H Q) : tA F r σ H (fun vs H1 => spM F n ff vs H1 Q E0) := by
  obtain ⟨W, c, h, z, h', rs, s, e, k⟩ := hh
  unfold mCall at e
  simp only [Option.bind_eq_some_iff, Prod.exists] at e
  obtain ⟨xs, h1, e1, e2⟩ := e
  exact seqX rs s e1 fun W1 H1 us st1 s1 r1 => ⟨by rw [← r1.length]; exact hn _ _ _ _ e1, W1, h1, xs, z, h', r1, s1, e2, fun W2 H2 v st2 s2 r2 => k W2 H2 v (st1.trans st2) s2 r2⟩
theorem wk_call (Z : Fn X.prog X.w X.K X.mg X.base k f fd n ps sp) (hr : Room k X.A) (gu : X.A.guards = some []) (hm : X.mg x = some (.ref f)) (hk : PySem.W.keepIn X.K (.ref f) = true) (hb : Binds X.K fd ps []) {t : TA} (ha : PA X (e :: es) t)
    (hg : Gl X x) (hdb : (x == ("__debug__" : Str)) = false) (he : starEach (e :: es) X.env = (false, eval e X.env) :: starEach es X.env) (hpl : (backTo pos (starEach es X.env)).any (·.1) = false) :
    PE X (.Call (.Name x p) (e :: es) [] pos) (fun σ H Q => t σ H fun vs H1 => sp vs H1 Q E0) := by
  refine ⟨fun pins s σ H Q I h => wpAny_Call_Name_kw (ld_glob I hg hm ?_ hdb)⟩
  refine PySem.W.callWith_K (h₀ := X.base) I.ok.mod.kin hk ?_ he hpl
  refine thn (ha.run pos pins s σ H _ I h) ?_
  rintro us s1 ⟨vs, H1, I1, rv, q⟩
  exact ⟨I1.kIn, go_fn Z hr gu hb I1 rv q⟩
theorem wk_call0 (Z : Fn X.prog X.w X.K X.mg X.base k f fd n ps sp) (hr : Room k X.A) (gu : X.A.guards = some []) (hm : X.mg x = some (.ref f)) (hk : PySem.W.keepIn X.K (.ref f) = true) (hb : Binds X.K fd ps [])
    (hg : Gl X x) (hdb : (x == ("__debug__" : Str)) = false) : PE X (.Call (.Name x p) [] [] pos) (fun _ H Q => sp [] H Q E0) := by
  refine ⟨fun pins s σ H Q I h => wpAny_Call_Name_kw (ld_glob I hg hm ?_ hdb)⟩
  exact PySem.W.callWith_K0 I.kIn hk (go_fn (us := []) Z hr gu hb I .nil h)
theorem e_call (hn : ∀ c h xs h', r c h = some (xs, h') → xs.length = n) (Z : Fn X.prog X.w X.K X.mg X.base k f fd n ps (spM F n ff)) (hr : Room k X.A) (gu : X.A.guards = some []) (hm : X.mg x = some (.ref f)) (hk : PySem.W.keepIn X.K (.ref f) = true) (hb : Binds X.K fd ps []) (ha : PA X (e :: es) (tA F r))
    (hg : Gl X x := by rfl) (hdb : (x == ("__debug__" : Str)) = false := by decide) (he : starEach (e :: es) X.env = (false, eval e X.env) :: starEach es X.env := by rfl) (hpl : (backTo pos (starEach es X.env)).any (·.1) = false := by rfl) :
    PE X (.Call (.Name x p) (e :: es) [] pos) (tE F (mCall ff r)) := wkE (wk_call Z hr gu hm hk hb ha hg hdb he hpl) fun _ _ _ => tCallM hn

/-! ### a call that is given snapshots and changes nothing -/
def snapS : Nat → CH → CV → Option Sn
  | _, _, .d x => some (.sd x)
  | _, _, .s x => some x
  | _, _, .t _ => none
  | 0, _, .ref _ => none
  | k + 1, h, .ref n => match h[n]? with
    | some (some (.lst xs)) => (xs.mapM (snapS k h)).map .sl
    | some (some (.dk kvs)) => ((kvs.map (·.2)).mapM (snapS k h)).map (.sk (kvs.map (·.1)))
    | some (some (.ins c fs)) => ((fs.map (·.2)).mapM (snapS k h)).map (.si c (fs.map (·.1)))
    | some (some (.box T)) => some T
    | _ => none
def snap (h : CH) : CV → Option CV
  | .d x => some (.d x)
  | .s x => some (.s x)
  | .t _ => none
  | .ref n => (snapS 6 h (.ref n)).map .s
def snaps (h : CH) : List CV → Option (List CV)
  | [] => some []
  | x :: xs => (snap h x).bind fun y => (snaps h xs).map (y :: ·)
/-- the callee's world -/
def Wd.sub (W : Wd) (h : CH) : Wd := { mu := [], fz := W.fz, ln := fun a => W.ln a ∨ (∃ (n : Nat) (o : CO), h[n]? = some (some o) ∧ W.mu[n]? = some a) ∨ ∃ (n : Nat) (T : Sn), h[n]? = some (some (.box T)) ∧ a ∈ W.bx n, kp := W.kp }
theorem Sim.sub {W : Wd} {h : CH} {H : Hp} (s : Sim F W h H) : Sim F (W.sub h) [] H where
  len := rfl
  obj := fun n o e => by simp at e
  inj := fun n m o o' a e => by simp at e
  ne := fun a hx => by
    rcases hx with q | (q | ⟨n, o, q1, q2⟩ | ⟨n, T, q1, q2⟩) | q
    · exact s.ne a (.inl q)
    · exact s.ne a (.inr (.inl q))
    · obtain ⟨b, q3, _, _, q4⟩ := s.obj n o q1
      rw [q2] at q3
      cases q3
      obtain ⟨v, q5, _⟩ := q4.mu
      rw [q5]; simp
    · exact s.bo.ne q1 q2
    · exact s.ne a (.inr (.inr q))
  dj := fun a hx => ⟨fun z => by
    rcases z with q | ⟨n, o, q1, q2⟩ | ⟨n, T, q1, q2⟩
    · exact (s.dj a hx).1 q
    · obtain ⟨b, q3, q4, _⟩ := s.obj n o q1
      rw [q2] at q3
      cases q3
      exact q4 hx
    · exact (s.bo.pv n T a q1 q2).1 hx, (s.dj a hx).2⟩
  bo := ⟨fun n T e => by simp at e, fun n T x e => by simp at e, fun n T e => by simp at e, fun n T m o x e => by simp at e, fun n m T T' x e => by simp at e⟩
theorem mapM_rs {W W2 : Wd} {h : CH} {H : Hp} {g : CV → Option Sn} (ih : ∀ {x : CV} {y : Sn} {v : V}, g x = some y → Rl F W H x v → RS F W2 H y v) :
    ∀ {xs : List CV} {ys : List Sn} {vs : List V}, xs.mapM g = some ys → Rls F W H xs vs → RSs F W2 H ys vs
  | [], ys, vs, e, r => by
    simp only [List.mapM_nil, Option.pure_def, Option.some.injEq] at e
    subst e
    cases r
    exact .nil
  | x :: xs, ys, vs, e, r => by
    simp only [List.mapM_cons, Option.bind_eq_bind, Option.bind_eq_some_iff, Option.pure_def, Option.some.injEq] at e
    obtain ⟨y, e1, ys, e2, rfl⟩ := e
    cases r with
    | cons r1 r2 => exact .cons (ih e1 r1) (mapM_rs (h := h) ih e2 r2)
theorem pair_split {κ : Type} {W : Wd} {H : Hp} : ∀ {l : List (κ × CV)} {m : List (κ × V)}, Paired (fun (p : κ × CV) (q : κ × V) => p.1 = q.1 ∧ Rl F W H p.2 q.2) l m → m.map (·.1) = l.map (·.1) ∧ Rls F W H (l.map (·.2)) (m.map (·.2))
  | _, _, .nil => ⟨rfl, .nil⟩
  | _, _, .cons h t => let ⟨a, b⟩ := pair_split t; ⟨by simp [a, h.1], .cons h.2 b⟩
mutual
theorem Tr.rs {W W2 : Wd} {H : Hp} (hf : ∀ a, W.fz a → W2.fz a) : ∀ {x : Sn} {v : V} {fp : List Addr}, (∀ b ∈ fp, W2.ln b) → Tr F W H x v fp → RS F W2 H x v
  | _, _, _, _, .sd h => .sd (h.up hf)
  | _, _, _, l, .sl h r => .sl (.inl (.inl (l _ (List.mem_cons_self ..)))) (.of h) (Trs.rs hf (fun b m => l b (List.mem_cons_of_mem _ m)) r)
  | _, _, _, l, .sk h e r => .sk (.inl (l _ (List.mem_cons_self ..))) (.inl h) e (Trs.rs hf (fun b m => l b (List.mem_cons_of_mem _ m)) r)
  | _, _, _, l, .si h e r => .si (.inl (l _ (List.mem_cons_self ..))) h e (Trs.rs hf (fun b m => l b (List.mem_cons_of_mem _ m)) r)
theorem Trs.rs {W W2 : Wd} {H : Hp} (hf : ∀ a, W.fz a → W2.fz a) : ∀ {x : List Sn} {v : List V} {fp : List Addr}, (∀ b ∈ fp, W2.ln b) → Trs F W H x v fp → RSs F W2 H x v
  | _, _, _, _, .nil => .nil
  | _, _, _, l, .cons h r => .cons (Tr.rs hf (fun b m => l b (List.mem_append_left _ m)) h) (Trs.rs hf (fun b m => l b (List.mem_append_right _ m)) r)
end
theorem snapS_rel {W : Wd} {h : CH} {H : Hp} (s : Sim F W h H) : ∀ (k : Nat) {x : CV} {y : Sn} {v : V}, snapS k h x = some y → Rl F W H x v → RS F (W.sub h) H y v := by
  have hd : ∀ {x : D} {v : V}, RD F W H x v → RD F (W.sub h) H x v := fun r => RD.up (W := W) (W2 := W.sub h) (fun _ h => h) r
  have hs : ∀ {x : Sn} {v : V}, RS F W H x v → RS F (W.sub h) H x v := fun r => RS.up (W := W) (W2 := W.sub h) (fun _ h => h) (fun _ h => .inl h) r
  intro k
  induction k with
  | zero =>
    intro x y v e r
    cases x with
    | d x => simp only [snapS, Option.some.injEq] at e; subst e; cases r with | d r => exact .sd (hd r)
    | s x => simp only [snapS, Option.some.injEq] at e; subst e; cases r with | s r => exact hs r
    | ref n => simp [snapS] at e
    | t xs => simp [snapS] at e
  | succ k ih =>
    intro x y v e r
    cases x with
    | d x => simp only [snapS, Option.some.injEq] at e; subst e; cases r with | d r => exact .sd (hd r)
    | s x => simp only [snapS, Option.some.injEq] at e; subst e; cases r with | s r => exact hs r
    | t xs => simp [snapS] at e
    | ref n =>
      cases r with
      | ref m =>
        simp only [snapS] at e
        split at e
        · rename_i xs q
          simp only [Option.map_eq_some_iff] at e
          obtain ⟨ys, e1, rfl⟩ := e
          obtain ⟨a, q1, _, _, vs, q4, r⟩ := s.obj _ _ q
          rw [m] at q1
          cases q1
          exact .sl (.inl (.inl (.inr (.inl ⟨_, _, q, m⟩)))) (.of q4) (mapM_rs (h := h) ih e1 r)
        · rename_i kvs q
          simp only [Option.map_eq_some_iff] at e
          obtain ⟨ys, e1, rfl⟩ := e
          obtain ⟨a, q1, _, _, vs, q4, r⟩ := s.obj _ _ q
          rw [m] at q1
          cases q1
          obtain ⟨z1, z2⟩ := pair_split r
          exact .sk (.inl (.inr (.inl ⟨_, _, q, m⟩))) (.inl q4) z1 (mapM_rs (h := h) ih e1 z2)
        · rename_i c fs q
          simp only [Option.map_eq_some_iff] at e
          obtain ⟨ys, e1, rfl⟩ := e
          obtain ⟨a, q1, _, _, dx, vs, q4, r⟩ := s.obj _ _ q
          rw [m] at q1
          cases q1
          obtain ⟨z1, z2⟩ := pair_split r
          exact .si (.inl (.inr (.inl ⟨_, _, q, m⟩))) q4 z1 (mapM_rs (h := h) ih e1 z2)
        · rename_i T q
          cases e
          obtain ⟨a, q1, q2⟩ := s.bo.tr _ _ q
          rw [m] at q1
          cases q1
          exact Tr.rs (W := W) (W2 := W.sub h) (fun _ h => h) (fun b mb => .inr (.inr ⟨_, _, q, mb⟩)) q2
        · cases e
theorem snap_rel {W : Wd} {h : CH} {H : Hp} (s : Sim F W h H) {x y : CV} {v : V} (e : snap h x = some y) (r : Rl F W H x v) : Rl F (W.sub h) H y v := by
  cases x with
  | d x => simp only [snap, Option.some.injEq] at e; subst e; cases r with | d r => exact .d (RD.up (W := W) (W2 := W.sub h) (fun _ h => h) r)
  | s x => simp only [snap, Option.some.injEq] at e; subst e; cases r with | s r => exact .s (RS.up (W := W) (W2 := W.sub h) (fun _ h => h) (fun _ h => .inl h) r)
  | t xs => simp [snap] at e
  | ref n =>
    simp only [snap, Option.map_eq_some_iff] at e
    obtain ⟨z, e1, rfl⟩ := e
    exact .s (snapS_rel s 6 e1 r)
theorem snaps_rel {W : Wd} {h : CH} {H : Hp} (s : Sim F W h H) : ∀ {xs ys : List CV} {vs : List V}, snaps h xs = some ys → Rls F W H xs vs → Rls F (W.sub h) H ys vs
  | [], ys, vs, e, r => by
    simp only [snaps, Option.some.injEq] at e
    subst e
    cases r
    exact .nil
  | x :: xs, ys, vs, e, r => by
    simp only [snaps, Option.bind_eq_some_iff, Option.map_eq_some_iff] at e
    obtain ⟨y, e1, ys, e2, rfl⟩ := e
    cases r with
    | cons r1 r2 => exact .cons (snap_rel s e1 r1) (snaps_rel s e2 r2)
/-- back at the caller -/
def Wd.up (W2 W : Wd) : Wd := { mu := W.mu, fz := W2.fz, ln := W.ln, kp := W.kp, bx := W.bx }
theorem sub_back {W W2 : Wd} {h h2 : CH} {H H2 : Hp} (s : Sim F W h H) (st : Stp (W.sub h) H W2 H2) (s2 : Sim F W2 h2 H2) : Stp W H (W2.up W) H2 ∧ Sim F (W2.up W) h H2 := by
  have lnk : ∀ a, W.ln a → W2.ln a := fun a z => by rw [st.ln]; exact .inl z
  have st' : Stp W H (W2.up W) H2 := ⟨⟨[], by simp [Wd.up]⟩, st.fz, rfl, rfl, fun a z => st.hz a (z.imp id fun z => z.imp .inl id), st.tp, st.fr⟩
  refine ⟨st', s.len, fun n o e => ?_, s.inj, fun a z => ?_, fun a z => ?_, ?_⟩
  · obtain ⟨a, q1, q2, q3, q4⟩ := s.obj n o e
    have la : (W.sub h).ln a := .inr (.inl ⟨n, o, e, q1⟩)
    exact ⟨a, q1, fun z => (s2.dj a z).1 (by rw [st.ln]; exact la), q3, q4.mono st' (st.hz a (.inr (.inl la)))⟩
  · rcases z with z | z | z
    · exact s2.ne a (.inl z)
    · exact s2.ne a (.inr (.inl (lnk a z)))
    · exact s2.ne a (.inr (.inr (by rw [st.kp]; exact z)))
  · exact ⟨fun q => (s2.dj a z).1 (lnk a q), fun q => (s2.dj a z).2 (by rw [st.kp]; exact q)⟩
  · have lb : ∀ (n : Nat) (T : Sn) (x : Addr), h[n]? = some (some (.box T)) → x ∈ W.bx n → (W.sub h).ln x := fun n T x e m => .inr (.inr ⟨n, T, e, m⟩)
    refine s.bo.move st' rfl (fun _ _ e => e) (fun n T x e m => st.hz x (.inr (.inl (lb n T x e m)))) (fun n T x e m => ⟨fun z => (s2.dj x z).1 (by rw [st.ln]; exact lb n T x e m), (s.bo.pv n T x e m).2⟩) fun m o1 x e q => .inl ⟨o1, e, q⟩
def pureC (ff : List CV → CH → Option (CV × CH)) (xs : List CV) (h : CH) : Option (CV × CH) := (snaps h xs).bind fun ys => (ff ys []).bind fun q => match q.1 with
  | .d x => some (.d x, h)
  | _ => none
/-- whoever keeps ff keeps the pure call, too -/
theorem sp_pure {vs : List V} {H : Hp} {Q : VK} {E : XK} (h : spM F n (pureC ff) vs H Q E) : spM F n ff vs H Q E := by
  obtain ⟨hn, W, h, xs, x, h', r, s, e, k⟩ := h
  unfold pureC at e
  simp only [Option.bind_eq_some_iff, Prod.exists] at e
  obtain ⟨ys, e1, z, h2, e2, e3⟩ := e
  split at e3
  · cases e3
    refine ⟨hn, W.sub h, [], ys, _, h2, snaps_rel s e1 r, s.sub, e2, fun W2 H2 v st2 s2 r2 => ?_⟩
    obtain ⟨st3, s3⟩ := sub_back s st2 s2
    cases r2 with
    | d r2 => exact k (W2.up W) H2 v st3 s3 (.d (RD.up (W := W2) (W2 := W2.up W) (fun _ h => h) r2))
  · cases e3
theorem Fn.pure {P : Program} {w : World} {K : PySem.W.Frag} {mg : Str → Option Value} {base : Heap} (Z : Fn P w K mg base k f fd n ps (spM F n ff)) : Fn P w K mg base k f fd n ps (spM F n (pureC ff)) :=
  ⟨Z.cnt, fun vs H Q h => h.1, fun A outer s H args us vs Q hr gu e0 hb rv h => Z.go A outer s H args us vs Q hr gu e0 hb rv (sp_pure h)⟩
abbrev mCallP (ff : List CV → CH → Option (CV × CH)) (r : MA) : ME := mCall (pureC ff) r
end
end Mc


namespace Mc
open PySem PySem.Spec PyProof.Rows L2
section
variable {F : Fx} {X : Cx} {a b e : Expr} {es : List Expr} {pos : Pos} {ma mb me : ME}

/-! ### isinstance of a built-in class -/
inductive Ty where
  | non | bool | int | str | list | tuple | dict
def Ty.name : Ty → String
  | .non => "NoneType"
  | .bool => "bool"
  | .int => "int"
  | .str => "str"
  | .list => "list"
  | .tuple => "tuple"
  | .dict => "dict"
def isT : Ty → Ty → Bool
  | .non, .non => true
  | .bool, .bool => true
  | .bool, .int => true
  | .int, .int => true
  | .str, .str => true
  | .list, .list => true
  | .tuple, .tuple => true
  | .dict, .dict => true
  | _, _ => false
theorem isT_kit (a b : Ty) : kitB a.name b.name = some (isT a b) := by cases a <;> cases b <;> decide +kernel
def tyN (h : CH) : CV → Option Ty
  | .d .non => some .non
  | .d (.bl _) => some .bool
  | .d (.int _) => some .int
  | .d (.str _) => some .str
  | .d (.txt _) => some .str
  | .d (.tup _) => some .tuple
  | .d (.lst _) => some .list
  | .t _ => some .tuple
  | .ref n => match h[n]? with
    | some (some (.lst _)) => some .list
    | some (some (.dk _)) => some .dict
    | _ => none
  | .s (.sl _) => some .list
  | .s (.sk _ _) => some .dict
  | .s (.fk _ _) => some .dict
  | _ => none
theorem tyx_tup {K : PySem.W.Frag} {H : Hp} {p : Addr} {vs : List V} (h : SqT K H p vs) : TyX K H (.ref p) (.type "tuple") := by
  rcases h with (h | ⟨o, h⟩) | ⟨o, its, n, hk, hc, _⟩
  · exact .base (.tup h)
  · exact .fTuple h
  · exact .kTuple hk hc
theorem tyx_lst {K : PySem.W.Frag} {H : Hp} {p : Addr} {vs : List V} (h : SqL K H p vs) : TyX K H (.ref p) (.type "list") := by
  rcases h with (h | ⟨o, h⟩) | ⟨o, its, n, hk, hc, _⟩
  · exact .base (.lst h)
  · exact .base (.frz h)
  · exact .kList hk hc
theorem tyN_ok {W : Wd} {h : CH} {H : Hp} {x : CV} {T : Ty} {v : V} (s : Sim F W h H) (e : tyN h x = some T) (r : Rl F W H x v) : TyX F.K H v (.type T.name) := by
  unfold tyN at e
  split at e
  · cases e; rw [r.non]; exact .base .non
  · cases e; rw [r.bl]; exact .base (.bl _)
  · cases e; rw [r.int]; exact .base (.int _)
  · cases e; rw [r.str]; exact .base (.str _)
  · cases e; cases r with | d r => cases r; exact .base (.str _)
  · cases e; cases r with | d r => cases r with | tup q _ => exact tyx_tup q
  · cases e; cases r with | d r => cases r with | lst _ q _ => exact tyx_lst (.of q)
  · cases e; cases r with | t q _ => exact tyx_tup q
  · split at e
    · rename_i q
      cases e
      obtain ⟨p, vs, rfl, _, q1, _⟩ := live s q r
      exact tyx_lst (.of q1)
    · rename_i q
      cases e
      cases r with
      | ref m =>
        obtain ⟨a, q1, _, _, vs, q4, _⟩ := s.obj _ _ q
        rw [m] at q1
        cases q1
        exact .base (.dK q4)
    · cases e
  · cases e; cases r with | s r => cases r with | sl _ q _ => exact tyx_lst q
  · cases e
    cases r with
    | s r =>
      cases r with
      | sk _ q _ _ =>
        rcases q with q | ⟨o, q⟩
        · exact .base (.dK q)
        · exact .fDict q
  · cases e
    cases r with
    | s r =>
      cases r with
      | fk _ q _ _ => exact .fDict q
  · cases e
def mIsi (T : Ty) (m : ME) : ME := fun c h => (m c h).bind fun p => (tyN p.2 p.1).map fun t => (.d (.bl (isT t T)), p.2)
theorem e_isi (T : Ty) {x : Str} {p p2 : Pos} (g : Gd F X) (hm : X.mg "isinstance" = none) (hT : X.mg x = none) (hv : bootBuiltins x = some (.type T.name)) (ha : PE X a (tE F ma)) (hg : Gl X "isinstance" := by rfl) (hgT : Gl X x := by rfl) (hn : x ≠ "__name__" := by decide) (hdb : (x == ("__debug__" : Str)) = false := by decide)
    (h1 : starEach [a, .Name x p2] X.env = (false, eval a X.env) :: starEach [.Name x p2] X.env := by rfl) (h2 : starEach [.Name x p2] X.env = (false, eval (.Name x p2) X.env) :: starEach [] X.env := by rfl) (hpl : (backTo pos (starEach [.Name x p2] X.env)).any (·.1) = false := by rfl) :
    PE X (.Call (.Name "isinstance" p) [a, .Name x p2] [] pos) (tE F (mIsi T ma)) :=
  wkE (pe_callB call_isi hg hm PyProof.Rows.boot_isinstance (pa_cons ha (pa_cons (pe_bltn (v := .ty T.name) hgT hT hv rfl hn hdb) pa_nil h2) h1) (he := h1) (hpl := hpl)) fun σ H Q hh => by
    obtain ⟨W, c, h, z, h', rs, s, e, k⟩ := hh
    unfold mIsi at e
    simp only [Option.bind_eq_some_iff, Prod.exists, Option.map_eq_some_iff, Prod.mk.injEq] at e
    obtain ⟨y, h1, e1, t, e2, rfl, rfl⟩ := e
    refine seqX rs s e1 fun W1 H1 u st1 s1 r1 => ?_
    have ty := tyN_ok s1 e2 r1
    rw [g.hK] at ty
    exact ⟨u, _, _, _, _, rfl, .ty _, ty, kit_ty (isT_kit t T), k W1 H1 _ st1 s1 (.d (.bl _))⟩

/-! ### str of data -/
mutual
def shD : D → Bool
  | .non => true
  | .bl _ => true
  | .int i => decide (-999999999999 ≤ i) && decide (i ≤ 999999999999)
  | .str x => PyData.strOk x
  | .txt _ => false
  | .tup xs => shDs xs
  | .lst xs => shDs xs
def shDs : List D → Bool
  | [] => true
  | x :: xs => shD x && shDs xs
end
mutual
def bkD : D → Nat
  | .str x => x.cps.size
  | .tup xs => bkDs xs
  | .lst xs => bkDs xs
  | .non => 0
  | .bl _ => 0
  | .int _ => 0
  | .txt _ => 0
def bkDs : List D → Nat
  | [] => 0
  | x :: xs => bkD x + 1 + bkDs xs
end
mutual
theorem shD_bulk : ∀ x : D, shD x = true → (toP x).bulk = bkD x
  | .non, _ => rfl
  | .bl _, _ => rfl
  | .int _, _ => rfl
  | .str x, _ => rfl
  | .txt _, h => by simp [shD] at h
  | .tup xs, h => by simp only [toP, PyData.bulk, bkD]; exact shDs_bulk xs (by simpa [shD] using h)
  | .lst xs, h => by simp only [toP, PyData.bulk, bkD]; exact shDs_bulk xs (by simpa [shD] using h)
theorem shDs_bulk : ∀ x : List D, shDs x = true → PyData.bulkAll (toPs x) = bkDs x
  | [], _ => rfl
  | x :: xs, h => by
    have h' : shD x = true ∧ shDs xs = true := by simpa [shDs] using h
    simp only [toPs, PyData.bulkAll, bkDs, shD_bulk x h'.1, shDs_bulk xs h'.2]
end
theorem int_short {i : Int} (h1 : -999999999999 ≤ i) (h2 : i ≤ 999999999999) : (PyData.shown (.int i)).length ≤ 13 := PyData.shown_int_le2 (by omega) (by omega)
theorem log_small {n k : Nat} (hk : 0 < k) (h : n < 2 ^ k) : n.log2 < k := by
  by_cases e : n = 0
  · subst e; exact hk
  · exact (Nat.log2_lt e).mpr h
mutual
theorem shD_short : ∀ x : D, shD x = true → (toP x).leavesShort 13 = true ∧ (toP x).showable = true
  | .non, _ => ⟨rfl, rfl⟩
  | .bl _, _ => ⟨rfl, rfl⟩
  | .int i, h => by
    simp only [shD, Bool.and_eq_true, decide_eq_true_eq] at h
    simp only [toP, PyData.leavesShort, PyData.showable, decide_eq_true_eq]
    refine ⟨int_short h.1 h.2, ?_⟩
    exact Nat.lt_trans (log_small (k := 40) (by decide) (by omega)) (by decide)
  | .str x, h => by
    simp only [shD] at h
    simp only [toP, PyData.leavesShort, PyData.showable, and_true]
    rw [List.all_eq_true]
    intro c hc
    have q := (Array.all_eq_true_iff_forall_mem.mp h) c (Array.mem_toList_iff.mp hc)
    simp only [decide_eq_true_eq] at q ⊢
    omega
  | .txt _, h => by simp [shD] at h
  | .tup xs, h => by
    have q := shDs_short xs (by simpa [shD] using h)
    simpa only [toP, PyData.leavesShort, PyData.showable] using q
  | .lst xs, h => by
    have q := shDs_short xs (by simpa [shD] using h)
    simpa only [toP, PyData.leavesShort, PyData.showable] using q
theorem shDs_short : ∀ x : List D, shDs x = true → PyData.leavesShortAll 13 (toPs x) = true ∧ PyData.showableAll (toPs x) = true
  | [], _ => ⟨rfl, rfl⟩
  | x :: xs, h => by
    have h' : shD x = true ∧ shDs xs = true := by simpa [shDs] using h
    have q1 := shD_short x h'.1
    have q2 := shDs_short xs h'.2
    simp [toPs, PyData.leavesShortAll, PyData.showableAll, q1.1, q1.2, q2.1, q2.2]
end

/-- str of a list or tuple of data, at any depth -/
abbrev rStrD (K : PySem.W.Frag) : List V → Hp → VK → Prop := fun xs H Q => ∃ (p : Addr) (d : PyData), xs = [.ref p] ∧ Dp K H (.ref p) d ∧ d.showable = true ∧ d.canLay0 = true ∧ d.depth ≤ 64 ∧ d.shown.length ≤ sizeLine ∧ Q (.str d.shown) H
theorem call_strD (gu : X.A.guards = some []) (hu : X.A.units + 100 < cLine) : CallR X (.type "str") (rStrD X.K) := by
  intro pins s σ H xs us Q I r h
  obtain ⟨p, d, rfl, dp, sh, lay, dep, sz, q⟩ := h
  obtain ⟨u, rfl, ru⟩ := Vals.one r
  obtain ⟨as, rd⟩ := Dp.reads I d _ u dp ru
  cases ru
  refine str_of_reads rd sh (PyData.noDict_hsm (PyData.hasDict_of_canLay d lay)) gu (by omega) (fun b o e => e) (fun h' t tk kp => ?_) sz
  exact ⟨.str d.shown, H, I.kept kp, ⟨t, rfl⟩, q⟩
def gStr : CH → List CV → Option (CV × CH)
  | h, [x] => (((seqL h x).or (seqT x)).bind fun _ => cont 6 h x).bind fun d => if (okD 8 d && shD d) = true ∧ bkD d ≤ 1048576 then some (.d (.txt d), h) else none
  | _, _ => none
theorem gStr_ok : ClS F gStr (rStrD F.K) := by
  intro W h H xs z h' us Q s e r k
  unfold gStr at e
  split at e
  · simp only [Option.bind_eq_some_iff] at e
    obtain ⟨d, ⟨ys, e0, e1⟩, e2⟩ := e
    obtain ⟨u, rfl, r1⟩ := r.one
    obtain ⟨p, vs, rfl, _, _⟩ := seq_either s e0 r1
    split at e2
    · rename_i q
      cases e2
      simp only [Bool.and_eq_true] at q
      obtain ⟨⟨q1, q2⟩, q3⟩ := q
      have l := okD_lay 8 d q1
      have sh := shD_short d q2
      refine ⟨p, toP d, rfl, cont_dp s 6 e1 r1, sh.2, l.1, by omega, PyData.shown_fits_bulk (by decide) (by decide) sh.1 (by rw [shD_bulk d q2]; exact q3), k W H _ .refl s (.d (.txt d))⟩
    · cases e2
  · cases e
theorem e_strD {p : Pos} {m : MA} (g : Gd F X) (gu : X.A.guards = some []) (hm : X.mg "str" = none) (ha : PA X [e] (tA F m)) (hg : Gl X "str" := by rfl) (he : starEach [e] X.env = (false, eval e X.env) :: starEach [] X.env := by rfl) : PE X (.Call (.Name "str" p) [e] [] pos) (tE F (mCB gStr m)) :=
  e_cty (by rw [g.hK]; exact call_strD gu g.un) gStr_ok hm PyProof.Rows.boot_str ha hg (he := he) (hpl := rfl)
end
end Mc


namespace Mc
open PySem PySem.Spec PyProof.Rows L2
section
variable {F : Fx} {X : Cx} {a b e : Expr} {es : List Expr} {pos : Pos} {ma mb me : ME}

/-! ### freezing: a live list (of live lists ..) becomes plain data -/
def frzW (f : CH → CV → Option (D × CH)) : CH → List CV → Option (List D × CH)
  | h, [] => some ([], h)
  | h, x :: xs => (f h x).bind fun p => (frzW f p.2 xs).map fun q => (p.1 :: q.1, q.2)
def frzV : Nat → CH → CV → Option (D × CH)
  | 0, h, x => match x with
    | .d x => some (x, h)
    | _ => none
  | k + 1, h, x => match x with
    | .d x => some (x, h)
    | .ref n => match h[n]? with
      | some (some (.lst xs)) => (frzW (frzV k) (h.set n none) xs).map fun p => (.lst p.1, p.2)
      | _ => none
    | _ => none
abbrev frzL (k : Nat) : CH → List CV → Option (List D × CH) := frzW (frzV k)
theorem frzV_d {k : Nat} {h : CH} {x : D} : frzV k h (.d x) = some (x, h) := by cases k <;> rfl
theorem frzV_r {k : Nat} {h : CH} {n : Nat} : frzV (k + 1) h (.ref n) = match h[n]? with
  | some (some (.lst xs)) => (frzL k (h.set n none) xs).map fun p => (.lst p.1, p.2)
  | _ => none := rfl
theorem frz_ok (k : Nat) : (∀ {W : Wd} {h h' : CH} {H : Hp} {x : CV} {d : D} {v : V}, Sim F W h H → frzV k h x = some (d, h') → Rl F W H x v → ∃ W', Stp W H W' H ∧ Sim F W' h' H ∧ RD F W' H d v) ∧
    ∀ (xs : List CV) {W : Wd} {h h' : CH} {H : Hp} {ds : List D} {vs : List V}, Sim F W h H → frzL k h xs = some (ds, h') → Rls F W H xs vs → ∃ W', Stp W H W' H ∧ Sim F W' h' H ∧ RDs F W' H ds vs := by
  have lists : ∀ k, (∀ {W : Wd} {h h' : CH} {H : Hp} {x : CV} {d : D} {v : V}, Sim F W h H → frzV k h x = some (d, h') → Rl F W H x v → ∃ W', Stp W H W' H ∧ Sim F W' h' H ∧ RD F W' H d v) →
      ∀ (xs : List CV) {W : Wd} {h h' : CH} {H : Hp} {ds : List D} {vs : List V}, Sim F W h H → frzL k h xs = some (ds, h') → Rls F W H xs vs → ∃ W', Stp W H W' H ∧ Sim F W' h' H ∧ RDs F W' H ds vs := by
    intro k ih xs
    induction xs with
    | nil =>
      intro W h h' H ds vs s e r
      unfold frzL frzW at e
      cases e
      cases r
      exact ⟨W, .refl, s, .nil⟩
    | cons x xs ihx =>
      intro W h h' H ds vs s e r
      unfold frzL frzW at e
      simp only [Option.bind_eq_some_iff, Prod.exists, Option.map_eq_some_iff, Prod.mk.injEq] at e
      obtain ⟨d, h1, e1, ds', h2, e2, rfl, rfl⟩ := e
      cases r with
      | cons r1 r2 =>
        obtain ⟨W1, st1, s1, q1⟩ := ih s e1 r1
        obtain ⟨W2, st2, s2, q2⟩ := ihx s1 e2 (r2.mono st1)
        exact ⟨W2, st1.trans st2, s2, .cons (q1.mono st2) q2⟩
  induction k with
  | zero =>
    have one : ∀ {W : Wd} {h h' : CH} {H : Hp} {x : CV} {d : D} {v : V}, Sim F W h H → frzV 0 h x = some (d, h') → Rl F W H x v → ∃ W', Stp W H W' H ∧ Sim F W' h' H ∧ RD F W' H d v := by
      intro W h h' H x d v s e r
      cases x with
      | d x => rw [frzV_d] at e; cases e; cases r with | d r => exact ⟨W, .refl, s, r⟩
      | _ => simp [frzV] at e
    exact ⟨one, lists 0 one⟩
  | succ k ih =>
    have one : ∀ {W : Wd} {h h' : CH} {H : Hp} {x : CV} {d : D} {v : V}, Sim F W h H → frzV (k + 1) h x = some (d, h') → Rl F W H x v → ∃ W', Stp W H W' H ∧ Sim F W' h' H ∧ RD F W' H d v := by
      intro W h h' H x d v s e r
      cases x with
      | d x => rw [frzV_d] at e; cases e; cases r with | d r => exact ⟨W, .refl, s, r⟩
      | ref n =>
        rw [frzV_r] at e
        split at e
        · rename_i xs q
          simp only [Option.map_eq_some_iff, Prod.exists, Prod.mk.injEq] at e
          obtain ⟨ds, h1, e1, rfl, rfl⟩ := e
          obtain ⟨p, vs, rfl, m, q1, r1⟩ := live s q r
          have st := stp_fz (p := p) (Stp.refl (W := W) (H := H))
          obtain ⟨W1, st1, s1, r2⟩ := ih.2 xs (s.freeze q m) e1 (r1.mono st)
          exact ⟨W1, st.trans st1, s1, .lst (st1.fz _ (.inr rfl)) q1 r2⟩
        · cases e
      | _ => simp [frzV] at e
    exact ⟨one, lists (k + 1) one⟩
def mFrz (m : ME) : ME := fun c h => (m c h).bind fun p => (frzV 4 p.2 p.1).map fun q => (.d q.1, q.2)
theorem e_frz {m : ME} (ha : PE X e (tE F m)) : PE X e (tE F (mFrz m)) := wkE ha fun σ H Q hh => by
  obtain ⟨W, c, h, z, h', rs, s, e, k⟩ := hh
  unfold mFrz at e
  simp only [Option.bind_eq_some_iff, Prod.exists, Option.map_eq_some_iff, Prod.mk.injEq] at e
  obtain ⟨x, h1, e1, d, h2, e2, rfl, rfl⟩ := e
  refine seqX rs s e1 fun W1 H1 u st1 s1 r1 => ?_
  obtain ⟨W2, st2, s2, r2⟩ := (frz_ok 4).1 s1 e2 r1
  exact k W2 H1 u (st1.trans st2) s2 (.d r2)

/-! ### calls of defs, by what the top has -/
def Has (F : Fx) (P : Program) (w : World) (K : PySem.W.Frag) (mg : Str → Option Value) (base : Heap) (x : Str) (k n : Nat) (ff : List CV → CH → Option (CV × CH)) : Prop :=
  ∃ f fd ps, Fn P w K mg base k f fd n ps (spM F n ff) ∧ mg x = some (.ref f) ∧ PySem.W.keepIn K (.ref f) = true ∧ Binds K fd ps []
/-- an argument list of n -/
def Ar (r : MA) (n : Nat) : Prop := ∀ c h xs h', r c h = some (xs, h') → xs.length = n
theorem ar_nil : Ar mNil 0 := fun c h xs h' e => by cases e; rfl
theorem ar_cons {m : ME} {r : MA} {n : Nat} (h : Ar r n) : Ar (mCons m r) (n + 1) := fun c h0 xs h' e => by
  unfold mCons at e
  simp only [Option.bind_eq_some_iff, Prod.exists, Option.some.injEq, Prod.mk.injEq] at e
  obtain ⟨x, h1, e1, y, h2, e2, rfl, rfl⟩ := e
  simp [h _ _ _ _ e2]
variable {P : Program} {w : World} {K : PySem.W.Frag} {mg : Str → Option Value} {base : Heap} {x : Str} {k j n : Nat} {ff : List CV → CH → Option (CV × CH)} {r : MA} {p : Pos}
theorem Has.pure (h : Has F P w K mg base x k n ff) : Has F P w K mg base x k n (pureC ff) :=
  let ⟨f, fd, ps, a, b⟩ := h; ⟨f, fd, ps, a.pure, b⟩
theorem e_has (h : Has F X.prog X.w X.K X.mg X.base x k n ff) (hr : Room j X.A) (hj : k ≤ j) (gu : X.A.guards = some []) (hn : Ar r n) (ha : PA X (e :: es) (tA F r))
    (hg : Gl X x := by rfl) (hdb : (x == ("__debug__" : Str)) = false := by decide) (he : starEach (e :: es) X.env = (false, eval e X.env) :: starEach es X.env := by rfl) (hpl : (backTo pos (starEach es X.env)).any (·.1) = false := by rfl) :
    PE X (.Call (.Name x p) (e :: es) [] pos) (tE F (mCall ff r)) := by
  obtain ⟨f, fd, ps, Z, hm, hk, hb⟩ := h
  exact e_call hn Z (hr.mono hj) gu hm hk hb ha hg hdb he hpl
theorem e_has0 (h : Has F X.prog X.w X.K X.mg X.base x k 0 ff) (hr : Room j X.A) (hj : k ≤ j) (gu : X.A.guards = some []) (hg : Gl X x := by rfl) (hdb : (x == ("__debug__" : Str)) = false := by decide) : PE X (.Call (.Name x p) [] [] pos) (tE F (mCall ff mNil)) := by
  obtain ⟨f, fd, ps, Z, hm, hk, hb⟩ := h
  refine wkE (wk_call0 Z (hr.mono hj) gu hm hk hb hg hdb) fun σ H Q hh => ?_
  obtain ⟨W, c, h, z, h', rs, s, e, k⟩ := hh
  exact ⟨rfl, W, h, [], z, h', .nil, s, e, k⟩
theorem e_const {i : Int} (hm : ∃ t : Tok, X.mg x = some (.int i t)) (hg : Gl X x := by rfl) (hd : (x == ("__debug__" : Str)) = false := by decide) : PE X (.Name x pos) (tE F (mC (.int i))) := by
  obtain ⟨t, h⟩ := hm
  exact e_gint h hg hd
theorem has_mk {f : Addr} {fd : FuncData} {ps : List Str} (Z : Fn P w K mg base k f fd n ps (spM F n ff)) (hm : mg x = some (.ref f)) (hk : PySem.W.keepIn K (.ref f) = true) (hb : Binds K fd ps []) : Has F P w K mg base x k n ff := ⟨f, fd, ps, Z, hm, hk, hb⟩
end
end Mc


namespace Mc
open PySem PySem.Spec PyProof.Rows L2
section
variable {F : Fx} {X : Cx} {a b e : Expr} {es : List Expr} {pos : Pos} {ma mb me : ME}

theorem fPop_l : ∀ h x xs z, fPop h x xs = some z → (seqL h x).isSome = true := by
  intro h x xs z e
  unfold fPop at e
  split at e
  · split at e
    · rename_i n _ ys q
      show (match h[n]? with | some (some (.lst xs)) => some xs | _ => none).isSome = true
      rw [q]; rfl
    · cases e
  · cases e
theorem fReverse_l : ∀ h x xs z, fReverse h x xs = some z → (seqL h x).isSome = true := by
  intro h x xs z e
  unfold fReverse at e
  split at e
  · split at e
    · rename_i n _ ys q
      show (match h[n]? with | some (some (.lst xs)) => some xs | _ => none).isSome = true
      rw [q]; rfl
    · cases e
  · cases e
theorem fClear_l : ∀ h x xs z, fClear h x xs = some z → (seqL h x).isSome = true := by
  intro h x xs z e
  unfold fClear at e
  split at e
  · split at e
    · rename_i n _ ys q
      show (match h[n]? with | some (some (.lst xs)) => some xs | _ => none).isSome = true
      rw [q]; rfl
    · cases e
  · cases e

/-! ### a pure call that hands out live lists: they move into the caller's heap -/
def expW (f : CV → CH → CH → Option (CV × CH × CH)) : List CV → CH → CH → Option (List CV × CH × CH)
  | [], g, h => some ([], g, h)
  | x :: xs, g, h => (f x g h).bind fun p => (expW f xs p.2.1 p.2.2).map fun q => (p.1 :: q.1, q.2.1, q.2.2)
def expV : Nat → CV → CH → CH → Option (CV × CH × CH)
  | 0, x, g, h => match x with
    | .d x => some (.d x, g, h)
    | _ => none
  | k + 1, x, g, h => match x with
    | .d x => some (.d x, g, h)
    | .ref n => match g[n]? with
      | some (some (.lst xs)) => (expW (expV k) xs (g.set n none) h).map fun p => (.ref p.2.2.length, p.2.1, p.2.2 ++ [some (.lst p.1)])
      | _ => none
    | _ => none
abbrev expL (k : Nat) : List CV → CH → CH → Option (List CV × CH × CH) := expW (expV k)
theorem expV_d {k : Nat} {g h : CH} {x : D} : expV k (.d x) g h = some (.d x, g, h) := by cases k <;> rfl
theorem expV_r {k : Nat} {g h : CH} {n : Nat} : expV (k + 1) (.ref n) g h = match g[n]? with
  | some (some (.lst xs)) => (expL k xs (g.set n none) h).map fun p => (.ref p.2.2.length, p.2.1, p.2.2 ++ [some (.lst p.1)])
  | _ => none := rfl
/-- what is live in one heap is private for the other -/
def Apart (W2 : Wd) (g : CH) (W : Wd) (h : CH) : Prop := ∀ (n : Nat) (o : CO) (a : Addr), g[n]? = some (some o) → W2.mu[n]? = some a → Priv W h a
theorem exp_ok (k : Nat) : (∀ {W2 W : Wd} {g h g' h' : CH} {H : Hp} {x y : CV} {v : V}, Sim F W2 g H → Sim F W h H → (∀ a, W2.fz a → W.fz a) → Apart W2 g W h → expV k x g h = some (y, g', h') → Rl F W2 H x v →
      ∃ W', Stp W H W' H ∧ Sim F W2 g' H ∧ Sim F W' h' H ∧ (∀ a, W2.fz a → W'.fz a) ∧ Apart W2 g' W' h' ∧ Rl F W' H y v) ∧
    ∀ (xs : List CV) {W2 W : Wd} {g h g' h' : CH} {H : Hp} {ys : List CV} {vs : List V}, Sim F W2 g H → Sim F W h H → (∀ a, W2.fz a → W.fz a) → Apart W2 g W h → expL k xs g h = some (ys, g', h') → Rls F W2 H xs vs →
      ∃ W', Stp W H W' H ∧ Sim F W2 g' H ∧ Sim F W' h' H ∧ (∀ a, W2.fz a → W'.fz a) ∧ Apart W2 g' W' h' ∧ Rls F W' H ys vs := by
  have lists : ∀ k, (∀ {W2 W : Wd} {g h g' h' : CH} {H : Hp} {x y : CV} {v : V}, Sim F W2 g H → Sim F W h H → (∀ a, W2.fz a → W.fz a) → Apart W2 g W h → expV k x g h = some (y, g', h') → Rl F W2 H x v →
      ∃ W', Stp W H W' H ∧ Sim F W2 g' H ∧ Sim F W' h' H ∧ (∀ a, W2.fz a → W'.fz a) ∧ Apart W2 g' W' h' ∧ Rl F W' H y v) →
      ∀ (xs : List CV) {W2 W : Wd} {g h g' h' : CH} {H : Hp} {ys : List CV} {vs : List V}, Sim F W2 g H → Sim F W h H → (∀ a, W2.fz a → W.fz a) → Apart W2 g W h → expL k xs g h = some (ys, g', h') → Rls F W2 H xs vs →
      ∃ W', Stp W H W' H ∧ Sim F W2 g' H ∧ Sim F W' h' H ∧ (∀ a, W2.fz a → W'.fz a) ∧ Apart W2 g' W' h' ∧ Rls F W' H ys vs := by
    intro k ih xs
    induction xs with
    | nil =>
      intro W2 W g h g' h' H ys vs s2 s hf ap e r
      unfold expL expW at e
      cases e
      cases r
      exact ⟨W, .refl, s2, s, hf, ap, .nil⟩
    | cons x xs ihx =>
      intro W2 W g h g' h' H ys vs s2 s hf ap e r
      unfold expL expW at e
      simp only [Option.bind_eq_some_iff, Prod.exists, Option.map_eq_some_iff, Prod.mk.injEq] at e
      obtain ⟨y, g1, h1, e1, ys', g2, h2, e2, rfl, rfl, rfl⟩ := e
      cases r with
      | cons r1 r2 =>
        obtain ⟨W1, st1, s21, s1, hf1, ap1, q1⟩ := ih s2 s hf ap e1 r1
        obtain ⟨W3, st2, s22, s3, hf2, ap2, q2⟩ := ihx s21 s1 hf1 ap1 e2 r2
        exact ⟨W3, st1.trans st2, s22, s3, hf2, ap2, .cons (q1.mono st2) q2⟩
  have base : ∀ k, ∀ {W2 W : Wd} {g h g' h' : CH} {H : Hp} {x : D} {y : CV} {v : V}, Sim F W2 g H → Sim F W h H → (∀ a, W2.fz a → W.fz a) → Apart W2 g W h → expV k (.d x) g h = some (y, g', h') → Rl F W2 H (.d x) v →
      ∃ W', Stp W H W' H ∧ Sim F W2 g' H ∧ Sim F W' h' H ∧ (∀ a, W2.fz a → W'.fz a) ∧ Apart W2 g' W' h' ∧ Rl F W' H y v := by
    intro k W2 W g h g' h' H x y v s2 s hf ap e r
    have e : some (CV.d x, g, h) = some (y, g', h') := by rw [expV_d] at e; exact e
    cases e
    cases r with
    | d r => exact ⟨W, .refl, s2, s, hf, ap, .d (RD.up (W := W2) (W2 := W) hf r)⟩
  induction k with
  | zero =>
    have one : ∀ {W2 W : Wd} {g h g' h' : CH} {H : Hp} {x y : CV} {v : V}, Sim F W2 g H → Sim F W h H → (∀ a, W2.fz a → W.fz a) → Apart W2 g W h → expV 0 x g h = some (y, g', h') → Rl F W2 H x v →
      ∃ W', Stp W H W' H ∧ Sim F W2 g' H ∧ Sim F W' h' H ∧ (∀ a, W2.fz a → W'.fz a) ∧ Apart W2 g' W' h' ∧ Rl F W' H y v := by
      intro W2 W g h g' h' H x y v s2 s hf ap e r
      cases x with
      | d x => exact base 0 s2 s hf ap e r
      | _ => simp [expV] at e
    exact ⟨one, lists 0 one⟩
  | succ k ih =>
    have one : ∀ {W2 W : Wd} {g h g' h' : CH} {H : Hp} {x y : CV} {v : V}, Sim F W2 g H → Sim F W h H → (∀ a, W2.fz a → W.fz a) → Apart W2 g W h → expV (k + 1) x g h = some (y, g', h') → Rl F W2 H x v →
      ∃ W', Stp W H W' H ∧ Sim F W2 g' H ∧ Sim F W' h' H ∧ (∀ a, W2.fz a → W'.fz a) ∧ Apart W2 g' W' h' ∧ Rl F W' H y v := by
      intro W2 W g h g' h' H x y v s2 s hf ap e r
      cases x with
      | d x => exact base (k + 1) s2 s hf ap e r
      | ref n =>
        rw [expV_r] at e
        split at e
        · rename_i xs q
          simp only [Option.map_eq_some_iff, Prod.exists, Prod.mk.injEq] at e
          obtain ⟨ys, g1, h1, e1, rfl, rfl, rfl⟩ := e
          obtain ⟨p, vs, rfl, m, q1, r1⟩ := live s2 q r
          have hl : n < g.length := (List.getElem?_eq_some_iff.mp q).1
          -- the object leaves the callee's heap
          have s2' : Sim F W2 (g.set n none) H := s2.drop n
          have pp : Priv W h p := ap n _ p q m
          -- kept private while the items move: p is no live one of what is left
          have ap' : Apart W2 (g.set n none) W h := fun i o a e m' => by
            by_cases hi : n = i
            · subst hi; rw [List.getElem?_set_self hl] at e; cases e
            · rw [List.getElem?_set_ne hi] at e; exact ap i o a e m'
          have other : ∀ (i : Nat) (o : CO), (g.set n none)[i]? = some (some o) → W2.mu[i]? ≠ some p := fun i o e m' => by
            by_cases hi : n = i
            · subst hi; rw [List.getElem?_set_self hl] at e; cases e
            · rw [List.getElem?_set_ne hi] at e
              exact hi (s2.inj n i _ o p q e m m')
          have sk := s.keep pp (by rw [q1]; simp)
          have apk : Apart W2 (g.set n none) (W.keep p) h := fun i o a e m' => by
            have z := ap' i o a e m'
            exact ⟨z.fz, z.ln, fun w => w.elim z.kp fun w => other i o e (w ▸ m'), z.lv, z.bx⟩
          obtain ⟨W1, st1, s21, s1, hf1, ap1, r2⟩ := ih.2 xs s2' sk hf apk e1 r1
          have stb := st1.back
          have s1b : Sim F (W1.back W) h1 H := s1.back fun a z => by rw [st1.kp]; exact .inl z
          have pb : Priv (W1.back W) h1 p := pp.back s1 st1
          have r2b : Rls F (W1.back W) H ys vs := Rls.up (W := W1) (W2 := W1.back W) rfl (fun _ h => h) (fun _ h => h) r2
          obtain ⟨s3, r3⟩ := adoptR s1b pb q1 r2b
          refine ⟨_, stb.trans (stp_mu .refl), s21, s3, fun a z => hf1 a z, fun i o a e m' => ?_, r3⟩
          have z := ap1 i o a e m'
          have na : a ≠ p := fun w => z.kp (by rw [st1.kp]; exact .inr w)
          exact Priv.adopted s1b (⟨z.fz, z.ln, fun w => z.kp (by rw [st1.kp]; exact .inl w), z.lv, z.bx⟩ : Priv (W1.back W) h1 a) na
        · cases e
      | _ => simp [expV] at e
    exact ⟨one, lists (k + 1) one⟩
def pureL (ff : List CV → CH → Option (CV × CH)) (xs : List CV) (h : CH) : Option (CV × CH) := (snaps h xs).bind fun ys => (ff ys []).bind fun q => (expV 4 q.1 q.2 h).map fun r => (r.1, r.2.2)
theorem sp_pureL {n : Nat} {ff : List CV → CH → Option (CV × CH)} {vs : List V} {H : Hp} {Q : VK} {E : XK} (h : spM F n (pureL ff) vs H Q E) : spM F n ff vs H Q E := by
  obtain ⟨hn, W, h, xs, x, h', r, s, e, k⟩ := h
  unfold pureL at e
  simp only [Option.bind_eq_some_iff, Prod.exists, Option.map_eq_some_iff, Prod.mk.injEq] at e
  obtain ⟨ys, e1, z, h2, e2, y, g', h3, e3, rfl, rfl⟩ := e
  refine ⟨hn, W.sub h, [], ys, z, h2, snaps_rel s e1 r, s.sub, e2, fun W2 H2 v st2 s2 r2 => ?_⟩
  obtain ⟨st3, s3⟩ := sub_back s st2 s2
  have ap : Apart W2 h2 (W2.up W) h := fun i o a e m => by
    obtain ⟨b, q1, q2, q3, q4⟩ := s2.obj i o e
    rw [m] at q1
    cases q1
    exact ⟨q2, fun z => q3.1 (by rw [st2.ln]; exact .inl z), fun z => q3.2 (by rw [st2.kp]; exact z), fun n o' e' m' => q3.1 (by rw [st2.ln]; exact .inr (.inl ⟨n, o', e', m'⟩)), fun n T e' m' => q3.1 (by rw [st2.ln]; exact .inr (.inr ⟨n, T, e', m'⟩))⟩
  obtain ⟨W4, st4, _, s4, _, _, r4⟩ := (exp_ok 4).1 s2 s3 (fun a z => z) ap e3 r2
  exact k W4 H2 v (st3.trans st4) s4 r4
theorem Has.pureL {P : Program} {w : World} {K : PySem.W.Frag} {mg : Str → Option Value} {base : Heap} {x : Str} {k n : Nat} {ff : List CV → CH → Option (CV × CH)} (h : Has F P w K mg base x k n ff) : Has F P w K mg base x k n (Mc.pureL ff) :=
  let ⟨f, fd, ps, Z, b⟩ := h; ⟨f, fd, ps, ⟨Z.cnt, fun vs H Q h => h.1, fun A outer s H args us vs Q hr gu e0 hb rv h => Z.go A outer s H args us vs Q hr gu e0 hb rv (sp_pureL h)⟩, b⟩

/-! ### the end -/
/-- the script: tracked and locked, or the module's own -/
def scriptH (K : PySem.W.Frag) (a : Addr) (ob : Obj) (ns : List Int) : Hp := fun b => match K.lookup a with
  | some _ => none
  | none => if b = a then some (.frz ob (.lst (ns.map V.int))) else none
theorem scriptH_cases {K : PySem.W.Frag} {a : Addr} {ob : Obj} {ns : List Int} : (∃ o, K.lookup a = some o ∧ scriptH K a ob ns = fun _ => none) ∨ (K.lookup a = none ∧ scriptH K a ob ns = fun b => if b = a then some (.frz ob (.lst (ns.map V.int))) else none) := by
  unfold scriptH
  cases K.lookup a with
  | some o => exact .inl ⟨o, rfl, rfl⟩
  | none => exact .inr ⟨rfl, rfl⟩
theorem scriptH_only {K : PySem.W.Frag} {a b : Addr} {ob : Obj} {ns : List Int} {u : HO} (h : scriptH K a ob ns b = some u) : b = a ∧ K.lookup a = none ∧ u = .frz ob (.lst (ns.map V.int)) := by
  rcases scriptH_cases (K := K) (a := a) (ob := ob) (ns := ns) with ⟨o, _, q⟩ | ⟨hk, q⟩
  · rw [q] at h; cases h
  · rw [q] at h
    by_cases e : b = a
    · have h : (if b = a then some (HO.frz ob (.lst (ns.map V.int))) else none) = some u := h
      rw [if_pos e] at h
      cases h
      exact ⟨e, hk, rfl⟩
    · have h : (if b = a then some (HO.frz ob (.lst (ns.map V.int))) else none) = some u := h
      rw [if_neg e] at h
      cases h
theorem ints_RSs {F : Fx} {W : Wd} {H : Hp} : ∀ (ns : List Int), RSs F W H (ns.map fun i => .sd (.int i)) (ns.map V.int)
  | [] => .nil
  | n :: ns => .cons (.sd (.int n)) (ints_RSs ns)
/-- the law's call, from its def's promise: the script is lent, True comes out -/
theorem law_go {cl : Nat → Addr} {P : Program} {w : World} {K : PySem.W.Frag} {mg mb : Str → Option Value} {k : Nat} {fa a : Addr} {fd : FuncData} {x : Str} {ff : List CV → CH → Option (CV × CH)} {s1 : Shared} {vs : List Value} {ns : List Int}
    (KX : K.In s1.heap) (hns : s1.heap.Ns mainGlobals mg) (hb : s1.heap.Ns builtinsNs mb) (hbb : ∀ x : Str, x ≠ "__name__" → mb x = bootBuiltins x) (hlim : s1.heap.NoLimit) (hg : s1.gens = #[])
    (ha : s1.heap.get? a = some { cls := .type "list", data := .seq vs.toArray }) (hi : IntsAre vs ns) (hl : ns.length ≤ sizeLine) (hr : Room k callerA)
    (FF : ∀ base : Heap, K.In base → base.Ns mainGlobals mg → Fn P w K mg base k fa fd 1 [x] (spM ⟨K, cl⟩ 1 ff)) (hbind : ∀ (s : Shared) (u : Value), BindsTo s fd ⟨[u], []⟩ [(x, u)])
    (holds : ∃ h, ff [.s (.sl (ns.map fun i => .sd (.int i)))] [] = some (.d (.bl true), h)) :
    codeAny (model P w) callerA (.call (.ref fa) ⟨[.ref a], []⟩) (fun r s' => r = .ok (.ret (.bool true)) ∧ OldK s1.heap s'.heap ∧ s'.os = s1.os ∧ AllBare s'.gens) s1 := by
  obtain ⟨hf, holds⟩ := holds
  have rv := vals_ints hi
  generalize hob : ({ cls := .type "list", data := .seq vs.toArray } : Obj) = ob at ha
  have sq : SqL K (scriptH K a ob ns) a (ns.map V.int) := by
    rcases scriptH_cases (K := K) (a := a) (ob := ob) (ns := ns) with ⟨o, hk, q⟩ | ⟨hk, q⟩
    · have e := KX a o hk
      rw [ha] at e
      cases e
      subst hob
      exact .inr ⟨_, vs.toArray, _, hk, rfl, rfl, rfl, by rw [List.size_toArray, hi.length]; exact hl, by simpa using rv⟩
    · exact .inl (.inr ⟨ob, by rw [q]; exact if_pos rfl⟩)
  have held : HOk P w (scriptH K a ob ns) s1.heap := fun b u e => by
    obtain ⟨rfl, _, rfl⟩ := scriptH_only e
    subst hob
    exact ⟨ha, by rw [List.length_map]; exact hl, vs, _, rv, ha⟩
  -- what a namespace shows is not the script
  have names : ∀ {b : Addr} {m : Str → Option Value}, s1.heap.Ns b m → (hidT s1.heap (scriptH K a ob ns)).Ns b m := fun {b m} ⟨o, es, ep, e, d, z⟩ => by
    refine ⟨o, es, ep, hidT_get e ?_, d, z⟩
    cases q : scriptH K a ob ns b with
    | none => rfl
    | some u =>
      obtain ⟨rfl, _, _⟩ := scriptH_only q
      rw [ha] at e
      cases e
      rw [← hob] at d
      cases d
  have inB : K.In (hidT s1.heap (scriptH K a ob ns)) := fun b o e => by
    refine hidT_get (KX b o e) ?_
    cases q : scriptH K a ob ns b with
    | none => rfl
    | some u =>
      obtain ⟨rfl, hk, _⟩ := scriptH_only q
      rw [hk] at e
      cases e
  have lim : (hidT s1.heap (scriptH K a ob ns)).NoLimit := let ⟨mc, h1, h2⟩ := hlim; ⟨mc, names h1, h2⟩
  have env : Env0 P w K mg (hidT s1.heap (scriptH K a ob ns)) callerA [] s1 (scriptH K a ob ns) :=
    { frames := rfl, mod := ⟨inB, names hns, ⟨mb, names hb, hbb⟩, lim⟩, bs := fun b o => of_hidT, bsz := Nat.le_of_eq (hidT_size _ _), funs := trivial, frf := fun b z => (nomatch z), hok := held, bare := .of_eq hg }
  -- the law's own world: the script is lent
  let W0 : Wd := { mu := [], fz := fun _ => False, ln := fun b => scriptH K a ob ns b ≠ none, kp := fun _ => False }
  have sim : Sim ⟨K, cl⟩ W0 [] (scriptH K a ob ns) := ⟨rfl, fun n o e => by simp at e, fun n m o o' a e => by simp at e, fun b z => z.elim False.elim fun z => z.elim id False.elim, fun b z => z.elim, ⟨fun n T e => by simp at e, fun n T x e => by simp at e, fun n T e => by simp at e, fun n T m o x e => by simp at e, fun n m T T' x e => by simp at e⟩⟩
  have lent : W0.ln a ∨ ∀ H' : Hp, SqL K H' a (ns.map V.int) := by
    rcases scriptH_cases (K := K) (a := a) (ob := ob) (ns := ns) with ⟨o, hk, q⟩ | ⟨hk, q⟩
    · right
      intro H'
      rcases sq with (z | ⟨o', z⟩) | z
      · rw [q] at z; cases z
      · rw [q] at z; cases z
      · exact .inr z
    · left
      show scriptH K a ob ns a ≠ none
      rw [q]
      simp
  have promise : spM ⟨K, cl⟩ 1 ff [.ref a] (scriptH K a ob ns) (fun v _ => v = .bl true) E0 :=
    ⟨rfl, W0, [], [.s (.sl (ns.map fun i => .sd (.int i)))], .d (.bl true), hf, .cons (.s (.sl (lent.imp .inl id) sq (ints_RSs ns))) .nil, sim, holds, fun W' H' v _ _ r => r.bl⟩
  refine codeAny_mono ((FF _ inB (names hns)).go callerA [] s1 _ ⟨[.ref a], []⟩ [.ref a] [.ref a] _ hr rfl env (hbind s1 (.ref a)) (.cons rfl .nil) promise) ?_
  rintro (e | fl) s' done
  · exact (show False from done).elim
  · cases fl with
    | ret u =>
      obtain ⟨v, H', os, bare, un, ok', ru, rfl⟩ := done
      obtain rfl : u = Value.bool true := ru
      refine ⟨rfl, OldK.of_keep fun b o e => ?_, os, bare⟩
      cases q : scriptH K a ob ns b with
      | none => exact un.keep b o e q (fun z => nomatch z) (fun z => nomatch z)
      | some u =>
        obtain ⟨rfl, _, rfl⟩ := scriptH_only q
        obtain ⟨q2, _⟩ := ok' b _ (un.frzs b ob _ q)
        rw [ha] at e
        cases e
        exact q2
    | _ => exact (show False from done).elim
theorem walk_M {l : PySem.W.OpenLaw} {k : Nat} {q : Program} {loose : List Str} {XP : (Str → Option Value) → Heap → Prop} {YP : World → Heap → Prop} {d : DefRec} {K : Params → PySem.W.Frag} {x : Str} {ff : List CV → CH → Option (CV × CH)}
    (hn : l.most = some 63) (hdf : d.params.defaults = []) (hr : Room k callerA) (hY : ∀ (w : World) (h : Heap), YP w h → (K w.params).In h)
    (FF : ∀ (w : World) (mg : Str → Option Value) (fa : Addr) (h : Heap), (K w.params).In h → h.Ns mainGlobals mg → mg d.name = some (.ref fa) →
      ∃ fd : FuncData, (∀ (s : Shared) (u : Value), BindsTo s fd ⟨[u], []⟩ [(x, u)]) ∧ ∀ base : Heap, (K w.params).In base → base.Ns mainGlobals mg → Fn l.prog w (K w.params) mg base k fa fd 1 [x] (spM ⟨K w.params, fun _ => 0⟩ 1 ff))
    (holds : ∀ ns : List Int, ns.length ≤ 63 → ∃ h, ff [.s (.sl (ns.map fun i => .sd (.int i)))] [] = some (.d (.bl true), h)) :
    PySem.W.WalkO q loose XP YP l.row.toRowW d [] (fun f vs => PySem.call f vs) := by
  refine Att.attach_call hn hdf ?_
  intro w s0 s1 mg mb fa o pm cd doc a vs ns G Y ho hd hcd hmg hobj hints hlen hg
  have KX := hY w _ Y
  obtain ⟨fd, hb, hF⟩ := FF w mg fa _ KX G.T.g hmg
  exact law_go KX G.T.g G.T.b G.T.builtins G.T.nolimit hg hobj hints (Nat.le_trans hlen (by decide)) hr hF hb (holds ns hlen)
theorem walk_C {l : PySem.W.OpenLaw} {k : Nat} {q : Program} {loose : List Str} {XP : (Str → Option Value) → Heap → Prop} {YP : World → Heap → Prop} {d : DefRec} {K : Params → PySem.W.Frag} {x : Str} {ff : List CV → CH → Option (CV × CH)}
    (hn : l.most = some 63) (hdf : d.params.defaults = []) (hr : Room k callerA) (hY : ∀ (w : World) (h : Heap), YP w h → (K w.params).In h)
    (FF : ∀ (w : World) (mg : Str → Option Value) (fa : Addr) (h : Heap), (K w.params).In h → h.Ns mainGlobals mg → mg d.name = some (.ref fa) →
      ∃ (cl : Nat → Addr) (fd : FuncData), (∀ (s : Shared) (u : Value), BindsTo s fd ⟨[u], []⟩ [(x, u)]) ∧ ∀ base : Heap, (K w.params).In base → base.Ns mainGlobals mg → Fn l.prog w (K w.params) mg base k fa fd 1 [x] (spM ⟨K w.params, cl⟩ 1 ff))
    (holds : ∀ ns : List Int, ns.length ≤ 63 → ∃ h, ff [.s (.sl (ns.map fun i => .sd (.int i)))] [] = some (.d (.bl true), h)) :
    PySem.W.WalkO q loose XP YP l.row.toRowW d [] (fun f vs => PySem.call f vs) := by
  refine Att.attach_call hn hdf ?_
  intro w s0 s1 mg mb fa o pm cd doc a vs ns G Y ho hd hcd hmg hobj hints hlen hg
  have KX := hY w _ Y
  obtain ⟨cl, fd, hb, hF⟩ := FF w mg fa _ KX G.T.g hmg
  exact law_go KX G.T.g G.T.b G.T.builtins G.T.nolimit hg hobj hints (Nat.le_trans hlen (by decide)) hr hF hb (holds ns hlen)
end
end Mc


namespace Mc
open PySem L2
section
variable {F : Fx} {X : Cx} {a b e : Expr} {es : List Expr} {pos : Pos} {ma mb me : ME} {W W' : Wd} {h h' : CH} {H H' : Hp} {p q : Addr} {n : Nat} {o : CO}

/-! ### a live list is walked: it is hidden meanwhile -/
theorem Sim.hide (s : Sim F W h H) (hn : h[n]? = some (some o)) (ha : W.mu[n]? = some p) : Sim F (W.keep p) (h.set n none) H := by
  obtain ⟨a', q1, q2, q3, q4⟩ := s.obj n o hn
  rw [ha] at q1
  cases q1
  obtain ⟨u, q5, _⟩ := q4.mu
  have old : ∀ {m : Nat} {o1 : CO}, (h.set n none)[m]? = some (some o1) → n ≠ m ∧ h[m]? = some (some o1) := by
    intro m o1 e
    have hl : n < h.length := (List.getElem?_eq_some_iff.mp hn).1
    by_cases hm : n = m
    · subst hm; rw [List.getElem?_set_self hl] at e; cases e
    · rw [List.getElem?_set_ne hm] at e; exact ⟨hm, e⟩
  refine ⟨by simp [s.len, Wd.keep], fun m o1 e => ?_, fun m k o1 o2 b e1 e2 m1 m2 => ?_, fun x hx => ?_, fun x hx => ?_, ?bo⟩
  case bo => exact Bx.up (W := W) (W2 := W.keep p) (s.drop n).bo rfl rfl (fun _ h => h) fun m T x e q => ⟨(s.bo.pv m T x (old e).2 q).1, (s.bo.pv m T x (old e).2 q).2.1, fun z => z.elim (s.bo.pv m T x (old e).2 q).2.2 fun z => (old e).1 (s.bo.lv m T n o x (old e).2 q hn (z ▸ ha))⟩
  · obtain ⟨hm, e⟩ := old e
    obtain ⟨b, r1, r2, r3, r4⟩ := s.obj m o1 e
    exact ⟨b, r1, r2, ⟨r3.1, fun z => z.elim r3.2 fun z => hm (s.inj n m o o1 b hn e (z ▸ ha) r1)⟩, RO.up (W := W) (W2 := W.keep p) rfl (fun _ h => h) (fun _ h => h) r4⟩
  · exact s.inj m k o1 o2 b (old e1).2 (old e2).2 m1 m2
  · rcases hx with hx | hx | hx | hx
    · exact s.ne x (.inl hx)
    · exact s.ne x (.inr (.inl hx))
    · exact s.ne x (.inr (.inr hx))
    · subst hx; rw [q5]; simp
  · exact ⟨(s.dj x hx).1, fun z => z.elim (s.dj x hx).2 fun z => q2 (z ▸ hx)⟩
theorem Sim.unhide (s0 : Sim F W h H) (hn : h[n]? = some (some o)) (ha : W.mu[n]? = some p) (s : Sim F W' h' H') (st : Stp (W.keep p) H W' H') (nb : ∀ T, o ≠ .box T := by intro _ z; cases z) : Sim F (W'.back W) (h'.set n (some o)) H' := by
  obtain ⟨a', q1, q2, q3, q4⟩ := s0.obj n o hn
  rw [ha] at q1
  cases q1
  have hp' : H' p = H p := st.hz p (.inr (.inr (.inr rfl)))
  have ro : RO F (W'.back W) H' o p := q4.mono st.back hp'
  have ha' : W'.mu[n]? = some p := st.at ha
  have hl : n < h'.length := by rw [s.len]; exact (List.getElem?_eq_some_iff.mp ha').1
  have old : ∀ {m : Nat} {o1 : CO}, (h'.set n (some o))[m]? = some (some o1) → (m = n ∧ o1 = o) ∨ (n ≠ m ∧ h'[m]? = some (some o1)) := by
    intro m o1 e
    by_cases hm : n = m
    · subst hm; rw [List.getElem?_set_self hl] at e; cases e; exact .inl ⟨rfl, rfl⟩
    · rw [List.getElem?_set_ne hm] at e; exact .inr ⟨hm, e⟩
  have np : ∀ {m : Nat} {o1 : CO}, h'[m]? = some (some o1) → W'.mu[m]? ≠ some p := fun {m o1} e z => by
    obtain ⟨b, r1, r2, r3, r4⟩ := s.obj m o1 e
    rw [z] at r1
    cases r1
    exact r3.2 (by rw [st.kp]; exact .inr rfl)
  have kpp : W'.kp p := by rw [st.kp]; exact .inr rfl
  have oldb : ∀ (m : Nat) (T : Sn), (h'.set n (some o))[m]? = some (some (.box T)) → h'[m]? = some (some (.box T)) := fun m T e => (old e).elim (fun z => absurd z.2.symm (nb T)) fun z => z.2
  refine ⟨by simp [s.len, Wd.back], fun m o1 e => ?_, fun m k o1 o2 b e1 e2 m1 m2 => ?_, fun x hx => ?_, fun x hx => ?_, ?bo⟩
  case bo =>
    have B : Bx F W' (h'.set n (some o)) H' := s.bo.move .refl rfl oldb (fun _ _ _ _ _ => rfl) (fun m T x e q => s.bo.pv m T x (oldb m T e) q) fun m o1 x e q => by
      rcases old e with ⟨rfl, rfl⟩ | ⟨hm, e⟩
      · rw [ha'] at q
        cases q
        exact .inr fun m2 T e2 q2 => (s.bo.pv m2 T p (oldb m2 T e2) q2).2.2 kpp
      · exact .inl ⟨o1, e, q⟩
    exact Bx.up (W := W') (W2 := W'.back W) B rfl rfl (fun _ h => h) fun m T x e q => ⟨(s.bo.pv m T x (oldb m T e) q).1, (s.bo.pv m T x (oldb m T e) q).2.1, fun z => (s.bo.pv m T x (oldb m T e) q).2.2 (by rw [st.kp]; exact .inl z)⟩
  · rcases old e with ⟨rfl, rfl⟩ | ⟨hm, e⟩
    · exact ⟨p, ha', fun z => (s.dj p z).2 (by rw [st.kp]; exact .inr rfl), ⟨fun z => q3.1 (by have z : W'.ln p := z; rw [st.ln] at z; exact z), q3.2⟩, ro⟩
    · obtain ⟨b, r1, r2, r3, r4⟩ := s.obj m o1 e
      exact ⟨b, r1, r2, ⟨r3.1, fun z => r3.2 (by rw [st.kp]; exact .inl z)⟩, RO.up (W := W') (W2 := W'.back W) rfl (fun _ h => h) (fun _ h => h) r4⟩
  · have m1 : W'.mu[m]? = some b := m1
    have m2 : W'.mu[k]? = some b := m2
    rcases old e1 with ⟨i1, _⟩ | ⟨_, f1⟩
    · rcases old e2 with ⟨i2, _⟩ | ⟨_, f2⟩
      · rw [i1, i2]
      · rw [i1, ha'] at m1; cases m1
        exact absurd m2 (np f2)
    · rcases old e2 with ⟨i2, _⟩ | ⟨_, f2⟩
      · rw [i2, ha'] at m2; cases m2
        exact absurd m1 (np f1)
      · exact s.inj m k o1 o2 b f1 f2 m1 m2
  · rcases hx with hx | hx | hx
    · exact s.ne x (.inl hx)
    · exact s.ne x (.inr (.inl hx))
    · exact s.ne x (.inr (.inr (by rw [st.kp]; exact .inl hx)))
  · exact ⟨(s.dj x hx).1, fun z => (s.dj x hx).2 (by rw [st.kp]; exact .inl z)⟩
theorem Priv.unhide {D : Addr} (pr : Priv W' h' D) (ha : W.mu[n]? = some p) (st : Stp (W.keep p) H W' H') (nd : p ≠ D) (k0 : ¬ W.kp D) (nb : ∀ T, o ≠ .box T := by intro _ z; cases z) : Priv (W'.back W) (h'.set n (some o)) D where
  fz := pr.fz
  ln := pr.ln
  kp := k0
  lv := fun m o1 e q => by
    have q : W'.mu[m]? = some D := q
    by_cases hm : n = m
    · subst hm
      rw [st.at ha] at q
      cases q
      exact nd rfl
    · rw [List.getElem?_set_ne hm] at e
      exact pr.lv m o1 e q
  bx := fun m T e q => by
    by_cases hm : n = m
    · subst hm
      have hl : n < h'.length := by
        have := (List.getElem?_eq_some_iff.mp e).1
        simpa using this
      rw [List.getElem?_set_self hl] at e
      cases e
      exact nb T rfl
    · rw [List.getElem?_set_ne hm] at e
      exact pr.bx m T e q
/-- a live list -/
def liveL (h : CH) : CV → Option (Nat × List CV)
  | .ref n => match h[n]? with
    | some (some (.lst xs)) => some (n, xs)
    | _ => none
  | _ => none
theorem liveL_eq {x : CV} {xs : List CV} (e : liveL h x = some (n, xs)) : x = .ref n ∧ h[n]? = some (some (.lst xs)) := by
  unfold liveL at e
  split at e
  · split at e
    · rename_i m ys q
      cases e
      exact ⟨rfl, q⟩
    · cases e
  · cases e
abbrev MI := Sl → CH → Option ((Nat × List CV) × CH)
def mItL (m : ME) : MI := fun c h => (m c h).bind fun p => (liveL p.2 p.1).map fun q => (q, p.2)
def tIL (F : Fx) (m : MI) : TI := fun σ H R => ∃ W c h n items h', RSl F W H c σ ∧ Sim F W h H ∧ m c h = some ((n, items), h') ∧ ∀ W' H' J St a, Stp W H W' H' → Sim F W' h' H' → W'.mu[n]? = some a → h'[n]? = some (some (.lst items)) → Feed F J items St → St (W'.keep a) H' → R J H'
theorem feed_k (a : Addr) (vs : List V) (items : List CV) : Feed F (Itl F.K a) items (fun W H => W.kp a ∧ H a = some (.lst vs) ∧ Rls F W H items vs) where
  mono := fun W H W' H' st h => ⟨by rw [st.kp]; exact h.1, (st.hz a (.inr (.inr h.1))).trans h.2.1, h.2.2.mono st⟩
  keep := fun W H p h => ⟨.inl h.1, h.2.1, Rls.up (W := W) (W2 := W.keep p) rfl (fun _ h => h) (fun _ h => h) h.2.2⟩
  go := fun i W H hi h => ⟨vs, vs[i]'(h.2.2.length ▸ hi), .of h.2.1, List.getElem?_eq_getElem _⟩
  stop := fun W H h => ⟨vs, .of h.2.1, Nat.le_of_eq h.2.2.length.symm⟩
  yld := fun i W h H x H' y st s e q => by
    obtain ⟨rfl, q⟩ := q
    obtain ⟨v, q2, r2⟩ := st.2.2.get e
    rw [q vs (.of st.2.1)] at q2
    cases q2
    exact ⟨W, .refl, s, r2⟩
theorem i_live {tg : Expr} (g : Gd F X) (h : PE X e (tE F me)) : PI X tg e (tIL F (mItL me)) := wkI (pi_list h) fun σ H R hh => by
  obtain ⟨W, c, h, n, xs, h', rs, s, e, k⟩ := hh
  unfold mItL at e
  simp only [Option.bind_eq_some_iff, Prod.exists, Option.map_eq_some_iff, Prod.mk.injEq] at e
  obtain ⟨x, h1, e1, n1, xs1, e2, ⟨rfl, rfl⟩, rfl⟩ := e
  obtain ⟨rfl, e3⟩ := liveL_eq e2
  refine seqX rs s e1 fun W1 H1 u st1 s1 r1 => ?_
  cases r1 with
  | @ref _ p ha =>
    obtain ⟨a', q1, q2, q3, vs, q4, q5⟩ := s1.obj _ _ e3
    rw [ha] at q1
    cases q1
    refine ⟨p, rfl, ⟨vs, ?_⟩, ?_⟩
    · exact .of q4
    · rw [← g.hK]
      exact k W1 H1 _ _ p st1 s1 ha e3 (feed_k p vs xs1) ⟨.inr rfl, q4, Rls.up (W := W1) (W2 := W1.keep p) rfl (fun _ h => h) (fun _ h => h) q5⟩
def mForL (it : MI) (g : MG) (b : MS) : MS := fun c h => (it c h).bind fun p => (loop g b p.1.2 c (p.2.set p.1.1 none)).map fun q => (q.1, q.2.1, q.2.2.set p.1.1 (some (.lst p.1.2)))
theorem tForL_of {it : MI} {g : MG} {b : MS} {D : Ends} {σ : St} {H : Hp} (hh : tS F (mForL it g b) D σ H) : tFor (tIL F it) (tGP F All g) (tS F b) D σ H := by
  obtain ⟨W0, c0, h0, f, c', hf, rs0, s0, e0, k⟩ := hh
  unfold mForL at e0
  simp only [Option.bind_eq_some_iff, Option.map_eq_some_iff, Prod.exists, Prod.mk.injEq] at e0
  obtain ⟨nn, items, h1, e1, f1, c1, h', e2, rfl, rfl, rfl⟩ := e0
  refine ⟨W0, c0, h0, nn, items, h1, rs0, s0, e1, fun W1 H1 J St pa st1 s1 hpa hobj fd hst => ?_⟩
  have sk := s1.hide hobj hpa
  have fin : ∀ W H, Sim F W h' H → Stp (W1.keep pa) H1 W H → Stp W0 _ (W.back W1) H ∧ Sim F (W.back W1) (h'.set nn (some (.lst items))) H := fun W H s st => ⟨st1.trans st.back, s1.unhide hobj hpa s st⟩
  refine ⟨fun i m σ H => ∃ W c h, m = items.length - i ∧ i ≤ items.length ∧ RSl F W H c σ ∧ Sim F W h H ∧ St W H ∧ Stp (W1.keep pa) H1 W H ∧ loop g b (items.drop i) c h = some (f1, c1, h'),
    ⟨items.length, W1.keep pa, c0, _, by simp, Nat.zero_le _, RSl.up (W := W1) (W2 := W1.keep pa) rfl (fun _ h => h) (fun _ h => h) (rs0.mono st1), sk, hst, .refl, by simpa using e2⟩, ?_⟩
  rintro i m σ H ⟨W, c, h, rfl, hi, rs, s, hst, st, e⟩
  by_cases hlt : i < items.length
  · rw [List.drop_eq_getElem_cons hlt] at e
    unfold loop at e
    simp only [Option.bind_eq_some_iff, Prod.exists] at e
    obtain ⟨c2, h2, e3, f2, c3, h3, e4, e5⟩ := e
    refine .inr ⟨fd.go i W H hlt hst, _, fun σ' H' w => ⟨items.length - (i + 1), Nat.sub_lt_sub_left hlt (Nat.lt_succ_self _), w⟩, fun x H' y => ?_⟩
    obtain ⟨W2, st2, s2, r2⟩ := fd.yld i W h H x H' _ hst s (List.getElem?_eq_getElem hlt) y
    refine ⟨W2, c, h, _, c2, h2, rs.mono st2, s2, r2, e3, fun W3 H3 σ3 st3 s3 rs3 _ => ?_⟩
    refine tS_mk rs3 s3 e4 fun W4 H4 st4 s4 => ?_
    have stt : Stp (W1.keep pa) H1 W4 H4 := ((st.trans st2).trans st3).trans st4
    have hs4 : St W4 H4 := fd.mono _ _ _ _ ((st2.trans st3).trans st4) hst
    cases f2 with
    | nx => exact fun σ4 rs4 => ⟨W4, c3, h3, rfl, hlt, rs4, s4, hs4, stt, e5⟩
    | ct => exact fun σ4 rs4 => ⟨W4, c3, h3, rfl, hlt, rs4, s4, hs4, stt, e5⟩
    | bk =>
      cases e5
      have z := fin W4 H4 s4 stt
      exact fun σ4 rs4 => k (W4.back W1) H4 z.1 z.2 σ4 (RSl.up (W := W4) (W2 := W4.back W1) rfl (fun _ h => h) (fun _ h => h) rs4)
    | rt x =>
      cases e5
      have z := fin W4 H4 s4 stt
      exact fun v r => k (W4.back W1) H4 z.1 z.2 v (Rl.up (W := W4) (W2 := W4.back W1) rfl (fun _ h => h) (fun _ h => h) r)
  · have hi' : i = items.length := by omega
    subst hi'
    rw [List.drop_length] at e
    unfold loop at e
    cases e
    have z := fin W H s st
    exact .inl ⟨fd.stop W H hst, k (W.back W1) H z.1 z.2 σ (RSl.up (W := W) (W2 := W.back W1) rfl (fun _ h => h) (fun _ h => h) rs)⟩
def mLcL (fr : Bool) (it : MI) (own : List Nat) (g : MG) (t : MT) (m : ME) : ME := fun c h => (it c h).bind fun p => if p.1.2.length ≤ lim then (cloop g t m (wipeC c own) p.1.2 (p.2.set p.1.1 none)).bind fun q => mk fr (q.2.set p.1.1 (some (.lst p.1.2))) q.1 else none
theorem tLcL_of {fr : Bool} {it : MI} {own : List Nat} {g : MG} {t : MT} {m : ME} {σ : St} {H : Hp} {Q : VK} (hh : tE F (mLcL fr it own g t m) σ H Q) : tLc (tIL F it) (tGP F (· ∈ own) g) (tT F t) (tE F m) own σ H Q := by
  obtain ⟨W0, c0, h0, z, h', rs0, s0, e0, k⟩ := hh
  unfold mLcL at e0
  simp only [Option.bind_eq_some_iff, Prod.exists] at e0
  obtain ⟨nn, items, h1, e1, e2⟩ := e0
  split at e2
  · rename_i hlim
    simp only [Option.bind_eq_some_iff, Prod.exists] at e2
    obtain ⟨total, h2, e3, e4⟩ := e2
    refine ⟨W0, c0, h0, nn, items, h1, rs0, s0, e1, fun WA H1 J St pa st1 sA hpa hobj fd hstA D hD => ?_⟩
    have s1 := sA.hide hobj hpa
    have neD : pa ≠ D := fun z => by
      obtain ⟨a', q1, _, _, q4⟩ := sA.obj _ _ hobj
      rw [hpa] at q1
      cases q1
      obtain ⟨v, q5, _⟩ := q4.mu
      rw [z, hD] at q5; cases q5
    generalize hW1 : WA.keep pa = W1 at s1 hstA
    have pr1 : Priv W1 (h1.set nn none) D := ⟨fun z => s1.ne D (.inl z) hD, fun z => s1.ne D (.inr (.inl z)) hD, fun z => s1.ne D (.inr (.inr z)) hD, fun n o e q => (by
      obtain ⟨a, q1, _, _, q4⟩ := s1.obj n o e
      obtain ⟨v, q5, _⟩ := q4.mu
      rw [q] at q1
      cases q1
      rw [hD] at q5; cases q5), fun n T e q => s1.bo.ne e q hD⟩
    have rsk : RSl F W1 H1 c0 σ := by rw [← hW1]; exact RSl.up (W := WA) (W2 := WA.keep pa) rfl (fun _ h => h) (fun _ h => h) (rs0.mono st1)
    have st2 := s1.stpNew (u := .lst []) hD
    refine ⟨fun i m' H => ∃ W h acc acc', m' = items.length - i ∧ i ≤ items.length ∧ Sim F W h H ∧ St W H ∧ Stp W1 H1 W H ∧ Priv W h D ∧ H D = some (.lst acc) ∧ Rls F W H acc' acc ∧ acc.length ≤ i ∧ ∃ rest, cloop g t m (wipeC c0 own) (items.drop i) h = some (rest, h2) ∧ acc' ++ rest = total,
      ⟨items.length, W1, _, [], [], by simp, Nat.zero_le _, s1.fresh hD, fd.mono _ _ _ _ st2 hstA, st2, pr1, upd_same, .nil, Nat.le_refl _, total, by simpa using e3, by simp⟩, ?_⟩
    rintro i m' H ⟨W, h, acc, acc', rfl, hi, s, hst, st, pr, hacc, racc, hlen, rest, e, et⟩
    by_cases hlt : i < items.length
    · rw [List.drop_eq_getElem_cons hlt] at e
      unfold cloop at e
      simp only [Option.bind_eq_some_iff, Prod.exists] at e
      obtain ⟨c2, h3, e5, b, h4, e6, e7⟩ := e
      refine .inr ⟨fd.go i W H hlt hst, _, fun H' w => ⟨items.length - (i + 1), Nat.sub_lt_sub_left hlt (Nat.lt_succ_self _), w⟩, fun x H' y => ?_⟩
      have sk := s.keep pr (by rw [hacc]; simp)
      have hstk := fd.keep W H D hst
      obtain ⟨W2, stA, s2, r2⟩ := fd.yld i (W.keep D) h H x H' _ hstk sk (List.getElem?_eq_getElem hlt) y
      have base : RSl F (W.keep D) H (wipeC c0 own) (wipe σ own) := RSl.up (W := W) (W2 := W.keep D) rfl (fun _ h => h) (fun _ h => h) ((rsk.mono st).wipe own)
      refine ⟨W2, wipeC c0 own, h, _, c2, h3, base.mono stA, s2, r2, e5, fun W3 H3 σ3 stB s3 rs3 ag => ⟨(wipe_ag ag).trans wipe_wipe |>.trans wipe_wipe.symm |>.trans (by rw [wipe_wipe]), ?_⟩⟩
      refine seqX rs3 s3 e6 fun W4 H4 u stC s4 rb => ?_
      cases (show u = b from rb)
      have stAC := (stA.trans stB).trans stC
      cases b with
      | false =>
        rw [if_neg Bool.false_ne_true]
        have hD5 : H4 D = some (.lst acc) := (stAC.hz D (.inr (.inr (.inr rfl)))).trans hacc
        have stK := stAC.back
        exact ⟨W4.back W, h4, acc, acc', rfl, hlt, s4.back fun a z => by rw [stAC.kp]; exact .inl z, fd.mono _ _ _ _ stK hst, st.trans stK, pr.back s4 stAC, hD5, racc.mono stK, Nat.le_succ_of_le hlen, rest, e7, et⟩
      | true =>
        rw [if_pos rfl]
        simp only [Option.bind_eq_some_iff, Prod.exists, Option.some.injEq, Prod.mk.injEq] at e7
        obtain ⟨y1, h5, e8, ys, h6, e9, rfl, rfl⟩ := e7
        refine seqX (rs3.mono stC) s4 e8 fun W5 H5 v stD s5 r5 => ?_
        have stAD := stAC.trans stD
        have hD5 : H5 D = some (.lst acc) := (stAD.hz D (.inr (.inr (.inr rfl)))).trans hacc
        have stK := stAD.back
        have pr5 := pr.back s5 stAD
        have s5' : Sim F (W5.back W) h5 H5 := s5.back fun a z => by rw [stAD.kp]; exact .inl z
        have stE : Stp (W5.back W) H5 (W5.back W) (upd H5 D (.lst (acc ++ [v]))) := pr5.stp ⟨_, hD5⟩
        have r5' : Rl F (W5.back W) H5 y1 v := Rl.up (W := W5) (W2 := W5.back W) rfl (fun _ h => h) (fun _ h => h) r5
        refine ⟨acc, hD5, Nat.lt_of_lt_of_le (Nat.lt_of_le_of_lt hlen hlt) hlim, W5.back W, h5, acc ++ [v], acc' ++ [y1], rfl, hlt, s5'.priv pr5 ⟨_, hD5⟩, fd.mono _ _ _ _ (stK.trans stE) hst, (st.trans stK).trans stE, pr5, upd_same, (racc.mono (stK.trans stE)).append (.cons (r5'.mono stE) .nil), ?_, ys, e9, by simpa using et⟩
        rw [List.length_append, List.length_singleton]
        exact Nat.succ_le_succ hlen
    · have hi' : i = items.length := by omega
      subst hi'
      rw [List.drop_length] at e
      unfold cloop at e
      cases e
      rw [List.append_nil] at et
      subst et
      subst hW1
      have sU := sA.unhide hobj hpa s st
      have prU : Priv (W.back WA) (h2.set nn (some (.lst items))) D := pr.unhide hpa st neD fun z => pr1.kp (.inl z)
      have raccU : Rls F (W.back WA) H acc' acc := Rls.up (W := W) (W2 := W.back WA) rfl (fun _ h => h) (fun _ h => h) racc
      refine .inl ⟨fd.stop W H hst, ?_⟩
      obtain ⟨W2, st3, s2, r2⟩ := adopt sU prU hacc e4 raccU
      exact k W2 H _ ((st1.trans st.back).trans st3) s2 r2
  · cases e2
/-! ### whatever is walked -/
def itU (h : CH) : CV → Option (Option Nat × List CV)
  | .ref n => match h[n]? with
    | some (some (.lst xs)) => some (some n, xs)
    | _ => none
  | x => match seqS x with
    | some xs => some (none, xs)
    | none => (seqT x).map fun xs => (none, xs)
theorem itU_none {x : CV} {xs : List CV} (e : itU h x = some (none, xs)) : seqS x = some xs ∨ seqT x = some xs := by
  unfold itU at e
  split at e
  · split at e <;> cases e
  · split at e
    · cases e; exact .inl ‹_›
    · simp only [Option.map_eq_some_iff, Prod.mk.injEq, true_and] at e
      obtain ⟨y, e, rfl⟩ := e
      exact .inr e
theorem itU_some {x : CV} {xs : List CV} (e : itU h x = some (some n, xs)) : liveL h x = some (n, xs) := by
  unfold itU at e
  split at e
  · rename_i m
    unfold liveL
    split at e
    · rename_i ys q
      cases e
      show (match h[n]? with | some (some (.lst xs)) => some (n, xs) | _ => none) = _
      rw [q]
    · cases e
  · split at e
    · cases e
    · simp at e
def tIU (F : Fx) (m : ME) : TI := fun σ H R => tI F (mIt m) σ H R ∨ tI F (mItT m) σ H R ∨ tIL F (mItL m) σ H R
theorem i_u {tg : Expr} (g : Gd F X) (h : PE X e (tE F me)) : PI X tg e (tIU F me) := ⟨fun pins s σ H R I q => q.elim (fun q => (i_l g h).run pins s σ H R I q) fun q => q.elim (fun q => (i_t g h).run pins s σ H R I q) fun q => (i_live g h).run pins s σ H R I q⟩
def mForU (m : ME) (g : MG) (b : MS) : MS := fun c h => (m c h).bind fun p => (itU p.2 p.1).bind fun q => match q.1 with
  | none => loop g b q.2 c p.2
  | some n => (loop g b q.2 c (p.2.set n none)).map fun r => (r.1, r.2.1, r.2.2.set n (some (.lst q.2)))
theorem s_forU {tg iter : Expr} {body : List Stmt} {m : ME} {g : MG} {b : MS} (gd : Gd F X) (hxe : PassesOwn (model X.prog X.w) X.A X.env X.xe) (hi : PE X iter (tE F m)) (hg : PG X tg (tGP F All g)) (hb : PSs X body (tS F b))
    (hs : ∀ x, foldedSetIterable iter X.env x = pure x := by intro _; rfl) : PS X (.For tg iter body [] pos) (tS F (mForU m g b)) := wkS (ps_for hxe gd.calm (i_u gd hi) hg hb hs) fun D σ H hh => by
  obtain ⟨W0, c0, h0, f, c', hf, rs0, s0, e0, k⟩ := hh
  unfold mForU at e0
  simp only [Option.bind_eq_some_iff, Prod.exists] at e0
  obtain ⟨x, h1, e1, hid, items, e2, e3⟩ := e0
  cases hid with
  | none =>
    rcases itU_none e2 with q | q
    · exact .inl (tFor_of (it := mIt m) ⟨W0, c0, h0, f, c', hf, rs0, s0, by unfold mFor mIt; rw [e1]; show ((seqS x).map _).bind _ = _; rw [q]; exact e3, k⟩)
    · exact .inr (.inl (tFor_of (it := mItT m) ⟨W0, c0, h0, f, c', hf, rs0, s0, by unfold mFor mItT; rw [e1]; show ((seqT x).map _).bind _ = _; rw [q]; exact e3, k⟩))
  | some n => exact .inr (.inr (tForL_of (it := mItL m) ⟨W0, c0, h0, f, c', hf, rs0, s0, by unfold mForL mItL; rw [e1]; show ((liveL h1 x).map _).bind _ = _; rw [itU_some e2]; exact e3, k⟩))
def mLcU (fr : Bool) (m0 : ME) (own : List Nat) (g : MG) (t : MT) (m : ME) : ME := fun c h => (m0 c h).bind fun p => (itU p.2 p.1).bind fun q => if q.2.length ≤ lim then match q.1 with
  | none => (cloop g t m (wipeC c own) q.2 p.2).bind fun r => mk fr r.2 r.1
  | some n => (cloop g t m (wipeC c own) q.2 (p.2.set n none)).bind fun r => mk fr (r.2.set n (some (.lst q.2))) r.1
  else none
theorem tLcU_of {fr : Bool} {m0 : ME} {own : List Nat} {g : MG} {t : MT} {m : ME} {σ : St} {H : Hp} {Q : VK} (hh : tE F (mLcU fr m0 own g t m) σ H Q) : tLc (tIU F m0) (tGP F (· ∈ own) g) (tT F t) (tE F m) own σ H Q := by
  obtain ⟨W0, c0, h0, z, h', rs0, s0, e0, k⟩ := hh
  unfold mLcU at e0
  simp only [Option.bind_eq_some_iff, Prod.exists] at e0
  obtain ⟨x, h1, e1, hid, items, e2, e3⟩ := e0
  split at e3
  · rename_i hlim
    cases hid with
    | none =>
      rcases itU_none e2 with q | q
      · exact .inl (tLc_of (fr := fr) (it := mIt m0) ⟨W0, c0, h0, z, h', rs0, s0, by unfold mLc mIt; rw [e1]; show ((seqS x).map _).bind _ = _; rw [q]; show (if _ then _ else _) = _; rw [if_pos hlim]; exact e3, k⟩)
      · exact .inr (.inl (tLc_of (fr := fr) (it := mItT m0) ⟨W0, c0, h0, z, h', rs0, s0, by unfold mLc mItT; rw [e1]; show ((seqT x).map _).bind _ = _; rw [q]; show (if _ then _ else _) = _; rw [if_pos hlim]; exact e3, k⟩))
    | some n => exact .inr (.inr (tLcL_of (fr := fr) (it := mItL m0) ⟨W0, c0, h0, z, h', rs0, s0, by unfold mLcL mItL; rw [e1]; show ((liveL h1 x).map _).bind _ = _; rw [itU_some e2]; show (if _ then _ else _) = _; rw [if_pos hlim]; exact e3, k⟩))
  · cases e3
open PySem.Spec PyProof.Rows
theorem e_lcU (fr : Bool) {tg iter : Expr} {ifs : List Expr} {scope : Scope} {own : List (Str × Nat)} {m0 : ME} {gg : MG} {t : MT} {m : ME} (g : Gd F X) (hi : PE X iter (tE F m0)) (ok : BlkOk X.N X.env.scope scope own)
    (hg : ∀ (s : Shared) (H : Hp) (C : Addr) (cl : List (Str × Addr)) (fp : List Addr), PG (X.blk s H scope (compEnvC scope cl C X.env) fp) tg (tGP F (· ∈ own.map (·.2)) gg))
    (ht : ∀ (s : Shared) (H : Hp) (C : Addr) (cl : List (Str × Addr)) (fp : List Addr), PTs (X.blk s H scope (compEnvC scope cl C X.env) fp) ifs (tT F t))
    (he : ∀ (s : Shared) (H : Hp) (C : Addr) (cl : List (Str × Addr)) (fp : List Addr), PE (X.blk s H scope (compEnvC scope cl C X.env) fp) e (tE F m)) (hs : ∀ x, foldedSetIterable iter X.env x = pure x := by intro _; rfl) :
    PE X (.ListComp e [⟨tg, iter, ifs, 0⟩] scope pos) (tE F (mLcU fr m0 (own.map (·.2)) gg t m)) := wkE (pe_lc g.calm g.nd (i_u g hi) ok hg ht he hs) fun _ _ _ => tLcU_of
theorem s_setLcU (fr : Bool) (i : Nat) {y : Str} {py spos : Pos} {tg iter : Expr} {ifs : List Expr} {scope : Scope} {own : List (Str × Nat)} {m0 : ME} {gg : MG} {t : MT} {m : ME} (g : Gd F X) (hi : PE X iter (tE F m0)) (ok : BlkOk X.N X.env.scope scope own)
    (hg : ∀ (s : Shared) (H : Hp) (C : Addr) (cl : List (Str × Addr)) (fp : List Addr), PG (X.blk s H scope (compEnvC scope cl C X.env) fp) tg (tGP F (· ∈ own.map (·.2)) gg))
    (ht : ∀ (s : Shared) (H : Hp) (C : Addr) (cl : List (Str × Addr)) (fp : List Addr), PTs (X.blk s H scope (compEnvC scope cl C X.env) fp) ifs (tT F t))
    (he : ∀ (s : Shared) (H : Hp) (C : Addr) (cl : List (Str × Addr)) (fp : List Addr), PE (X.blk s H scope (compEnvC scope cl C X.env) fp) e (tE F m))
    (hy : X.N[i]? = some y := by rfl) (hyl : X.env.scope.names.lookup y = some .local := by rfl) (hsw : swapsWith (.ListComp e [⟨tg, iter, ifs, 0⟩] scope pos) (some (.Name y py)) spos.line X.env = pure true := by exact sw_true rfl rfl rfl (by decide +kernel))
    (hs : ∀ x, foldedSetIterable iter X.env x = pure x := by intro _; rfl) :
    PS X (.Assign [.Name y py] (.ListComp e [⟨tg, iter, ifs, 0⟩] scope pos) spos) (tS F (mAsg (mLcU fr m0 (own.map (·.2)) gg t m) (gNm i))) := wkS (ps_setLc g.calm g.nd hy hyl hsw (i_u g hi) ok hg ht he hs) fun D σ H hh => by
  obtain ⟨W, c, h, f, c', h', rs, s, e, k⟩ := hh
  unfold mAsg gNm at e
  simp only [Option.bind_eq_some_iff, Prod.exists, Option.some.injEq, Prod.mk.injEq] at e
  obtain ⟨x, h1, e1, c2, h2, ⟨rfl, rfl⟩, rfl, rfl, rfl⟩ := e
  exact tLcU_of (seqX rs s e1 fun W1 H1 u st1 s1 r1 => k W1 H1 st1 s1 _ ((rs.mono st1).set r1))
end
end Mc


namespace Mc
open PySem L2
def okTrue : Option (CV × CH) → Bool
  | some (.d (.bl true), _) => true
  | _ => false
theorem okTrue_eq {x : Option (CV × CH)} (h : okTrue x = true) : ∃ g, x = some (.d (.bl true), g) := by
  unfold okTrue at h
  split at h
  · exact ⟨_, rfl⟩
  · cases h
section
variable {c : Sl} {h h' : CH} {m ma mb mc : ME} {r : MA} {t ta tb : MT} {g : MG} {b b1 b2 : MS} {i j : Nat} {x y : CV} {d : D}
theorem bd_eq {α β : Type} {x : Option α} {f : α → Option β} : x.bind f = match x with | some p => f p | none => none := by cases x <;> rfl
theorem mp_eq {α β : Type} {x : Option α} {f : α → β} : x.map f = match x with | some p => some (f p) | none => none := by cases x <;> rfl
/-! ### what each piece does, as equations -/
@[simp] theorem x_var : mVar i c h = match c[i]? with | some (some x) => some (x, h) | _ => none := by unfold mVar; rfl
@[simp] theorem x_C : mC d c h = some (.d d, h) := (rfl)
@[simp] theorem x_op {f : CH → CV → CV → Option (CV × CH)} : mOp f ma mb c h = match ma c h with | some p => (match mb c p.2 with | some q => f q.2 p.1 q.1 | none => none) | none => none := by
  unfold mOp
  cases ma c h with
  | none => rfl
  | some p =>
    dsimp only [Option.bind_some, Option.map_some]
    cases mb c p.2 <;> rfl
def afterS (b2 : MS) : Fl → Sl → CH → Option (Fl × Sl × CH)
  | .nx, c, h => b2 c h
  | f, c, h => some (f, c, h)
@[simp] theorem x_aft1 : afterS b2 .nx c h = b2 c h := (rfl)
@[simp] theorem x_aft2 : afterS b2 .bk c h = some (.bk, c, h) := (rfl)
@[simp] theorem x_aft3 : afterS b2 .ct c h = some (.ct, c, h) := (rfl)
@[simp] theorem x_aft4 : afterS b2 (.rt x) c h = some (.rt x, c, h) := (rfl)
@[simp] theorem x_seq : mSeq b1 b2 c h = match b1 c h with | some p => afterS b2 p.1 p.2.1 p.2.2 | none => none := by
  unfold mSeq
  cases b1 c h with
  | none => rfl
  | some p => rcases p with ⟨f, c1, h1⟩; cases f <;> rfl
@[simp] theorem x_next : mNext c h = some (.nx, c, h) := (rfl)
@[simp] theorem x_brk : mBrk c h = some (.bk, c, h) := (rfl)
@[simp] theorem x_cnt : mCnt c h = some (.ct, c, h) := (rfl)
@[simp] theorem x_drop : mDrop m c h = match m c h with | some p => some (.nx, c, p.2) | none => none := by
  unfold mDrop
  cases m c h <;> rfl
@[simp] theorem x_ret : mRet m c h = match m c h with | some p => some (.rt p.1, c, p.2) | none => none := by
  unfold mRet
  cases m c h <;> rfl
@[simp] theorem x_ifS : mIfS t b1 b2 c h = match t c h with | some p => (if p.1 = true then b1 c p.2 else b2 c p.2) | none => none := by
  unfold mIfS
  cases t c h with
  | none => rfl
  | some p => rcases p with ⟨f, h1⟩; cases f <;> rfl
@[simp] theorem x_asg : mAsg m g c h = match m c h with | some p => (match g p.1 c p.2 with | some q => some (.nx, q.1, q.2) | none => none) | none => none := by
  unfold mAsg
  cases m c h with
  | none => rfl
  | some p =>
    dsimp only [Option.bind_some, Option.map_some]
    cases g p.1 c p.2 <;> rfl
@[simp] theorem x_nm : gNm i x c h = some (c.set i (some x), h) := (rfl)
@[simp] theorem x_nil : mNil c h = some ([], h) := (rfl)
@[simp] theorem x_cons : mCons m r c h = match m c h with | some p => (match r c p.2 with | some q => some (p.1 :: q.1, q.2) | none => none) | none => none := by
  unfold mCons
  cases m c h with
  | none => rfl
  | some p =>
    dsimp only [Option.bind_some, Option.map_some]
    cases r c p.2 <;> rfl
@[simp] theorem x_call {ff : List CV → CH → Option (CV × CH)} : mCall ff r c h = match r c h with | some p => ff p.1 p.2 | none => none := by
  unfold mCall
  cases r c h <;> rfl
def toB : CV → CH → Option (Bool × CH)
  | .d (.bl b), h => some (b, h)
  | _, _ => none
@[simp] theorem x_toB {b : Bool} : toB (.d (.bl b)) h = some (b, h) := (rfl)
@[simp] theorem x_TE : mTE m c h = match m c h with | some p => toB p.1 p.2 | none => none := by
  unfold mTE; cases m c h with
  | none => rfl
  | some p => rcases p with ⟨x, h1⟩; cases x with | d z => (cases z <;> rfl) | _ => rfl
@[simp] theorem x_AndT : mAndT ta tb c h = match ta c h with | some p => (if p.1 = true then tb c p.2 else some (false, p.2)) | none => none := by
  unfold mAndT
  cases ta c h with
  | none => rfl
  | some p => rcases p with ⟨f, h1⟩; cases f <;> rfl
@[simp] theorem x_OrT : mOrT ta tb c h = match ta c h with | some p => (if p.1 = true then some (true, p.2) else tb c p.2) | none => none := by
  unfold mOrT
  cases ta c h with
  | none => rfl
  | some p => rcases p with ⟨f, h1⟩; cases f <;> rfl
@[simp] theorem x_NotT : mNotT ta c h = match ta c h with | some p => some (!p.1, p.2) | none => none := by
  unfold mNotT
  cases ta c h <;> rfl
@[simp] theorem x_AndV : mAndV ma mb c h = match mTE ma c h with | some p => (if p.1 = true then mb c p.2 else some (.d (.bl false), p.2)) | none => none := by
  unfold mAndV
  cases mTE ma c h with
  | none => rfl
  | some p => rcases p with ⟨f, h1⟩; cases f <;> rfl
@[simp] theorem x_OrV : mOrV ma mb c h = match mTE ma c h with | some p => (if p.1 = true then some (.d (.bl true), p.2) else mb c p.2) | none => none := by
  unfold mOrV
  cases mTE ma c h with
  | none => rfl
  | some p => rcases p with ⟨f, h1⟩; cases f <;> rfl
@[simp] theorem x_NotV : mNotV m c h = match mTE m c h with | some p => some (.d (.bl (!p.1)), p.2) | none => none := by
  unfold mNotV
  cases mTE m c h <;> rfl
@[simp] theorem x_If : mIf t ma mb c h = match t c h with | some p => (if p.1 = true then ma c p.2 else mb c p.2) | none => none := by
  unfold mIf
  cases t c h with
  | none => rfl
  | some p => rcases p with ⟨f, h1⟩; cases f <;> rfl
def toNeg : CV → CH → Option (CV × CH)
  | .d (.int i), h => some (.d (.int (-i)), h)
  | _, _ => none
@[simp] theorem x_toNeg {i : Int} : toNeg (.d (.int i)) h = some (.d (.int (-i)), h) := (rfl)
@[simp] theorem x_neg : mNeg m c h = match m c h with | some p => toNeg p.1 p.2 | none => none := by
  unfold mNeg; cases m c h with
  | none => rfl
  | some p => rcases p with ⟨x, h1⟩; cases x with | d z => (cases z <;> rfl) | _ => rfl
@[simp] theorem x_chain {f f2 : CH → CV → CV → Option (CV × CH)} : mChain f f2 ma mb mc c h = match ma c h with
  | some p => (match mb c p.2 with
    | some q => (match f q.2 p.1 q.1 with
      | some r => (match toB r.1 r.2 with
        | some z => (if z.1 = true then (match mc c z.2 with | some t => f2 t.2 q.1 t.1 | none => none) else some (.d (.bl false), z.2))
        | none => none)
      | none => none)
    | none => none)
  | none => none := by
  unfold mChain
  cases ma c h with
  | none => rfl
  | some p =>
    dsimp only [Option.bind_some]
    cases mb c p.2 with
    | none => rfl
    | some q =>
      dsimp only [Option.bind_some]
      cases f q.2 p.1 q.1 with
      | none => rfl
      | some r =>
        rcases r with ⟨z, h2⟩
        dsimp only [Option.bind_some]
        cases z with
        | d z =>
          cases z with
          | bl b =>
            cases b with
            | true =>
              dsimp only [Option.bind_some, toB]
              cases mc c h2 <;> rfl
            | false => rfl
          | _ => rfl
        | _ => rfl
@[simp] theorem x_tup : mTup r c h = match r c h with | some p => (if p.1.length ≤ lim then some (mkT p.1, p.2) else none) | none => none := by
  unfold mTup
  cases r c h <;> rfl
@[simp] theorem x_lst {fr : Bool} : mLst fr r c h = match r c h with | some p => (if p.1.length ≤ lim then mk fr p.2 p.1 else none) | none => none := by
  unfold mLst
  cases r c h <;> rfl
@[simp] theorem x_CB {f : CH → List CV → Option (CV × CH)} : mCB f r c h = match r c h with | some p => f p.2 p.1 | none => none := by
  unfold mCB
  cases r c h <;> rfl
@[simp] theorem x_mt {f : CH → CV → List CV → Option (CV × CH)} : mMt f m r c h = match m c h with | some p => (if (seqL p.2 p.1).isSome = true then (match r c p.2 with | some q => f q.2 p.1 q.1 | none => none) else none) | none => none := by
  unfold mMt
  cases m c h with
  | none => rfl
  | some p =>
    dsimp only [Option.bind_some, Option.map_some]
    split
    · cases r c p.2 <;> rfl
    · rfl
@[simp] theorem x_mt0 {f : CH → CV → List CV → Option (CV × CH)} : mMt0 f m c h = match m c h with | some p => f p.2 p.1 [] | none => none := by
  unfold mMt0
  cases m c h <;> rfl
@[simp] theorem x_isi {T : Ty} : mIsi T m c h = match m c h with | some p => (match tyN p.2 p.1 with | some t => some (.d (.bl (isT t T)), p.2) | none => none) | none => none := by
  unfold mIsi
  cases m c h with
  | none => rfl
  | some p =>
    dsimp only [Option.bind_some, Option.map_some]
    cases tyN p.2 p.1 <;> rfl
@[simp] theorem x_frz : mFrz m c h = match m c h with | some p => (match frzV 4 p.2 p.1 with | some q => some (.d q.1, q.2) | none => none) | none => none := by
  unfold mFrz
  cases m c h with
  | none => rfl
  | some p =>
    dsimp only [Option.bind_some, Option.map_some]
    cases frzV 4 p.2 p.1 <;> rfl
@[simp] theorem x_rev {fr : Bool} : mRev fr m c h = match m c h with | some p => (match seqL p.2 p.1 with | some xs => mk fr p.2 xs.reverse | none => none) | none => none := by
  unfold mRev
  cases m c h with
  | none => rfl
  | some p =>
    dsimp only [Option.bind_some, Option.map_some]
    cases seqL p.2 p.1 <;> rfl
@[simp] theorem x_sl {fr : Bool} {lo hi : MO} : mSl fr m lo hi c h = match m c h with | some p => (match lo c p.2 with | some q => (match hi c q.2 with | some r => fSl fr r.2 p.1 q.1 r.1 | none => none) | none => none) | none => none := by
  unfold mSl
  cases m c h with
  | none => rfl
  | some p =>
    dsimp only [Option.bind_some, Option.map_some]
    cases lo c p.2 with
    | none => rfl
    | some q =>
      dsimp only [Option.bind_some, Option.map_some]
      cases hi c q.2 <;> rfl
@[simp] theorem x_oN : oNone c h = some (none, h) := (rfl)
def toO : CV → CH → Option (Option Int × CH)
  | .d (.int i), h => some (some i, h)
  | _, _ => none
@[simp] theorem x_toO {i : Int} : toO (.d (.int i)) h = some (some i, h) := (rfl)
@[simp] theorem x_oS : oSome m c h = match m c h with | some p => toO p.1 p.2 | none => none := by
  unfold oSome; cases m c h with
  | none => rfl
  | some p => rcases p with ⟨x, h1⟩; cases x with | d z => (cases z <;> rfl) | _ => rfl
@[simp] theorem x_tp {n : Nat} {r : List CV → Sl → CH → Option (Sl × CH)} : gTp n r x c h = match seqT x with | some xs => (if xs.length = n then r xs c h else none) | none => none := by
  unfold gTp
  cases seqT x <;> rfl
@[simp] theorem x_gsn : gsNil [] c h = some (c, h) := (rfl)
@[simp] theorem x_gsc {r : List CV → Sl → CH → Option (Sl × CH)} {xs : List CV} : gsCons g r (x :: xs) c h = match g x c h with | some p => r xs p.1 p.2 | none => none := by
  show (g x c h).bind _ = _; cases g x c h <;> rfl
@[simp] theorem x_gIx {mo mi : ME} : gIx mo mi x c h = match mo c h with | some p => (match mi c p.2 with | some q => (match fSet q.2 p.1 q.1 x with | some h' => some (c, h') | none => none) | none => none) | none => none := by
  unfold gIx
  cases mo c h with
  | none => rfl
  | some p =>
    dsimp only [Option.bind_some, Option.map_some]
    cases mi c p.2 with
    | none => rfl
    | some q =>
      dsimp only [Option.bind_some, Option.map_some]
      cases fSet q.2 p.1 q.1 x <;> rfl
def par2 (i j : Nat) : List CV → Sl → CH → Option (Fl × Sl × CH)
  | [x, y], c, h => some (.nx, (c.set i (some x)).set j (some y), h)
  | _, _, _ => none
@[simp] theorem x_par2' : par2 i j [x, y] c h = some (.nx, (c.set i (some x)).set j (some y), h) := (rfl)
@[simp] theorem x_par2 : mPar2 i j r c h = match r c h with | some p => par2 i j p.1 c p.2 | none => none := by
  unfold mPar2; cases r c h with
  | none => rfl
  | some p =>
    rcases p with ⟨x, h1⟩
    match x with
    | [] => rfl
    | [_] => rfl
    | [_, _] => rfl
    | _ :: _ :: _ :: _ => rfl
def par3 (i j k : Nat) : List CV → Sl → CH → Option (Fl × Sl × CH)
  | [x, y, z], c, h => some (.nx, ((c.set i (some x)).set j (some y)).set k (some z), h)
  | _, _, _ => none
@[simp] theorem x_par3' {k : Nat} {z : CV} : par3 i j k [x, y, z] c h = some (.nx, ((c.set i (some x)).set j (some y)).set k (some z), h) := (rfl)
@[simp] theorem x_par3 {k : Nat} : mPar3 i j k r c h = match r c h with | some p => par3 i j k p.1 c p.2 | none => none := by
  unfold mPar3; cases r c h with
  | none => rfl
  | some p =>
    rcases p with ⟨x, h1⟩
    match x with
    | [] => rfl
    | [_] => rfl
    | [_, _] => rfl
    | [_, _, _] => rfl
    | _ :: _ :: _ :: _ :: _ => rfl
@[simp] theorem x_for {it : MA} : mFor it g b1 c h = match it c h with | some p => loop g b1 p.1 c p.2 | none => none := by
  unfold mFor
  cases it c h <;> rfl
theorem okI_mk {i : Int} (h1 : -1000000 ≤ i) (h2 : i ≤ 1000000) : okI i = true := decide_eq_true (by omega)
def rgI : CV → CV → CH → Option (List CV × CH)
  | .d (.int i), .d (.int j), h => if okI i = true ∧ okI j = true then some (((rgD i j).map D.int).map .d, h) else none
  | _, _, _ => none
theorem x_rgI {i j : Int} (h1 : -1000000 ≤ i ∧ i ≤ 1000000) (h2 : -1000000 ≤ j ∧ j ≤ 1000000) : rgI (.d (.int i)) (.d (.int j)) h = some (((rgD i j).map D.int).map .d, h) := if_pos ⟨okI_mk (by omega) (by omega), okI_mk (by omega) (by omega)⟩
@[simp] theorem x_rg : mRg ma mb c h = match ma c h with | some p => (match mb c p.2 with | some q => rgI p.1 q.1 q.2 | none => none) | none => none := by
  unfold mRg
  cases ma c h with
  | none => rfl
  | some p =>
    dsimp only [Option.bind_some]
    cases mb c p.2 with
    | none => rfl
    | some q =>
      rcases p with ⟨x, h1⟩
      rcases q with ⟨y, h2⟩
      cases x with
      | d x => cases x with
        | int i => cases y with
          | d y => cases y <;> rfl
          | _ => rfl
        | _ => rfl
      | _ => rfl
def forU (g : MG) (b : MS) (c : Sl) (h : CH) (q : Option Nat × List CV) : Option (Fl × Sl × CH) := match q.1 with
  | none => loop g b q.2 c h
  | some n => (loop g b q.2 c (h.set n none)).map fun r => (r.1, r.2.1, r.2.2.set n (some (.lst q.2)))
@[simp] theorem x_forU0 {xs : List CV} : forU g b1 c h (none, xs) = loop g b1 xs c h := (rfl)
@[simp] theorem x_forU1 {n : Nat} {xs : List CV} : forU g b1 c h (some n, xs) = match loop g b1 xs c (h.set n none) with | some r => some (r.1, r.2.1, r.2.2.set n (some (.lst xs))) | none => none := by
  unfold forU; cases e : loop g b1 xs c (h.set n none) <;> simp [e]
@[simp] theorem x_forU : mForU m g b1 c h = match m c h with | some p => (match itU p.2 p.1 with | some q => forU g b1 c p.2 q | none => none) | none => none := by
  unfold mForU; cases m c h with
  | none => rfl
  | some p =>
    dsimp only [Option.bind_some, Option.map_some]
    cases itU p.2 p.1 <;> rfl
@[simp] theorem x_lc {fr : Bool} {it : MA} {own : List Nat} : mLc fr it own g t m c h = match it c h with | some p => (if p.1.length ≤ lim then (match cloop g t m (wipeC c own) p.1 p.2 with | some q => mk fr q.2 q.1 | none => none) else none) | none => none := by
  unfold mLc
  cases it c h with
  | none => rfl
  | some p =>
    dsimp only [Option.bind_some, Option.map_some]
    split
    · cases cloop g t m (wipeC c own) p.1 p.2 <;> rfl
    · rfl
def lcU (fr : Bool) (own : List Nat) (g : MG) (t : MT) (m : ME) (c : Sl) (h : CH) (q : Option Nat × List CV) : Option (CV × CH) := if q.2.length ≤ lim then match q.1 with
  | none => (cloop g t m (wipeC c own) q.2 h).bind fun r => mk fr r.2 r.1
  | some n => (cloop g t m (wipeC c own) q.2 (h.set n none)).bind fun r => mk fr (r.2.set n (some (.lst q.2))) r.1
  else none
@[simp] theorem x_lcU0 {fr : Bool} {own : List Nat} {xs : List CV} : lcU fr own g t m c h (none, xs) = if xs.length ≤ lim then (match cloop g t m (wipeC c own) xs h with | some r => mk fr r.2 r.1 | none => none) else none := by
  unfold lcU; congr 1; show Option.bind _ _ = _; cases cloop g t m (wipeC c own) xs h <;> rfl
@[simp] theorem x_lcU1 {fr : Bool} {own : List Nat} {n : Nat} {xs : List CV} : lcU fr own g t m c h (some n, xs) = if xs.length ≤ lim then (match cloop g t m (wipeC c own) xs (h.set n none) with | some r => mk fr (r.2.set n (some (.lst xs))) r.1 | none => none) else none := by
  unfold lcU; congr 1; show Option.bind _ _ = _; cases cloop g t m (wipeC c own) xs (h.set n none) <;> rfl
@[simp] theorem x_lcU {fr : Bool} {own : List Nat} {m0 : ME} : mLcU fr m0 own g t m c h = match m0 c h with | some p => (match itU p.2 p.1 with | some q => lcU fr own g t m c p.2 q | none => none) | none => none := by
  unfold mLcU; cases m0 c h with
  | none => rfl
  | some p =>
    dsimp only [Option.bind_some, Option.map_some]
    cases itU p.2 p.1 <;> rfl
@[simp] theorem x_yes : mYes c h = some (true, h) := (rfl)
def lsRg (fr : Bool) : CV → CV → CH → Option (CV × CH)
  | .d (.int i), .d (.int j), h => if okRg i j then mk fr h (((rgD i j).map D.int).map .d) else none
  | _, _, _ => none
theorem x_lsRg {fr : Bool} {i j : Int} : lsRg fr (.d (.int i)) (.d (.int j)) h = if okRg i j = true then mk fr h (((rgD i j).map D.int).map .d) else none := (rfl)
@[simp] theorem x_listRg {fr : Bool} : mListRg fr ma mb c h = match ma c h with | some p => (match mb c p.2 with | some q => lsRg fr p.1 q.1 q.2 | none => none) | none => none := by
  unfold mListRg
  cases ma c h with
  | none => rfl
  | some p =>
    dsimp only [Option.bind_some]
    cases mb c p.2 with
    | none => rfl
    | some q =>
      rcases p with ⟨x, h1⟩
      rcases q with ⟨y, h2⟩
      cases x with
      | d x => cases x with
        | int i => cases y with
          | d y => cases y <;> rfl
          | _ => rfl
        | _ => rfl
      | _ => rfl
theorem x_while0 {n : Nat} : mWhile n t b1 c h = wloop t b1 n c h := (rfl)
@[simp] theorem mk_t {xs : List CV} : mk true h xs = match allD xs with | some ds => some (.d (.lst ds), h) | none => none := by show (allD xs).map _ = _; cases allD xs <;> rfl
@[simp] theorem mk_f {xs : List CV} : mk false h xs = some (.ref h.length, h ++ [some (.lst xs)]) := (rfl)
@[simp] theorem mkT_D {ds : List D} : mkT (ds.map .d) = .d (.tup ds) := by unfold mkT; rw [allD_map]
@[simp] theorem itU_l {xs : List D} : itU h (.d (.lst xs)) = some (none, xs.map .d) := (rfl)
@[simp] theorem itU_sl {xs : List Sn} : itU h (.s (.sl xs)) = some (none, xs.map ofS) := (rfl)
@[simp] theorem itU_t {xs : List D} : itU h (.d (.tup xs)) = some (none, xs.map .d) := (rfl)
@[simp] theorem itU_t' {xs : List CV} : itU h (.t xs) = some (none, xs) := (rfl)
theorem itU_r {n : Nat} {xs : List CV} (e : h[n]? = some (some (.lst xs))) : itU h (.ref n) = some (some n, xs) := by
  show (match h[n]? with | some (some (.lst xs)) => some (some n, xs) | _ => none) = _
  rw [e]
/-! ### indices, lists -/
def ixM (xs : Option (List CV)) (i : Int) (h : CH) : Option (CV × CH) := match xs with
  | some xs => (match atI xs i with | some y => some (y, h) | none => none)
  | none => none
@[simp] theorem x_ix {i : Int} : fIx h x (.d (.int i)) = ixM ((seqL h x).or (seqT x)) i h := by
  unfold fIx ixM
  cases (seqL h x).or (seqT x) with
  | none => rfl
  | some xs =>
    dsimp only [Option.bind_some]
    cases atI xs i <;> rfl
@[simp] theorem x_ixM {xs : List CV} {i : Int} {y : CV} (e : atI xs i = some y) : ixM (some xs) i h = some (y, h) := by unfold ixM; dsimp only; rw [e]
@[simp] theorem s_l {xs : List D} : seqL h (.d (.lst xs)) = some (xs.map .d) := (rfl)
@[simp] theorem s_sl {xs : List Sn} : seqL h (.s (.sl xs)) = some (xs.map ofS) := (rfl)
theorem s_r {n : Nat} {xs : List CV} (e : h[n]? = some (some (.lst xs))) : seqL h (.ref n) = some xs := by
  show (match h[n]? with | some (some (.lst xs)) => some xs | _ => none) = _
  rw [e]
@[simp] theorem s_t0 {xs : List D} : seqL h (.d (.tup xs)) = none := (rfl)
@[simp] theorem s_t0' {xs : List CV} : seqL h (.t xs) = none := (rfl)
@[simp] theorem s_t {xs : List D} : seqT (.d (.tup xs)) = some (xs.map .d) := (rfl)
@[simp] theorem s_t' {xs : List CV} : seqT (.t xs) = some xs := (rfl)
@[simp] theorem x_len : gLen h [x] = match (seqL h x).or (seqT x) with | some xs => some (.d (.int xs.length), h) | none => none := by
  show ((seqL h x).or (seqT x)).map _ = _
  cases (seqL h x).or (seqT x) <;> rfl
@[simp] theorem x_min2 {i j : Int} : gMin2 h [.d (.int i), .d (.int j)] = some (.d (.int (if j < i then j else i)), h) := (rfl)
theorem x_app {n : Nat} {xs : List CV} (e : h[n]? = some (some (.lst xs))) (hl : xs.length < lim) : fAppend h (.ref n) [y] = some (.d .non, h.set n (some (.lst (xs ++ [y])))) := by
  show (match h[n]? with | some (some (.lst xs)) => if xs.length < lim then some (CV.d .non, h.set n (some (.lst (xs ++ [y])))) else none | _ => none) = _
  rw [e]; exact if_pos hl
@[simp] theorem atI_0 {α : Type} {x : α} {xs : List α} : atI (x :: xs) 0 = some x := atI_nat (j := 0) rfl
@[simp] theorem atI_1 {α : Type} {x y : α} {xs : List α} : atI (x :: y :: xs) 1 = some y := atI_nat (j := 1) rfl
@[simp] theorem atI_2 {α : Type} {x y z : α} {xs : List α} : atI (x :: y :: z :: xs) 2 = some z := atI_nat (j := 2) rfl
@[simp] theorem atI_3 {α : Type} {x y z u : α} {xs : List α} : atI (x :: y :: z :: u :: xs) 3 = some u := atI_nat (j := 3) rfl
end
section
variable {c : Sl} {h h' : CH} {m ma mb mc : ME} {r : MA} {t ta tb : MT} {g : MG} {b b1 b2 : MS} {i j : Nat} {x y : CV} {d : D}
/-! ### on numbers -/
@[simp] theorem x_add {fr : Bool} {i j : Int} : fAdd fr h (.d (.int i)) (.d (.int j)) = some (.d (.int (i + j)), h) := (rfl)
@[simp] theorem x_I0 {f : Int → Int → D} {i j : Int} : fI0 f h (.d (.int i)) (.d (.int j)) = some (.d (f i j), h) := (rfl)
@[simp] theorem x_I {C : Int → Int → Bool} {f : Int → Int → D} {i j : Int} : fI C f h (.d (.int i)) (.d (.int j)) = if C i j = true then some (.d (f i j), h) else none := (rfl)
theorem x_mul {fr : Bool} {i j : Int} (hm : okMul i j = true) : fMul fr h (.d (.int i)) (.d (.int j)) = some (.d (.int (i * j)), h) := by
  unfold fMul
  have : fI okMul (fun i j => .int (i * j)) h (.d (.int i)) (.d (.int j)) = some (.d (.int (i * j)), h) := by
    show (if okMul i j = true then _ else _) = _
    rw [if_pos hm]
  rw [this]; rfl
theorem okMul_of {i j : Int} (a b : Nat) (ha : i.natAbs < 2 ^ a) (hb : j.natAbs < 2 ^ b) (hab : a + b ≤ 1000000) (h1 : 0 < a) : okMul i j = true := by
  unfold okMul
  have lg : ∀ {n k : Nat}, n < 2 ^ k → n.log2 ≤ k - 1 := by
    intro n k hn
    by_cases h0 : n = 0
    · subst h0; simp
    · have := (Nat.log2_lt h0).mpr hn; omega
  have := lg ha
  have := lg hb
  exact decide_eq_true (by omega)
theorem okMul_b {i j : Int} (h1 : -(10 ^ 200) ≤ i) (h2 : i ≤ 10 ^ 200) (h3 : -(10 ^ 200) ≤ j) (h4 : j ≤ 10 ^ 200) : okMul i j = true :=
  have q : (10 : Nat) ^ 200 < 2 ^ 700 := by decide
  okMul_of 700 700 (Nat.lt_of_le_of_lt (m := 10 ^ 200) (by omega) q) (Nat.lt_of_le_of_lt (m := 10 ^ 200) (by omega) q) (by decide) (by decide)
theorem atI_ex {α : Type} {xs : List α} {i : Int} (h0 : 0 ≤ i) (h1 : i < xs.length) : ∃ x, atI xs i = some x ∧ xs[i.toNat]? = some x ∧ x ∈ xs := by
  obtain ⟨n, rfl⟩ := Int.eq_ofNat_of_zero_le h0
  have hn : n < xs.length := by omega
  exact ⟨xs[n], atI_nat (List.getElem?_eq_getElem hn), by simp [List.getElem?_eq_getElem hn], List.getElem_mem hn⟩
theorem atI_eq {α : Type} {xs : List α} {i : Int} {x : α} (h0 : 0 ≤ i) (h1 : xs[i.toNat]? = some x) : atI xs i = some x := by
  obtain ⟨n, rfl⟩ := Int.eq_ofNat_of_zero_le h0
  exact atI_nat (by simpa using h1)
@[simp] theorem x_eqI {neg : Bool} {i j : Int} : fEq neg h (.d (.int i)) (.d (.int j)) = some (.d (.bl (decide (i = j) != neg)), h) := by
  unfold fEq fEqT fEqC cont
  simp [okD, eqD]
theorem okMod_of {i j : Int} (h : 0 < j) : okMod i j = true := decide_eq_true h
/-! ### calls -/
@[simp] theorem snaps_nil : snaps h [] = some [] := (rfl)
@[simp] theorem snaps_d {xs : List CV} : snaps h (.d d :: xs) = (snaps h xs).map (.d d :: ·) := (rfl)
@[simp] theorem snaps_s {s : Sn} {xs : List CV} : snaps h (.s s :: xs) = (snaps h xs).map (.s s :: ·) := (rfl)
theorem x_pure {f : List CV → CH → Option (CV × CH)} {xs ys : List CV} {z : D} (hs : snaps h xs = some ys) (he : ∃ g, f ys [] = some (.d z, g)) : pureC f xs h = some (.d z, h) := by
  obtain ⟨g, he⟩ := he
  unfold pureC
  rw [hs, Option.bind_some, he]; rfl
theorem x_pd {f : List CV → CH → Option (CV × CH)} {xs : List CV} {z : D} (he : ∃ g, f xs [] = some (.d z, g)) (hs : ∀ h, snaps h xs = some xs := by intro _; rfl) : ∀ h, pureC f xs h = some (.d z, h) := fun _ => x_pure (hs _) he
def endF : Fl → CH → Option (CV × CH)
  | .rt x, h => some (x, h)
  | .nx, h => some (.d .non, h)
  | _, _ => none
@[simp] theorem x_end1 : endF (.rt x) h = some (x, h) := (rfl)
@[simp] theorem x_end2 : endF .nx h = some (.d .non, h) := (rfl)
@[simp] theorem x_fn {N : Nat} {b : MS} {xs : List CV} : mFn N b xs h = match b (xs.map some ++ List.replicate (N - xs.length) none) h with | some p => endF p.1 p.2.2 | none => none := by
  unfold mFn
  cases b (xs.map some ++ List.replicate (N - xs.length) none) h with
  | none => rfl
  | some p => rcases p with ⟨f, c, h⟩; cases f <;> rfl
end

/-! ### loops -/
section
variable {c c' : Sl} {h h' : CH} {m : ME} {t : MT} {g : MG} {b : MS}
def one (g : MG) (b : MS) (x : CV) : MS := fun c h => (g x c h).bind fun p => b p.1 p.2
@[simp] theorem x_one {x : CV} : one g b x c h = match g x c h with | some p => b p.1 p.2 | none => none := by unfold one; cases g x c h <;> rfl
theorem loop_cons {x : CV} {xs : List CV} : loop g b (x :: xs) c h = (one g b x c h).bind fun q => match q.1 with
    | .nx => loop g b xs q.2.1 q.2.2
    | .ct => loop g b xs q.2.1 q.2.2
    | .bk => some (.nx, q.2)
    | .rt x => some (.rt x, q.2) := by
  unfold one
  conv => lhs; unfold loop
  cases g x c h with
  | none => rfl
  | some p => rfl
theorem loop_inv {α : Type} (emb : α → CV) (I : List α → Sl → CH → Prop) : ∀ (l r : List α) (c : Sl) (h : CH), I r c h →
    (∀ a (r : List α) c h, a ∈ l → I r c h → ∃ c2 h2, (one g b (emb a) c h = some (.nx, c2, h2) ∨ one g b (emb a) c h = some (.ct, c2, h2)) ∧ I (r ++ [a]) c2 h2) →
    ∃ c' h', loop g b (l.map emb) c h = some (.nx, c', h') ∧ I (r ++ l) c' h'
  | [], r, c, h, h0, _ => ⟨c, h, rfl, by simpa using h0⟩
  | a :: l, r, c, h, h0, st => by
    obtain ⟨c2, h2, e, i2⟩ := st a r c h (by simp) h0
    obtain ⟨c3, h3, e3, i3⟩ := loop_inv emb I l (r ++ [a]) c2 h2 i2 fun x r' c h hx => st x r' c h (List.mem_cons_of_mem _ hx)
    refine ⟨c3, h3, ?_, by simpa using i3⟩
    rw [List.map_cons, loop_cons]
    rcases e with e | e <;> (rw [e]; exact e3)
theorem rgD_nil {lo hi : Int} (h : hi ≤ lo) : rgD lo hi = [] := by
  unfold rgD
  have : (hi - lo).toNat = 0 := by omega
  rw [this]; rfl
theorem rgD_cons {lo hi : Int} (h : lo < hi) : rgD lo hi = lo :: rgD (lo + 1) hi := by
  unfold rgD
  obtain ⟨n, hn⟩ : ∃ n, (hi - lo).toNat = n + 1 := ⟨(hi - lo).toNat - 1, by omega⟩
  have hn' : (hi - (lo + 1)).toNat = n := by omega
  rw [hn, hn', List.range_succ_eq_map, List.map_cons, List.map_map]
  congr 1
  · omega
  · apply List.map_congr_left
    intro a _
    show lo + ((a + 1 : Nat) : Int) = lo + 1 + a
    omega
theorem rgD_len {lo hi : Int} : (rgD lo hi).length = (hi - lo).toNat := by simp [rgD]
theorem mem_rgD {lo hi i : Int} : i ∈ rgD lo hi ↔ lo ≤ i ∧ i < hi := by
  unfold rgD
  simp only [List.mem_map, List.mem_range]
  constructor
  · rintro ⟨n, hn, rfl⟩; omega
  · rintro ⟨h1, h2⟩; exact ⟨(i - lo).toNat, by omega, by omega⟩
theorem rgD_snoc {lo hi : Int} (h : lo ≤ hi) : rgD lo (hi + 1) = rgD lo hi ++ [hi] := by
  unfold rgD
  have : (hi + 1 - lo).toNat = (hi - lo).toNat + 1 := by omega
  rw [this, List.range_succ, List.map_append]
  congr 1
  simp
  omega
theorem rgD_get {lo hi : Int} {n : Nat} (h : n < (hi - lo).toNat) : (rgD lo hi)[n]? = some (lo + n) := by
  unfold rgD
  rw [List.getElem?_map, List.getElem?_range h]; rfl
/-- a range is walked -/
theorem loop_rg (I : Int → Sl → CH → Prop) : ∀ {lo hi : Int} {c : Sl} {h : CH}, lo ≤ hi → I lo c h →
    (∀ i c h, lo ≤ i → i < hi → I i c h → ∃ c2 h2, one g b (.d (.int i)) c h = some (.nx, c2, h2) ∧ I (i + 1) c2 h2) →
    ∃ c' h', loop g b (((rgD lo hi).map D.int).map .d) c h = some (.nx, c', h') ∧ I hi c' h' := by
  intro lo hi
  obtain ⟨n, hn⟩ : ∃ n, (hi - lo).toNat = n := ⟨_, rfl⟩
  induction n generalizing lo with
  | zero =>
    intro c h hle h0 _
    have : lo = hi := by omega
    subst this
    rw [rgD_nil (Int.le_refl _)]
    exact ⟨c, h, rfl, h0⟩
  | succ n ih =>
    intro c h hle h0 st
    rw [rgD_cons (by omega)]
    obtain ⟨c2, h2, e, i2⟩ := st lo c h (Int.le_refl _) (by omega) h0
    obtain ⟨c3, h3, e3, i3⟩ := ih (lo := lo + 1) (by omega) (by omega) i2 fun i c h h1 h2 => st i c h (by omega) h2
    refine ⟨c3, h3, ?_, i3⟩
    rw [List.map_cons, List.map_cons, loop_cons, e]
    exact e3
/-- one turn of a comprehension -/
def oneC (g : MG) (t : MT) (m : ME) (c : Sl) (x : CV) (h : CH) : Option (Option CV × CH) := (g x c h).bind fun p => (t p.1 p.2).bind fun q => if q.1 = true then (m p.1 q.2).bind fun r => some (some r.1, r.2) else some (none, q.2)
@[simp] theorem x_oneC {x : CV} : oneC g t m c x h = match g x c h with | some p => (match t p.1 p.2 with | some q => (if q.1 = true then (match m p.1 q.2 with | some r => some (some r.1, r.2) | none => none) else some (none, q.2)) | none => none) | none => none := by
  unfold oneC
  cases g x c h with
  | none => rfl
  | some p =>
    dsimp only [Option.bind_some]
    cases t p.1 p.2 with
    | none => rfl
    | some q =>
      dsimp only [Option.bind_some]
      split
      · cases m p.1 q.2 <;> rfl
      · rfl
def nxt (k : Sl → CH → Option (Fl × Sl × CH)) : Fl → Sl → CH → Option (Fl × Sl × CH)
  | .nx, c, h => k c h
  | .ct, c, h => k c h
  | .bk, c, h => some (.nx, c, h)
  | .rt x, c, h => some (.rt x, c, h)
@[simp] theorem x_nxt1 {k : Sl → CH → Option (Fl × Sl × CH)} : nxt k .nx c h = k c h := (rfl)
@[simp] theorem x_nxt2 {k : Sl → CH → Option (Fl × Sl × CH)} : nxt k .ct c h = k c h := (rfl)
@[simp] theorem x_nxt3 {k : Sl → CH → Option (Fl × Sl × CH)} : nxt k .bk c h = some (.nx, c, h) := (rfl)
@[simp] theorem x_nxt4 {k : Sl → CH → Option (Fl × Sl × CH)} {x : CV} : nxt k (.rt x) c h = some (.rt x, c, h) := (rfl)
@[simp] theorem loop_cons' {x : CV} {xs : List CV} : loop g b (x :: xs) c h = match one g b x c h with | some q => nxt (loop g b xs) q.1 q.2.1 q.2.2 | none => none := by
  rw [loop_cons]; cases one g b x c h with
  | none => rfl
  | some q => rcases q with ⟨f, c, h⟩; cases f <;> rfl
@[simp] theorem loop_nil : loop g b [] c h = some (.nx, c, h) := rfl
theorem cloop_cons {x : CV} {xs : List CV} : cloop g t m c (x :: xs) h = (oneC g t m c x h).bind fun p => match p.1 with
    | none => cloop g t m c xs p.2
    | some y => (cloop g t m c xs p.2).map fun q => (y :: q.1, q.2) := by
  unfold oneC
  conv => lhs; unfold cloop
  cases g x c h with
  | none => rfl
  | some p =>
    show (t p.1 p.2).bind _ = ((t p.1 p.2).bind _).bind _
    cases t p.1 p.2 with
    | none => rfl
    | some q =>
      rcases q with ⟨bb, h1⟩
      cases bb with
      | false => rfl
      | true =>
        show (m p.1 h1).bind _ = ((m p.1 h1).bind _).bind _
        cases m p.1 h1 with
        | none => rfl
        | some r =>
          show (cloop g t m c xs r.2).bind _ = (cloop g t m c xs r.2).map _
          cases cloop g t m c xs r.2 <;> rfl
theorem cloop_fm {α : Type} (emb : α → CV) (f : α → Option CV) : ∀ (l : List α), (∀ a ∈ l, oneC g t m c (emb a) h = some (f a, h)) → cloop g t m c (l.map emb) h = some (l.filterMap f, h)
  | [], _ => rfl
  | a :: l, st => by
    rw [List.map_cons, cloop_cons, st a (by simp)]
    have ih := cloop_fm emb f l fun x hx => st x (List.mem_cons_of_mem _ hx)
    cases e : f a with
    | none => simp only [Option.bind_some, List.filterMap_cons_none e, ih]
    | some y => simp only [Option.bind_some, List.filterMap_cons_some e, ih, Option.map_some]
theorem cloop_map {α : Type} (emb : α → CV) (f : α → CV) (l : List α) (st : ∀ a ∈ l, oneC g t m c (emb a) h = some (some (f a), h)) : cloop g t m c (l.map emb) h = some (l.map f, h) := by
  rw [cloop_fm emb (fun a => some (f a)) l st]
  simp
theorem frzW_d {k : Nat} : ∀ {xs : List D} {h : CH}, frzW (frzV k) h (xs.map .d) = some (xs, h)
  | [], _ => rfl
  | x :: xs, h => by
    rw [List.map_cons, frzW, frzV_d]
    show (frzW (frzV k) h (xs.map .d)).map _ = _
    rw [frzW_d]; rfl
end

@[simp] theorem lim_eq : lim = 16777216 := rfl
@[simp] theorem wipe_nil {c : Sl} : wipeC c [] = c := rfl
@[simp] theorem wipe_cons {c : Sl} {v : Nat} {vs : List Nat} : wipeC c (v :: vs) = (wipeC c vs).set v none := rfl
@[simp] theorem allD_map' (xs : List D) : allD (xs.map .d) = some xs := allD_map xs
@[simp] theorem frzV_d' {k : Nat} {h : CH} {x : D} : frzV k h (.d x) = some (x, h) := frzV_d
@[simp] theorem allD_nil : allD [] = some [] := (rfl)
@[simp] theorem allD_cons {d : D} {xs : List CV} : allD (.d d :: xs) = match allD xs with | some ys => some (d :: ys) | none => none := by
  show (allD xs).map _ = _; cases allD xs <;> rfl
@[simp] theorem mkT_def {xs : List CV} : mkT xs = match allD xs with | some ds => .d (.tup ds) | none => .t xs := rfl
/-! ### what lies in the heap -/
def asL : Option (Option CO) → Option (List CV)
  | some (some (.lst xs)) => some xs
  | _ => none
@[simp] theorem asL_some {xs : List CV} : asL (some (some (.lst xs))) = some xs := rfl
section
variable {h : CH} {n : Nat} {x y : CV} {i : Int}
@[simp] theorem a_r : seqL h (.ref n) = asL h[n]? := by
  show (match h[n]? with | some (some (.lst xs)) => some xs | _ => none) = _
  unfold asL; rfl
@[simp] theorem a_m : seqM h (.ref n) = asL h[n]? := by
  show (match h[n]? with | some (some (.lst xs)) => some xs | _ => none) = _
  unfold asL; rfl
@[simp] theorem a_md {xs : List D} : seqM h (.d (.lst xs)) = some (xs.map .d) := (rfl)
@[simp] theorem a_it : itU h (.ref n) = match asL h[n]? with | some xs => some (some n, xs) | none => none := by
  show (match h[n]? with | some (some (.lst xs)) => some (some n, xs) | _ => none) = _
  unfold asL; split <;> rfl
@[simp] theorem a_app : fAppend h (.ref n) [y] = match asL h[n]? with | some xs => (if xs.length < lim then some (.d .non, h.set n (some (.lst (xs ++ [y])))) else none) | none => none := by
  show (match h[n]? with | some (some (.lst xs)) => if xs.length < lim then some (CV.d .non, h.set n (some (.lst (xs ++ [y])))) else none | _ => none) = _
  unfold asL; split <;> rfl
@[simp] theorem a_ext : fExtend h (.ref n) [y] = match asL h[n]? with | some xs => (match seqM h y with | some ys => (if xs.length + ys.length ≤ lim then some (.d .non, h.set n (some (.lst (xs ++ ys)))) else none) | none => none) | none => none := by
  show (match h[n]? with | some (some (.lst xs)) => (seqM h y).bind fun ys => if xs.length + ys.length ≤ lim then some (CV.d .non, h.set n (some (.lst (xs ++ ys)))) else none | _ => none) = _
  unfold asL; split
  · dsimp only; cases seqM h y <;> rfl
  · rfl
@[simp] theorem a_ins : fInsert h (.ref n) [.d (.int i), y] = match asL h[n]? with | some xs => (if xs.length < lim ∧ 0 ≤ i ∧ okI i = true then some (.d .non, h.set n (some (.lst (xs.take i.toNat ++ [y] ++ xs.drop i.toNat)))) else none) | none => none := by
  show (match h[n]? with | some (some (.lst xs)) => if xs.length < lim ∧ 0 ≤ i ∧ okI i = true then some (CV.d .non, h.set n (some (.lst (xs.take i.toNat ++ [y] ++ xs.drop i.toNat)))) else none | _ => none) = _
  unfold asL; split <;> rfl
@[simp] theorem a_rev : fReverse h (.ref n) [] = match asL h[n]? with | some xs => some (.d .non, h.set n (some (.lst xs.reverse))) | none => none := by
  show (match h[n]? with | some (some (.lst xs)) => some (CV.d .non, h.set n (some (.lst xs.reverse))) | _ => none) = _
  unfold asL; split <;> rfl
@[simp] theorem a_clear : fClear h (.ref n) [] = match asL h[n]? with | some xs => some (.d .non, h.set n (some (.lst []))) | none => none := by
  show (match h[n]? with | some (some (.lst xs)) => some (CV.d .non, h.set n (some (.lst []))) | _ => none) = _
  unfold asL; split <;> rfl
@[simp] theorem a_set : fSet h (.ref n) (.d (.int i)) x = match asL h[n]? with | some xs => (match ixN xs.length i with | some j => some (h.set n (some (.lst (xs.set j x)))) | none => none) | none => none := by
  show (match h[n]? with | some (some (.lst xs)) => (ixN xs.length i).map fun j => h.set n (some (.lst (xs.set j x))) | _ => none) = _
  unfold asL; split
  · dsimp only; rename_i xs _; cases ixN xs.length i <;> rfl
  · rfl
theorem a_frz {k : Nat} : frzV (k + 1) h (.ref n) = match asL h[n]? with | some xs => (match frzW (frzV k) (h.set n none) xs with | some p => some (.lst p.1, p.2) | none => none) | none => none := by
  have e : frzV (k + 1) h (.ref n) = (asL h[n]?).bind fun xs => (frzW (frzV k) (h.set n none) xs).map fun p => (.lst p.1, p.2) := by
    rw [frzV_r]
    generalize h[n]? = z
    match z with
    | none => rfl
    | some none => rfl
    | some (some (.lst xs)) => rfl
    | some (some (.dk _)) => rfl
    | some (some (.ins _ _)) => rfl
    | some (some (.box _)) => rfl
  rw [e]
  cases asL h[n]? with
  | none => rfl
  | some xs => dsimp only [Option.bind_some]; cases frzW (frzV k) (h.set n none) xs <;> rfl
@[simp] theorem a_frz4 : frzV 4 h (.ref n) = match asL h[n]? with | some xs => (match frzW (frzV 3) (h.set n none) xs with | some p => some (.lst p.1, p.2) | none => none) | none => none := a_frz
end
end Mc


namespace Mc
open PySem L2
/-! ### comprehensions that make live things -/
section
variable {c : Sl} {m : ME} {t : MT} {g : MG}
theorem cloop_rg (I : Int → List CV → CH → Prop) : ∀ {lo hi : Int} {acc : List CV} {h : CH}, lo ≤ hi → I lo acc h →
    (∀ i acc h, lo ≤ i → i < hi → I i acc h → ∃ y h2, oneC g t m c (.d (.int i)) h = some (some y, h2) ∧ I (i + 1) (acc ++ [y]) h2) →
    ∃ ys h', cloop g t m c (((rgD lo hi).map D.int).map .d) h = some (ys, h') ∧ I hi (acc ++ ys) h' := by
  intro lo hi
  obtain ⟨n, hn⟩ : ∃ n, (hi - lo).toNat = n := ⟨_, rfl⟩
  induction n generalizing lo with
  | zero =>
    intro acc h hle h0 _
    have : lo = hi := by omega
    subst this
    rw [rgD_nil (Int.le_refl _)]
    exact ⟨[], h, rfl, by simpa using h0⟩
  | succ n ih =>
    intro acc h hle h0 st
    rw [rgD_cons (by omega)]
    obtain ⟨y, h2, e, i2⟩ := st lo acc h (Int.le_refl _) (by omega) h0
    obtain ⟨ys, h3, e3, i3⟩ := ih (lo := lo + 1) (by omega) (by omega) i2 fun i acc h h1 h2 => st i acc h (by omega) h2
    refine ⟨y :: ys, h3, ?_, by simpa using i3⟩
    rw [List.map_cons, List.map_cons, cloop_cons, e]
    show (cloop g t m c _ h2).map _ = _
    rw [e3]; rfl
end
section
variable {c : Sl} {h : CH} {m : ME} {t : MT} {g : MG}
/-- plain ones -/
theorem cloop_D {α : Type} (emb : α → D) (f : α → Option D) (l : List α) (st : ∀ a ∈ l, oneC g t m c (.d (emb a)) h = some ((f a).map .d, h)) : cloop g t m c ((l.map emb).map .d) h = some ((l.filterMap f).map .d, h) := by
  rw [List.map_map]
  have := cloop_fm (h := h) (fun a => CV.d (emb a)) (fun a => (f a).map CV.d) l st
  rw [List.map_filterMap]
  exact this
theorem cloop_Dm {α : Type} (emb : α → D) (f : α → D) (l : List α) (st : ∀ a ∈ l, oneC g t m c (.d (emb a)) h = some (some (.d (f a)), h)) : cloop g t m c ((l.map emb).map .d) h = some ((l.map f).map .d, h) := by
  rw [List.map_map, List.map_map]
  exact cloop_map (h := h) (fun a => CV.d (emb a)) (fun a => CV.d (f a)) l st
theorem loop_D {b : MS} {α : Type} (emb : α → D) (I : List α → Sl → CH → Prop) (l : List α) (c : Sl) (h : CH) (h0 : I [] c h) (st : ∀ a (r : List α) c h, a ∈ l → I r c h → ∃ c2 h2, one g b (.d (emb a)) c h = some (.nx, c2, h2) ∧ I (r ++ [a]) c2 h2) :
    ∃ c' h', loop g b ((l.map emb).map .d) c h = some (.nx, c', h') ∧ I l c' h' := by
  rw [List.map_map]
  obtain ⟨c', h', e, i⟩ := loop_inv (g := g) (b := b) (fun a => CV.d (emb a)) I l [] c h h0 fun a r c h ha hi => by
    obtain ⟨c2, h2, e, i⟩ := st a r c h ha hi
    exact ⟨c2, h2, .inl e, i⟩
  exact ⟨c', h', e, by simpa using i⟩
end
/-! ### pictures -/
/-- rows, as they lie -/
def gRow (w : Int) (f : Int → Int → Int) (y : Int) : List D := (rgD 0 w).map fun x => .int (f x y)
def gD (w h : Int) (f : Int → Int → Int) : D := .lst ((rgD 0 h).map fun y => .lst (gRow w f y))
/-- a live picture, from place b on -/
def gH (b : Nat) (w h : Int) (f : Int → Int → Int) : CH := ((rgD 0 h).map fun y => some (CO.lst ((gRow w f y).map .d))) ++ [some (.lst ((List.range h.toNat).map fun i => .ref (b + i)))]
section
variable {w h : Int} {f f' : Int → Int → Int} {b : Nat}
theorem gRow_len {y : Int} : (gRow w f y).length = w.toNat := by simp [gRow, rgD_len]
theorem gH_len : (gH b w h f).length = h.toNat + 1 := by simp [gH, rgD_len]
theorem gH_last {H : CH} (hb : b = H.length) : (H ++ gH b w h f)[b + h.toNat]? = some (some (.lst ((List.range h.toNat).map fun i => .ref (b + i)))) := by
  rw [List.getElem?_append_right (by omega)]
  have : b + h.toNat - H.length = h.toNat := by omega
  rw [this]
  unfold gH
  rw [List.getElem?_append_right (by simp [rgD_len])]
  simp [rgD_len]
theorem gH_row {H : CH} {y : Int} (hb : b = H.length) (h0 : 0 ≤ y) (h1 : y < h) : (H ++ gH b w h f)[b + y.toNat]? = some (some (.lst ((gRow w f y).map .d))) := by
  rw [List.getElem?_append_right (by omega)]
  have : b + y.toNat - H.length = y.toNat := by omega
  rw [this]
  unfold gH
  rw [List.getElem?_append_left (by simp [rgD_len]; omega), List.getElem?_map, rgD_get (by omega)]
  have : (0 : Int) + (y.toNat : Int) = y := by omega
  rw [this]; rfl
theorem atI_refs {y : Int} (h0 : 0 ≤ y) (h1 : y < h) : atI ((List.range h.toNat).map fun i => CV.ref (b + i)) y = some (.ref (b + y.toNat)) := by
  refine atI_eq h0 ?_
  rw [List.getElem?_map, List.getElem?_range (by omega)]; rfl
theorem map_set_rgD {α : Type} {F : Int → α} {k : Int} {v : α} (h0 : 0 ≤ k) (h1 : k < w) : ((rgD 0 w).map F).set k.toNat v = (rgD 0 w).map fun i => if i = k then v else F i := by
  apply List.ext_getElem?
  intro i
  by_cases hi : k.toNat = i
  · subst hi
    rw [List.getElem?_set_self (by simp [rgD_len]; omega), List.getElem?_map, rgD_get (by omega)]
    have : (0 : Int) + (k.toNat : Int) = k := by omega
    rw [this]; simp
  · rw [List.getElem?_set_ne hi, List.getElem?_map, List.getElem?_map]
    by_cases hl : i < w.toNat
    · rw [rgD_get (by omega)]
      have : ¬ ((0 : Int) + (i : Int) = k) := by omega
      simp only [Option.map_some, if_neg this]
    · rw [List.getElem?_eq_none (by rw [rgD_len]; omega)]; rfl
/-- one cell is written -/
def gPut (f : Int → Int → Int) (x y v : Int) : Int → Int → Int := fun a b => if a = x ∧ b = y then v else f a b
theorem gRow_set {x y v : Int} (h0 : 0 ≤ x) (h1 : x < w) : ((gRow w f y).map CV.d).set x.toNat (.d (.int v)) = (gRow w (gPut f x y v) y).map .d := by
  unfold gRow
  rw [List.map_map, map_set_rgD h0 h1, List.map_map]
  apply List.map_congr_left
  intro a _
  unfold gPut
  simp only [Function.comp]
  by_cases e : a = x
  · simp [e]
  · simp [e]
theorem gRow_other {x y v z : Int} (h : z ≠ y) : gRow w (gPut f x y v) z = gRow w f z := by
  unfold gRow gPut
  apply List.map_congr_left
  intro a _
  simp [h]
theorem gH_set {H : CH} {x y v : Int} (hb : b = H.length) (x0 : 0 ≤ x) (x1 : x < w) (y0 : 0 ≤ y) (y1 : y < h) :
    (H ++ gH b w h f).set (b + y.toNat) (some (.lst (((gRow w f y).map CV.d).set x.toNat (.d (.int v))))) = H ++ gH b w h (gPut f x y v) := by
  rw [List.set_append_right _ _ (by omega)]
  congr 1
  have : b + y.toNat - H.length = y.toNat := by omega
  rw [this]
  unfold gH
  rw [List.set_append_left _ _ (by simp [rgD_len]; omega), map_set_rgD y0 y1]
  congr 1
  apply List.map_congr_left
  intro z _
  by_cases e : z = y
  · subst e; simp [gRow_set x0 x1]
  · simp [e, gRow_other e]
theorem gH_ext (he : ∀ x y, 0 ≤ x → x < w → 0 ≤ y → y < h → f x y = f' x y) : gH b w h f = gH b w h f' := by
  unfold gH
  congr 1
  apply List.map_congr_left
  intro y hy
  have hy := mem_rgD.mp hy
  congr 3
  unfold gRow
  apply List.map_congr_left
  intro x hx
  have hx := mem_rgD.mp hx
  rw [he x y hx.1 hx.2 hy.1 hy.2]
theorem gD_ext (he : ∀ x y, 0 ≤ x → x < w → 0 ≤ y → y < h → f x y = f' x y) : gD w h f = gD w h f' := by
  unfold gD
  congr 1
  apply List.map_congr_left
  intro y hy
  have hy := mem_rgD.mp hy
  congr 1
  unfold gRow
  apply List.map_congr_left
  intro x hx
  have hx := mem_rgD.mp hx
  rw [he x y hx.1 hx.2 hy.1 hy.2]
/-- frozen, exported -/
theorem frzW_cons {F : CH → CV → Option (D × CH)} {H : CH} {x : CV} {xs : List CV} : frzW F H (x :: xs) = (F H x).bind fun p => (frzW F p.2 xs).map fun q => (p.1 :: q.1, q.2) := rfl
theorem frz_rows {k : Nat} : ∀ (rows : List (List D)) (pre suf : CH), frzW (frzV (k + 1)) (pre ++ (rows.map fun r => some (CO.lst (r.map .d))) ++ suf) ((List.range' pre.length rows.length).map .ref) = some (rows.map .lst, pre ++ (rows.map fun _ => none) ++ suf)
  | [], pre, suf => rfl
  | r :: rows, pre, suf => by
    have e1 : (pre ++ ((r :: rows).map fun r => some (CO.lst (r.map .d))) ++ suf)[pre.length]? = some (some (.lst (r.map .d))) := by simp
    have e2 : (pre ++ ((r :: rows).map fun r => some (CO.lst (r.map .d))) ++ suf).set pre.length none = (pre ++ [none]) ++ (rows.map fun r => some (CO.lst (r.map .d))) ++ suf := by simp
    have ih := frz_rows (k := k) rows (pre ++ [none]) suf
    rw [List.length_append, List.length_singleton] at ih
    have e0 : (List.range' pre.length (r :: rows).length).map CV.ref = .ref pre.length :: (List.range' (pre.length + 1) rows.length).map .ref := by simp [List.range'_succ]
    rw [e0, frzW_cons, a_frz, e1, asL_some, e2]
    dsimp only
    rw [frzW_d]
    dsimp only [Option.bind_some]
    rw [ih]
    simp
theorem exp_rows {k : Nat} : ∀ (rows : List (List D)) (pre suf H : CH), expW (expV (k + 1)) ((List.range' pre.length rows.length).map .ref) (pre ++ (rows.map fun r => some (CO.lst (r.map .d))) ++ suf) H = some ((List.range' H.length rows.length).map .ref, pre ++ (rows.map fun _ => none) ++ suf, H ++ (rows.map fun r => some (CO.lst (r.map .d))))
  | [], pre, suf, H => by simp [expW]
  | r :: rows, pre, suf, H => by
    have e1 : (pre ++ ((r :: rows).map fun r => some (CO.lst (r.map .d))) ++ suf)[pre.length]? = some (some (.lst (r.map .d))) := by simp
    have e2 : (pre ++ ((r :: rows).map fun r => some (CO.lst (r.map .d))) ++ suf).set pre.length none = (pre ++ [none]) ++ (rows.map fun r => some (CO.lst (r.map .d))) ++ suf := by simp
    have ih := exp_rows (k := k) rows (pre ++ [none]) suf (H ++ [some (.lst (r.map .d))])
    rw [List.length_append, List.length_singleton, List.length_append, List.length_singleton] at ih
    have ed : ∀ (xs : List D) (g h : CH), expW (expV k) (xs.map .d) g h = some (xs.map .d, g, h) := by
      intro xs
      induction xs with
      | nil => intros; rfl
      | cons x xs ihx => intro g h; rw [List.map_cons, expW, expV_d]; dsimp only [Option.bind_some]; rw [ihx]; rfl
    have e0 : (List.range' pre.length (r :: rows).length).map CV.ref = .ref pre.length :: (List.range' (pre.length + 1) rows.length).map .ref := by simp [List.range'_succ]
    rw [e0, expW, expV_r, e1, e2]
    dsimp only
    unfold expL
    rw [ed]
    dsimp only [Option.map_some, Option.bind_some]
    rw [ih]
    simp [List.range'_succ]
theorem rows_eq : ((rgD 0 h).map fun y => some (CO.lst ((gRow w f y).map .d))) = (((rgD 0 h).map fun y => gRow w f y).map fun r => some (CO.lst (r.map .d))) := by rw [List.map_map]; rfl
theorem frz_gH {k : Nat} : ∃ g, frzV (k + 2) (gH 0 w h f) (.ref h.toNat) = some (gD w h f, g) := by
  have e := gH_last (H := []) (b := 0) (w := w) (h := h) (f := f) rfl
  rw [List.nil_append, Nat.zero_add] at e
  rw [a_frz, e, asL_some]
  dsimp only
  have e2 : (gH 0 w h f).set h.toNat none = [] ++ (((rgD 0 h).map fun y => gRow w f y).map fun r => some (CO.lst (r.map .d))) ++ [none] := by
    unfold gH
    rw [rows_eq, List.set_append_right _ _ (by simp [rgD_len])]
    simp [rgD_len]
  have e3 : ((List.range h.toNat).map fun i => CV.ref (0 + i)) = (List.range' (([] : CH).length) ((rgD 0 h).map fun y => gRow w f y).length).map .ref := by
    simp [rgD_len, List.range_eq_range']
  rw [e2, e3, frz_rows]
  exact ⟨_, by dsimp only; rw [List.map_map]; rfl⟩
theorem exp_gH {k : Nat} {H : CH} : ∃ g, expV (k + 2) (.ref h.toNat) (gH 0 w h f) H = some (.ref (H.length + h.toNat), g, H ++ gH H.length w h f) := by
  have e := gH_last (H := []) (b := 0) (w := w) (h := h) (f := f) rfl
  rw [List.nil_append, Nat.zero_add] at e
  rw [expV_r, e]
  dsimp only
  have e2 : (gH 0 w h f).set h.toNat none = [] ++ (((rgD 0 h).map fun y => gRow w f y).map fun r => some (CO.lst (r.map .d))) ++ [none] := by
    unfold gH
    rw [rows_eq, List.set_append_right _ _ (by simp [rgD_len])]
    simp [rgD_len]
  have e3 : ((List.range h.toNat).map fun i => CV.ref (0 + i)) = (List.range' (([] : CH).length) ((rgD 0 h).map fun y => gRow w f y).length).map .ref := by
    simp [rgD_len, List.range_eq_range']
  unfold expL
  rw [e2, e3, exp_rows]
  refine ⟨[] ++ ((rgD 0 h).map fun y => gRow w f y).map (fun _ => none) ++ [none], ?_⟩
  dsimp only [Option.map_some]
  congr 2
  · simp [rgD_len]
  · congr 1
    unfold gH
    rw [rows_eq, List.append_assoc]
    congr 2
    rw [List.length_map, rgD_len, List.range'_eq_map_range, List.map_map]
    simp
end

section
variable {h : CH}
theorem flat_single {α : Type} {x : α} : ∀ n : Nat, (List.replicate n [x]).flatten = List.replicate n x
  | 0 => rfl
  | n + 1 => by rw [List.replicate_succ, List.flatten_cons, flat_single n, List.replicate_succ]; rfl
theorem x_rep {fr : Bool} {d : D} {k : Int} (h0 : 0 ≤ k) (h1 : k ≤ 1000) : fMul fr h (.d (.lst [d])) (.d (.int k)) = mk fr h (List.replicate k.toNat (.d d)) := by
  show (none : Option (CV × CH)).or (fRep fr h (.d (.lst [d])) (.d (.int k))) = _
  show (if okI k = true ∧ ([d].map CV.d).length * k.toNat ≤ lim then mk fr h (List.replicate k.toNat ([d].map CV.d)).flatten else none) = _
  rw [if_pos ⟨okI_mk (by omega) (by omega), by simp [lim]; omega⟩]
  rw [List.map_singleton, flat_single]
theorem rep_rgD {α : Type} {w : Int} {v : α} : List.replicate w.toNat v = (rgD 0 w).map fun _ => v := by
  apply List.ext_getElem?
  intro i
  rw [List.getElem?_map]
  by_cases hi : i < w.toNat
  · rw [rgD_get (by omega), List.getElem?_replicate, if_pos hi]; rfl
  · rw [List.getElem?_eq_none (by simpa using hi), List.getElem?_eq_none (by rw [rgD_len]; omega)]; rfl
end

/-! ### comparing, sorting -/
section
variable {h : CH}
theorem x_eqD {neg : Bool} {a b : D} {r : Bool} (ha : okD 8 a = true) (hb : okD 8 b = true) (e : eqD a b = some r) : fEq neg h (.d a) (.d b) = some (.d (.bl (r != neg)), h) := by
  have e1 : fEqT neg h (.d a) (.d b) = none := by
    unfold fEqT
    split
    · rename_i q1 q2
      cases q1
      simp [okD] at ha
    · rfl
  unfold fEq
  rw [e1]
  show (if (okD 8 a && okD 8 b) = true then (eqD a b).map fun r => (CV.d (.bl (r != neg)), h) else none) = _
  rw [if_pos (by rw [ha, hb]; rfl), e]; rfl
theorem x_eqDr {neg : Bool} {a : D} (ha : okD 8 a = true) : fEq neg h (.d a) (.d a) = some (.d (.bl (!neg)), h) := by
  rw [x_eqD ha ha (eqD_refl a)]; cases neg <;> rfl
theorem x_eqT {neg : Bool} {a : D} : fEq neg h (.d (.txt a)) (.d (.txt a)) = some (.d (.bl (!neg)), h) := by
  unfold fEq fEqT
  dsimp only
  rw [if_pos (eqD_refl a)]; rfl
theorem okDs_map {α : Type} {f : α → D} {k : Nat} : ∀ {l : List α}, (∀ a ∈ l, okD k (f a) = true) → okDs k (l.map f) = true
  | [], _ => by simp [okDs]
  | a :: l, q => by
    rw [List.map_cons, okDs, q a (by simp), okDs_map fun x hx => q x (by simp [hx])]; rfl
theorem shDs_map {α : Type} {f : α → D} : ∀ {l : List α}, (∀ a ∈ l, shD (f a) = true) → shDs (l.map f) = true
  | [], _ => by simp [shDs]
  | a :: l, q => by
    rw [List.map_cons, shDs, q a (by simp), shDs_map fun x hx => q x (by simp [hx])]; rfl
theorem bkDs_map {α : Type} {f : α → D} {k : Nat} : ∀ {l : List α}, (∀ a ∈ l, bkD (f a) ≤ k) → bkDs (l.map f) ≤ l.length * (k + 1)
  | [], _ => by simp [bkDs]
  | a :: l, q => by
    have := q a (by simp)
    have ih := bkDs_map (l := l) fun x hx => q x (by simp [hx])
    rw [List.map_cons, bkDs, List.length_cons, Nat.add_mul]
    omega
theorem okD_gD {w h : Int} {f : Int → Int → Int} : okD 8 (gD w h f) = true := by
  unfold gD
  rw [okD]
  refine okDs_map fun y _ => ?_
  rw [okD]
  exact okDs_map fun x _ => by rw [okD]
theorem shD_gD {w h : Int} {f : Int → Int → Int} (hf : ∀ x y, -999999999999 ≤ f x y ∧ f x y ≤ 999999999999) : shD (gD w h f) = true := by
  unfold gD
  rw [shD]
  refine shDs_map fun y _ => ?_
  rw [shD]
  exact shDs_map fun x _ => by rw [shD]; simp [hf x y]
theorem bkD_gD {w h : Int} {f : Int → Int → Int} (w1 : w ≤ 500) (h1 : h ≤ 500) : bkD (gD w h f) ≤ 1048576 := by
  unfold gD
  rw [bkD]
  refine Nat.le_trans (bkDs_map (k := 501) fun y _ => ?_) ?_
  · rw [bkD]
    refine Nat.le_trans (bkDs_map (k := 0) fun x _ => by rw [bkD]; exact Nat.le_refl _) ?_
    rw [rgD_len]; omega
  · rw [rgD_len]; omega
theorem x_strG {w h : Int} {f : Int → Int → Int} {x : CV} {H : CH} (hc : (((seqL H x).or (seqT x)).bind fun _ => cont 6 H x) = some (gD w h f)) (w1 : w ≤ 500) (h1 : h ≤ 500) (hf : ∀ x y, -999999999999 ≤ f x y ∧ f x y ≤ 999999999999) : gStr H [x] = some (.d (.txt (gD w h f)), H) := by
  unfold gStr
  dsimp only
  rw [hc]
  dsimp only [Option.bind_some]
  rw [if_pos ⟨by rw [okD_gD, shD_gD hf]; rfl, bkD_gD w1 h1⟩]
theorem rgD_sorted {lo hi : Int} : (rgD lo hi).Pairwise (· ≤ ·) := by
  unfold rgD
  rw [List.pairwise_map]
  refine List.Pairwise.imp ?_ List.pairwise_lt_range
  intro a b hab
  omega
theorem isort_rgD {o : List Int} {n : Int} (p : o.Perm (rgD 0 n)) : isort o = rgD 0 n := (isort_unique p.symm rgD_sorted).symm
theorem x_sort {fr : Bool} {o : List Int} : gSorted fr h [.d (.lst (o.map D.int))] = mk fr h (((isort o).map D.int).map .d) := by
  show (allI ((o.map D.int).map .d)).bind _ = _
  rw [allI_map]; rfl
theorem x_all {l : List Bool} : gBs (fun l => l.all id) h [.d (.lst (l.map D.bl))] = some (.d (.bl (l.all id)), h) := by
  show (allB ((l.map D.bl).map .d)).map _ = _
  rw [allB_map]; rfl
theorem x_allT {α : Type} {l : List α} : gBs (fun l => l.all id) h [.d (.lst (l.map fun _ => D.bl true))] = some (.d (.bl true), h) := by
  have := x_all (h := h) (l := l.map fun _ => true)
  rw [List.map_map] at this
  have e : (l.map fun _ => true).all id = true := by simp
  rw [e] at this
  exact this
theorem okRg_of {a b : Int} (h1 : -1000000 ≤ a ∧ a ≤ 1000000) (h2 : -1000000 ≤ b ∧ b ≤ 1000000) : okRg a b = true := by
  unfold okRg
  rw [okI_mk h1.1 h1.2, okI_mk h2.1 h2.2]
  exact decide_eq_true (by unfold lim; omega)
theorem x_lsT {a b : Int} (h1 : -1000000 ≤ a ∧ a ≤ 1000000) (h2 : -1000000 ≤ b ∧ b ≤ 1000000) : lsRg true (.d (.int a)) (.d (.int b)) h = some (.d (.lst ((rgD a b).map D.int)), h) := by
  rw [x_lsRg, if_pos (okRg_of h1 h2), mk_t, allD_map]
end
end Mc
namespace Mc
open PySem PySem.Spec PyProof.Rows L2
/-- a comprehension's scope within another's, by the scopes alone -/
def relS (scope sc : Scope) : Scope := { scope with names := scope.names.map fun (n, k) => if (k == .free && sc.kind == .function && (sc.names.lookup n) == some .cell) then (n, .cell) else (n, k) }
theorem relabel_S {scope : Scope} {env : Env} : relabel scope env = relS scope env.scope := rfl
theorem cx_sc {CX : CXT} {P : Program} {w : World} {K : PySem.W.Frag} {mg : Str → Option Value} {base : Heap} {N : List Str} {qual : Str} {scope : Scope} {f : Addr} {cd : Value} {A : Around} {outer : List Env} {s : Shared} {H : Hp} {E : XK} : (cxOf CX P w K mg base N qual scope f cd A outer s H E).env.scope = scope := rfl
end Mc


namespace Mc
open PySem L2
/-! ### closed steps, judged by the kernel piece by piece -/
def eqV : CV → CV → Bool
  | .d x, .d y => eqD x y == some true
  | .ref n, .ref m => n == m
  | _, _ => false
theorem eqV_eq : ∀ {x y : CV}, eqV x y = true → x = y
  | .d x, .d y, h => by rw [eqD_eq x y (by simpa [eqV] using h)]
  | .ref n, .ref m, h => by
    have : n = m := by simpa [eqV] using h
    rw [this]
  | .d _, .ref _, h => by simp [eqV] at h
  | .d _, .s _, h => by simp [eqV] at h
  | .d _, .t _, h => by simp [eqV] at h
  | .ref _, .d _, h => by simp [eqV] at h
  | .ref _, .s _, h => by simp [eqV] at h
  | .ref _, .t _, h => by simp [eqV] at h
  | .s _, _, h => by simp [eqV] at h
  | .t _, _, h => by simp [eqV] at h
def eqVs : List CV → List CV → Bool
  | [], [] => true
  | x :: xs, y :: ys => eqV x y && eqVs xs ys
  | _, _ => false
theorem eqVs_eq : ∀ {x y : List CV}, eqVs x y = true → x = y
  | [], [], _ => rfl
  | x :: xs, y :: ys, h => by
    simp only [eqVs, Bool.and_eq_true] at h
    rw [eqV_eq h.1, eqVs_eq h.2]
  | [], _ :: _, h => by simp [eqVs] at h
  | _ :: _, [], h => by simp [eqVs] at h
def eqSl : Sl → Sl → Bool
  | [], [] => true
  | none :: xs, none :: ys => eqSl xs ys
  | some x :: xs, some y :: ys => eqV x y && eqSl xs ys
  | _, _ => false
theorem eqSl_eq : ∀ {x y : Sl}, eqSl x y = true → x = y
  | [], [], _ => rfl
  | none :: xs, none :: ys, h => by rw [eqSl_eq (x := xs) (y := ys) (by simpa [eqSl] using h)]
  | some x :: xs, some y :: ys, h => by
    simp only [eqSl, Bool.and_eq_true] at h
    rw [eqV_eq h.1, eqSl_eq h.2]
  | [], _ :: _, h => by simp [eqSl] at h
  | _ :: _, [], h => by simp [eqSl] at h
  | none :: _, some _ :: _, h => by simp [eqSl] at h
  | some _ :: _, none :: _, h => by simp [eqSl] at h
def eqH : CH → CH → Bool
  | [], [] => true
  | none :: xs, none :: ys => eqH xs ys
  | some (.lst x) :: xs, some (.lst y) :: ys => eqVs x y && eqH xs ys
  | _, _ => false
theorem eqH_eq : ∀ {x y : CH}, eqH x y = true → x = y
  | [], [], _ => rfl
  | none :: xs, none :: ys, h => by rw [eqH_eq (x := xs) (y := ys) (by simpa [eqH] using h)]
  | some (.lst x) :: xs, some (.lst y) :: ys, h => by
    simp only [eqH, Bool.and_eq_true] at h
    rw [eqVs_eq h.1, eqH_eq h.2]
  | [], _ :: _, h => by simp [eqH] at h
  | _ :: _, [], h => by simp [eqH] at h
  | none :: _, some _ :: _, h => by simp [eqH] at h
  | some x :: _, none :: _, h => by cases x <;> simp [eqH] at h
  | some (.dk _) :: _, some _ :: _, h => by simp [eqH] at h
  | some (.ins _ _) :: _, some _ :: _, h => by simp [eqH] at h
  | some (.box _) :: _, some _ :: _, h => by simp [eqH] at h
  | some (.lst _) :: _, some (.dk _) :: _, h => by simp [eqH] at h
  | some (.lst _) :: _, some (.ins _ _) :: _, h => by simp [eqH] at h
  | some (.lst _) :: _, some (.box _) :: _, h => by simp [eqH] at h
/-- a statement goes on with these slots and this heap -/
def isNx (o : Option (Fl × Sl × CH)) (c : Sl) (h : CH) : Bool := match o with
  | some (.nx, c', h') => eqSl c' c && eqH h' h
  | _ => false
theorem isNx_eq {o : Option (Fl × Sl × CH)} {c : Sl} {h : CH} (e : isNx o c h = true) : o = some (.nx, c, h) := by
  unfold isNx at e
  split at e
  · simp only [Bool.and_eq_true] at e
    rw [eqSl_eq e.1, eqH_eq e.2]
  · cases e
/-- .. returns a plain value -/
def isRt (o : Option (Fl × Sl × CH)) (x : D) : Bool := match o with
  | some (.rt (.d y), _, _) => eqD y x == some true
  | _ => false
theorem isRt_eq {o : Option (Fl × Sl × CH)} {x : D} (e : isRt o x = true) : ∃ c h, o = some (.rt (.d x), c, h) := by
  unfold isRt at e
  split at e
  · rename_i y c h
    rw [eqD_eq y x (by simpa using e)]
    exact ⟨c, h, rfl⟩
  · cases e
theorem seq_nx {m r : MS} {c c' : Sl} {h h' : CH} (e : m c h = some (.nx, c', h')) : mSeq m r c h = r c' h' := by
  show (m c h).bind _ = _
  rw [e]; rfl
/-- a call gives a plain value -/
def isD (o : Option (CV × CH)) (x : D) : Bool := match o with
  | some (.d y, _) => eqD y x == some true
  | _ => false
theorem isD_eq {o : Option (CV × CH)} {x : D} (e : isD o x = true) : ∃ g, o = some (.d x, g) := by
  unfold isD at e
  split at e
  · rename_i y g
    rw [eqD_eq y x (by simpa using e)]
    exact ⟨g, rfl⟩
  · cases e
theorem fn_rt {N : Nat} {b : MS} {xs : List CV} {h : CH} {x : D} (e : ∃ c g, b (xs.map some ++ List.replicate (N - xs.length) none) h = some (.rt (.d x), c, g)) : ∃ g, mFn N b xs h = some (.d x, g) := by
  obtain ⟨c, g, e⟩ := e
  refine ⟨g, ?_⟩
  unfold mFn
  rw [e]; rfl
end Mc


namespace Lw
open PySem L2 Mc
/-- is_whole: thing 0 -/
def b_is_whole : MS :=
  (mRet (mAndV (mIsi .int (mVar 0)) (mNotV (mIsi .bool (mVar 0)))))
def m_is_whole := mFn 1 b_is_whole
/-- is_between: thing 0 least 1 most 2 -/
def b_is_between : MS :=
  (mRet (mAndV (mCall (pureC m_is_whole) (mCons (mVar 0) mNil)) (mChain fLe fLe (mVar 1) (mVar 0) (mVar 2))))
def m_is_between := mFn 3 b_is_between
/-- is_size: thing 0 -/
def b_is_size : MS :=
  (mSeq (mIfS (mOrT (mNotT (mTE (mIsi .tuple (mVar 0)))) (mTE (mOp (fEq true) (mCB gLen (mCons (mVar 0) mNil)) (mC (.int 2))))) (mRet (mC (.bl false))) mNext)
  (mRet (mAndV (mCall (pureC m_is_between) (mCons (mOp fIx (mVar 0) (mC (.int 0))) (mCons (mC (.int 1)) (mCons (mC (.int 12)) mNil)))) (mCall (pureC m_is_between) (mCons (mOp fIx (mVar 0) (mC (.int 1))) (mCons (mC (.int 1)) (mCons (mC (.int 12)) mNil)))))))
def m_is_size := mFn 1 b_is_size
/-- check_size: size 0 -/
def b_check_size : MS :=
  (mIfS (mNotT (mTE (mCall (pureC m_is_size) (mCons (mVar 0) mNil)))) mStuck mNext)
def m_check_size := mFn 1 b_check_size
/-- is_notice: size 0 thing 1 left 2 top 3 width 4 height 5 one 6 -/
def b_is_notice : MS :=
  (mSeq (mIfS (mOrT (mNotT (mTE (mIsi .tuple (mVar 1)))) (mOrT (mTE (mOp (fEq true) (mCB gLen (mCons (mVar 1) mNil)) (mC (.int 4)))) (mNotT (mTE (mCB gAll (mCons (mLcU true (mVar 1) [6] (gNm 6) mYes (mCall (pureC m_is_whole) (mCons (mVar 6) mNil))) mNil)))))) (mRet (mC (.bl false))) mNext)
  (mSeq (mAsg (mVar 1) (gTp 4 (gsCons (gNm 2) (gsCons (gNm 3) (gsCons (gNm 4) (gsCons (gNm 5) gsNil))))))
  (mSeq (mIfS (mOrT (mTE (mOp fLt (mVar 2) (mC (.int 0)))) (mOrT (mTE (mOp fLt (mVar 3) (mC (.int 0)))) (mOrT (mTE (mOp fLt (mVar 4) (mC (.int 1)))) (mTE (mOp fLt (mVar 5) (mC (.int 1))))))) (mRet (mC (.bl false))) mNext)
  (mRet (mAndV (mOp fLe (mOp (fAdd true) (mVar 2) (mVar 4)) (mOp fIx (mVar 0) (mC (.int 0)))) (mOp fLe (mOp (fAdd true) (mVar 3) (mVar 5)) (mOp fIx (mVar 0) (mC (.int 1)))))))))
def m_is_notice := mFn 7 b_is_notice
/-- check_notices: size 0 notices 1 notice 2 -/
def b_check_notices : MS :=
  (mSeq (mIfS (mOrT (mNotT (mTE (mIsi .list (mVar 1)))) (mTE (mOp fGt (mCB gLen (mCons (mVar 1) mNil)) (mC (.int 24))))) mStuck mNext)
  (mIfS (mNotT (mTE (mCB gAll (mCons (mLcU true (mVar 1) [2] (gNm 2) mYes (mCall (pureC m_is_notice) (mCons (mVar 0) (mCons (mVar 2) mNil)))) mNil)))) mStuck mNext))
def m_check_notices := mFn 3 b_check_notices
/-- meets: one 0 other 1 -/
def b_meets : MS :=
  (mSeq (mIfS (mOrT (mTE (mOp fGe (mOp fIx (mVar 0) (mC (.int 0))) (mOp (fAdd true) (mOp fIx (mVar 1) (mC (.int 0))) (mOp fIx (mVar 1) (mC (.int 2)))))) (mTE (mOp fGe (mOp fIx (mVar 1) (mC (.int 0))) (mOp (fAdd true) (mOp fIx (mVar 0) (mC (.int 0))) (mOp fIx (mVar 0) (mC (.int 2))))))) (mRet (mC (.bl false))) mNext)
  (mRet (mAndV (mOp fLt (mOp fIx (mVar 0) (mC (.int 1))) (mOp (fAdd true) (mOp fIx (mVar 1) (mC (.int 1))) (mOp fIx (mVar 1) (mC (.int 3))))) (mOp fLt (mOp fIx (mVar 1) (mC (.int 1))) (mOp (fAdd true) (mOp fIx (mVar 0) (mC (.int 1))) (mOp fIx (mVar 0) (mC (.int 3))))))))
def m_meets := mFn 2 b_meets
/-- check_room: size 0 room 1 -/
def b_check_room : MS :=
  (mIfS (mOrT (mNotT (mTE (mCall (pureC m_is_size) (mCons (mVar 1) mNil)))) (mOrT (mTE (mOp fGt (mOp fIx (mVar 1) (mC (.int 0))) (mOp fIx (mVar 0) (mC (.int 0))))) (mTE (mOp fGt (mOp fIx (mVar 1) (mC (.int 1))) (mOp fIx (mVar 0) (mC (.int 1))))))) mStuck mNext)
def m_check_room := mFn 2 b_check_room
def W_met_by_0 : MS :=
  (mSeq (mAsg (mTup (mCons (mVar 5) (mCons (mVar 4) (mCons (mOp fIx (mVar 2) (mC (.int 0))) (mCons (mOp fIx (mVar 2) (mC (.int 1))) mNil))))) (gNm 6))
  (mDrop (mMt fAppend (mVar 3) (mCons (mTup (mCons (mCB gLen (mCons (mLcU true (mVar 1) [7] (gNm 7) (mTE (mCall (pureC m_meets) (mCons (mVar 7) (mCons (mVar 6) mNil)))) (mVar 7)) mNil)) (mCons (mVar 5) (mCons (mVar 4) mNil)))) mNil))))
def W_met_by_1 : MS :=
  (mFor (mRg (mC (.int 0)) (mOp (fAdd true) (mOp (fI0 fun i j => .int (i - j)) (mOp fIx (mVar 0) (mC (.int 0))) (mOp fIx (mVar 2) (mC (.int 0)))) (mC (.int 1)))) (gNm 5) W_met_by_0)
/-- met_by: size 0 notices 1 room 2 found 3 top 4 left 5 here 6 one 7 -/
def b_met_by : MS :=
  (mSeq (mAsg (mLst false mNil) (gNm 3))
  (mSeq (mFor (mRg (mC (.int 0)) (mOp (fAdd true) (mOp (fI0 fun i j => .int (i - j)) (mOp fIx (mVar 0) (mC (.int 1))) (mOp fIx (mVar 2) (mC (.int 1)))) (mC (.int 1)))) (gNm 4) W_met_by_1)
  (mRet (mFrz (mVar 3)))))
def m_met_by := mFn 8 b_met_by
/-- free_places: size 0 notices 1 room 2 many 3 left 4 top 5 -/
def b_free_places : MS :=
  (mSeq (mDrop (mCall (pureC m_check_size) (mCons (mVar 0) mNil)))
  (mSeq (mDrop (mCall (pureC m_check_notices) (mCons (mVar 0) (mCons (mVar 1) mNil))))
  (mSeq (mDrop (mCall (pureC m_check_room) (mCons (mVar 0) (mCons (mVar 2) mNil))))
  (mRet (mLcU true (mCall (pureC m_met_by) (mCons (mVar 0) (mCons (mVar 1) (mCons (mVar 2) mNil)))) [3, 4, 5] (gTp 3 (gsCons (gNm 3) (gsCons (gNm 4) (gsCons (gNm 5) gsNil)))) (mTE (mOp (fEq false) (mVar 3) (mC (.int 0)))) (mTup (mCons (mVar 4) (mCons (mVar 5) mNil))))))))
def m_free_places := mFn 6 b_free_places
/-- free_places: size 0 notices 1 room 2 many 3 left 4 top 5 -/
def b_free_places_L1 : MS :=
  (mSeq (mDrop (mCall (pureC m_check_size) (mCons (mVar 0) mNil)))
  (mSeq (mDrop (mCall (pureC m_check_notices) (mCons (mVar 0) (mCons (mVar 1) mNil))))
  (mSeq (mDrop (mCall (pureC m_check_room) (mCons (mVar 0) (mCons (mVar 2) mNil))))
  (mRet (mLcU false (mCall (pureC m_met_by) (mCons (mVar 0) (mCons (mVar 1) (mCons (mVar 2) mNil)))) [3, 4, 5] (gTp 3 (gsCons (gNm 3) (gsCons (gNm 4) (gsCons (gNm 5) gsNil)))) (mTE (mOp (fEq false) (mVar 3) (mC (.int 0)))) (mTup (mCons (mVar 4) (mCons (mVar 5) mNil))))))))
def m_free_places_L1 := mFn 6 b_free_places_L1
/-- least_covering: size 0 notices 1 room 2 some 3 least 4 many 5 left 6 top 7 -/
def b_least_covering : MS :=
  (mSeq (mDrop (mCall (pureC m_check_size) (mCons (mVar 0) mNil)))
  (mSeq (mDrop (mCall (pureC m_check_notices) (mCons (mVar 0) (mCons (mVar 1) mNil))))
  (mSeq (mDrop (mCall (pureC m_check_room) (mCons (mVar 0) (mCons (mVar 2) mNil))))
  (mSeq (mAsg (mCall (pureC m_met_by) (mCons (mVar 0) (mCons (mVar 1) (mCons (mVar 2) mNil)))) (gNm 3))
  (mSeq (mAsg (mCB gMin (mCons (mLcU true (mVar 3) [5, 6, 7] (gTp 3 (gsCons (gNm 5) (gsCons (gNm 6) (gsCons (gNm 7) gsNil)))) mYes (mVar 5)) mNil)) (gNm 4))
  (mRet (mOp fIx (mLcU true (mVar 3) [5, 6, 7] (gTp 3 (gsCons (gNm 5) (gsCons (gNm 6) (gsCons (gNm 7) gsNil)))) (mTE (mOp (fEq false) (mVar 5) (mVar 4))) (mTup (mCons (mVar 5) (mCons (mVar 6) (mCons (mVar 7) mNil))))) (mC (.int 0)))))))))
def m_least_covering := mFn 8 b_least_covering
/-- _law_cell_at: _law_script 0 _law_k 1 -/
def b_u_law_cell_at : MS :=
  (mSeq (mIfS (mTE (mOp fLt (mVar 1) (mCB gLen (mCons (mVar 0) mNil)))) (mRet (mOp fIx (mVar 0) (mVar 1))) mNext)
  (mRet (mC (.int 0))))
def m_u_law_cell_at := mFn 2 b_u_law_cell_at
/-- _law_draw: _law_cell 0 _law_k 1 _law_most 2 _law_primes 3 -/
def b_u_law_draw : MS :=
  (mSeq (mAsg (mTup (mCons (mC (.int 1000003)) (mCons (mC (.int 1000033)) (mCons (mC (.int 1000037)) (mCons (mC (.int 1000039)) (mCons (mC (.int 1000081)) (mCons (mC (.int 1000099)) (mCons (mC (.int 1000117)) (mCons (mC (.int 1000121)) (mCons (mC (.int 1000133)) (mCons (mC (.int 1000151)) (mCons (mC (.int 1000159)) (mCons (mC (.int 1000171)) (mCons (mC (.int 1000183)) (mCons (mC (.int 1000187)) (mCons (mC (.int 1000193)) (mCons (mC (.int 1000199)) mNil))))))))))))))))) (gNm 3))
  (mRet (mOp (fI okMod fun i j => .int (i % j)) (mOp (fI okMod fun i j => .int (i % j)) (mOp (fAdd true) (mOp (fMul true) (mVar 0) (mC (.int 48271))) (mOp (fMul true) (mVar 1) (mC (.int 69621)))) (mOp fIx (mVar 3) (mOp (fI okMod fun i j => .int (i % j)) (mVar 1) (mC (.int 16))))) (mVar 2))))
def m_u_law_draw := mFn 4 b_u_law_draw
/-- _law_number: _law_cell 0 _law_k 1 _law_limit 2 _law_d 3 -/
def b_u_law_number : MS :=
  (mSeq (mIfS (mTE (mOp fGe (mVar 0) (mOp (fI okPow fun i j => .int (i ^ j.toNat)) (mC (.int 10)) (mC (.int 18))))) (mSeq (mAsg (mOp fIx (mTup (mCons (mC (.int 1)) (mCons (mC (.int 7)) (mCons (mC (.int 49)) (mCons (mC (.int 343)) (mCons (mC (.int 2401)) mNil)))))) (mOp (fI okMod fun i j => .int (i % j)) (mVar 1) (mC (.int 5)))) (gNm 3))
  (mRet (mOp (fI okDiv fun i j => .int (i / j)) (mOp (fI okMod fun i j => .int (i % j)) (mOp (fI0 fun i j => .int (i - j)) (mVar 0) (mOp (fI okPow fun i j => .int (i ^ j.toNat)) (mC (.int 10)) (mC (.int 18)))) (mOp (fMul true) (mVar 3) (mVar 2))) (mVar 3)))) mNext)
  (mSeq (mIfS (mTE (mOp fLt (mVar 0) (mNeg (mOp (fI okPow fun i j => .int (i ^ j.toNat)) (mC (.int 10)) (mC (.int 18)))))) (mAsg (mOp (fI okMod fun i j => .int (i % j)) (mVar 0) (mC (.int 1000811284336359577647248616306026718125307353262274591))) (gNm 0)) mNext)
  (mRet (mOp (fI okMod fun i j => .int (i % j)) (mCall (pureC m_u_law_draw) (mCons (mOp (fMul true) (mOp (fAdd true) (mVar 0) (mOp (fMul true) (mC (.int 977)) (mVar 1))) (mOp (fAdd true) (mOp (fAdd true) (mVar 0) (mOp (fMul true) (mC (.int 31)) (mVar 1))) (mC (.int 5)))) (mCons (mOp (fAdd true) (mOp (fI okMod fun i j => .int (i % j)) (mVar 1) (mC (.int 9))) (mC (.int 1))) (mCons (mC (.int 999983)) mNil)))) (mVar 2)))))
def m_u_law_number := mFn 4 b_u_law_number
/-- _law_size: _law_script 0 _law_by 1 _law_most 2 _law_cell 3 -/
def b_u_law_size : MS :=
  (mSeq (mAsg (mCall (pureC m_u_law_cell_at) (mCons (mVar 0) (mCons (mVar 1) mNil))) (gNm 3))
  (mRet (mTup (mCons (mOp (fAdd true) (mC (.int 1)) (mCall (pureC m_u_law_number) (mCons (mVar 3) (mCons (mOp (fAdd true) (mVar 1) (mC (.int 1))) (mCons (mVar 2) mNil))))) (mCons (mOp (fAdd true) (mC (.int 1)) (mCall (pureC m_u_law_number) (mCons (mVar 3) (mCons (mOp (fAdd true) (mVar 1) (mC (.int 2))) (mCons (mVar 2) mNil))))) mNil)))))
def m_u_law_size := mFn 4 b_u_law_size
def W_u_law_notice_0 : MS :=
  (mSeq (mAsg (mIf (mTE (mOp (fEq false) (mCall (pureC m_u_law_number) (mCons (mVar 0) (mCons (mOp (fAdd true) (mVar 1) (mVar 4)) (mCons (mC (.int 3)) mNil)))) (mC (.int 0)))) (mOp fIx (mVar 2) (mVar 4)) (mCB gMin2 (mCons (mOp fIx (mVar 2) (mVar 4)) (mCons (mC (.int 3)) mNil)))) (gNm 5))
  (mSeq (mAsg (mOp (fAdd true) (mC (.int 1)) (mCall (pureC m_u_law_number) (mCons (mVar 0) (mCons (mOp (fAdd true) (mOp (fAdd true) (mVar 1) (mOp (fMul true) (mC (.int 2)) (mVar 4))) (mC (.int 1))) (mCons (mVar 5) mNil))))) (gNm 6))
  (mDrop (mMt fAppend (mVar 3) (mCons (mTup (mCons (mCall (pureC m_u_law_number) (mCons (mOp (fAdd true) (mVar 0) (mVar 4)) (mCons (mOp (fAdd true) (mOp (fAdd true) (mVar 1) (mVar 4)) (mC (.int 3))) (mCons (mOp (fAdd true) (mOp (fI0 fun i j => .int (i - j)) (mOp fIx (mVar 2) (mVar 4)) (mVar 6)) (mC (.int 1))) mNil)))) (mCons (mVar 6) mNil))) mNil)))))
/-- _law_notice: _law_cell 0 _law_at 1 _law_size_here 2 _law_parts 3 _law_turn 4 _law_long 5 _law_many 6 -/
def b_u_law_notice : MS :=
  (mSeq (mAsg (mLst false mNil) (gNm 3))
  (mSeq (mFor (mRg (mC (.int 0)) (mC (.int 2))) (gNm 4) W_u_law_notice_0)
  (mRet (mTup (mCons (mOp fIx (mOp fIx (mVar 3) (mC (.int 0))) (mC (.int 0))) (mCons (mOp fIx (mOp fIx (mVar 3) (mC (.int 1))) (mC (.int 0))) (mCons (mOp fIx (mOp fIx (mVar 3) (mC (.int 0))) (mC (.int 1))) (mCons (mOp fIx (mOp fIx (mVar 3) (mC (.int 1))) (mC (.int 1))) mNil))))))))
def m_u_law_notice := mFn 7 b_u_law_notice
def W_u_law_notices_0 : MS :=
  (mDrop (mMt fAppend (mVar 4) (mCons (mCall (pureC m_u_law_notice) (mCons (mOp (fAdd true) (mCall (pureC m_u_law_cell_at) (mCons (mVar 0) (mCons (mOp (fAdd true) (mVar 1) (mOp (fI okMod fun i j => .int (i % j)) (mVar 5) (mC (.int 7)))) mNil))) (mOp (fMul true) (mC (.int 23)) (mVar 5))) (mCons (mVar 5) (mCons (mVar 2) mNil)))) mNil)))
/-- _law_notices: _law_script 0 _law_by 1 _law_size_here 2 _law_most 3 _law_found 4 _law_at 5 -/
def b_u_law_notices : MS :=
  (mSeq (mAsg (mLst false mNil) (gNm 4))
  (mSeq (mFor (mRg (mC (.int 0)) (mCall (pureC m_u_law_number) (mCons (mCall (pureC m_u_law_cell_at) (mCons (mVar 0) (mCons (mVar 1) mNil))) (mCons (mOp (fAdd true) (mVar 1) (mC (.int 3))) (mCons (mOp (fAdd true) (mVar 3) (mC (.int 1))) mNil))))) (gNm 5) W_u_law_notices_0)
  (mRet (mFrz (mVar 4)))))
def m_u_law_notices := mFn 6 b_u_law_notices
/-- _law_lies: _law_notice_here 0 _law_across 1 _law_down 2 -/
def b_u_law_lies : MS :=
  (mRet (mAndV (mChain fLe fLt (mC (.int 0)) (mOp (fI0 fun i j => .int (i - j)) (mVar 1) (mOp fIx (mVar 0) (mC (.int 0)))) (mOp fIx (mVar 0) (mC (.int 2)))) (mChain fLe fLt (mC (.int 0)) (mOp (fI0 fun i j => .int (i - j)) (mVar 2) (mOp fIx (mVar 0) (mC (.int 1)))) (mOp fIx (mVar 0) (mC (.int 3))))))
def m_u_law_lies := mFn 3 b_u_law_lies
def W_u_law_cells_0 : MS :=
  (mDrop (mMt fExtend (mVar 1) (mCons (mLc true (mRg (mOp fIx (mVar 0) (mC (.int 0))) (mOp (fAdd true) (mOp fIx (mVar 0) (mC (.int 0))) (mOp fIx (mVar 0) (mC (.int 2))))) [3] (gNm 3) mYes (mTup (mCons (mVar 3) (mCons (mVar 2) mNil)))) mNil)))
/-- _law_cells: _law_notice_here 0 _law_found 1 _law_down 2 _law_across 3 -/
def b_u_law_cells : MS :=
  (mSeq (mAsg (mLst false mNil) (gNm 1))
  (mSeq (mFor (mRg (mOp fIx (mVar 0) (mC (.int 1))) (mOp (fAdd true) (mOp fIx (mVar 0) (mC (.int 1))) (mOp fIx (mVar 0) (mC (.int 3))))) (gNm 2) W_u_law_cells_0)
  (mRet (mFrz (mVar 1)))))
def m_u_law_cells := mFn 4 b_u_law_cells
def W_u_law_met_0 : MS :=
  (mSeq (mAsg (mCall (pureC m_u_law_cells) (mCons (mTup (mCons (mVar 5) (mCons (mVar 4) (mCons (mOp fIx (mVar 2) (mC (.int 0))) (mCons (mOp fIx (mVar 2) (mC (.int 1))) mNil))))) mNil)) (gNm 6))
  (mSeq (mAsg (mLcU true (mVar 1) [8] (gNm 8) (mTE (mCB gAny (mCons (mLcU true (mVar 6) [9, 10] (gTp 2 (gsCons (gNm 9) (gsCons (gNm 10) gsNil))) mYes (mCall (pureC m_u_law_lies) (mCons (mVar 8) (mCons (mVar 9) (mCons (mVar 10) mNil))))) mNil))) (mVar 8)) (gNm 7))
  (mDrop (mMt fAppend (mVar 3) (mCons (mTup (mCons (mCB gLen (mCons (mVar 7) mNil)) (mCons (mVar 5) (mCons (mVar 4) mNil)))) mNil)))))
def W_u_law_met_1 : MS :=
  (mFor (mRg (mC (.int 0)) (mOp (fAdd true) (mOp (fI0 fun i j => .int (i - j)) (mOp fIx (mVar 0) (mC (.int 0))) (mOp fIx (mVar 2) (mC (.int 0)))) (mC (.int 1)))) (gNm 5) W_u_law_met_0)
/-- _law_met: _law_size_here 0 _law_notices_here 1 _law_room 2 _law_found 3 _law_top 4 _law_left 5 _law_cells_here 6 _law_met_here 7 _law_one 8 _law_across 9 _law_down 10 -/
def b_u_law_met : MS :=
  (mSeq (mAsg (mLst false mNil) (gNm 3))
  (mSeq (mFor (mRg (mC (.int 0)) (mOp (fAdd true) (mOp (fI0 fun i j => .int (i - j)) (mOp fIx (mVar 0) (mC (.int 1))) (mOp fIx (mVar 2) (mC (.int 1)))) (mC (.int 1)))) (gNm 4) W_u_law_met_1)
  (mRet (mFrz (mVar 3)))))
def m_u_law_met := mFn 11 b_u_law_met
def S_u_law_outright_0 : MS :=
  (mAsg (mTup (mCons (mLst true (mCons (mTup (mCons (mC (.int 0)) (mCons (mC (.int 0)) (mCons (mC (.int 1)) (mCons (mC (.int 1)) mNil))))) mNil)) (mCons (mTup (mCons (mTup (mCons (mC (.int 1)) (mCons (mC (.int 1)) mNil))) (mCons (mTup (mCons (mC (.int 2)) (mCons (mC (.int 1)) mNil))) (mCons (mTup (mCons (mC (.int 1)) (mCons (mC (.int 2)) mNil))) mNil)))) mNil))) (gTp 2 (gsCons (gNm 0) (gsCons (gNm 1) gsNil))))
def S_u_law_outright_1 : MS :=
  (mIfS (mTE (mOp (fEq true) (mLcU true (mVar 1) [6] (gNm 6) mYes (mCall (pureC m_free_places) (mCons (mVar 6) (mCons (mVar 0) (mCons (mTup (mCons (mC (.int 1)) (mCons (mC (.int 1)) mNil))) mNil))))) (mLst true (mCons (mLst true mNil) (mCons (mLst true (mCons (mTup (mCons (mC (.int 1)) (mCons (mC (.int 0)) mNil))) mNil)) (mCons (mLst true (mCons (mTup (mCons (mC (.int 0)) (mCons (mC (.int 1)) mNil))) mNil)) mNil)))))) (mRet (mC (.bl false))) mNext)
def S_u_law_outright_2 : MS :=
  (mIfS (mTE (mOp (fEq true) (mLcU true (mVar 1) [6] (gNm 6) mYes (mCall (pureC m_least_covering) (mCons (mVar 6) (mCons (mVar 0) (mCons (mTup (mCons (mC (.int 1)) (mCons (mC (.int 1)) mNil))) mNil))))) (mLst true (mCons (mTup (mCons (mC (.int 1)) (mCons (mC (.int 0)) (mCons (mC (.int 0)) mNil)))) (mCons (mTup (mCons (mC (.int 0)) (mCons (mC (.int 1)) (mCons (mC (.int 0)) mNil)))) (mCons (mTup (mCons (mC (.int 0)) (mCons (mC (.int 0)) (mCons (mC (.int 1)) mNil)))) mNil)))))) (mRet (mC (.bl false))) mNext)
def S_u_law_outright_3 : MS :=
  (mAsg (mOp (fAdd true) (mLc true (mRg (mC (.int 0)) (mC (.int 12))) [7] (gNm 7) mYes (mTup (mCons (mVar 7) (mCons (mC (.int 0)) (mCons (mC (.int 1)) (mCons (mC (.int 12)) mNil)))))) (mLc true (mRg (mC (.int 0)) (mC (.int 12))) [7] (gNm 7) mYes (mTup (mCons (mC (.int 0)) (mCons (mVar 7) (mCons (mC (.int 12)) (mCons (mC (.int 1)) mNil))))))) (gNm 2))
def S_u_law_outright_4 : MS :=
  (mAsg (mLst true (mCons (mTup (mCons (mC (.int 1)) (mCons (mC (.int 1)) mNil))) (mCons (mTup (mCons (mC (.int 2)) (mCons (mC (.int 2)) mNil))) (mCons (mTup (mCons (mC (.int 1)) (mCons (mC (.int 12)) mNil))) (mCons (mTup (mCons (mC (.int 12)) (mCons (mC (.int 12)) mNil))) mNil))))) (gNm 3))
def S_u_law_outright_5 : MS :=
  (mIfS (mTE (mOp (fEq true) (mLcU true (mVar 3) [8] (gNm 8) mYes (mCall (pureC m_least_covering) (mCons (mTup (mCons (mC (.int 12)) (mCons (mC (.int 12)) mNil))) (mCons (mVar 2) (mCons (mVar 8) mNil))))) (mLst true (mCons (mTup (mCons (mC (.int 2)) (mCons (mC (.int 0)) (mCons (mC (.int 0)) mNil)))) (mCons (mTup (mCons (mC (.int 4)) (mCons (mC (.int 0)) (mCons (mC (.int 0)) mNil)))) (mCons (mTup (mCons (mC (.int 13)) (mCons (mC (.int 0)) (mCons (mC (.int 0)) mNil)))) (mCons (mTup (mCons (mC (.int 24)) (mCons (mC (.int 0)) (mCons (mC (.int 0)) mNil)))) mNil))))))) (mRet (mC (.bl false))) mNext)
def S_u_law_outright_6 : MS :=
  (mAsg (mOp (fAdd true) (mSl true (mVar 2) oNone (oSome (mC (.int 7)))) (mSl true (mVar 2) (oSome (mC (.int 8))) (oSome (mC (.int 12))))) (gNm 4))
def S_u_law_outright_7 : MS :=
  (mIfS (mOrT (mTE (mOp (fEq true) (mCall (pureC m_free_places) (mCons (mTup (mCons (mC (.int 12)) (mCons (mC (.int 12)) mNil))) (mCons (mVar 4) (mCons (mTup (mCons (mC (.int 1)) (mCons (mC (.int 12)) mNil))) mNil)))) (mLst true (mCons (mTup (mCons (mC (.int 7)) (mCons (mC (.int 0)) mNil))) mNil)))) (mTE (mOp (fEq true) (mCall (pureC m_least_covering) (mCons (mTup (mCons (mC (.int 12)) (mCons (mC (.int 12)) mNil))) (mCons (mVar 4) (mCons (mTup (mCons (mC (.int 1)) (mCons (mC (.int 12)) mNil))) mNil)))) (mTup (mCons (mC (.int 0)) (mCons (mC (.int 7)) (mCons (mC (.int 0)) mNil))))))) (mRet (mC (.bl false))) mNext)
def S_u_law_outright_8 : MS :=
  (mIfS (mTE (mOp (fEq true) (mCall (pureC m_free_places) (mCons (mTup (mCons (mC (.int 3)) (mCons (mC (.int 2)) mNil))) (mCons (mLst true (mCons (mTup (mCons (mC (.int 1)) (mCons (mC (.int 0)) (mCons (mC (.int 1)) (mCons (mC (.int 1)) mNil))))) mNil)) (mCons (mTup (mCons (mC (.int 2)) (mCons (mC (.int 1)) mNil))) mNil)))) (mLst true (mCons (mTup (mCons (mC (.int 0)) (mCons (mC (.int 1)) mNil))) (mCons (mTup (mCons (mC (.int 1)) (mCons (mC (.int 1)) mNil))) mNil))))) (mRet (mC (.bl false))) mNext)
def S_u_law_outright_9 : MS :=
  (mIfS (mTE (mOp (fEq true) (mCall (pureC m_least_covering) (mCons (mTup (mCons (mC (.int 2)) (mCons (mC (.int 1)) mNil))) (mCons (mLst true (mCons (mTup (mCons (mC (.int 0)) (mCons (mC (.int 0)) (mCons (mC (.int 2)) (mCons (mC (.int 1)) mNil))))) (mCons (mTup (mCons (mC (.int 0)) (mCons (mC (.int 0)) (mCons (mC (.int 1)) (mCons (mC (.int 1)) mNil))))) mNil))) (mCons (mTup (mCons (mC (.int 1)) (mCons (mC (.int 1)) mNil))) mNil)))) (mTup (mCons (mC (.int 1)) (mCons (mC (.int 1)) (mCons (mC (.int 0)) mNil)))))) (mRet (mC (.bl false))) mNext)
def S_u_law_outright_10 : MS :=
  (mAsg (mOp (fMul false) (mLst true (mCons (mTup (mCons (mC (.int 0)) (mCons (mC (.int 0)) (mCons (mC (.int 12)) (mCons (mC (.int 12)) mNil))))) mNil)) (mC (.int 24))) (gNm 5))
def S_u_law_outright_11 : MS :=
  (mIfS (mOrT (mTE (mOp (fEq true) (mCall (pureC m_least_covering) (mCons (mTup (mCons (mC (.int 12)) (mCons (mC (.int 12)) mNil))) (mCons (mVar 5) (mCons (mTup (mCons (mC (.int 3)) (mCons (mC (.int 4)) mNil))) mNil)))) (mTup (mCons (mC (.int 24)) (mCons (mC (.int 0)) (mCons (mC (.int 0)) mNil)))))) (mTE (mOp (fEq true) (mCall (pureC m_free_places) (mCons (mTup (mCons (mC (.int 12)) (mCons (mC (.int 12)) mNil))) (mCons (mVar 5) (mCons (mTup (mCons (mC (.int 1)) (mCons (mC (.int 1)) mNil))) mNil)))) (mLst true mNil)))) (mRet (mC (.bl false))) mNext)
def S_u_law_outright_12 : MS :=
  (mDrop (mMt0 fClear (mVar 5)))
def S_u_law_outright_13 : MS :=
  (mDrop (mMt fAppend (mVar 5) (mCons (mTup (mCons (mC (.int 0)) (mCons (mC (.int 0)) (mCons (mC (.int 12)) (mCons (mC (.int 11)) mNil))))) mNil)))
def S_u_law_outright_14 : MS :=
  (mIfS (mOrT (mTE (mOp (fEq true) (mCall (pureC m_least_covering) (mCons (mTup (mCons (mC (.int 12)) (mCons (mC (.int 12)) mNil))) (mCons (mVar 5) (mCons (mTup (mCons (mC (.int 3)) (mCons (mC (.int 1)) mNil))) mNil)))) (mTup (mCons (mC (.int 0)) (mCons (mC (.int 0)) (mCons (mC (.int 11)) mNil)))))) (mTE (mOp (fEq true) (mCB gLen (mCons (mCall (pureC m_free_places) (mCons (mTup (mCons (mC (.int 12)) (mCons (mC (.int 12)) mNil))) (mCons (mVar 5) (mCons (mTup (mCons (mC (.int 3)) (mCons (mC (.int 1)) mNil))) mNil)))) mNil)) (mC (.int 10))))) (mRet (mC (.bl false))) mNext)
def S_u_law_outright_15 : MS :=
  (mRet (mOp (fEq false) (mCall (pureC m_free_places) (mCons (mTup (mCons (mC (.int 1)) (mCons (mC (.int 1)) mNil))) (mCons (mLst true mNil) (mCons (mTup (mCons (mC (.int 1)) (mCons (mC (.int 1)) mNil))) mNil)))) (mLst true (mCons (mTup (mCons (mC (.int 0)) (mCons (mC (.int 0)) mNil))) mNil))))
/-- _law_outright: _law_one 0 _law_sizes 1 _law_bars 2 _law_rooms 3 _law_less 4 _law_some 5 _law_size_here 6 _law_at 7 _law_room 8 -/
def b_u_law_outright : MS :=
  (mSeq S_u_law_outright_0
  (mSeq S_u_law_outright_1
  (mSeq S_u_law_outright_2
  (mSeq S_u_law_outright_3
  (mSeq S_u_law_outright_4
  (mSeq S_u_law_outright_5
  (mSeq S_u_law_outright_6
  (mSeq S_u_law_outright_7
  (mSeq S_u_law_outright_8
  (mSeq S_u_law_outright_9
  (mSeq S_u_law_outright_10
  (mSeq S_u_law_outright_11
  (mSeq S_u_law_outright_12
  (mSeq S_u_law_outright_13
  (mSeq S_u_law_outright_14
  S_u_law_outright_15)))))))))))))))
def m_u_law_outright := mFn 9 b_u_law_outright
def W_law_0 : MS :=
  (mSeq (mAsg (mCall (pureL m_free_places_L1) (mCons (mVar 2) (mCons (mVar 7) (mCons (mVar 6) mNil)))) (gNm 11))
  (mSeq (mAsg (mLcU true (mVar 8) [16, 17, 18] (gTp 3 (gsCons (gNm 16) (gsCons (gNm 17) (gsCons (gNm 18) gsNil)))) (mTE (mOp (fEq false) (mVar 16) (mC (.int 0)))) (mTup (mCons (mVar 17) (mCons (mVar 18) mNil)))) (gNm 12))
  (mSeq (mIfS (mOrT (mNotT (mTE (mIsi .list (mVar 11)))) (mTE (mOp (fEq true) (mCB gStr (mCons (mVar 11) mNil)) (mCB gStr (mCons (mVar 12) mNil))))) (mRet (mC (.bl false))) mNext)
  (mSeq (mDrop (mMt fAppend (mVar 11) (mCons (mTup mNil) mNil)))
  (mSeq (mAsg (mOp fIx (mLcU true (mVar 8) [19] (gNm 19) (mTE (mOp (fEq false) (mOp fIx (mVar 19) (mC (.int 0))) (mVar 9))) (mVar 19)) (mC (.int 0))) (gNm 13))
  (mIfS (mOrT (mTE (mOp (fEq true) (mCB gStr (mCons (mCall (pureC m_least_covering) (mCons (mVar 2) (mCons (mVar 7) (mCons (mVar 6) mNil)))) mNil)) (mCB gStr (mCons (mVar 13) mNil)))) (mTE (mOp (fEq true) (mVar 7) (mVar 3)))) (mRet (mC (.bl false))) mNext))))))
def W_law_1 : MS :=
  (mSeq (mPar2 7 8 (mCons (mCB (gList true) (mCons (mVar 3) mNil)) (mCons (mCall (pureC m_u_law_met) (mCons (mVar 2) (mCons (mVar 3) (mCons (mVar 6) mNil)))) mNil)))
  (mSeq (mAsg (mCB gMin (mCons (mLcU true (mVar 8) [16, 17, 18] (gTp 3 (gsCons (gNm 16) (gsCons (gNm 17) (gsCons (gNm 18) gsNil)))) mYes (mVar 16)) mNil)) (gNm 9))
  (mSeq (mFor (mRg (mC (.int 0)) (mC (.int 2))) (gNm 10) W_law_0)
  (mSeq (mAsg (mSl true (mVar 3) (oSome (mC (.int 1))) oNone) (gNm 14))
  (mSeq (mAsg (mCall (pureC m_free_places) (mCons (mVar 2) (mCons (mVar 14) (mCons (mVar 6) mNil)))) (gNm 15))
  (mSeq (mIfS (mNotT (mTE (mCB gAll (mCons (mLcU true (mCall (pureC m_free_places) (mCons (mVar 2) (mCons (mVar 3) (mCons (mVar 6) mNil)))) [20] (gNm 20) mYes (mOp (fIn false) (mVar 20) (mVar 15))) mNil)))) (mRet (mC (.bl false))) mNext)
  (mIfS (mTE (mOp fGt (mOp fIx (mCall (pureC m_least_covering) (mCons (mVar 2) (mCons (mVar 14) (mCons (mVar 6) mNil)))) (mC (.int 0))) (mVar 9))) (mRet (mC (.bl false))) mNext)))))))
def W_law_2 : MS :=
  (mSeq (mAsg (mCall (pureC m_u_law_size) (mCons (mVar 0) (mCons (mVar 1) (mCons (mIf (mTE (mOp (fEq false) (mVar 1) (mC (.int 0)))) (mC (.int 12)) (mC (.int 6))) mNil)))) (gNm 2))
  (mSeq (mAsg (mCall (pureC m_u_law_notices) (mCons (mVar 0) (mCons (mVar 1) (mCons (mVar 2) (mCons (mC (.int 12)) mNil))))) (gNm 3))
  (mSeq (mAsg (mCall (pureC m_u_law_cell_at) (mCons (mVar 0) (mCons (mVar 1) mNil))) (gNm 4))
  (mSeq (mAsg (mTup (mCons (mOp (fAdd true) (mC (.int 1)) (mCall (pureC m_u_law_number) (mCons (mVar 4) (mCons (mOp (fAdd true) (mVar 1) (mC (.int 4))) (mCons (mOp fIx (mVar 2) (mC (.int 0))) mNil))))) (mCons (mOp (fAdd true) (mC (.int 1)) (mCall (pureC m_u_law_number) (mCons (mVar 4) (mCons (mOp (fAdd true) (mVar 1) (mC (.int 5))) (mCons (mOp fIx (mVar 2) (mC (.int 1))) mNil))))) mNil))) (gNm 5))
  (mForU (mTup (mCons (mVar 5) (mCons (mTup (mCons (mC (.int 1)) (mCons (mC (.int 1)) mNil))) (mCons (mVar 2) (mCons (mTup (mCons (mC (.int 1)) (mCons (mOp fIx (mVar 2) (mC (.int 1))) mNil))) mNil))))) (gNm 6) W_law_1)))))
/-- law: _law_script 0 _law_by 1 _law_size_here 2 _law_notices_here 3 _law_cell 4 _law_some 5 _law_room 6 _law_mine 7 _law_due 8 _law_least 9 _law_again 10 _law_found 11 _law_free 12 _law_first 13 _law_more 14 _law_places 15 _law_many 16 _law_left 17 _law_top 18 _law_one 19 _law_place 20 -/
def b_law : MS :=
  (mSeq (mFor (mRg (mC (.int 0)) (mC (.int 2))) (gNm 1) W_law_2)
  (mRet (mCall (pureC m_u_law_outright) mNil)))
def m_law := mFn 21 b_law
end Lw


namespace Lw
open Mc PySem L2
theorem draw_spec (c k m : Int) (hk : 0 ≤ k) (hk2 : k < 100) (hm : 0 < m) (hc : -(10 ^ 200) ≤ c) (hc' : c ≤ 10 ^ 200) : ∃ r, 0 ≤ r ∧ r < m ∧ ∃ g, m_u_law_draw [.d (.int c), .d (.int k), .d (.int m)] [] = some (.d (.int r), g) := by
  unfold m_u_law_draw b_u_law_draw
  have h1 : okMul c 48271 = true := okMul_b hc hc' (by decide) (by decide)
  have h2 : okMul k 69621 = true := okMul_b (by omega) (by omega) (by decide) (by decide)
  have h3 : okMod k 16 = true := rfl
  simp [x_mul, h1, h2, h3]
  obtain ⟨x, e, _, hx⟩ := atI_ex (xs := [CV.d (D.int 1000003), CV.d (D.int 1000033), CV.d (D.int 1000037), CV.d (D.int 1000039),
                                  CV.d (D.int 1000081), CV.d (D.int 1000099), CV.d (D.int 1000117),
                                  CV.d (D.int 1000121), CV.d (D.int 1000133), CV.d (D.int 1000151),
                                  CV.d (D.int 1000159), CV.d (D.int 1000171), CV.d (D.int 1000183),
                                  CV.d (D.int 1000187), CV.d (D.int 1000193), CV.d (D.int 1000199)]) (i := k % 16) (by omega) (by simp; omega)
  have : ∃ p : Int, x = .d (.int p) ∧ 0 < p := by
    simp only [List.mem_cons, List.not_mem_nil, or_false] at hx
    rcases hx with h | h | h | h | h | h | h | h | h | h | h | h | h | h | h | h <;> exact ⟨_, h, by decide⟩
  obtain ⟨p, rfl, hp⟩ := this
  have h4 : okMod (c * 48271 + k * 69621) p = true := okMod_of hp
  have h5 : okMod ((c * 48271 + k * 69621) % p) m = true := okMod_of hm
  simp [x_ixM e, h4, h5]
  exact ⟨Int.emod_nonneg _ (by omega), Int.emod_lt_of_pos _ hm⟩
theorem number_spec (c k m : Int) (hk : 0 ≤ k) (hk2 : k < 1000) (hm : 0 < m) (hm2 : m < 1000000) : ∃ r, 0 ≤ r ∧ r < m ∧ ∃ g, m_u_law_number [.d (.int c), .d (.int k), .d (.int m)] [] = some (.d (.int r), g) := by
  unfold m_u_law_number b_u_law_number
  have p1 : okPow 10 18 = true := rfl
  have p2 : okMod k 5 = true := rfl
  have p3 : okMod k 9 = true := rfl
  have p4 : okMod c 1000811284336359577647248616306026718125307353262274591 = true := rfl
  by_cases h1 : 1000000000000000000 ≤ c
  · obtain ⟨x, e, _, hx⟩ := atI_ex (xs := [CV.d (D.int 1), CV.d (D.int 7), CV.d (D.int 49), CV.d (D.int 343), CV.d (D.int 2401)]) (i := k % 5) (by omega) (by simp; omega)
    have : ∃ p : Int, x = .d (.int p) ∧ 0 < p ∧ p < 10000 := by
      simp only [List.mem_cons, List.not_mem_nil, or_false] at hx
      rcases hx with h | h | h | h | h <;> exact ⟨_, h, by decide⟩
    obtain ⟨p, rfl, hp, hp2⟩ := this
    have h2 : okMul p m = true := okMul_b (by omega) (by omega) (by omega) (by omega)
    have pm : 0 < p * m := Int.mul_pos hp hm
    have h3 : okMod (c - 1000000000000000000) (p * m) = true := okMod_of pm
    have h4 : okDiv ((c - 1000000000000000000) % (p * m)) p = true := by
      unfold okDiv
      have : p.natAbs.log2 < 9000 := by
        have h0 : p.natAbs ≠ 0 := by omega
        exact (Nat.log2_lt h0).mpr (Nat.lt_of_lt_of_le (m := 2 ^ 14) (by omega) (Nat.pow_le_pow_right (by decide) (by decide)))
      simp [hp, this]
    simp [p1, p2, h1, x_ixM e, x_mul, h2, h3, h4]
    refine ⟨?_, ?_⟩
    · exact Int.ediv_nonneg (Int.emod_nonneg _ (by omega)) (by omega)
    · have := Int.emod_lt_of_pos (c - 1000000000000000000) pm
      exact Int.ediv_lt_of_lt_mul hp (by rw [Int.mul_comm m p]; exact this)
  · have small : ∀ c : Int, -(10 ^ 60) ≤ c → c ≤ 10 ^ 60 → ∃ r, 0 ≤ r ∧ (∃ g, m_u_law_draw [.d (.int ((c + 977 * k) * (c + 31 * k + 5))), .d (.int (k % 9 + 1)), .d (.int 999983)] [] = some (.d (.int r), g)) ∧ okMul (c + 977 * k) (c + 31 * k + 5) = true := by
      intro c hc hc'
      have hA : (c + 977 * k).natAbs ≤ 10 ^ 70 := by omega
      have hB : (c + 31 * k + 5).natAbs ≤ 10 ^ 70 := by omega
      have hAB : ((c + 977 * k) * (c + 31 * k + 5)).natAbs ≤ 10 ^ 70 * 10 ^ 70 := by rw [Int.natAbs_mul]; exact Nat.mul_le_mul hA hB
      obtain ⟨r, r0, _, hr⟩ := draw_spec ((c + 977 * k) * (c + 31 * k + 5)) (k % 9 + 1) 999983 (by omega) (by omega) (by decide) (by omega) (by omega)
      exact ⟨r, r0, hr, okMul_b (by omega) (by omega) (by omega) (by omega)⟩
    have m1 : okMul 977 k = true := okMul_b (by decide) (by decide) (by omega) (by omega)
    have m2 : okMul 31 k = true := okMul_b (by decide) (by decide) (by omega) (by omega)
    have fin : ∀ r : Int, okMod r m = true := fun r => okMod_of hm
    by_cases h2 : c < -1000000000000000000
    · obtain ⟨r, r0, hr, ho⟩ := small (c % 1000811284336359577647248616306026718125307353262274591) (by omega) (by omega)
      simp [p1, h1, h2, x_mul, m1, m2, ho, x_pd hr, fin, p3, p4]
      exact ⟨Int.emod_nonneg _ (by omega), Int.emod_lt_of_pos _ (by assumption)⟩
    · obtain ⟨r, r0, hr, ho⟩ := small c (by omega) (by omega)
      simp [p1, h1, h2, x_mul, m1, m2, ho, x_pd hr, fin, p3]
      exact ⟨Int.emod_nonneg _ (by omega), Int.emod_lt_of_pos _ (by assumption)⟩
abbrev Scr (ns : List Int) : CV := .s (.sl (ns.map fun i => .sd (.int i)))
theorem cell_spec (ns : List Int) (k : Int) (hk : 0 ≤ k) : ∃ r, ∃ g, m_u_law_cell_at [Scr ns, .d (.int k)] [] = some (.d (.int r), g) := by
  unfold m_u_law_cell_at b_u_law_cell_at
  by_cases h : k < ns.length
  · have e : atI (List.map (ofS ∘ fun i => Sn.sd (D.int i)) ns) k = some (.d (.int (ns.getD k.toNat 0))) := by
      refine atI_eq hk ?_
      have : k.toNat < ns.length := by omega
      simp [List.getElem?_eq_getElem this, ofS]
    simp [h, x_ixM e]
  · simp [h]
structure Nt where
  l : Int
  t : Int
  w : Int
  h : Int
def nD (n : Nt) : D := .tup [.int n.l, .int n.t, .int n.w, .int n.h]
def szD (w h : Int) : D := .tup [.int w, .int h]
structure Fits (w h : Int) (n : Nt) : Prop where
  l0 : 0 ≤ n.l
  t0 : 0 ≤ n.t
  w0 : 1 ≤ n.w
  h0 : 1 ≤ n.h
  lw : n.l + n.w ≤ w
  th : n.t + n.h ≤ h
theorem size_spec (ns : List Int) (by_ most : Int) (hb : 0 ≤ by_) (hb2 : by_ < 100) (hm : 1 ≤ most) (hm2 : most ≤ 1000) : ∃ w h, 1 ≤ w ∧ w ≤ most ∧ 1 ≤ h ∧ h ≤ most ∧ ∃ g, m_u_law_size [Scr ns, .d (.int by_), .d (.int most)] [] = some (.d (szD w h), g) := by
  obtain ⟨c, hc⟩ := cell_spec ns by_ hb
  obtain ⟨w, w0, w1, hw⟩ := number_spec c (by_ + 1) most (by omega) (by omega) (by omega) (by omega)
  obtain ⟨h, h0, h1, hh⟩ := number_spec c (by_ + 2) most (by omega) (by omega) (by omega) (by omega)
  refine ⟨1 + w, 1 + h, by omega, by omega, by omega, by omega, ?_⟩
  unfold m_u_law_size b_u_law_size
  simp [x_pd hc, x_pd hw, x_pd hh, szD]
theorem notice_spec (c at_ w h : Int) (ha : 0 ≤ at_) (ha2 : at_ < 100) (hw : 1 ≤ w) (hw2 : w ≤ 1000) (hh : 1 ≤ h) (hh2 : h ≤ 1000) : ∃ n, Fits w h n ∧ ∃ g, m_u_law_notice [.d (.int c), .d (.int at_), .d (szD w h)] [] = some (.d (nD n), g) := by
  have turn : ∀ (i s : Int), 0 ≤ i → i ≤ 1 → 1 ≤ s → s ≤ 1000 → ∃ a long many p, 1 ≤ many ∧ 0 ≤ p ∧ p + many ≤ s ∧ 
      (∃ g, m_u_law_number [.d (.int c), .d (.int (at_ + i)), .d (.int 3)] [] = some (.d (.int a), g)) ∧ long = (if a = 0 then s else if 3 < s then 3 else s) ∧
      (∃ g, m_u_law_number [.d (.int c), .d (.int (at_ + 2 * i + 1)), .d (.int long)] [] = some (.d (.int (many - 1)), g)) ∧
      (∃ g, m_u_law_number [.d (.int (c + i)), .d (.int (at_ + i + 3)), .d (.int (s - many + 1))] [] = some (.d (.int p), g)) := by
    intro i s i0 i1 s0 s1
    obtain ⟨a, a0, a1, ea⟩ := number_spec c (at_ + i) 3 (by omega) (by omega) (by omega) (by omega)
    have hl : ∃ long, long = (if a = 0 then s else if 3 < s then 3 else s) ∧ 1 ≤ long ∧ long ≤ s := by
      refine ⟨_, rfl, ?_, ?_⟩ <;> (split <;> (try split) <;> omega)
    obtain ⟨long, el, l0, l1⟩ := hl
    obtain ⟨m, m0, m1, em⟩ := number_spec c (at_ + 2 * i + 1) long (by omega) (by omega) (by omega) (by omega)
    obtain ⟨p, p0, p1, ep⟩ := number_spec (c + i) (at_ + i + 3) (s - (m + 1) + 1) (by omega) (by omega) (by omega) (by omega)
    exact ⟨a, long, m + 1, p, by omega, p0, by omega, ea, el, by simpa using em, ep⟩
  obtain ⟨a, la, ma, pa, q1, q2, q3, ea, el, em, ep⟩ := turn 0 w (by omega) (by omega) hw hw2
  obtain ⟨a', la', ma', pa', q1', q2', q3', ea', el', em', ep'⟩ := turn 1 h (by omega) (by omega) hh hh2
  refine ⟨⟨pa, pa', ma, ma'⟩, ⟨q2, q2', q1, q1', q3, q3'⟩, ?_⟩
  unfold m_u_law_notice b_u_law_notice
  have rg : rgD 0 2 = [0, 1] := rfl
  have g1 : ∀ H : CH, (if a = 0 then some (CV.d (D.int w), H) else some (CV.d (D.int (if 3 < w then 3 else w)), H)) = some (.d (.int la), H) := by intro H; rw [el]; split <;> rfl
  have g2 : ∀ H : CH, (if a' = 0 then some (CV.d (D.int h), H) else some (CV.d (D.int (if 3 < h then 3 else h)), H)) = some (.d (.int la'), H) := by intro H; rw [el']; split <;> rfl
  have m2 : okMul 2 0 = true := rfl
  have m3 : okMul 2 1 = true := rfl
  have k1 : 1 + (ma - 1) = ma := by omega
  have k2 : 1 + (ma' - 1) = ma' := by omega
  simp only [Int.add_zero, Int.mul_zero, Int.mul_one] at ea em ep ea' em' ep'
  have r1 : ∀ h, rgI (.d (.int 0)) (.d (.int 2)) h = some ([.d (.int 0), .d (.int 1)], h) := fun _ => rfl
  simp [W_u_law_notice_0, szD, r1, x_pd ea, x_pd em, x_pd ep, x_pd ea', x_pd em', x_pd ep', g1, g2, x_mul, m2, m3, k1, k2, nD]
theorem notices_spec (ns : List Int) (by_ most w h : Int) (hb : 0 ≤ by_) (hb2 : by_ < 50) (hm : 0 ≤ most) (hm2 : most < 50) (hw : 1 ≤ w) (hw2 : w ≤ 1000) (hh : 1 ≤ h) (hh2 : h ≤ 1000) :
    ∃ nts : List Nt, nts.length ≤ most ∧ (∀ n ∈ nts, Fits w h n) ∧ ∃ g, m_u_law_notices [Scr ns, .d (.int by_), .d (szD w h), .d (.int most)] [] = some (.d (.lst (nts.map nD)), g) := by
  obtain ⟨c, hc⟩ := cell_spec ns by_ hb
  obtain ⟨k, k0, k1, hk⟩ := number_spec c (by_ + 3) (most + 1) (by omega) (by omega) (by omega) (by omega)
  have walk := loop_rg (g := gNm 5) (b := W_u_law_notices_0)
    (fun i c h' => ∃ (nts : List Nt) (z : Option CV), nts.length = i ∧ (∀ n ∈ nts, Fits w h n) ∧ c = [some (Scr ns), some (.d (.int by_)), some (.d (szD w h)), some (.d (.int most)), some (.ref 0), z] ∧ h' = [some (.lst ((nts.map nD).map .d))])
    (lo := 0) (hi := k) (c := [some (Scr ns), some (.d (.int by_)), some (.d (szD w h)), some (.d (.int most)), some (.ref 0), none]) (h := [some (.lst [])]) k0 ⟨[], none, rfl, by simp, rfl, rfl⟩ (by
      rintro i c h' h0 h1 ⟨nts, z, hl, hf, rfl, rfl⟩
      obtain ⟨c1, hc1⟩ := cell_spec ns (by_ + i % 7) (by omega)
      obtain ⟨n, fn, hn⟩ := notice_spec (c1 + 23 * i) i w h h0 (by omega) hw hw2 hh hh2
      have m1 : okMul 23 i = true := okMul_b (by decide) (by decide) (by omega) (by omega)
      have m2 : okMod i 7 = true := rfl
      have hl2 : nts.length < 16777216 := by omega
      refine ⟨_, _, ?_, nts ++ [n], some (.d (.int i)), by simp; omega, ?_, rfl, rfl⟩
      · simp [W_u_law_notices_0, x_pd hc1, x_pd hn, x_mul, m1, m2, hl2]
      · intro x hx
        rcases List.mem_append.mp hx with q | q
        · exact hf x q
        · rw [List.mem_singleton.mp q]; exact fn)
  obtain ⟨c', h', e, nts, z, hl, hf, rfl, rfl⟩ := walk
  have rg : ∀ h, rgI (.d (.int 0)) (.d (.int k)) h = some (((rgD 0 k).map D.int).map .d, h) := fun _ => x_rgI (by omega) (by omega)
  refine ⟨nts, by omega, hf, ?_⟩
  unfold m_u_law_notices b_u_law_notices
  simp [x_pd hc, x_pd hk, rg, e, frzW_d, -List.map_map]
end Lw


namespace Lw
open Mc PySem L2
def cellsL (n : Nt) : List (Int × Int) := (rgD n.t (n.t + n.h)).flatMap fun y => (rgD n.l (n.l + n.w)).map fun x => (x, y)
def cD (p : Int × Int) : D := .tup [.int p.1, .int p.2]
def cov (n : Nt) (x y : Int) : Prop := n.l ≤ x ∧ x < n.l + n.w ∧ n.t ≤ y ∧ y < n.t + n.h
instance (n : Nt) (x y : Int) : Decidable (cov n x y) := by unfold cov; exact inferInstance
theorem mem_cells {n : Nt} {p : Int × Int} : p ∈ cellsL n ↔ cov n p.1 p.2 := by
  unfold cellsL cov
  simp only [List.mem_flatMap, List.mem_map, mem_rgD]
  constructor
  · rintro ⟨y, hy, x, hx, rfl⟩; exact ⟨hx.1, hx.2, hy.1, hy.2⟩
  · intro h; exact ⟨p.2, ⟨h.2.2.1, h.2.2.2⟩, p.1, ⟨h.1, h.2.1⟩, rfl⟩
theorem flat_len {α β : Type} {g : α → List β} {k : Nat} : ∀ (l : List α), (∀ x ∈ l, (g x).length = k) → (l.flatMap g).length = l.length * k
  | [], _ => by simp
  | a :: l, h => by
    rw [List.flatMap_cons, List.length_append, h a (by simp), flat_len l fun x hx => h x (by simp [hx]), List.length_cons, Nat.add_mul, Nat.one_mul, Nat.add_comm]
end Lw


namespace Lw
open Mc PySem L2
theorem whole_spec (i : Int) : ∃ g, m_is_whole [.d (.int i)] [] = some (.d (.bl true), g) := ⟨[], rfl⟩
theorem between_spec (i a b : Int) : ∃ g, m_is_between [.d (.int i), .d (.int a), .d (.int b)] [] = some (.d (.bl (decide (a ≤ i) && decide (i ≤ b))), g) := by
  unfold m_is_between b_is_between
  simp [x_pd (whole_spec i)]
  by_cases q : a ≤ i <;> simp [q]
section
variable {w h : Int}
theorem size_ok (w0 : 1 ≤ w) (w1 : w ≤ 12) (h0 : 1 ≤ h) (h1 : h ≤ 12) : ∃ g, m_check_size [.d (szD w h)] [] = some (.d .non, g) := by
  have e1 := between_spec w 1 12
  have e2 := between_spec h 1 12
  have e : ∃ g, m_is_size [.d (szD w h)] [] = some (.d (.bl true), g) := by
    unfold m_is_size b_is_size
    simp [szD, tyN, isT, x_pd e1, x_pd e2, w0, w1, h0, h1]
  unfold m_check_size b_check_size
  simp [x_pd e]
theorem notice_ok {n : Nt} (fn : Fits w h n) : ∃ g, m_is_notice [.d (szD w h), .d (nD n)] [] = some (.d (.bl true), g) := by
  obtain ⟨l0, t0, w0, h0, lw, th⟩ := fn
  have e : ∀ c : Sl, c.length = 7 → ∀ H : CH, cloop (gNm 6) mYes (mCall (pureC m_is_whole) (mCons (mVar 6) mNil)) c [.d (.int n.l), .d (.int n.t), .d (.int n.w), .d (.int n.h)] H = some ([true, true, true, true].map (fun b => CV.d (.bl b)), H) := by
    intro c hc H
    match c, hc with
    | [a, b, c, d, e, f, g], _ =>
      simp [cloop_cons, cloop, x_pd (whole_spec n.l), x_pd (whole_spec n.t), x_pd (whole_spec n.w), x_pd (whole_spec n.h)]
  have ea : ∀ H, gBs (fun l => l.all id) H [.d (.lst [.bl true, .bl true, .bl true, .bl true])] = some (.d (.bl true), H) := fun _ => rfl
  have q1 : ¬ n.l < 0 := by omega
  have q2 : ¬ n.t < 0 := by omega
  have q3 : ¬ n.w < 1 := by omega
  have q4 : ¬ n.h < 1 := by omega
  unfold m_is_notice b_is_notice
  simp [nD, szD, tyN, isT, e, ea, q1, q2, q3, q4, lw, th]
theorem notices_ok {nts : List Nt} (hl : nts.length ≤ 24) (fn : ∀ n ∈ nts, Fits w h n) : ∃ g, m_check_notices [.d (szD w h), .d (.lst (nts.map nD))] [] = some (.d .non, g) := by
  have e : ∀ H : CH, cloop (gNm 2) mYes (mCall (pureC m_is_notice) (mCons (mVar 0) (mCons (mVar 2) mNil))) [some (.d (szD w h)), some (.d (.lst (nts.map nD))), none] ((nts.map nD).map .d) H = some ((nts.map fun _ => D.bl true).map .d, H) := fun H => cloop_Dm _ _ _ (by
    intro n hn
    simp [x_pd (notice_ok (fn n hn))])
  have l1 : ¬ (24 < nts.length) := by omega
  have l2 : nts.length ≤ 16777216 := by omega
  have l3 : ¬ ((24 : Int) < nts.length) := by omega
  unfold m_check_notices b_check_notices
  simp [tyN, isT, e, l1, l2, l3, x_allT, -List.map_map]
end
end Lw


namespace Lw
open Mc PySem L2
section
variable {w h : Int} {nts : List Nt} {o : List Int}
theorem lies_spec (n : Nt) (x y : Int) : ∃ g, m_u_law_lies [.d (nD n), .d (.int x), .d (.int y)] [] = some (.d (.bl (decide (cov n x y))), g) := by
  have e : decide (cov n x y) = ((decide (n.l ≤ x) && decide (x - n.l < n.w)) && (decide (n.t ≤ y) && decide (y - n.t < n.h))) := by
    rw [Bool.eq_iff_iff]
    simp only [decide_eq_true_eq, Bool.and_eq_true]
    exact ⟨fun q => by unfold cov at q; omega, fun q => by unfold cov; omega⟩
  rw [e]
  unfold m_u_law_lies b_u_law_lies
  simp only [nD]
  by_cases q1 : n.l ≤ x <;> by_cases q2 : x - n.l < n.w <;> by_cases q3 : n.t ≤ y <;> simp [q1, q2, q3]
theorem lcells_spec (hw : w ≤ 1000) (hh : h ≤ 1000) (n : Nt) (fn : Fits w h n) : ∃ g, m_u_law_cells [.d (nD n)] [] = some (.d (.lst ((cellsL n).map cD)), g) := by
  obtain ⟨l0, t0, w0, h0, lw, th⟩ := fn
  have hl2 : (rgD n.l (n.l + n.w)).length ≤ 1000 := by rw [rgD_len]; omega
  have walk := loop_rg (g := gNm 2) (b := W_u_law_cells_0)
    (fun i c h' => ∃ (acc : List (Int × Int)) (z y : Option CV), acc = ((rgD n.t i).flatMap fun y => (rgD n.l (n.l + n.w)).map fun x => (x, y)) ∧ c = [some (.d (nD n)), some (.ref 0), z, y] ∧ h' = [some (.lst ((acc.map cD).map .d))])
    (lo := n.t) (hi := n.t + n.h) (c := [some (.d (nD n)), some (.ref 0), none, none]) (h := [some (.lst [])]) (by omega) ⟨[], none, none, by rw [rgD_nil (Int.le_refl _)]; rfl, rfl, rfl⟩ (by
      rintro i c h' i0 i1 ⟨acc, z, y, ea, rfl, rfl⟩
      have hl : acc.length ≤ 1000000 := by
        rw [ea, flat_len (k := n.w.toNat) _ (by intro x _; simp [rgD_len]; omega), rgD_len]
        have a : (i - n.t).toNat ≤ 1000 := by omega
        have b : n.w.toNat ≤ 1000 := by omega
        exact Nat.le_trans (Nat.mul_le_mul a b) (by decide)
      have l1 : (rgD n.l (n.l + n.w)).length ≤ 16777216 := by omega
      have l2 : acc.length + (rgD n.l (n.l + n.w)).length ≤ 16777216 := by omega
      have rg : ∀ h, rgI (.d (.int n.l)) (.d (.int (n.l + n.w))) h = some (((rgD n.l (n.l + n.w)).map D.int).map .d, h) := fun _ => x_rgI (by omega) (by omega)
      have cl : ∀ h, cloop (gNm 3) mYes (mTup (mCons (mVar 3) (mCons (mVar 2) mNil))) [some (.d (nD n)), some (.ref 0), some (.d (.int i)), none] (((rgD n.l (n.l + n.w)).map D.int).map .d) h = some (((rgD n.l (n.l + n.w)).map fun x => cD (x, i)).map .d, h) := fun h => cloop_Dm _ _ _ (by intro x _; simp [cD])
      refine ⟨_, _, ?_, acc ++ (rgD n.l (n.l + n.w)).map fun x => (x, i), some (.d (.int i)), y, ?_, rfl, rfl⟩
      · simp only [nD] at cl ⊢
        simp [W_u_law_cells_0, rg, cl, l1, l2, -List.map_map]
        rw [List.map_map, List.map_map, List.map_map]; rfl
      · rw [ea, rgD_snoc i0, List.flatMap_append]; simp)
  obtain ⟨c', h', e, acc, z, y, ea, rfl, rfl⟩ := walk
  have rg : ∀ H, rgI (.d (.int n.t)) (.d (.int (n.t + n.h))) H = some (((rgD n.t (n.t + n.h)).map D.int).map .d, H) := fun _ => x_rgI (by omega) (by omega)
  unfold m_u_law_cells b_u_law_cells
  have ea' : acc = cellsL n := ea
  subst ea'
  simp only [nD] at e
  simp [nD, rg, e, frzW_d, -List.map_map]
end
end Lw


namespace Lw
open Mc PySem L2
/-- two notices with a cell in common -/
def mtP (a b : Nt) : Bool := (!decide (b.l + b.w ≤ a.l) && !decide (a.l + a.w ≤ b.l)) && (decide (a.t < b.t + b.h) && decide (b.t < a.t + a.h))
theorem meets_spec (a b : Nt) : ∃ g, m_meets [.d (nD a), .d (nD b)] [] = some (.d (.bl (mtP a b)), g) := by
  unfold m_meets b_meets mtP
  by_cases q1 : b.l + b.w ≤ a.l <;> by_cases q2 : a.l + a.w ≤ b.l <;> by_cases q3 : a.t < b.t + b.h <;> simp [nD, q1, q2, q3]
structure Rm (w h rw rh : Int) : Prop where
  w0 : 1 ≤ rw
  w1 : rw ≤ w
  h0 : 1 ≤ rh
  h1 : rh ≤ h
def cnt (nts : List Nt) (rw rh l t : Int) : Int := ((nts.filter fun a => mtP a ⟨l, t, rw, rh⟩).length : Nat)
def tD (p : Int × Int × Int) : D := .tup [.int p.1, .int p.2.1, .int p.2.2]
def plR (w : Int) (nts : List Nt) (rw rh t : Int) : List (Int × Int × Int) := (rgD 0 (w - rw + 1)).map fun l => (cnt nts rw rh l t, l, t)
def pls (w h : Int) (nts : List Nt) (rw rh : Int) : List (Int × Int × Int) := (rgD 0 (h - rh + 1)).flatMap fun t => plR w nts rw rh t
section
variable {w h rw rh : Int} {nts : List Nt}
theorem room_ok (w1 : w ≤ 12) (h1 : h ≤ 12) (r : Rm w h rw rh) : ∃ g, m_check_room [.d (szD w h), .d (szD rw rh)] [] = some (.d .non, g) := by
  obtain ⟨a, b, c, d⟩ := r
  have e1 := between_spec rw 1 12
  have e2 := between_spec rh 1 12
  have e : ∃ g, m_is_size [.d (szD rw rh)] [] = some (.d (.bl true), g) := by
    have q1 : rw ≤ 12 := by omega
    have q2 : rh ≤ 12 := by omega
    unfold m_is_size b_is_size
    simp [szD, tyN, isT, x_pd e1, x_pd e2, a, c, q1, q2]
  have q3 : ¬ w < rw := by omega
  have q4 : ¬ h < rh := by omega
  unfold m_check_room b_check_room
  simp only [szD] at e ⊢
  simp [x_pd e, q3, q4]
theorem plR_len {t : Int} : (plR w nts rw rh t).length = (w - rw + 1).toNat := by simp [plR, rgD_len]
theorem pls_len (w1 : w ≤ 12) (h1 : h ≤ 12) (r : Rm w h rw rh) : (pls w h nts rw rh).length ≤ 144 := by
  unfold pls
  rw [flat_len (k := (w - rw + 1).toNat) _ (by intro x _; exact plR_len), rgD_len]
  obtain ⟨a, b, c, d⟩ := r
  have p : (h - rh + 1 - 0).toNat ≤ 12 := by omega
  have q : (w - rw + 1).toNat ≤ 12 := by omega
  exact Nat.le_trans (Nat.mul_le_mul p q) (by decide)
theorem filt_loop {α : Type} {emb : α → D} {p : α → Bool} (g : MG) (t : MT) (m : ME) (c : Sl) (H : CH) (l : List α) (st : ∀ a ∈ l, oneC g t m c (.d (emb a)) H = some (if p a = true then some (.d (emb a)) else none, H)) : cloop g t m c ((l.map emb).map .d) H = some (((l.filter p).map emb).map .d, H) := by
  refine (cloop_D emb (fun a => if p a = true then some (emb a) else none) l fun a ha => ?_).trans ?_
  · rw [st a ha]; split <;> rfl
  · congr 3
    clear st
    induction l with
    | nil => rfl
    | cons a l ih =>
      by_cases q : p a = true
      · simp [q, ih]
      · simp [q, ih]
theorem met_row (w1 : w ≤ 12) (h1 : h ≤ 12) (hl : nts.length ≤ 24) (r : Rm w h rw rh) (t : Int) (acc : List (Int × Int × Int)) (ha : acc.length ≤ 1000) (k1 k2 k3 : Option CV) :
    ∃ q1 q2 q3, loop (gNm 5) W_met_by_0 (((rgD 0 (w - rw + 1)).map D.int).map .d) [some (.d (szD w h)), some (.d (.lst (nts.map nD))), some (.d (szD rw rh)), some (.ref 0), some (.d (.int t)), k1, k2, k3] [some (.lst ((acc.map tD).map .d))] =
      some (.nx, [some (.d (szD w h)), some (.d (.lst (nts.map nD))), some (.d (szD rw rh)), some (.ref 0), some (.d (.int t)), q1, q2, q3], [some (.lst (((acc ++ plR w nts rw rh t).map tD).map .d))]) := by
  obtain ⟨a, b, c, d⟩ := r
  obtain ⟨c', h', e, k1, k2, k3, rfl, rfl⟩ := loop_rg (g := gNm 5) (b := W_met_by_0) (fun i c h' => ∃ k1 k2 k3, c = [some (.d (szD w h)), some (.d (.lst (nts.map nD))), some (.d (szD rw rh)), some (.ref 0), some (.d (.int t)), k1, k2, k3] ∧ h' = [some (.lst (((acc ++ (rgD 0 i).map fun l => (cnt nts rw rh l t, l, t)).map tD).map .d))])
    (lo := 0) (hi := w - rw + 1) (c := [some (.d (szD w h)), some (.d (.lst (nts.map nD))), some (.d (szD rw rh)), some (.ref 0), some (.d (.int t)), k1, k2, k3]) (h := [some (.lst ((acc.map tD).map .d))]) (by omega) ⟨_, _, _, rfl, by rw [rgD_nil (Int.le_refl _)]; simp⟩ (by
      rintro l c h' l0 l1 ⟨k1, k2, k3, rfl, rfl⟩
      have cl : ∀ H, cloop (gNm 7) (mTE (mCall (pureC m_meets) (mCons (mVar 7) (mCons (mVar 6) mNil)))) (mVar 7) [some (.d (szD w h)), some (.d (.lst (nts.map nD))), some (.d (szD rw rh)), some (.ref 0), some (.d (.int t)), some (.d (.int l)), some (.d (nD ⟨l, t, rw, rh⟩)), none] ((nts.map nD).map .d) H = some (((nts.filter fun a => mtP a ⟨l, t, rw, rh⟩).map nD).map .d, H) := fun H => filt_loop _ _ _ _ H nts fun a _ => by
        simp [x_pd (meets_spec a ⟨l, t, rw, rh⟩)]
        split <;> rfl
      have l2 : nts.length ≤ 16777216 := by omega
      have ec : ((nts.filter fun a => mtP a ⟨l, t, rw, rh⟩).length : Int) = cnt nts rw rh l t := rfl
      have es : (acc ++ (rgD 0 (l + 1)).map fun l => (cnt nts rw rh l t, l, t)) = (acc ++ (rgD 0 l).map fun l => (cnt nts rw rh l t, l, t)) ++ [(cnt nts rw rh l t, l, t)] := by rw [rgD_snoc l0]; simp
      rw [es]
      have la : (acc ++ (rgD 0 l).map fun l => (cnt nts rw rh l t, l, t)).length < 16777216 := by simp [rgD_len]; omega
      generalize acc ++ (rgD 0 l).map (fun l => (cnt nts rw rh l t, l, t)) = acc2 at *
      refine ⟨_, _, ?_, some (.d (.int l)), some (.d (nD ⟨l, t, rw, rh⟩)), k3, rfl, rfl⟩
      simp only [szD, nD] at cl ⊢
      simp [W_met_by_0, cl, l2, la, ec, tD, -List.map_map])
  exact ⟨k1, k2, k3, e⟩
theorem met_spec (w1 : w ≤ 12) (h1 : h ≤ 12) (hl : nts.length ≤ 24) (r : Rm w h rw rh) : ∃ g, m_met_by [.d (szD w h), .d (.lst (nts.map nD)), .d (szD rw rh)] [] = some (.d (.lst ((pls w h nts rw rh).map tD)), g) := by
  have r' := r
  obtain ⟨a, b, c, d⟩ := r
  have rgw : ∀ H, rgI (.d (.int 0)) (.d (.int (w - rw + 1))) H = some (((rgD 0 (w - rw + 1)).map D.int).map .d, H) := fun _ => x_rgI (by omega) (by omega)
  have rgh : ∀ H, rgI (.d (.int 0)) (.d (.int (h - rh + 1))) H = some (((rgD 0 (h - rh + 1)).map D.int).map .d, H) := fun _ => x_rgI (by omega) (by omega)
  obtain ⟨c', h', e, acc, k0, k1, k2, k3, hacc, rfl, rfl⟩ := loop_rg (g := gNm 4) (b := W_met_by_1) (fun i c h' => ∃ (acc : List (Int × Int × Int)) (k0 k1 k2 k3 : Option CV), acc = ((rgD 0 i).flatMap fun t => plR w nts rw rh t) ∧ c = [some (.d (szD w h)), some (.d (.lst (nts.map nD))), some (.d (szD rw rh)), some (.ref 0), k0, k1, k2, k3] ∧ h' = [some (.lst ((acc.map tD).map .d))])
    (lo := 0) (hi := h - rh + 1) (c := [some (.d (szD w h)), some (.d (.lst (nts.map nD))), some (.d (szD rw rh)), some (.ref 0), none, none, none, none]) (h := [some (.lst [])]) (by omega) ⟨[], _, _, _, _, by rw [rgD_nil (Int.le_refl _)]; rfl, rfl, rfl⟩ (by
      rintro t c h' t0 t1 ⟨acc, k0, k1, k2, k3, ea, rfl, rfl⟩
      have hacc : acc.length ≤ 1000 := by
        rw [ea, flat_len (k := (w - rw + 1).toNat) _ (by intro x _; exact plR_len), rgD_len]
        have p : (t - 0).toNat ≤ 12 := by omega
        have q : (w - rw + 1).toNat ≤ 12 := by omega
        exact Nat.le_trans (Nat.mul_le_mul p q) (by decide)
      obtain ⟨q1, q2, q3, e⟩ := met_row w1 h1 hl r' t acc hacc k1 k2 k3
      refine ⟨_, _, ?_, acc ++ plR w nts rw rh t, some (.d (.int t)), q1, q2, q3, ?_, rfl, rfl⟩
      · simp only [szD] at e ⊢
        simp [W_met_by_1, rgw, e, -List.map_map]
      · rw [ea, rgD_snoc t0, List.flatMap_append]; simp)
  have ha : acc = pls w h nts rw rh := hacc
  subst ha
  unfold m_met_by b_met_by
  simp only [szD] at e ⊢
  simp [rgh, e, frzW_d, -List.map_map]
end
end Lw


namespace Lw
open Mc PySem L2
theorem mt_cells {a r : Nt} (aw : 1 ≤ a.w) (ah : 1 ≤ a.h) (rw : 1 ≤ r.w) (rh : 1 ≤ r.h) : ((cellsL r).any fun p => decide (cov a p.1 p.2)) = mtP a r := by
  rw [Bool.eq_iff_iff, List.any_eq_true]
  unfold mtP
  simp only [Bool.and_eq_true, Bool.not_eq_true', decide_eq_true_eq, decide_eq_false_iff_not]
  constructor
  · rintro ⟨p, hp, hc⟩
    have hp := mem_cells.mp hp
    unfold cov at hp hc
    omega
  · intro q
    refine ⟨(if a.l ≤ r.l then r.l else a.l, if a.t ≤ r.t then r.t else a.t), mem_cells.mpr ?_, ?_⟩ <;> (unfold cov; dsimp only; split <;> split <;> omega)
section
variable {w h rw rh : Int} {nts : List Nt}
theorem any_loop {α : Type} {l : List α} {H : CH} {f : α → Bool} : gBs (fun l => l.any id) H [.d (.lst (l.map fun a => D.bl (f a)))] = some (.d (.bl (l.any f)), H) := by
  have e : (l.map fun a => D.bl (f a)) = (l.map f).map D.bl := by rw [List.map_map]; rfl
  rw [e]
  show (allB (((l.map f).map D.bl).map .d)).map _ = _
  rw [allB_map]
  simp [List.any_map]
theorem cells_len {n : Nt} (hw : n.w ≤ 1000) (hh : n.h ≤ 1000) (w0 : 0 ≤ n.w) (h0 : 0 ≤ n.h) : (cellsL n).length ≤ 1000000 := by
  unfold cellsL
  rw [flat_len (k := n.w.toNat) _ (by intro x _; simp [rgD_len]; omega), rgD_len]
  have a : (n.t + n.h - n.t).toNat ≤ 1000 := by omega
  have b : n.w.toNat ≤ 1000 := by omega
  exact Nat.le_trans (Nat.mul_le_mul a b) (by decide)
theorem lmet_row (w1 : w ≤ 12) (h1 : h ≤ 12) (hl : nts.length ≤ 24) (fn : ∀ n ∈ nts, Fits w h n) (r : Rm w h rw rh) (t : Int) (t0 : 0 ≤ t) (t1 : t + rh ≤ h) (acc : List (Int × Int × Int)) (ha : acc.length ≤ 1000) (k1 k2 k3 k4 k5 k6 : Option CV) :
    ∃ q1 q2 q3 q4 q5 q6, loop (gNm 5) W_u_law_met_0 (((rgD 0 (w - rw + 1)).map D.int).map .d) [some (.d (szD w h)), some (.d (.lst (nts.map nD))), some (.d (szD rw rh)), some (.ref 0), some (.d (.int t)), k1, k2, k3, k4, k5, k6] [some (.lst ((acc.map tD).map .d))] =
      some (.nx, [some (.d (szD w h)), some (.d (.lst (nts.map nD))), some (.d (szD rw rh)), some (.ref 0), some (.d (.int t)), q1, q2, q3, q4, q5, q6], [some (.lst (((acc ++ plR w nts rw rh t).map tD).map .d))]) := by
  obtain ⟨a, b, c, d⟩ := r
  obtain ⟨c', h', e, k1, k2, k3, k4, k5, k6, rfl, rfl⟩ := loop_rg (g := gNm 5) (b := W_u_law_met_0) (fun i c h' => ∃ k1 k2 k3 k4 k5 k6, c = [some (.d (szD w h)), some (.d (.lst (nts.map nD))), some (.d (szD rw rh)), some (.ref 0), some (.d (.int t)), k1, k2, k3, k4, k5, k6] ∧ h' = [some (.lst (((acc ++ (rgD 0 i).map fun l => (cnt nts rw rh l t, l, t)).map tD).map .d))])
    (lo := 0) (hi := w - rw + 1) (c := [some (.d (szD w h)), some (.d (.lst (nts.map nD))), some (.d (szD rw rh)), some (.ref 0), some (.d (.int t)), k1, k2, k3, k4, k5, k6]) (h := [some (.lst ((acc.map tD).map .d))]) (by omega) ⟨_, _, _, _, _, _, rfl, by rw [rgD_nil (Int.le_refl _)]; simp⟩ (by
      rintro l c h' l0 l1 ⟨k1, k2, k3, k4, k5, k6, rfl, rfl⟩
      have hc := x_pd (lcells_spec (w := w) (h := h) (by omega) (by omega) ⟨l, t, rw, rh⟩ ⟨l0, t0, a, c, by dsimp only; omega, t1⟩)
      have clen := cells_len (n := ⟨l, t, rw, rh⟩) (by dsimp only; omega) (by dsimp only; omega) (by dsimp only; omega) (by dsimp only; omega)
      have cl2 : (cellsL ⟨l, t, rw, rh⟩).length ≤ 16777216 := by omega
      have inner : ∀ (n : Nt) (x7 x8 : Option CV) (H : CH), cloop (gTp 2 (gsCons (gNm 9) (gsCons (gNm 10) gsNil))) mYes (mCall (pureC m_u_law_lies) (mCons (mVar 8) (mCons (mVar 9) (mCons (mVar 10) mNil)))) [some (.d (szD w h)), some (.d (.lst (nts.map nD))), some (.d (szD rw rh)), some (.ref 0), some (.d (.int t)), some (.d (.int l)), some (.d (.lst ((cellsL ⟨l, t, rw, rh⟩).map cD))), x7, some (.d (nD n)), none, none] (((cellsL ⟨l, t, rw, rh⟩).map cD).map .d) H = some (((cellsL ⟨l, t, rw, rh⟩).map fun p => D.bl (decide (cov n p.1 p.2))).map .d, H) := fun n x7 x8 H => cloop_Dm _ _ _ fun p _ => by
        simp [cD, x_pd (lies_spec n p.1 p.2)]
      have cl : ∀ H, cloop (gNm 8) (mTE (mCB gAny (mCons (mLcU true (mVar 6) [9, 10] (gTp 2 (gsCons (gNm 9) (gsCons (gNm 10) gsNil))) mYes (mCall (pureC m_u_law_lies) (mCons (mVar 8) (mCons (mVar 9) (mCons (mVar 10) mNil))))) mNil))) (mVar 8) [some (.d (szD w h)), some (.d (.lst (nts.map nD))), some (.d (szD rw rh)), some (.ref 0), some (.d (.int t)), some (.d (.int l)), some (.d (.lst ((cellsL ⟨l, t, rw, rh⟩).map cD))), k3, none, k5, k6] ((nts.map nD).map .d) H = some (((nts.filter fun a => mtP a ⟨l, t, rw, rh⟩).map nD).map .d, H) := fun H => filt_loop _ _ _ _ H nts fun n hn => by
        have fm := fn n hn
        have em := mt_cells (a := n) (r := ⟨l, t, rw, rh⟩) fm.w0 fm.h0 a c
        simp [inner n k3 none, cl2, any_loop, em, -List.map_map]
        split <;> rfl
      have l2 : nts.length ≤ 16777216 := by omega
      have ec : ((nts.filter fun a => mtP a ⟨l, t, rw, rh⟩).length : Int) = cnt nts rw rh l t := rfl
      have es : (acc ++ (rgD 0 (l + 1)).map fun l => (cnt nts rw rh l t, l, t)) = (acc ++ (rgD 0 l).map fun l => (cnt nts rw rh l t, l, t)) ++ [(cnt nts rw rh l t, l, t)] := by rw [rgD_snoc l0]; simp
      rw [es]
      have la : (acc ++ (rgD 0 l).map fun l => (cnt nts rw rh l t, l, t)).length < 16777216 := by simp [rgD_len]; omega
      generalize acc ++ (rgD 0 l).map (fun l => (cnt nts rw rh l t, l, t)) = acc2 at *
      refine ⟨_, _, ?_, some (.d (.int l)), some (.d (.lst ((cellsL ⟨l, t, rw, rh⟩).map cD))), some (.d (.lst ((nts.filter fun a => mtP a ⟨l, t, rw, rh⟩).map nD))), k4, k5, k6, rfl, rfl⟩
      clear inner
      generalize cellsL ⟨l, t, rw, rh⟩ = C at *
      generalize hF : (nts.filter fun a => mtP a ⟨l, t, rw, rh⟩) = Fl at *
      simp only [szD, nD] at cl hc ⊢
      simp [W_u_law_met_0, hc, cl, l2, la, ec, tD, -List.map_map])
  exact ⟨k1, k2, k3, k4, k5, k6, e⟩
theorem lmet_spec (w1 : w ≤ 12) (h1 : h ≤ 12) (hl : nts.length ≤ 24) (fn : ∀ n ∈ nts, Fits w h n) (r : Rm w h rw rh) : ∃ g, m_u_law_met [.d (szD w h), .d (.lst (nts.map nD)), .d (szD rw rh)] [] = some (.d (.lst ((pls w h nts rw rh).map tD)), g) := by
  have r' := r
  obtain ⟨a, b, c, d⟩ := r
  have rgw : ∀ H, rgI (.d (.int 0)) (.d (.int (w - rw + 1))) H = some (((rgD 0 (w - rw + 1)).map D.int).map .d, H) := fun _ => x_rgI (by omega) (by omega)
  have rgh : ∀ H, rgI (.d (.int 0)) (.d (.int (h - rh + 1))) H = some (((rgD 0 (h - rh + 1)).map D.int).map .d, H) := fun _ => x_rgI (by omega) (by omega)
  obtain ⟨c', h', e, acc, k0, k1, k2, k3, k4, k5, k6, hacc, rfl, rfl⟩ := loop_rg (g := gNm 4) (b := W_u_law_met_1) (fun i c h' => ∃ (acc : List (Int × Int × Int)) (k0 k1 k2 k3 k4 k5 k6 : Option CV), acc = ((rgD 0 i).flatMap fun t => plR w nts rw rh t) ∧ c = [some (.d (szD w h)), some (.d (.lst (nts.map nD))), some (.d (szD rw rh)), some (.ref 0), k0, k1, k2, k3, k4, k5, k6] ∧ h' = [some (.lst ((acc.map tD).map .d))])
    (lo := 0) (hi := h - rh + 1) (c := [some (.d (szD w h)), some (.d (.lst (nts.map nD))), some (.d (szD rw rh)), some (.ref 0), none, none, none, none, none, none, none]) (h := [some (.lst [])]) (by omega) ⟨[], _, _, _, _, _, _, _, by rw [rgD_nil (Int.le_refl _)]; rfl, rfl, rfl⟩ (by
      rintro t c h' t0 t1 ⟨acc, k0, k1, k2, k3, k4, k5, k6, ea, rfl, rfl⟩
      have hacc : acc.length ≤ 1000 := by
        rw [ea, flat_len (k := (w - rw + 1).toNat) _ (by intro x _; exact plR_len), rgD_len]
        have p : (t - 0).toNat ≤ 12 := by omega
        have q : (w - rw + 1).toNat ≤ 12 := by omega
        exact Nat.le_trans (Nat.mul_le_mul p q) (by decide)
      obtain ⟨q1, q2, q3, q4, q5, q6, e⟩ := lmet_row w1 h1 hl fn r' t t0 (by omega) acc hacc k1 k2 k3 k4 k5 k6
      refine ⟨_, _, ?_, acc ++ plR w nts rw rh t, some (.d (.int t)), q1, q2, q3, q4, q5, q6, ?_, rfl, rfl⟩
      · simp only [szD] at e ⊢
        simp [W_u_law_met_1, rgw, e, -List.map_map]
      · rw [ea, rgD_snoc t0, List.flatMap_append]; simp)
  have ha : acc = pls w h nts rw rh := hacc
  subst ha
  unfold m_u_law_met b_u_law_met
  simp only [szD] at e ⊢
  simp [rgh, e, frzW_d, -List.map_map]
end
end Lw


namespace Lw
open Mc PySem L2
def lD (p : Int × Int × Int) : D := .tup [.int p.2.1, .int p.2.2]
def lv : List (Int × Int × Int) → Int
  | [] => 0
  | p :: r => least p.1 (r.map (·.1))
def fr (L : List (Int × Int × Int)) : Int × Int × Int := ((L.filter fun p => p.1 == lv L).head?).getD (0, 0, 0)
theorem lv_mem {L : List (Int × Int × Int)} (h : L ≠ []) : ∃ p ∈ L, p.1 = lv L := by
  cases L with
  | nil => exact absurd rfl h
  | cons p r =>
    have := least_mem (r.map (·.1)) p.1
    rcases List.mem_cons.mp this with q | q
    · exact ⟨p, by simp, q.symm⟩
    · obtain ⟨x, hx, e⟩ := List.mem_map.mp q
      exact ⟨x, by simp [hx], e⟩
theorem lv_le {L : List (Int × Int × Int)} {p : Int × Int × Int} (h : p ∈ L) : lv L ≤ p.1 := by
  cases L with
  | nil => cases h
  | cons a r =>
    refine least_le (r.map (·.1)) a.1 p.1 ?_
    rcases List.mem_cons.mp h with rfl | q
    · simp
    · exact List.mem_cons_of_mem _ (List.mem_map.mpr ⟨p, q, rfl⟩)
theorem fr_cons {L : List (Int × Int × Int)} (h : L ≠ []) : ∃ r, (L.filter fun p => p.1 == lv L) = fr L :: r ∧ (fr L).1 = lv L ∧ fr L ∈ L := by
  obtain ⟨p, hp, e⟩ := lv_mem h
  have hm : p ∈ L.filter fun p => p.1 == lv L := List.mem_filter.mpr ⟨hp, by simpa using e⟩
  unfold fr
  cases q : L.filter fun p => p.1 == lv L with
  | nil => rw [q] at hm; cases hm
  | cons a r =>
    have : a ∈ L.filter fun p => p.1 == lv L := by rw [q]; simp
    have := List.mem_filter.mp this
    exact ⟨r, rfl, by simpa using this.2, this.1⟩
theorem x_minL {L : List (Int × Int × Int)} {H : CH} (h : L ≠ []) : gMin H [.d (.lst (L.map fun p => D.int p.1))] = some (.d (.int (lv L)), H) := by
  cases L with
  | nil => exact absurd rfl h
  | cons p r =>
    have e : ((p :: r).map fun p => D.int p.1) = (p.1 :: r.map (·.1)).map D.int := by simp
    rw [e]
    show (allI (((p.1 :: r.map (·.1)).map D.int).map .d)).bind _ = _
    rw [allI_map]; rfl
section
variable {w h rw rh : Int} {nts : List Nt}
theorem pls_ne (r : Rm w h rw rh) : pls w h nts rw rh ≠ [] := by
  obtain ⟨a, b, c, d⟩ := r
  intro e
  have : (pls w h nts rw rh).length = 0 := by rw [e]; rfl
  unfold pls at this
  rw [flat_len (k := (w - rw + 1).toNat) _ (by intro x _; exact plR_len), rgD_len] at this
  have p : 1 ≤ (h - rh + 1 - 0).toNat := by omega
  have q : 1 ≤ (w - rw + 1).toNat := by omega
  have := Nat.mul_le_mul p q
  omega
theorem free_loop {c : Sl} (i j k : Nat) (g : MG) (t : MT) (m : ME) (H : CH) (L : List (Int × Int × Int)) (st : ∀ p ∈ L, oneC g t m c (.d (tD p)) H = some (if (p.1 == 0) = true then some (.d (lD p)) else none, H)) : cloop g t m c ((L.map tD).map .d) H = some (((L.filter fun p => p.1 == 0).map lD).map .d, H) := by
  refine (cloop_D tD (fun p => if (p.1 == 0) = true then some (lD p) else none) L fun a ha => ?_).trans ?_
  · rw [st a ha]; split <;> rfl
  · congr 3
    clear st
    induction L with
    | nil => rfl
    | cons a l ih =>
      by_cases q : (a.1 == 0) = true
      · simp only [List.filterMap_cons, List.filter_cons, q, if_true, List.map_cons, ih]
      · have q : (a.1 == 0) = false := by simpa using q
        simp only [List.filterMap_cons, List.filter_cons, q, if_false, ih, Bool.false_eq_true]
theorem free_spec (w0 : 1 ≤ w) (w1 : w ≤ 12) (h0 : 1 ≤ h) (h1 : h ≤ 12) (hl : nts.length ≤ 24) (fn : ∀ n ∈ nts, Fits w h n) (r : Rm w h rw rh) :
    ∃ g, m_free_places [.d (szD w h), .d (.lst (nts.map nD)), .d (szD rw rh)] [] = some (.d (.lst (((pls w h nts rw rh).filter fun p => p.1 == 0).map lD)), g) := by
  have e1 := x_pd (size_ok w0 w1 h0 h1)
  have e2 := x_pd (notices_ok hl fn)
  have e3 := x_pd (room_ok w1 h1 r)
  have e4 := x_pd (met_spec w1 h1 hl r)
  have pl : (pls w h nts rw rh).length ≤ 16777216 := Nat.le_trans (pls_len w1 h1 r) (by decide)
  generalize pls w h nts rw rh = L at *
  have cl : ∀ H, cloop (gTp 3 (gsCons (gNm 3) (gsCons (gNm 4) (gsCons (gNm 5) gsNil)))) (mTE (mOp (fEq false) (mVar 3) (mC (.int 0)))) (mTup (mCons (mVar 4) (mCons (mVar 5) mNil))) [some (.d (szD w h)), some (.d (.lst (nts.map nD))), some (.d (szD rw rh)), none, none, none] ((L.map tD).map .d) H = some (((L.filter fun p => p.1 == 0).map lD).map .d, H) := fun H => free_loop 3 4 5 _ _ _ H L fun p _ => by
    simp [tD, lD]
    split <;> rfl
  unfold m_free_places b_free_places
  simp [e1, e2, e3, e4, pl, cl, -List.map_map]
theorem freeL_spec (w0 : 1 ≤ w) (w1 : w ≤ 12) (h0 : 1 ≤ h) (h1 : h ≤ 12) (hl : nts.length ≤ 24) (fn : ∀ n ∈ nts, Fits w h n) (r : Rm w h rw rh) :
    m_free_places_L1 [.d (szD w h), .d (.lst (nts.map nD)), .d (szD rw rh)] [] = some (.ref 0, [some (.lst ((((pls w h nts rw rh).filter fun p => p.1 == 0).map lD).map .d))]) := by
  have e1 := x_pd (size_ok w0 w1 h0 h1)
  have e2 := x_pd (notices_ok hl fn)
  have e3 := x_pd (room_ok w1 h1 r)
  have e4 := x_pd (met_spec w1 h1 hl r)
  have pl : (pls w h nts rw rh).length ≤ 16777216 := Nat.le_trans (pls_len w1 h1 r) (by decide)
  generalize pls w h nts rw rh = L at *
  have cl : ∀ H, cloop (gTp 3 (gsCons (gNm 3) (gsCons (gNm 4) (gsCons (gNm 5) gsNil)))) (mTE (mOp (fEq false) (mVar 3) (mC (.int 0)))) (mTup (mCons (mVar 4) (mCons (mVar 5) mNil))) [some (.d (szD w h)), some (.d (.lst (nts.map nD))), some (.d (szD rw rh)), none, none, none] ((L.map tD).map .d) H = some (((L.filter fun p => p.1 == 0).map lD).map .d, H) := fun H => free_loop 3 4 5 _ _ _ H L fun p _ => by
    simp [tD, lD]
    split <;> rfl
  unfold m_free_places_L1 b_free_places_L1
  simp [e1, e2, e3, e4, pl, cl, -List.map_map]
theorem freeC (w0 : 1 ≤ w) (w1 : w ≤ 12) (h0 : 1 ≤ h) (h1 : h ≤ 12) (hl : nts.length ≤ 24) (fn : ∀ n ∈ nts, Fits w h n) (r : Rm w h rw rh) (H : CH) :
    pureL m_free_places_L1 [.d (szD w h), .d (.lst (nts.map nD)), .d (szD rw rh)] H = some (.ref H.length, H ++ [some (.lst ((((pls w h nts rw rh).filter fun p => p.1 == 0).map lD).map .d))]) := by
  unfold pureL
  rw [snaps_d, snaps_d, snaps_d, snaps_nil]
  dsimp only [Option.map_some, Option.bind_some]
  rw [freeL_spec w0 w1 h0 h1 hl fn r]
  dsimp only [Option.bind_some]
  have ed : ∀ (xs : List D) (g h : CH), expW (expV 3) (xs.map .d) g h = some (xs.map .d, g, h) := by
    intro xs
    induction xs with
    | nil => intros; rfl
    | cons x xs ihx => intro g h; rw [List.map_cons, expW, expV_d]; dsimp only [Option.bind_some]; rw [ihx]; rfl
  generalize ((pls w h nts rw rh).filter fun p => p.1 == 0).map lD = X
  show (Option.map (fun p : List CV × CH × CH => (CV.ref p.2.2.length, p.2.1, p.2.2 ++ [some (CO.lst p.1)])) (expW (expV 3) (X.map .d) [none] H)).map (fun r => (r.1, r.2.2)) = _
  rw [ed]; rfl
theorem least_spec (w0 : 1 ≤ w) (w1 : w ≤ 12) (h0 : 1 ≤ h) (h1 : h ≤ 12) (hl : nts.length ≤ 24) (fn : ∀ n ∈ nts, Fits w h n) (r : Rm w h rw rh) :
    ∃ g, m_least_covering [.d (szD w h), .d (.lst (nts.map nD)), .d (szD rw rh)] [] = some (.d (tD (fr (pls w h nts rw rh))), g) := by
  have e1 := x_pd (size_ok w0 w1 h0 h1)
  have e2 := x_pd (notices_ok hl fn)
  have e3 := x_pd (room_ok w1 h1 r)
  have e4 := x_pd (met_spec w1 h1 hl r)
  have pl : (pls w h nts rw rh).length ≤ 16777216 := Nat.le_trans (pls_len w1 h1 r) (by decide)
  have ne := pls_ne (nts := nts) r
  generalize pls w h nts rw rh = L at *
  have c1 : ∀ a3 H, cloop (gTp 3 (gsCons (gNm 5) (gsCons (gNm 6) (gsCons (gNm 7) gsNil)))) mYes (mVar 5) [some (.d (szD w h)), some (.d (.lst (nts.map nD))), some (.d (szD rw rh)), a3, none, none, none, none] ((L.map tD).map .d) H = some ((L.map fun p => D.int p.1).map .d, H) := fun a3 H => cloop_Dm _ _ _ fun p _ => by
    simp [tD]
  have c2 : ∀ a3 H, cloop (gTp 3 (gsCons (gNm 5) (gsCons (gNm 6) (gsCons (gNm 7) gsNil)))) (mTE (mOp (fEq false) (mVar 5) (mVar 4))) (mTup (mCons (mVar 5) (mCons (mVar 6) (mCons (mVar 7) mNil)))) [some (.d (szD w h)), some (.d (.lst (nts.map nD))), some (.d (szD rw rh)), a3, some (.d (.int (lv L))), none, none, none] ((L.map tD).map .d) H = some (((L.filter fun p => p.1 == lv L).map tD).map .d, H) := fun a3 H => filt_loop _ _ _ _ H L fun p _ => by
    simp [tD]
    split <;> rfl
  obtain ⟨rest, ef, _, _⟩ := fr_cons ne
  rw [ef] at c2
  generalize fr L = P at *
  have mn := fun H => x_minL (H := H) ne
  unfold m_least_covering b_least_covering
  simp [e1, e2, e3, e4, pl, c1, mn, c2, -List.map_map]
end
end Lw


namespace Lw
open Mc PySem L2
theorem x_strD {H : CH} {x : CV} {d : D} (h1 : (((seqL H x).or (seqT x)).bind fun _ => cont 6 H x) = some d) (h2 : okD 8 d = true) (h3 : shD d = true) (h4 : bkD d ≤ 1048576) : gStr H [x] = some (.d (.txt d), H) := by
  unfold gStr
  dsimp only
  rw [h1]
  dsimp only [Option.bind_some]
  rw [if_pos ⟨by rw [h2, h3]; rfl, h4⟩]
theorem cont_ref {H : CH} {n : Nat} {X : List D} (e : H[n]? = some (some (.lst (X.map .d)))) : cont 6 H (.ref n) = some (.lst X) := by
  have inner : ∀ (xs : List D), (xs.map CV.d).mapM (cont 5 H) = some xs := by
    intro xs
    induction xs with
    | nil => rfl
    | cons x xs ih => rw [List.map_cons, List.mapM_cons, ih]; rfl
  show (match H[n]? with | some (some (.lst xs)) => (xs.mapM (cont 5 H)).map D.lst | _ => none) = _
  rw [e]
  dsimp only
  rw [inner]; rfl
def Sm (p : Int × Int × Int) : Prop := (0 ≤ p.1 ∧ p.1 ≤ 1000) ∧ (0 ≤ p.2.1 ∧ p.2.1 ≤ 1000) ∧ (0 ≤ p.2.2 ∧ p.2.2 ≤ 1000)
section
variable {w h rw rh : Int} {nts : List Nt}
theorem pls_sm (w1 : w ≤ 12) (h1 : h ≤ 12) (hl : nts.length ≤ 24) (r : Rm w h rw rh) : ∀ p ∈ pls w h nts rw rh, Sm p := by
  intro p hp
  obtain ⟨a, b, c, d⟩ := r
  unfold pls at hp
  obtain ⟨t, ht, hp⟩ := List.mem_flatMap.mp hp
  unfold plR at hp
  obtain ⟨l, hl2, rfl⟩ := List.mem_map.mp hp
  have q1 := mem_rgD.mp ht
  have q2 := mem_rgD.mp hl2
  have q3 : (nts.filter fun a => mtP a ⟨l, t, rw, rh⟩).length ≤ 24 := Nat.le_trans (List.length_filter_le _ _) hl
  refine ⟨⟨?_, ?_⟩, ⟨?_, ?_⟩, ⟨?_, ?_⟩⟩ <;> dsimp only [cnt] <;> omega
theorem str_tD {p : Int × Int × Int} (s : Sm p) (H : CH) : gStr H [.d (tD p)] = some (.d (.txt (tD p)), H) := by
  obtain ⟨a, b, c⟩ := s
  refine x_strD rfl ?_ ?_ ?_
  · simp [tD, okD, okDs]
  · simp [tD, shD, shDs]; omega
  · simp [tD, bkD, bkDs]
theorem str_free {L : List (Int × Int × Int)} (s : ∀ p ∈ L, Sm p) (hl : L.length ≤ 1000) {H : CH} {x : CV} (h1 : (((seqL H x).or (seqT x)).bind fun _ => cont 6 H x) = some (.lst (L.map lD))) : gStr H [x] = some (.d (.txt (.lst (L.map lD))), H) := by
  refine x_strD h1 ?_ ?_ ?_
  · rw [okD]
    refine okDs_map fun p _ => ?_
    simp [lD, okD, okDs]
  · rw [shD]
    refine shDs_map fun p hp => ?_
    obtain ⟨a, b, c⟩ := s p hp
    simp [lD, shD, shDs]; omega
  · rw [bkD]
    refine Nat.le_trans (bkDs_map (k := 2) fun p _ => ?_) ?_
    · simp [lD, bkD, bkDs]
    · omega
theorem okD_nts {k : Nat} : okD (k + 2) (.lst (nts.map nD)) = true := by
  rw [okD]
  refine okDs_map fun n _ => ?_
  unfold nD
  simp [okD, okDs]
theorem x_list {xs : List D} {H : CH} : gList true H [.d (.lst xs)] = some (.d (.lst xs), H) := by
  unfold gList
  show mk true H (xs.map .d) = _
  rw [mk_t, allD_map]
theorem again (w0 : 1 ≤ w) (w1 : w ≤ 12) (h0 : 1 ≤ h) (h1 : h ≤ 12) (hl : nts.length ≤ 24) (fn : ∀ n ∈ nts, Fits w h n) (r : Rm w h rw rh) (H : CH) (a0 a1 a4 a5 a10 a11 a12 a13 a14 a15 a16 a17 a18 a19 a20 : Option CV) :
    ∃ x11 x12 x13 H', W_law_0 [a0, a1, some (.d (szD w h)), some (.d (.lst (nts.map nD))), a4, a5, some (.d (szD rw rh)), some (.d (.lst (nts.map nD))), some (.d (.lst ((pls w h nts rw rh).map tD))), some (.d (.int (lv (pls w h nts rw rh)))), a10, a11, a12, a13, a14, a15, a16, a17, a18, a19, a20] H =
      some (.nx, [a0, a1, some (.d (szD w h)), some (.d (.lst (nts.map nD))), a4, a5, some (.d (szD rw rh)), some (.d (.lst (nts.map nD))), some (.d (.lst ((pls w h nts rw rh).map tD))), some (.d (.int (lv (pls w h nts rw rh)))), a10, x11, x12, x13, a14, a15, a16, a17, a18, a19, a20], H') := by
  have e1 := freeC w0 w1 h0 h1 hl fn r H
  have e2 := x_pd (least_spec w0 w1 h0 h1 hl fn r)
  have pl := pls_len (nts := nts) w1 h1 r
  have sm := pls_sm w1 h1 hl r
  have ne := pls_ne (nts := nts) r
  have pl2 : (pls w h nts rw rh).length ≤ 16777216 := by omega
  generalize pls w h nts rw rh = L at *
  have fl : (L.filter fun p => p.1 == 0).length ≤ 1000 := Nat.le_trans (List.length_filter_le _ _) (by omega)
  have fl2 : (L.filter fun p => p.1 == 0).length < 16777216 := by omega
  have sf : ∀ p ∈ (L.filter fun p => p.1 == 0), Sm p := fun p hp => sm p (List.mem_filter.mp hp).1
  have c1 : ∀ a11 a12 a13 H, cloop (gTp 3 (gsCons (gNm 16) (gsCons (gNm 17) (gsCons (gNm 18) gsNil)))) (mTE (mOp (fEq false) (mVar 16) (mC (.int 0)))) (mTup (mCons (mVar 17) (mCons (mVar 18) mNil))) [a0, a1, some (.d (szD w h)), some (.d (.lst (nts.map nD))), a4, a5, some (.d (szD rw rh)), some (.d (.lst (nts.map nD))), some (.d (.lst (L.map tD))), some (.d (.int (lv L))), a10, a11, a12, a13, a14, a15, none, none, none, a19, a20] ((L.map tD).map .d) H = some (((L.filter fun p => p.1 == 0).map lD).map .d, H) := fun a11 a12 a13 H => free_loop 3 4 5 _ _ _ H L fun p _ => by
    simp [tD, lD]
    split <;> rfl
  have c2 : ∀ a11 a12 a13 H, cloop (gNm 19) (mTE (mOp (fEq false) (mOp fIx (mVar 19) (mC (.int 0))) (mVar 9))) (mVar 19) [a0, a1, some (.d (szD w h)), some (.d (.lst (nts.map nD))), a4, a5, some (.d (szD rw rh)), some (.d (.lst (nts.map nD))), some (.d (.lst (L.map tD))), some (.d (.int (lv L))), a10, a11, a12, a13, a14, a15, a16, a17, a18, none, a20] ((L.map tD).map .d) H = some (((L.filter fun p => p.1 == lv L).map tD).map .d, H) := fun a11 a12 a13 H => filt_loop _ _ _ _ H L fun p _ => by
    simp [tD]
    split <;> rfl
  obtain ⟨rest, ef, _, em⟩ := fr_cons ne
  rw [ef] at c2
  have s3 := str_tD (sm _ em)
  have s4 := fun H => x_eqT (h := H) (neg := true) (a := tD (fr L))
  have g1 : (H ++ [some (CO.lst (((L.filter fun p => p.1 == 0).map lD).map .d))])[H.length]? = some (some (.lst (((L.filter fun p => p.1 == 0).map lD).map .d))) := by simp
  have s1 := str_free sf fl (H := H ++ [some (CO.lst (((L.filter fun p => p.1 == 0).map lD).map .d))]) (x := .ref H.length) (by rw [a_r, g1, cont_ref g1]; rfl)
  have s2 := fun H => str_free sf fl (H := H) (x := .d (.lst ((L.filter fun p => p.1 == 0).map lD))) rfl
  have s5 := fun H => x_eqT (h := H) (neg := true) (a := .lst ((L.filter fun p => p.1 == 0).map lD))
  have t1 : tyN (H ++ [some (CO.lst (((L.filter fun p => p.1 == 0).map lD).map .d))]) (.ref H.length) = some .list := by
    unfold tyN
    dsimp only
    rw [g1]
  have s6 := fun H => x_eqDr (h := H) (neg := true) (okD_nts (nts := nts) (k := 6))
  generalize (L.filter fun p => p.1 == 0) = X at *
  generalize fr L = P at *
  clear ef
  generalize H ++ [some (CO.lst ((X.map lD).map .d))] = G at *
  generalize H.length = b at *
  unfold W_law_0
  simp [e1, c1, pl2, t1, isT, s1, s2, s5, g1, fl2, c2, e2, s3, s4, s6, -List.map_map]
end
end Lw


namespace Lw
open Mc PySem L2
section
variable {w h rw rh : Int} {nts : List Nt}
theorem cut_one {xs : List CV} : cut xs (some 1) none = xs.drop 1 := by
  show (xs.drop (min 1 xs.length)).take (xs.length - min 1 xs.length) = _
  cases xs with
  | nil => rfl
  | cons a l => simp
theorem cnt_le {l t : Int} : cnt (nts.drop 1) rw rh l t ≤ cnt nts rw rh l t := by
  unfold cnt
  have : ((nts.drop 1).filter fun a => mtP a ⟨l, t, rw, rh⟩).length ≤ (nts.filter fun a => mtP a ⟨l, t, rw, rh⟩).length := ((List.drop_sublist 1 nts).filter _).length_le
  omega
theorem pls_mem {p : Int × Int × Int} : p ∈ pls w h nts rw rh ↔ (0 ≤ p.2.2 ∧ p.2.2 < h - rh + 1) ∧ (0 ≤ p.2.1 ∧ p.2.1 < w - rw + 1) ∧ p.1 = cnt nts rw rh p.2.1 p.2.2 := by
  unfold pls plR
  rw [List.mem_flatMap]
  constructor
  · rintro ⟨t, ht, hp⟩
    obtain ⟨l, hl, rfl⟩ := List.mem_map.mp hp
    exact ⟨mem_rgD.mp ht, mem_rgD.mp hl, rfl⟩
  · rintro ⟨a, b, c⟩
    refine ⟨p.2.2, mem_rgD.mpr a, List.mem_map.mpr ⟨p.2.1, mem_rgD.mpr b, ?_⟩⟩
    rw [← c]
theorem more_free {p : Int × Int × Int} (hp : p ∈ (pls w h nts rw rh).filter fun p => p.1 == 0) : ∃ q ∈ (pls w h (nts.drop 1) rw rh).filter fun p => p.1 == 0, q.2 = p.2 := by
  obtain ⟨h1, h2⟩ := List.mem_filter.mp hp
  obtain ⟨a, b, c⟩ := pls_mem.mp h1
  have z : p.1 = 0 := by simpa using h2
  refine ⟨(cnt (nts.drop 1) rw rh p.2.1 p.2.2, p.2), List.mem_filter.mpr ⟨pls_mem.mpr ⟨a, b, rfl⟩, ?_⟩, rfl⟩
  have l1 := cnt_le (nts := nts) (rw := rw) (rh := rh) (l := p.2.1) (t := p.2.2)
  have l2 : 0 ≤ cnt (nts.drop 1) rw rh p.2.1 p.2.2 := by unfold cnt; omega
  have : cnt (nts.drop 1) rw rh p.2.1 p.2.2 = 0 := by omega
  show (cnt (nts.drop 1) rw rh p.2.1 p.2.2 == 0) = true
  rw [this]; rfl
theorem more_lv (r : Rm w h rw rh) : lv (pls w h (nts.drop 1) rw rh) ≤ lv (pls w h nts rw rh) := by
  obtain ⟨p, hp, e⟩ := lv_mem (pls_ne (nts := nts) r)
  obtain ⟨a, b, c⟩ := pls_mem.mp hp
  have : (cnt (nts.drop 1) rw rh p.2.1 p.2.2, p.2) ∈ pls w h (nts.drop 1) rw rh := pls_mem.mpr ⟨a, b, rfl⟩
  have l0 := lv_le this
  have l1 := cnt_le (nts := nts) (rw := rw) (rh := rh) (l := p.2.1) (t := p.2.2)
  dsimp only at l0
  omega
theorem in_free {p : Int × Int × Int} : ∀ {Y : List (Int × Int × Int)}, (∃ q ∈ Y, q.2 = p.2) → inD (lD p) (Y.map lD) = some true
  | [], hq => by obtain ⟨q, hq, _⟩ := hq; cases hq
  | y :: Y, hq => by
    have e : eqD (lD y) (lD p) = some (decide (y.2.1 = p.2.1) && decide (y.2.2 = p.2.2)) := by
      by_cases a : y.2.1 = p.2.1 <;> by_cases b : y.2.2 = p.2.2 <;> simp [lD, eqD, eqDs, a, b]
    rw [List.map_cons, inD, e]
    by_cases a : y.2.1 = p.2.1 ∧ y.2.2 = p.2.2
    · simp [a.1, a.2]
    · have : (decide (y.2.1 = p.2.1) && decide (y.2.2 = p.2.2)) = false := by simpa using a
      rw [this]
      obtain ⟨q, hq, e2⟩ := hq
      rcases List.mem_cons.mp hq with z | z
      · exact absurd ⟨by rw [← z, e2], by rw [← z, e2]⟩ a
      · exact in_free ⟨q, z, e2⟩
theorem okL {Y : List (Int × Int × Int)} : okDs 7 (Y.map lD) = true := okDs_map fun p _ => by simp [lD, okD, okDs]
theorem x_in {p : Int × Int × Int} {Y : List (Int × Int × Int)} (hq : ∃ q ∈ Y, q.2 = p.2) (H : CH) : fIn false H (.d (lD p)) (.d (.lst (Y.map lD))) = some (.d (.bl true), H) := by
  show (if (okD 8 (lD p) && okDs 7 (Y.map lD)) = true then (inD (lD p) (Y.map lD)).map fun r => (CV.d (.bl (r != false)), H) else none) = _
  rw [if_pos (by rw [okL]; simp [lD, okD, okDs]), in_free hq]; rfl
theorem room1 (w0 : 1 ≤ w) (w1 : w ≤ 12) (h0 : 1 ≤ h) (h1 : h ≤ 12) (hl : nts.length ≤ 24) (fn : ∀ n ∈ nts, Fits w h n) (r : Rm w h rw rh) (H : CH) (a0 a1 a4 a5 a7 a8 a9 a10 a11 a12 a13 a14 a15 a16 a17 a18 a19 a20 : Option CV) :
    ∃ x7 x8 x9 x10 x11 x12 x13 x14 x15 H', W_law_1 [a0, a1, some (.d (szD w h)), some (.d (.lst (nts.map nD))), a4, a5, some (.d (szD rw rh)), a7, a8, a9, a10, a11, a12, a13, a14, a15, a16, a17, a18, a19, a20] H =
      some (.nx, [a0, a1, some (.d (szD w h)), some (.d (.lst (nts.map nD))), a4, a5, some (.d (szD rw rh)), x7, x8, x9, x10, x11, x12, x13, x14, x15, a16, a17, a18, a19, a20], H') := by
  have e0 := x_pd (lmet_spec w1 h1 hl fn r)
  obtain ⟨y11, y12, y13, H1, e1⟩ := again w0 w1 h0 h1 hl fn r H a0 a1 a4 a5 (some (.d (.int 0))) a11 a12 a13 a14 a15 a16 a17 a18 a19 a20
  obtain ⟨z11, z12, z13, H2, e2⟩ := again w0 w1 h0 h1 hl fn r H1 a0 a1 a4 a5 (some (.d (.int 1))) y11 y12 y13 a14 a15 a16 a17 a18 a19 a20
  have fm : ∀ n ∈ nts.drop 1, Fits w h n := fun n hn => fn n (List.mem_of_mem_drop hn)
  have ml : (nts.drop 1).length ≤ 24 := by simp; omega
  have e3 := x_pd (free_spec w0 w1 h0 h1 ml fm r)
  have e4 := x_pd (free_spec w0 w1 h0 h1 hl fn r)
  have e5 := x_pd (least_spec w0 w1 h0 h1 ml fm r)
  have pl := pls_len (nts := nts) w1 h1 r
  have ne := pls_ne (nts := nts) r
  have pl2 : (pls w h nts rw rh).length ≤ 16777216 := by omega
  have c1 : ∀ a7 a9 a10 a11 H, cloop (gTp 3 (gsCons (gNm 16) (gsCons (gNm 17) (gsCons (gNm 18) gsNil)))) mYes (mVar 16) [a0, a1, some (.d (szD w h)), some (.d (.lst (nts.map nD))), a4, a5, some (.d (szD rw rh)), a7, some (.d (.lst ((pls w h nts rw rh).map tD))), a9, a10, a11, a12, a13, a14, a15, none, none, none, a19, a20] (((pls w h nts rw rh).map tD).map .d) H = some (((pls w h nts rw rh).map fun p => D.int p.1).map .d, H) := fun a7 a9 a10 a11 H => cloop_Dm _ _ _ fun p _ => by
    simp [tD]
  have c2 : ∀ a8 a9 a10 a11 a12 a13 a14 H, cloop (gNm 20) mYes (mOp (fIn false) (mVar 20) (mVar 15)) [a0, a1, some (.d (szD w h)), some (.d (.lst (nts.map nD))), a4, a5, some (.d (szD rw rh)), some (.d (.lst (nts.map nD))), a8, a9, a10, a11, a12, a13, a14, some (.d (.lst (((pls w h (nts.drop 1) rw rh).filter fun p => p.1 == 0).map lD))), a16, a17, a18, a19, none] ((((pls w h nts rw rh).filter fun p => p.1 == 0).map lD).map .d) H = some ((((pls w h nts rw rh).filter fun p => p.1 == 0).map fun _ => D.bl true).map .d, H) := fun a8 a9 a10 a11 a12 a13 a14 H => cloop_Dm _ _ _ fun p hp => by
    simp [x_in (more_free hp), -List.map_map, -List.drop_one]
  have fl : ((pls w h nts rw rh).filter fun p => p.1 == 0).length ≤ 16777216 := Nat.le_trans (List.length_filter_le _ _) pl2
  have mn := fun H => x_minL (H := H) ne
  have q := more_lv (nts := nts) r
  obtain ⟨_, _, ef, _⟩ := fr_cons (pls_ne (nts := nts.drop 1) r)
  have q2 : ¬ (lv (pls w h nts rw rh) < (fr (pls w h (nts.drop 1) rw rh)).1) := by rw [ef]; omega
  have sl : ∀ H, fSl true H (.d (.lst (nts.map nD))) (some 1) none = some (.d (.lst ((nts.drop 1).map nD)), H) := fun H => by
    show mk true H (cut ((nts.map nD).map .d) (some 1) none) = _
    rw [cut_one, ← List.map_drop, ← List.map_drop, mk_t, allD_map]
  have r1 : ∀ h, rgI (.d (.int 0)) (.d (.int 2)) h = some ([.d (.int 0), .d (.int 1)], h) := fun _ => rfl
  unfold W_law_1
  generalize (pls w h (nts.drop 1) rw rh).filter (fun p => p.1 == 0) = X2 at *
  generalize (pls w h nts rw rh).filter (fun p => p.1 == 0) = X1 at *
  generalize fr (pls w h (nts.drop 1) rw rh) = P at *
  generalize pls w h (nts.drop 1) rw rh = L2 at *
  generalize pls w h nts rw rh = L at *
  generalize nts.drop 1 = M at *
  simp [x_list, e0, pl2, c1, mn, r1, e1, e2, sl, e3, e4, fl, c2, x_allT, e5, q2, tD, -List.map_map]
end
end Lw


namespace Lw
open Mc PySem L2
def q_0 : D := .lst [.tup [.int 0, .int 0, .int 1, .int 1]]
def q_1 : D := .tup [.tup [.int 1, .int 1], .tup [.int 2, .int 1], .tup [.int 1, .int 2]]
def q_2 : D := .lst [.tup [.int 0, .int 0, .int 1, .int 12], .tup [.int 1, .int 0, .int 1, .int 12], .tup [.int 2, .int 0, .int 1, .int 12], .tup [.int 3, .int 0, .int 1, .int 12], .tup [.int 4, .int 0, .int 1, .int 12], .tup [.int 5, .int 0, .int 1, .int 12], .tup [.int 6, .int 0, .int 1, .int 12], .tup [.int 7, .int 0, .int 1, .int 12], .tup [.int 8, .int 0, .int 1, .int 12], .tup [.int 9, .int 0, .int 1, .int 12], .tup [.int 10, .int 0, .int 1, .int 12], .tup [.int 11, .int 0, .int 1, .int 12], .tup [.int 0, .int 0, .int 12, .int 1], .tup [.int 0, .int 1, .int 12, .int 1], .tup [.int 0, .int 2, .int 12, .int 1], .tup [.int 0, .int 3, .int 12, .int 1], .tup [.int 0, .int 4, .int 12, .int 1], .tup [.int 0, .int 5, .int 12, .int 1], .tup [.int 0, .int 6, .int 12, .int 1], .tup [.int 0, .int 7, .int 12, .int 1], .tup [.int 0, .int 8, .int 12, .int 1], .tup [.int 0, .int 9, .int 12, .int 1], .tup [.int 0, .int 10, .int 12, .int 1], .tup [.int 0, .int 11, .int 12, .int 1]]
def q_3 : D := .lst [.tup [.int 1, .int 1], .tup [.int 2, .int 2], .tup [.int 1, .int 12], .tup [.int 12, .int 12]]
def q_4 : D := .lst [.tup [.int 0, .int 0, .int 1, .int 12], .tup [.int 1, .int 0, .int 1, .int 12], .tup [.int 2, .int 0, .int 1, .int 12], .tup [.int 3, .int 0, .int 1, .int 12], .tup [.int 4, .int 0, .int 1, .int 12], .tup [.int 5, .int 0, .int 1, .int 12], .tup [.int 6, .int 0, .int 1, .int 12], .tup [.int 8, .int 0, .int 1, .int 12], .tup [.int 9, .int 0, .int 1, .int 12], .tup [.int 10, .int 0, .int 1, .int 12], .tup [.int 11, .int 0, .int 1, .int 12]]
def hA : CH := [some (.lst (List.replicate 24 (.d (.tup [.int 0, .int 0, .int 12, .int 12]))))]
def hB : CH := [some (.lst [])]
def hC : CH := [some (.lst [.d (.tup [.int 0, .int 0, .int 12, .int 11])])]
theorem o08_0 : S_u_law_outright_0 [none, none, none, none, none, none, none, none, none] [] = some (.nx, [some (.d q_0), some (.d q_1), none, none, none, none, none, none, none], []) := isNx_eq (by decide +kernel)
theorem o08_1 : S_u_law_outright_1 [some (.d q_0), some (.d q_1), none, none, none, none, none, none, none] [] = some (.nx, [some (.d q_0), some (.d q_1), none, none, none, none, none, none, none], []) := isNx_eq (by decide +kernel)
theorem o08_2 : S_u_law_outright_2 [some (.d q_0), some (.d q_1), none, none, none, none, none, none, none] [] = some (.nx, [some (.d q_0), some (.d q_1), none, none, none, none, none, none, none], []) := isNx_eq (by decide +kernel)
theorem o08_3 : S_u_law_outright_3 [some (.d q_0), some (.d q_1), none, none, none, none, none, none, none] [] = some (.nx, [some (.d q_0), some (.d q_1), some (.d q_2), none, none, none, none, none, none], []) := isNx_eq (by decide +kernel)
theorem o08_4 : S_u_law_outright_4 [some (.d q_0), some (.d q_1), some (.d q_2), none, none, none, none, none, none] [] = some (.nx, [some (.d q_0), some (.d q_1), some (.d q_2), some (.d q_3), none, none, none, none, none], []) := isNx_eq (by decide +kernel)
def bars08 : List Nt := [⟨0, 0, 1, 12⟩, ⟨1, 0, 1, 12⟩, ⟨2, 0, 1, 12⟩, ⟨3, 0, 1, 12⟩, ⟨4, 0, 1, 12⟩, ⟨5, 0, 1, 12⟩, ⟨6, 0, 1, 12⟩, ⟨7, 0, 1, 12⟩, ⟨8, 0, 1, 12⟩, ⟨9, 0, 1, 12⟩, ⟨10, 0, 1, 12⟩, ⟨11, 0, 1, 12⟩, ⟨0, 0, 12, 1⟩, ⟨0, 1, 12, 1⟩, ⟨0, 2, 12, 1⟩, ⟨0, 3, 12, 1⟩, ⟨0, 4, 12, 1⟩, ⟨0, 5, 12, 1⟩, ⟨0, 6, 12, 1⟩, ⟨0, 7, 12, 1⟩, ⟨0, 8, 12, 1⟩, ⟨0, 9, 12, 1⟩, ⟨0, 10, 12, 1⟩, ⟨0, 11, 12, 1⟩]
theorem bars_q2 : D.lst (bars08.map nD) = q_2 := rfl
theorem bars_fit : ∀ n ∈ bars08, Fits 12 12 n := fun n hn => by
  have : ∀ n ∈ bars08, 0 ≤ n.l ∧ 0 ≤ n.t ∧ 1 ≤ n.w ∧ 1 ≤ n.h ∧ n.l + n.w ≤ 12 ∧ n.t + n.h ≤ 12 := by decide +kernel
  obtain ⟨a, b, c, d, e, f⟩ := this n hn
  exact ⟨a, b, c, d, e, f⟩
theorem lc_0 : ∃ g, m_least_covering [.d (.tup [.int 12, .int 12]), .d q_2, .d (.tup [.int 1, .int 1])] [] = some (.d (.tup [.int 2, .int 0, .int 0]), g) := by
  have s := least_spec (w := 12) (h := 12) (nts := bars08) (rw := 1) (rh := 1) (by decide) (by decide) (by decide) (by decide) (by decide) bars_fit ⟨by decide, by decide, by decide, by decide⟩
  rw [show fr (pls 12 12 bars08 1 1) = (2, 0, 0) by decide +kernel, bars_q2] at s
  exact s
theorem lc_1 : ∃ g, m_least_covering [.d (.tup [.int 12, .int 12]), .d q_2, .d (.tup [.int 2, .int 2])] [] = some (.d (.tup [.int 4, .int 0, .int 0]), g) := by
  have s := least_spec (w := 12) (h := 12) (nts := bars08) (rw := 2) (rh := 2) (by decide) (by decide) (by decide) (by decide) (by decide) bars_fit ⟨by decide, by decide, by decide, by decide⟩
  rw [show fr (pls 12 12 bars08 2 2) = (4, 0, 0) by decide +kernel, bars_q2] at s
  exact s
theorem lc_2 : ∃ g, m_least_covering [.d (.tup [.int 12, .int 12]), .d q_2, .d (.tup [.int 1, .int 12])] [] = some (.d (.tup [.int 13, .int 0, .int 0]), g) := by
  have s := least_spec (w := 12) (h := 12) (nts := bars08) (rw := 1) (rh := 12) (by decide) (by decide) (by decide) (by decide) (by decide) bars_fit ⟨by decide, by decide, by decide, by decide⟩
  rw [show fr (pls 12 12 bars08 1 12) = (13, 0, 0) by decide +kernel, bars_q2] at s
  exact s
theorem lc_3 : ∃ g, m_least_covering [.d (.tup [.int 12, .int 12]), .d q_2, .d (.tup [.int 12, .int 12])] [] = some (.d (.tup [.int 24, .int 0, .int 0]), g) := by
  have s := least_spec (w := 12) (h := 12) (nts := bars08) (rw := 12) (rh := 12) (by decide) (by decide) (by decide) (by decide) (by decide) bars_fit ⟨by decide, by decide, by decide, by decide⟩
  rw [show fr (pls 12 12 bars08 12 12) = (24, 0, 0) by decide +kernel, bars_q2] at s
  exact s
theorem lcs_gen {F : List CV → CH → Option (CV × CH)} {z0 z1 z2 : D} (e0 : F [.d (.tup [.int 12, .int 12]), .d z2, .d (.tup [.int 1, .int 1])] [] = some (.d (.tup [.int 2, .int 0, .int 0]), [])) (e1 : F [.d (.tup [.int 12, .int 12]), .d z2, .d (.tup [.int 2, .int 2])] [] = some (.d (.tup [.int 4, .int 0, .int 0]), [])) (e2 : F [.d (.tup [.int 12, .int 12]), .d z2, .d (.tup [.int 1, .int 12])] [] = some (.d (.tup [.int 13, .int 0, .int 0]), [])) (e3 : F [.d (.tup [.int 12, .int 12]), .d z2, .d (.tup [.int 12, .int 12])] [] = some (.d (.tup [.int 24, .int 0, .int 0]), [])) :
    (mLcU true (mVar 3) [8] (gNm 8) mYes (mCall F (mCons (mTup (mCons (mC (.int 12)) (mCons (mC (.int 12)) mNil))) (mCons (mVar 2) (mCons (mVar 8) mNil))))) [some (.d z0), some (.d z1), some (.d z2), some (.d (.lst [(.tup [.int 1, .int 1]), (.tup [.int 2, .int 2]), (.tup [.int 1, .int 12]), (.tup [.int 12, .int 12])])), none, none, none, none, none] [] = some (.d (.lst [(.tup [.int 2, .int 0, .int 0]), (.tup [.int 4, .int 0, .int 0]), (.tup [.int 13, .int 0, .int 0]), (.tup [.int 24, .int 0, .int 0])]), []) := by
  simp [cloop, e0, e1, e2, e3]
theorem if_gen {Q : ME} {c : Sl} (e : Q c [] = some (.d (.lst [(.tup [.int 2, .int 0, .int 0]), (.tup [.int 4, .int 0, .int 0]), (.tup [.int 13, .int 0, .int 0]), (.tup [.int 24, .int 0, .int 0])]), [])) : (mIfS (mTE (mOp (fEq true) Q (mLst true (mCons (mTup (mCons (mC (.int 2)) (mCons (mC (.int 0)) (mCons (mC (.int 0)) mNil)))) (mCons (mTup (mCons (mC (.int 4)) (mCons (mC (.int 0)) (mCons (mC (.int 0)) mNil)))) (mCons (mTup (mCons (mC (.int 13)) (mCons (mC (.int 0)) (mCons (mC (.int 0)) mNil)))) (mCons (mTup (mCons (mC (.int 24)) (mCons (mC (.int 0)) (mCons (mC (.int 0)) mNil)))) mNil))))))) (mRet (mC (.bl false))) mNext) c [] = some (.nx, c, []) := by
  unfold mIfS mTE mOp
  rw [e]
  rfl
theorem o08_5 : S_u_law_outright_5 [some (.d q_0), some (.d q_1), some (.d q_2), some (.d q_3), none, none, none, none, none] [] = some (.nx, [some (.d q_0), some (.d q_1), some (.d q_2), some (.d q_3), none, none, none, none, none], []) :=
  if_gen (lcs_gen (x_pd lc_0 (fun _ => rfl) []) (x_pd lc_1 (fun _ => rfl) []) (x_pd lc_2 (fun _ => rfl) []) (x_pd lc_3 (fun _ => rfl) []))
theorem o08_6 : S_u_law_outright_6 [some (.d q_0), some (.d q_1), some (.d q_2), some (.d q_3), none, none, none, none, none] [] = some (.nx, [some (.d q_0), some (.d q_1), some (.d q_2), some (.d q_3), some (.d q_4), none, none, none, none], []) := isNx_eq (by decide +kernel)
theorem o08_7 : S_u_law_outright_7 [some (.d q_0), some (.d q_1), some (.d q_2), some (.d q_3), some (.d q_4), none, none, none, none] [] = some (.nx, [some (.d q_0), some (.d q_1), some (.d q_2), some (.d q_3), some (.d q_4), none, none, none, none], []) := isNx_eq (by decide +kernel)
theorem o08_8 : S_u_law_outright_8 [some (.d q_0), some (.d q_1), some (.d q_2), some (.d q_3), some (.d q_4), none, none, none, none] [] = some (.nx, [some (.d q_0), some (.d q_1), some (.d q_2), some (.d q_3), some (.d q_4), none, none, none, none], []) := isNx_eq (by decide +kernel)
theorem o08_9 : S_u_law_outright_9 [some (.d q_0), some (.d q_1), some (.d q_2), some (.d q_3), some (.d q_4), none, none, none, none] [] = some (.nx, [some (.d q_0), some (.d q_1), some (.d q_2), some (.d q_3), some (.d q_4), none, none, none, none], []) := isNx_eq (by decide +kernel)
theorem o08_10 : S_u_law_outright_10 [some (.d q_0), some (.d q_1), some (.d q_2), some (.d q_3), some (.d q_4), none, none, none, none] [] = some (.nx, [some (.d q_0), some (.d q_1), some (.d q_2), some (.d q_3), some (.d q_4), some (.ref 0), none, none, none], hA) := isNx_eq (by decide +kernel)
theorem o08_11 : S_u_law_outright_11 [some (.d q_0), some (.d q_1), some (.d q_2), some (.d q_3), some (.d q_4), some (.ref 0), none, none, none] hA = some (.nx, [some (.d q_0), some (.d q_1), some (.d q_2), some (.d q_3), some (.d q_4), some (.ref 0), none, none, none], hA) := isNx_eq (by decide +kernel)
theorem o08_12 : S_u_law_outright_12 [some (.d q_0), some (.d q_1), some (.d q_2), some (.d q_3), some (.d q_4), some (.ref 0), none, none, none] hA = some (.nx, [some (.d q_0), some (.d q_1), some (.d q_2), some (.d q_3), some (.d q_4), some (.ref 0), none, none, none], hB) := isNx_eq (by decide +kernel)
theorem o08_13 : S_u_law_outright_13 [some (.d q_0), some (.d q_1), some (.d q_2), some (.d q_3), some (.d q_4), some (.ref 0), none, none, none] hB = some (.nx, [some (.d q_0), some (.d q_1), some (.d q_2), some (.d q_3), some (.d q_4), some (.ref 0), none, none, none], hC) := isNx_eq (by decide +kernel)
theorem o08_14 : S_u_law_outright_14 [some (.d q_0), some (.d q_1), some (.d q_2), some (.d q_3), some (.d q_4), some (.ref 0), none, none, none] hC = some (.nx, [some (.d q_0), some (.d q_1), some (.d q_2), some (.d q_3), some (.d q_4), some (.ref 0), none, none, none], hC) := isNx_eq (by decide +kernel)
theorem o08_15 : ∃ c h, S_u_law_outright_15 [some (.d q_0), some (.d q_1), some (.d q_2), some (.d q_3), some (.d q_4), some (.ref 0), none, none, none] hC = some (.rt (.d (.bl true)), c, h) := isRt_eq (by decide +kernel)
theorem outright : ∃ g, m_u_law_outright [] [] = some (.d (.bl true), g) := fn_rt (by
  show ∃ c g, b_u_law_outright [none, none, none, none, none, none, none, none, none] [] = _
  unfold b_u_law_outright
  rw [seq_nx o08_0, seq_nx o08_1, seq_nx o08_2, seq_nx o08_3, seq_nx o08_4, seq_nx o08_5, seq_nx o08_6, seq_nx o08_7, seq_nx o08_8, seq_nx o08_9, seq_nx o08_10, seq_nx o08_11, seq_nx o08_12, seq_nx o08_13, seq_nx o08_14]
  exact o08_15)
end Lw


namespace Lw
open Mc PySem L2
theorem body08 (ns : List Int) (i : Int) (i0 : 0 ≤ i) (i1 : i < 2) (a2 a3 a4 a5 a6 a7 a8 a9 a10 a11 a12 a13 a14 a15 a16 a17 a18 a19 a20 : Option CV) (H : CH) :
    ∃ l : Sl, l.length = 20 ∧ ∃ H', W_law_2 [some (Scr ns), some (.d (.int i)), a2, a3, a4, a5, a6, a7, a8, a9, a10, a11, a12, a13, a14, a15, a16, a17, a18, a19, a20] H =
      some (.nx, some (Scr ns) :: l, H') := by
  obtain ⟨w, h, w0, w1, h0, h1, e1⟩ := size_spec ns i (if i = 0 then 12 else 6) i0 (by omega) (by split <;> omega) (by split <;> omega)
  have w1 : w ≤ 12 := by split at w1 <;> omega
  have h1 : h ≤ 12 := by split at h1 <;> omega
  obtain ⟨nts, hl, fn, e2⟩ := notices_spec ns i 12 w h i0 (by omega) (by decide) (by decide) w0 (by omega) h0 (by omega)
  obtain ⟨c, e3⟩ := cell_spec ns i i0
  obtain ⟨r1, r10, r11, e4⟩ := number_spec c (i + 4) w (by omega) (by omega) (by omega) (by omega)
  obtain ⟨r2, r20, r21, e5⟩ := number_spec c (i + 5) h (by omega) (by omega) (by omega) (by omega)
  have hl : nts.length ≤ 24 := by omega
  have rooms : ∀ p ∈ [(1 + r1, 1 + r2), (1, 1), (w, h), (1, h)], Rm w h p.1 p.2 := by
    intro p hp
    simp only [List.mem_cons, List.not_mem_nil, or_false] at hp
    rcases hp with rfl | rfl | rfl | rfl <;> exact ⟨by dsimp only; omega, by dsimp only; omega, by dsimp only; omega, by dsimp only; omega⟩
  obtain ⟨c5, h5, e6, x6, x7, x8, x9, x10, x11, x12, x13, x14, x15, rfl⟩ := loop_D (g := gNm 6) (b := W_law_1) (fun p : Int × Int => szD p.1 p.2) (fun _ c' _ => ∃ x6 x7 x8 x9 x10 x11 x12 x13 x14 x15, c' = [some (Scr ns), some (.d (.int i)), some (.d (szD w h)), some (.d (.lst (nts.map nD))), some (.d (.int c)), some (.d (szD (1 + r1) (1 + r2))), x6, x7, x8, x9, x10, x11, x12, x13, x14, x15, a16, a17, a18, a19, a20]) [(1 + r1, 1 + r2), (1, 1), (w, h), (1, h)]
    [some (Scr ns), some (.d (.int i)), some (.d (szD w h)), some (.d (.lst (nts.map nD))), some (.d (.int c)), some (.d (szD (1 + r1) (1 + r2))), a6, a7, a8, a9, a10, a11, a12, a13, a14, a15, a16, a17, a18, a19, a20] H ⟨_, _, _, _, _, _, _, _, _, _, rfl⟩ (by
      rintro ⟨rw, rh⟩ _ c' h' hp ⟨x6, x7, x8, x9, x10, x11, x12, x13, x14, x15, rfl⟩
      obtain ⟨y7, y8, y9, y10, y11, y12, y13, y14, y15, H', e⟩ := room1 w0 w1 h0 h1 hl fn (rooms _ hp) h' (some (Scr ns)) (some (.d (.int i))) (some (.d (.int c))) (some (.d (szD (1 + r1) (1 + r2)))) x7 x8 x9 x10 x11 x12 x13 x14 x15 a16 a17 a18 a19 a20
      exact ⟨_, _, e, _, _, _, _, _, _, _, _, _, _, rfl⟩)
  have t1 : ∀ H, (if i = 0 then some (CV.d (.int 12), H) else some (CV.d (.int 6), H)) = (some (.d (.int (if i = 0 then 12 else 6)), H) : Option (CV × CH)) := fun H => by split <;> rfl
  generalize (if i = 0 then (12 : Int) else 6) = most at *
  refine ⟨[some (.d (.int i)), some (.d (szD w h)), some (.d (.lst (nts.map nD))), some (.d (.int c)), some (.d (szD (1 + r1) (1 + r2))), x6, x7, x8, x9, x10, x11, x12, x13, x14, x15, a16, a17, a18, a19, a20], rfl, h5, ?_⟩
  simp only [szD, List.map_cons, List.map_nil] at e1 e2 e4 e5 e6 ⊢
  unfold W_law_2
  simp [t1, x_pd e1, x_pd e2, x_pd e3, x_pd e4, x_pd e5, e6, -List.map_map]
theorem law_holds : ∀ ns : List Int, ns.length ≤ 63 → ∃ h, m_law [.s (.sl (ns.map fun i => .sd (.int i)))] [] = some (.d (.bl true), h) := by
  intro ns _
  have st : ∀ i c H, 0 ≤ i → i < 2 → (∃ l : Sl, l.length = 20 ∧ c = some (Scr ns) :: l) → ∃ c2 h2, one (gNm 1) W_law_2 (.d (.int i)) c H = some (.nx, c2, h2) ∧ ∃ l : Sl, l.length = 20 ∧ c2 = some (Scr ns) :: l := by
    rintro i c H i0 i1 ⟨l, hl, rfl⟩
    match l, hl with
    | [a1, a2, a3, a4, a5, a6, a7, a8, a9, a10, a11, a12, a13, a14, a15, a16, a17, a18, a19, a20], _ =>
      obtain ⟨l, hl, H', e⟩ := body08 ns i i0 i1 a2 a3 a4 a5 a6 a7 a8 a9 a10 a11 a12 a13 a14 a15 a16 a17 a18 a19 a20 H
      exact ⟨_, _, e, l, hl, rfl⟩
  obtain ⟨c', h', e, l, hl, rfl⟩ := loop_rg (g := gNm 1) (b := W_law_2) (fun _ c _ => ∃ l : Sl, l.length = 20 ∧ c = some (Scr ns) :: l) (lo := 0) (hi := 2) (c := some (Scr ns) :: List.replicate 20 none) (h := []) (by decide) ⟨_, rfl, rfl⟩ (fun i c H i0 i1 q => st i c H i0 i1 q)
  have rg : ∀ H, rgI (.d (.int 0)) (.d (.int 2)) H = some (((rgD 0 2).map D.int).map .d, H) := fun _ => x_rgI (by decide) (by decide)
  unfold m_law b_law
  simp only [List.replicate] at e
  simp [rg, e, x_pd outright, -List.map_map]
end Lw


namespace Lw
open PySem PySem.Spec PyProof.Rows L2 Mc
def top (i : Nat) : Stmt := PySem.Challenge.pw_pinboard_k08_whole_places.main.body.getD i (.Pass ⟨0, 0, 0, 0⟩)
abbrev s_is_whole : Stmt := top 8
abbrev N_is_whole : List Str := ["thing"]
abbrev s_is_between : Stmt := top 9
abbrev N_is_between : List Str := ["thing", "least", "most"]
abbrev s_is_size : Stmt := top 10
abbrev N_is_size : List Str := ["thing"]
abbrev s_check_size : Stmt := top 11
abbrev N_check_size : List Str := ["size"]
abbrev s_is_notice : Stmt := top 12
abbrev N_is_notice : List Str := ["size", "thing", "left", "top", "width", "height", "one"]
abbrev s_check_notices : Stmt := top 13
abbrev N_check_notices : List Str := ["size", "notices", "notice"]
abbrev s_meets : Stmt := top 14
abbrev N_meets : List Str := ["one", "other"]
abbrev s_check_room : Stmt := top 16
abbrev N_check_room : List Str := ["size", "room"]
abbrev s_met_by : Stmt := top 17
abbrev N_met_by : List Str := ["size", "notices", "room", "found", "top", "left", "here", "one"]
abbrev s_free_places : Stmt := top 18
abbrev N_free_places : List Str := ["size", "notices", "room", "many", "left", "top"]
abbrev s_least_covering : Stmt := top 19
abbrev N_least_covering : List Str := ["size", "notices", "room", "some", "least", "many", "left", "top"]
abbrev s_u_law_cell_at : Stmt := top 21
abbrev N_u_law_cell_at : List Str := ["_law_script", "_law_k"]
abbrev s_u_law_draw : Stmt := top 22
abbrev N_u_law_draw : List Str := ["_law_cell", "_law_k", "_law_most", "_law_primes"]
abbrev s_u_law_number : Stmt := top 23
abbrev N_u_law_number : List Str := ["_law_cell", "_law_k", "_law_limit", "_law_d"]
abbrev s_u_law_size : Stmt := top 24
abbrev N_u_law_size : List Str := ["_law_script", "_law_by", "_law_most", "_law_cell"]
abbrev s_u_law_notice : Stmt := top 25
abbrev N_u_law_notice : List Str := ["_law_cell", "_law_at", "_law_size_here", "_law_parts", "_law_turn", "_law_long", "_law_many"]
abbrev s_u_law_notices : Stmt := top 26
abbrev N_u_law_notices : List Str := ["_law_script", "_law_by", "_law_size_here", "_law_most", "_law_found", "_law_at"]
abbrev s_u_law_lies : Stmt := top 27
abbrev N_u_law_lies : List Str := ["_law_notice_here", "_law_across", "_law_down"]
abbrev s_u_law_cells : Stmt := top 28
abbrev N_u_law_cells : List Str := ["_law_notice_here", "_law_found", "_law_down", "_law_across"]
abbrev s_u_law_met : Stmt := top 29
abbrev N_u_law_met : List Str := ["_law_size_here", "_law_notices_here", "_law_room", "_law_found", "_law_top", "_law_left", "_law_cells_here", "_law_met_here", "_law_one", "_law_across", "_law_down"]
abbrev s_u_law_outright : Stmt := top 30
abbrev N_u_law_outright : List Str := ["_law_one", "_law_sizes", "_law_bars", "_law_rooms", "_law_less", "_law_some", "_law_size_here", "_law_at", "_law_room"]
abbrev s_law : Stmt := top 31
abbrev N_law : List Str := ["_law_script", "_law_by", "_law_size_here", "_law_notices_here", "_law_cell", "_law_some", "_law_room", "_law_mine", "_law_due", "_law_least", "_law_again", "_law_found", "_law_free", "_law_first", "_law_more", "_law_places", "_law_many", "_law_left", "_law_top", "_law_one", "_law_place"]
/-- what the top has: built-ins by their names, the whole numbers -/
structure Txt (mg : Str → Option Value) : Prop where
  n_all : mg "all" = none
  n_any : mg "any" = none
  n_bool : mg "bool" = none
  n_int : mg "int" = none
  n_isinstance : mg "isinstance" = none
  n_len : mg "len" = none
  n_list : mg "list" = none
  n_min : mg "min" = none
  n_range : mg "range" = none
  n_str : mg "str" = none
  n_tuple : mg "tuple" = none
  c_MOST_SIZE : ∃ t : Tok, mg "MOST_SIZE" = some (.int 12 t)
  c_MOST_NOTICES : ∃ t : Tok, mg "MOST_NOTICES" = some (.int 24 t)
section
variable {P : Program} {w : World} {K : PySem.W.Frag} {mg : Str → Option Value} {base : Heap} {F : Fx}
theorem sc_is_whole : FnScope N_is_whole ["thing"] (defScope s_is_whole) := ⟨rfl, rfl, rfl, by decide +kernel, rfl, by decide +kernel, by decide +kernel⟩
theorem sc_is_between : FnScope N_is_between ["thing", "least", "most"] (defScope s_is_between) := ⟨rfl, rfl, rfl, by decide +kernel, rfl, by decide +kernel, by decide +kernel⟩
theorem sc_is_size : FnScope N_is_size ["thing"] (defScope s_is_size) := ⟨rfl, rfl, rfl, by decide +kernel, rfl, by decide +kernel, by decide +kernel⟩
theorem sc_check_size : FnScope N_check_size ["size"] (defScope s_check_size) := ⟨rfl, rfl, rfl, by decide +kernel, rfl, by decide +kernel, by decide +kernel⟩
theorem sc_is_notice : FnScope N_is_notice ["size", "thing"] (defScope s_is_notice) := ⟨rfl, rfl, rfl, by decide +kernel, rfl, by decide +kernel, by decide +kernel⟩
theorem sc_check_notices : FnScope N_check_notices ["size", "notices"] (defScope s_check_notices) := ⟨rfl, rfl, rfl, by decide +kernel, rfl, by decide +kernel, by decide +kernel⟩
theorem sc_meets : FnScope N_meets ["one", "other"] (defScope s_meets) := ⟨rfl, rfl, rfl, by decide +kernel, rfl, by decide +kernel, by decide +kernel⟩
theorem sc_check_room : FnScope N_check_room ["size", "room"] (defScope s_check_room) := ⟨rfl, rfl, rfl, by decide +kernel, rfl, by decide +kernel, by decide +kernel⟩
theorem sc_met_by : FnScope N_met_by ["size", "notices", "room"] (defScope s_met_by) := ⟨rfl, rfl, rfl, by decide +kernel, rfl, by decide +kernel, by decide +kernel⟩
theorem sc_free_places : FnScope N_free_places ["size", "notices", "room"] (defScope s_free_places) := ⟨rfl, rfl, rfl, by decide +kernel, rfl, by decide +kernel, by decide +kernel⟩
theorem sc_least_covering : FnScope N_least_covering ["size", "notices", "room"] (defScope s_least_covering) := ⟨rfl, rfl, rfl, by decide +kernel, rfl, by decide +kernel, by decide +kernel⟩
theorem sc_u_law_cell_at : FnScope N_u_law_cell_at ["_law_script", "_law_k"] (defScope s_u_law_cell_at) := ⟨rfl, rfl, rfl, by decide +kernel, rfl, by decide +kernel, by decide +kernel⟩
theorem sc_u_law_draw : FnScope N_u_law_draw ["_law_cell", "_law_k", "_law_most"] (defScope s_u_law_draw) := ⟨rfl, rfl, rfl, by decide +kernel, rfl, by decide +kernel, by decide +kernel⟩
theorem sc_u_law_number : FnScope N_u_law_number ["_law_cell", "_law_k", "_law_limit"] (defScope s_u_law_number) := ⟨rfl, rfl, rfl, by decide +kernel, rfl, by decide +kernel, by decide +kernel⟩
theorem sc_u_law_size : FnScope N_u_law_size ["_law_script", "_law_by", "_law_most"] (defScope s_u_law_size) := ⟨rfl, rfl, rfl, by decide +kernel, rfl, by decide +kernel, by decide +kernel⟩
theorem sc_u_law_notice : FnScope N_u_law_notice ["_law_cell", "_law_at", "_law_size_here"] (defScope s_u_law_notice) := ⟨rfl, rfl, rfl, by decide +kernel, rfl, by decide +kernel, by decide +kernel⟩
theorem sc_u_law_notices : FnScope N_u_law_notices ["_law_script", "_law_by", "_law_size_here", "_law_most"] (defScope s_u_law_notices) := ⟨rfl, rfl, rfl, by decide +kernel, rfl, by decide +kernel, by decide +kernel⟩
theorem sc_u_law_lies : FnScope N_u_law_lies ["_law_notice_here", "_law_across", "_law_down"] (defScope s_u_law_lies) := ⟨rfl, rfl, rfl, by decide +kernel, rfl, by decide +kernel, by decide +kernel⟩
theorem sc_u_law_cells : FnScope N_u_law_cells ["_law_notice_here"] (defScope s_u_law_cells) := ⟨rfl, rfl, rfl, by decide +kernel, rfl, by decide +kernel, by decide +kernel⟩
theorem sc_u_law_met : FnScope N_u_law_met ["_law_size_here", "_law_notices_here", "_law_room"] (defScope s_u_law_met) := ⟨rfl, rfl, rfl, by decide +kernel, rfl, by decide +kernel, by decide +kernel⟩
theorem sc_u_law_outright : FnScope N_u_law_outright [] (defScope s_u_law_outright) := ⟨rfl, rfl, rfl, by decide +kernel, rfl, by decide +kernel, by decide +kernel⟩
theorem sc_law : FnScope N_law ["_law_script"] (defScope s_law) := ⟨rfl, rfl, rfl, by decide +kernel, rfl, by decide +kernel, by decide +kernel⟩
set_option maxHeartbeats 4000000 in
theorem ok_is_whole {f : Addr} {fd : FuncData} (hK : F.K = K) (T : Txt mg) (Z : Fun K "is_whole" "is_whole" s_is_whole f fd)  : Fn P w K mg base 1 f fd 1 ["thing"] (spM F 1 m_is_whole) :=
  fn_ok hK Z sc_is_whole rfl fun cdv A outer s H g hr gu =>
  (ss_one (s_ret (e_and (e_isi .int g T.n_isinstance T.n_int (by decide +kernel) (e_var 0)) (e_one (e_not (e_isi .bool g T.n_isinstance T.n_bool (by decide +kernel) (e_var 0)))))))
set_option maxHeartbeats 4000000 in
theorem ok_is_between {f : Addr} {fd : FuncData} (hK : F.K = K) (T : Txt mg) (Z : Fun K "is_between" "is_between" s_is_between f fd) (h_is_whole : Has F P w K mg base "is_whole" 1 1 m_is_whole) : Fn P w K mg base 2 f fd 3 ["thing", "least", "most"] (spM F 3 m_is_between) :=
  fn_ok hK Z sc_is_between rfl fun cdv A outer s H g hr gu =>
  (ss_one (s_ret (e_and (e_has h_is_whole.pure hr (by decide) gu (ar_cons ar_nil) (a_cons (e_var 0) a_nil)) (e_one (e_chain op_le os_le op_le os_le (e_var 1) (e_var 0) (e_var 2))))))
set_option maxHeartbeats 4000000 in
theorem ok_is_size {f : Addr} {fd : FuncData} (hK : F.K = K) (T : Txt mg) (Z : Fun K "is_size" "is_size" s_is_size f fd) (h_is_between : Has F P w K mg base "is_between" 2 3 m_is_between) : Fn P w K mg base 3 f fd 1 ["thing"] (spM F 1 m_is_size) :=
  fn_ok hK Z sc_is_size rfl fun cdv A outer s H g hr gu =>
  (ss_cons (s_if (t_w (w_or (t_not (t_val (e_isi .tuple g T.n_isinstance T.n_tuple (by decide +kernel) (e_var 0)))) (w_or1 (t_ne g (e_len g T.n_len (a_cons (e_var 0) a_nil)) e_int)))) (ss_one (s_ret e_bl)) ss_nil)
  (ss_one (s_ret (e_and (e_has h_is_between.pure hr (by decide) gu (ar_cons (ar_cons (ar_cons ar_nil))) (a_cons (e_ix g (e_var 0) e_int) (a_cons e_int (a_cons (e_const T.c_MOST_SIZE) a_nil)))) (e_one (e_has h_is_between.pure hr (by decide) gu (ar_cons (ar_cons (ar_cons ar_nil))) (a_cons (e_ix g (e_var 0) e_int) (a_cons e_int (a_cons (e_const T.c_MOST_SIZE) a_nil)))))))))
set_option maxHeartbeats 4000000 in
theorem ok_check_size {f : Addr} {fd : FuncData} (hK : F.K = K) (T : Txt mg) (Z : Fun K "check_size" "check_size" s_check_size f fd) (h_is_size : Has F P w K mg base "is_size" 3 1 m_is_size) : Fn P w K mg base 4 f fd 1 ["size"] (spM F 1 m_check_size) :=
  fn_ok hK Z sc_check_size rfl fun cdv A outer s H g hr gu =>
  (ss_one (s_if (t_not (t_val (e_has h_is_size.pure hr (by decide) gu (ar_cons ar_nil) (a_cons (e_var 0) a_nil)))) (ss_one s_stuck) ss_nil))
set_option maxHeartbeats 4000000 in
theorem ok_is_notice {f : Addr} {fd : FuncData} (hK : F.K = K) (T : Txt mg) (Z : Fun K "is_notice" "is_notice" s_is_notice f fd) (h_is_whole : Has F P w K mg base "is_whole" 1 1 m_is_whole) : Fn P w K mg base 2 f fd 2 ["size", "thing"] (spM F 2 m_is_notice) :=
  fn_ok hK Z sc_is_notice rfl fun cdv A outer s H g hr gu =>
  (ss_cons (s_if (t_w (w_or (t_not (t_val (e_isi .tuple g T.n_isinstance T.n_tuple (by decide +kernel) (e_var 1)))) (w_or (t_ne g (e_len g T.n_len (a_cons (e_var 1) a_nil)) e_int) (w_or1 (t_not (t_val (e_all g T.n_all (a_cons (e_lcU true (own := [("one", 6)]) g (e_var 1) (blkOk_by (own := [("one", 6)]) (N := N_is_notice) (by show blkC N_is_notice (defScope s_is_notice) _ _ = true; decide +kernel)) (fun _ _ _ _ _ => (g_name 6 (by decide) g.blk.nd)) (fun _ _ _ _ _ => p_nil) (fun _ _ _ _ _ => (e_has h_is_whole.pure hr (by decide) gu (ar_cons ar_nil) (a_cons (e_var 6) a_nil)))) a_nil)))))))) (ss_one (s_ret e_bl)) ss_nil)
  (ss_cons (s_asg (e_var 1) (g_tup g (gs_cons (g_name 2 trivial g.nd) (gs_cons (g_name 3 trivial g.nd) (gs_cons (g_name 4 trivial g.nd) (gs_cons (g_name 5 trivial g.nd) gs_nil))))))
  (ss_cons (s_if (t_w (w_or (t_lt g (e_var 2) e_int) (w_or (t_lt g (e_var 3) e_int) (w_or (t_lt g (e_var 4) e_int) (w_or1 (t_lt g (e_var 5) e_int)))))) (ss_one (s_ret e_bl)) ss_nil)
  (ss_one (s_ret (e_and (e_le g (e_add true g.hK (e_var 2) (e_var 4)) (e_ix g (e_var 0) e_int)) (e_one (e_le g (e_add true g.hK (e_var 3) (e_var 5)) (e_ix g (e_var 0) e_int)))))))))
set_option maxHeartbeats 4000000 in
theorem ok_check_notices {f : Addr} {fd : FuncData} (hK : F.K = K) (T : Txt mg) (Z : Fun K "check_notices" "check_notices" s_check_notices f fd) (h_is_notice : Has F P w K mg base "is_notice" 2 2 m_is_notice) : Fn P w K mg base 3 f fd 2 ["size", "notices"] (spM F 2 m_check_notices) :=
  fn_ok hK Z sc_check_notices rfl fun cdv A outer s H g hr gu =>
  (ss_cons (s_if (t_w (w_or (t_not (t_val (e_isi .list g T.n_isinstance T.n_list (by decide +kernel) (e_var 1)))) (w_or1 (t_gt g (e_len g T.n_len (a_cons (e_var 1) a_nil)) (e_const T.c_MOST_NOTICES))))) (ss_one s_stuck) ss_nil)
  (ss_one (s_if (t_not (t_val (e_all g T.n_all (a_cons (e_lcU true (own := [("notice", 2)]) g (e_var 1) (blkOk_by (own := [("notice", 2)]) (N := N_check_notices) (by show blkC N_check_notices (defScope s_check_notices) _ _ = true; decide +kernel)) (fun _ _ _ _ _ => (g_name 2 (by decide) g.blk.nd)) (fun _ _ _ _ _ => p_nil) (fun _ _ _ _ _ => (e_has h_is_notice.pure hr (by decide) gu (ar_cons (ar_cons ar_nil)) (a_cons (e_var 0) (a_cons (e_var 2) a_nil))))) a_nil)))) (ss_one s_stuck) ss_nil)))
set_option maxHeartbeats 4000000 in
theorem ok_meets {f : Addr} {fd : FuncData} (hK : F.K = K) (T : Txt mg) (Z : Fun K "meets" "meets" s_meets f fd)  : Fn P w K mg base 1 f fd 2 ["one", "other"] (spM F 2 m_meets) :=
  fn_ok hK Z sc_meets rfl fun cdv A outer s H g hr gu =>
  (ss_cons (s_if (t_w (w_or (t_ge g (e_ix g (e_var 0) e_int) (e_add true g.hK (e_ix g (e_var 1) e_int) (e_ix g (e_var 1) e_int))) (w_or1 (t_ge g (e_ix g (e_var 1) e_int) (e_add true g.hK (e_ix g (e_var 0) e_int) (e_ix g (e_var 0) e_int)))))) (ss_one (s_ret e_bl)) ss_nil)
  (ss_one (s_ret (e_and (e_lt g (e_ix g (e_var 0) e_int) (e_add true g.hK (e_ix g (e_var 1) e_int) (e_ix g (e_var 1) e_int))) (e_one (e_lt g (e_ix g (e_var 1) e_int) (e_add true g.hK (e_ix g (e_var 0) e_int) (e_ix g (e_var 0) e_int))))))))
set_option maxHeartbeats 4000000 in
theorem ok_check_room {f : Addr} {fd : FuncData} (hK : F.K = K) (T : Txt mg) (Z : Fun K "check_room" "check_room" s_check_room f fd) (h_is_size : Has F P w K mg base "is_size" 3 1 m_is_size) : Fn P w K mg base 4 f fd 2 ["size", "room"] (spM F 2 m_check_room) :=
  fn_ok hK Z sc_check_room rfl fun cdv A outer s H g hr gu =>
  (ss_one (s_if (t_w (w_or (t_not (t_val (e_has h_is_size.pure hr (by decide) gu (ar_cons ar_nil) (a_cons (e_var 1) a_nil)))) (w_or (t_gt g (e_ix g (e_var 1) e_int) (e_ix g (e_var 0) e_int)) (w_or1 (t_gt g (e_ix g (e_var 1) e_int) (e_ix g (e_var 0) e_int)))))) (ss_one s_stuck) ss_nil))
set_option maxHeartbeats 4000000 in
theorem ok_met_by {f : Addr} {fd : FuncData} (hK : F.K = K) (T : Txt mg) (Z : Fun K "met_by" "met_by" s_met_by f fd) (h_meets : Has F P w K mg base "meets" 1 2 m_meets) : Fn P w K mg base 2 f fd 3 ["size", "notices", "room"] (spM F 3 m_met_by) :=
  fn_ok hK Z sc_met_by rfl fun cdv A outer s H g hr gu =>
  (ss_cons (s_set 3 g.nd (e_lst false a_nil))
  (ss_cons (s_for g PassesOwn.never (i_rg1 T.n_range (e_add true g.hK (e_sub (e_ix g (e_var 0) e_int) (e_ix g (e_var 2) e_int)) e_int)) (g_name 4 trivial g.nd) (ss_one (s_for g PassesOwn.never (i_rg1 T.n_range (e_add true g.hK (e_sub (e_ix g (e_var 0) e_int) (e_ix g (e_var 2) e_int)) e_int)) (g_name 5 trivial g.nd) (ss_cons (s_set 6 g.nd (e_tup (a_cons (e_var 5) (a_cons (e_var 4) (a_cons (e_ix g (e_var 2) e_int) (a_cons (e_ix g (e_var 2) e_int) a_nil))))))
  (ss_one (s_expr (e_mt g PySem.F.slot_list_append PySem.F.type_list_append mt_append fAppend_ok (e_var 3) (a_cons (e_tup (a_cons (e_len g T.n_len (a_cons (e_lcU true (own := [("one", 7)]) g (e_var 1) (blkOk_by (own := [("one", 7)]) (N := N_met_by) (by show blkC N_met_by (defScope s_met_by) _ _ = true; decide +kernel)) (fun _ _ _ _ _ => (g_name 7 (by decide) g.blk.nd)) (fun _ _ _ _ _ => (p_one (t_val (e_has h_meets.pure hr (by decide) gu (ar_cons (ar_cons ar_nil)) (a_cons (e_var 7) (a_cons (e_var 6) a_nil)))))) (fun _ _ _ _ _ => (e_var 7))) a_nil)) (a_cons (e_var 5) (a_cons (e_var 4) a_nil)))) a_nil))))))))
  (ss_one (s_ret (e_frz (e_var 3))))))
set_option maxHeartbeats 4000000 in
theorem ok_free_places {f : Addr} {fd : FuncData} (hK : F.K = K) (T : Txt mg) (Z : Fun K "free_places" "free_places" s_free_places f fd) (h_check_size : Has F P w K mg base "check_size" 4 1 m_check_size) (h_check_notices : Has F P w K mg base "check_notices" 3 2 m_check_notices) (h_check_room : Has F P w K mg base "check_room" 4 2 m_check_room) (h_met_by : Has F P w K mg base "met_by" 2 3 m_met_by) : Fn P w K mg base 5 f fd 3 ["size", "notices", "room"] (spM F 3 m_free_places) :=
  fn_ok hK Z sc_free_places rfl fun cdv A outer s H g hr gu =>
  (ss_cons (s_expr (e_has h_check_size.pure hr (by decide) gu (ar_cons ar_nil) (a_cons (e_var 0) a_nil)))
  (ss_cons (s_expr (e_has h_check_notices.pure hr (by decide) gu (ar_cons (ar_cons ar_nil)) (a_cons (e_var 0) (a_cons (e_var 1) a_nil))))
  (ss_cons (s_expr (e_has h_check_room.pure hr (by decide) gu (ar_cons (ar_cons ar_nil)) (a_cons (e_var 0) (a_cons (e_var 2) a_nil))))
  (ss_one (s_ret (e_lcU true (own := [("many", 3), ("left", 4), ("top", 5)]) g (e_has h_met_by.pure hr (by decide) gu (ar_cons (ar_cons (ar_cons ar_nil))) (a_cons (e_var 0) (a_cons (e_var 1) (a_cons (e_var 2) a_nil)))) (blkOk_by (own := [("many", 3), ("left", 4), ("top", 5)]) (N := N_free_places) (by show blkC N_free_places (defScope s_free_places) _ _ = true; decide +kernel)) (fun _ _ _ _ _ => (g_tup g.blk (gs_cons (g_name 3 (by decide) g.blk.nd) (gs_cons (g_name 4 (by decide) g.blk.nd) (gs_cons (g_name 5 (by decide) g.blk.nd) gs_nil))))) (fun _ _ _ _ _ => (p_one (t_eq g.blk (e_var 3) e_int))) (fun _ _ _ _ _ => (e_tup (a_cons (e_var 4) (a_cons (e_var 5) a_nil))))))))))
set_option maxHeartbeats 4000000 in
theorem ok_free_places_L1 {f : Addr} {fd : FuncData} (hK : F.K = K) (T : Txt mg) (Z : Fun K "free_places" "free_places" s_free_places f fd) (h_check_size : Has F P w K mg base "check_size" 4 1 m_check_size) (h_check_notices : Has F P w K mg base "check_notices" 3 2 m_check_notices) (h_check_room : Has F P w K mg base "check_room" 4 2 m_check_room) (h_met_by : Has F P w K mg base "met_by" 2 3 m_met_by) : Fn P w K mg base 5 f fd 3 ["size", "notices", "room"] (spM F 3 m_free_places_L1) :=
  fn_ok hK Z sc_free_places rfl fun cdv A outer s H g hr gu =>
  (ss_cons (s_expr (e_has h_check_size.pure hr (by decide) gu (ar_cons ar_nil) (a_cons (e_var 0) a_nil)))
  (ss_cons (s_expr (e_has h_check_notices.pure hr (by decide) gu (ar_cons (ar_cons ar_nil)) (a_cons (e_var 0) (a_cons (e_var 1) a_nil))))
  (ss_cons (s_expr (e_has h_check_room.pure hr (by decide) gu (ar_cons (ar_cons ar_nil)) (a_cons (e_var 0) (a_cons (e_var 2) a_nil))))
  (ss_one (s_ret (e_lcU false (own := [("many", 3), ("left", 4), ("top", 5)]) g (e_has h_met_by.pure hr (by decide) gu (ar_cons (ar_cons (ar_cons ar_nil))) (a_cons (e_var 0) (a_cons (e_var 1) (a_cons (e_var 2) a_nil)))) (blkOk_by (own := [("many", 3), ("left", 4), ("top", 5)]) (N := N_free_places) (by show blkC N_free_places (defScope s_free_places) _ _ = true; decide +kernel)) (fun _ _ _ _ _ => (g_tup g.blk (gs_cons (g_name 3 (by decide) g.blk.nd) (gs_cons (g_name 4 (by decide) g.blk.nd) (gs_cons (g_name 5 (by decide) g.blk.nd) gs_nil))))) (fun _ _ _ _ _ => (p_one (t_eq g.blk (e_var 3) e_int))) (fun _ _ _ _ _ => (e_tup (a_cons (e_var 4) (a_cons (e_var 5) a_nil))))))))))
set_option maxHeartbeats 4000000 in
theorem ok_least_covering {f : Addr} {fd : FuncData} (hK : F.K = K) (T : Txt mg) (Z : Fun K "least_covering" "least_covering" s_least_covering f fd) (h_check_size : Has F P w K mg base "check_size" 4 1 m_check_size) (h_check_notices : Has F P w K mg base "check_notices" 3 2 m_check_notices) (h_check_room : Has F P w K mg base "check_room" 4 2 m_check_room) (h_met_by : Has F P w K mg base "met_by" 2 3 m_met_by) : Fn P w K mg base 5 f fd 3 ["size", "notices", "room"] (spM F 3 m_least_covering) :=
  fn_ok hK Z sc_least_covering rfl fun cdv A outer s H g hr gu =>
  (ss_cons (s_expr (e_has h_check_size.pure hr (by decide) gu (ar_cons ar_nil) (a_cons (e_var 0) a_nil)))
  (ss_cons (s_expr (e_has h_check_notices.pure hr (by decide) gu (ar_cons (ar_cons ar_nil)) (a_cons (e_var 0) (a_cons (e_var 1) a_nil))))
  (ss_cons (s_expr (e_has h_check_room.pure hr (by decide) gu (ar_cons (ar_cons ar_nil)) (a_cons (e_var 0) (a_cons (e_var 2) a_nil))))
  (ss_cons (s_set 3 g.nd (e_has h_met_by.pure hr (by decide) gu (ar_cons (ar_cons (ar_cons ar_nil))) (a_cons (e_var 0) (a_cons (e_var 1) (a_cons (e_var 2) a_nil)))))
  (ss_cons (s_set 4 g.nd (e_min g T.n_min (a_cons (e_lcU true (own := [("many", 5), ("left", 6), ("top", 7)]) g (e_var 3) (blkOk_by (own := [("many", 5), ("left", 6), ("top", 7)]) (N := N_least_covering) (by show blkC N_least_covering (defScope s_least_covering) _ _ = true; decide +kernel)) (fun _ _ _ _ _ => (g_tup g.blk (gs_cons (g_name 5 (by decide) g.blk.nd) (gs_cons (g_name 6 (by decide) g.blk.nd) (gs_cons (g_name 7 (by decide) g.blk.nd) gs_nil))))) (fun _ _ _ _ _ => p_nil) (fun _ _ _ _ _ => (e_var 5))) a_nil)))
  (ss_one (s_ret (e_ix g (e_lcU true (own := [("many", 5), ("left", 6), ("top", 7)]) g (e_var 3) (blkOk_by (own := [("many", 5), ("left", 6), ("top", 7)]) (N := N_least_covering) (by show blkC N_least_covering (defScope s_least_covering) _ _ = true; decide +kernel)) (fun _ _ _ _ _ => (g_tup g.blk (gs_cons (g_name 5 (by decide) g.blk.nd) (gs_cons (g_name 6 (by decide) g.blk.nd) (gs_cons (g_name 7 (by decide) g.blk.nd) gs_nil))))) (fun _ _ _ _ _ => (p_one (t_eq g.blk (e_var 5) (e_var 4)))) (fun _ _ _ _ _ => (e_tup (a_cons (e_var 5) (a_cons (e_var 6) (a_cons (e_var 7) a_nil)))))) e_int))))))))
set_option maxHeartbeats 4000000 in
theorem ok_u_law_cell_at {f : Addr} {fd : FuncData} (hK : F.K = K) (T : Txt mg) (Z : Fun K "_law_cell_at" "_law_cell_at" s_u_law_cell_at f fd)  : Fn P w K mg base 1 f fd 2 ["_law_script", "_law_k"] (spM F 2 m_u_law_cell_at) :=
  fn_ok hK Z sc_u_law_cell_at rfl fun cdv A outer s H g hr gu =>
  (ss_cons (s_if (t_lt g (e_var 1) (e_len g T.n_len (a_cons (e_var 0) a_nil))) (ss_one (s_ret (e_ix g (e_var 0) (e_var 1)))) ss_nil)
  (ss_one (s_ret e_int)))
set_option maxHeartbeats 4000000 in
theorem ok_u_law_draw {f : Addr} {fd : FuncData} (hK : F.K = K) (T : Txt mg) (Z : Fun K "_law_draw" "_law_draw" s_u_law_draw f fd)  : Fn P w K mg base 1 f fd 3 ["_law_cell", "_law_k", "_law_most"] (spM F 3 m_u_law_draw) :=
  fn_ok hK Z sc_u_law_draw rfl fun cdv A outer s H g hr gu =>
  (ss_cons (s_set 3 g.nd (e_tup (a_cons e_int (a_cons e_int (a_cons e_int (a_cons e_int (a_cons e_int (a_cons e_int (a_cons e_int (a_cons e_int (a_cons e_int (a_cons e_int (a_cons e_int (a_cons e_int (a_cons e_int (a_cons e_int (a_cons e_int (a_cons e_int a_nil))))))))))))))))))
  (ss_one (s_ret (e_mod (e_mod (e_add true g.hK (e_mul true (e_var 0) e_int) (e_mul true (e_var 1) e_int)) (e_ix g (e_var 3) (e_mod (e_var 1) e_int))) (e_var 2)))))
set_option maxHeartbeats 4000000 in
theorem ok_u_law_number {f : Addr} {fd : FuncData} (hK : F.K = K) (T : Txt mg) (Z : Fun K "_law_number" "_law_number" s_u_law_number f fd) (h_u_law_draw : Has F P w K mg base "_law_draw" 1 3 m_u_law_draw) : Fn P w K mg base 2 f fd 3 ["_law_cell", "_law_k", "_law_limit"] (spM F 3 m_u_law_number) :=
  fn_ok hK Z sc_u_law_number rfl fun cdv A outer s H g hr gu =>
  (ss_cons (s_if (t_ge g (e_var 0) (e_pow e_int e_int)) (ss_cons (s_set 3 g.nd (e_ix g (e_tup (a_cons e_int (a_cons e_int (a_cons e_int (a_cons e_int (a_cons e_int a_nil)))))) (e_mod (e_var 1) e_int)))
  (ss_one (s_ret (e_fdiv (e_mod (e_sub (e_var 0) (e_pow e_int e_int)) (e_mul true (e_var 3) (e_var 2))) (e_var 3))))) ss_nil)
  (ss_cons (s_if (t_lt g (e_var 0) (e_neg (e_pow e_int e_int))) (ss_one (s_set 0 g.nd (e_mod (e_var 0) e_int))) ss_nil)
  (ss_one (s_ret (e_mod (e_has h_u_law_draw.pure hr (by decide) gu (ar_cons (ar_cons (ar_cons ar_nil))) (a_cons (e_mul true (e_add true g.hK (e_var 0) (e_mul true e_int (e_var 1))) (e_add true g.hK (e_add true g.hK (e_var 0) (e_mul true e_int (e_var 1))) e_int)) (a_cons (e_add true g.hK (e_mod (e_var 1) e_int) e_int) (a_cons e_int a_nil)))) (e_var 2))))))
set_option maxHeartbeats 4000000 in
theorem ok_u_law_size {f : Addr} {fd : FuncData} (hK : F.K = K) (T : Txt mg) (Z : Fun K "_law_size" "_law_size" s_u_law_size f fd) (h_u_law_cell_at : Has F P w K mg base "_law_cell_at" 1 2 m_u_law_cell_at) (h_u_law_number : Has F P w K mg base "_law_number" 2 3 m_u_law_number) : Fn P w K mg base 3 f fd 3 ["_law_script", "_law_by", "_law_most"] (spM F 3 m_u_law_size) :=
  fn_ok hK Z sc_u_law_size rfl fun cdv A outer s H g hr gu =>
  (ss_cons (s_set 3 g.nd (e_has h_u_law_cell_at.pure hr (by decide) gu (ar_cons (ar_cons ar_nil)) (a_cons (e_var 0) (a_cons (e_var 1) a_nil))))
  (ss_one (s_ret (e_tup (a_cons (e_add true g.hK e_int (e_has h_u_law_number.pure hr (by decide) gu (ar_cons (ar_cons (ar_cons ar_nil))) (a_cons (e_var 3) (a_cons (e_add true g.hK (e_var 1) e_int) (a_cons (e_var 2) a_nil))))) (a_cons (e_add true g.hK e_int (e_has h_u_law_number.pure hr (by decide) gu (ar_cons (ar_cons (ar_cons ar_nil))) (a_cons (e_var 3) (a_cons (e_add true g.hK (e_var 1) e_int) (a_cons (e_var 2) a_nil))))) a_nil))))))
set_option maxHeartbeats 4000000 in
theorem ok_u_law_notice {f : Addr} {fd : FuncData} (hK : F.K = K) (T : Txt mg) (Z : Fun K "_law_notice" "_law_notice" s_u_law_notice f fd) (h_u_law_number : Has F P w K mg base "_law_number" 2 3 m_u_law_number) : Fn P w K mg base 3 f fd 3 ["_law_cell", "_law_at", "_law_size_here"] (spM F 3 m_u_law_notice) :=
  fn_ok hK Z sc_u_law_notice rfl fun cdv A outer s H g hr gu =>
  (ss_cons (s_set 3 g.nd (e_lst false a_nil))
  (ss_cons (s_for g PassesOwn.never (i_rg1 T.n_range e_int) (g_name 4 trivial g.nd) (ss_cons (s_set 5 g.nd (e_if (t_eq g (e_has h_u_law_number.pure hr (by decide) gu (ar_cons (ar_cons (ar_cons ar_nil))) (a_cons (e_var 0) (a_cons (e_add true g.hK (e_var 1) (e_var 4)) (a_cons e_int a_nil)))) e_int) (e_ix g (e_var 2) (e_var 4)) (e_min2 g T.n_min (a_cons (e_ix g (e_var 2) (e_var 4)) (a_cons e_int a_nil)))))
  (ss_cons (s_set 6 g.nd (e_add true g.hK e_int (e_has h_u_law_number.pure hr (by decide) gu (ar_cons (ar_cons (ar_cons ar_nil))) (a_cons (e_var 0) (a_cons (e_add true g.hK (e_add true g.hK (e_var 1) (e_mul true e_int (e_var 4))) e_int) (a_cons (e_var 5) a_nil))))))
  (ss_one (s_expr (e_mt g PySem.F.slot_list_append PySem.F.type_list_append mt_append fAppend_ok (e_var 3) (a_cons (e_tup (a_cons (e_has h_u_law_number.pure hr (by decide) gu (ar_cons (ar_cons (ar_cons ar_nil))) (a_cons (e_add true g.hK (e_var 0) (e_var 4)) (a_cons (e_add true g.hK (e_add true g.hK (e_var 1) (e_var 4)) e_int) (a_cons (e_add true g.hK (e_sub (e_ix g (e_var 2) (e_var 4)) (e_var 6)) e_int) a_nil)))) (a_cons (e_var 6) a_nil))) a_nil)))))))
  (ss_one (s_ret (e_tup (a_cons (e_ix g (e_ix g (e_var 3) e_int) e_int) (a_cons (e_ix g (e_ix g (e_var 3) e_int) e_int) (a_cons (e_ix g (e_ix g (e_var 3) e_int) e_int) (a_cons (e_ix g (e_ix g (e_var 3) e_int) e_int) a_nil)))))))))
set_option maxHeartbeats 4000000 in
theorem ok_u_law_notices {f : Addr} {fd : FuncData} (hK : F.K = K) (T : Txt mg) (Z : Fun K "_law_notices" "_law_notices" s_u_law_notices f fd) (h_u_law_cell_at : Has F P w K mg base "_law_cell_at" 1 2 m_u_law_cell_at) (h_u_law_number : Has F P w K mg base "_law_number" 2 3 m_u_law_number) (h_u_law_notice : Has F P w K mg base "_law_notice" 3 3 m_u_law_notice) : Fn P w K mg base 4 f fd 4 ["_law_script", "_law_by", "_law_size_here", "_law_most"] (spM F 4 m_u_law_notices) :=
  fn_ok hK Z sc_u_law_notices rfl fun cdv A outer s H g hr gu =>
  (ss_cons (s_set 4 g.nd (e_lst false a_nil))
  (ss_cons (s_for g PassesOwn.never (i_rg1 T.n_range (e_has h_u_law_number.pure hr (by decide) gu (ar_cons (ar_cons (ar_cons ar_nil))) (a_cons (e_has h_u_law_cell_at.pure hr (by decide) gu (ar_cons (ar_cons ar_nil)) (a_cons (e_var 0) (a_cons (e_var 1) a_nil))) (a_cons (e_add true g.hK (e_var 1) e_int) (a_cons (e_add true g.hK (e_var 3) e_int) a_nil))))) (g_name 5 trivial g.nd) (ss_one (s_expr (e_mt g PySem.F.slot_list_append PySem.F.type_list_append mt_append fAppend_ok (e_var 4) (a_cons (e_has h_u_law_notice.pure hr (by decide) gu (ar_cons (ar_cons (ar_cons ar_nil))) (a_cons (e_add true g.hK (e_has h_u_law_cell_at.pure hr (by decide) gu (ar_cons (ar_cons ar_nil)) (a_cons (e_var 0) (a_cons (e_add true g.hK (e_var 1) (e_mod (e_var 5) e_int)) a_nil))) (e_mul true e_int (e_var 5))) (a_cons (e_var 5) (a_cons (e_var 2) a_nil)))) a_nil)))))
  (ss_one (s_ret (e_frz (e_var 4))))))
set_option maxHeartbeats 4000000 in
theorem ok_u_law_lies {f : Addr} {fd : FuncData} (hK : F.K = K) (T : Txt mg) (Z : Fun K "_law_lies" "_law_lies" s_u_law_lies f fd)  : Fn P w K mg base 1 f fd 3 ["_law_notice_here", "_law_across", "_law_down"] (spM F 3 m_u_law_lies) :=
  fn_ok hK Z sc_u_law_lies rfl fun cdv A outer s H g hr gu =>
  (ss_one (s_ret (e_and (e_chain op_le os_le op_lt os_lt e_int (e_sub (e_var 1) (e_ix g (e_var 0) e_int)) (e_ix g (e_var 0) e_int)) (e_one (e_chain op_le os_le op_lt os_lt e_int (e_sub (e_var 2) (e_ix g (e_var 0) e_int)) (e_ix g (e_var 0) e_int))))))
set_option maxHeartbeats 4000000 in
theorem ok_u_law_cells {f : Addr} {fd : FuncData} (hK : F.K = K) (T : Txt mg) (Z : Fun K "_law_cells" "_law_cells" s_u_law_cells f fd)  : Fn P w K mg base 1 f fd 1 ["_law_notice_here"] (spM F 1 m_u_law_cells) :=
  fn_ok hK Z sc_u_law_cells rfl fun cdv A outer s H g hr gu =>
  (ss_cons (s_set 1 g.nd (e_lst false a_nil))
  (ss_cons (s_for g PassesOwn.never (i_rg2 T.n_range (e_ix g (e_var 0) e_int) (e_add true g.hK (e_ix g (e_var 0) e_int) (e_ix g (e_var 0) e_int))) (g_name 2 trivial g.nd) (ss_one (s_expr (e_mt g PySem.F.slot_list_extend PySem.F.type_list_extend mt_extend fExtend_ok (e_var 1) (a_cons (e_lc true (own := [("_law_across", 3)]) g (i_rg2 T.n_range (e_ix g (e_var 0) e_int) (e_add true g.hK (e_ix g (e_var 0) e_int) (e_ix g (e_var 0) e_int))) (blkOk_by (own := [("_law_across", 3)]) (N := N_u_law_cells) (by show blkC N_u_law_cells (defScope s_u_law_cells) _ _ = true; decide +kernel)) (fun _ _ _ _ _ => (g_name 3 (by decide) g.blk.nd)) (fun _ _ _ _ _ => p_nil) (fun _ _ _ _ _ => (e_tup (a_cons (e_var 3) (a_cons (e_var 2) a_nil))))) a_nil)))))
  (ss_one (s_ret (e_frz (e_var 1))))))
set_option maxHeartbeats 4000000 in
theorem ok_u_law_met {f : Addr} {fd : FuncData} (hK : F.K = K) (T : Txt mg) (Z : Fun K "_law_met" "_law_met" s_u_law_met f fd) (h_u_law_lies : Has F P w K mg base "_law_lies" 1 3 m_u_law_lies) (h_u_law_cells : Has F P w K mg base "_law_cells" 1 1 m_u_law_cells) : Fn P w K mg base 2 f fd 3 ["_law_size_here", "_law_notices_here", "_law_room"] (spM F 3 m_u_law_met) :=
  fn_ok hK Z sc_u_law_met rfl fun cdv A outer s H g hr gu =>
  (ss_cons (s_set 3 g.nd (e_lst false a_nil))
  (ss_cons (s_for g PassesOwn.never (i_rg1 T.n_range (e_add true g.hK (e_sub (e_ix g (e_var 0) e_int) (e_ix g (e_var 2) e_int)) e_int)) (g_name 4 trivial g.nd) (ss_one (s_for g PassesOwn.never (i_rg1 T.n_range (e_add true g.hK (e_sub (e_ix g (e_var 0) e_int) (e_ix g (e_var 2) e_int)) e_int)) (g_name 5 trivial g.nd) (ss_cons (s_set 6 g.nd (e_has h_u_law_cells.pure hr (by decide) gu (ar_cons ar_nil) (a_cons (e_tup (a_cons (e_var 5) (a_cons (e_var 4) (a_cons (e_ix g (e_var 2) e_int) (a_cons (e_ix g (e_var 2) e_int) a_nil))))) a_nil)))
  (ss_cons (s_setLcU true 7 (own := [("_law_one", 8)]) g (e_var 1) (blkOk_by (own := [("_law_one", 8)]) (N := N_u_law_met) (by show blkC N_u_law_met (defScope s_u_law_met) _ _ = true; decide +kernel)) (fun _ _ _ _ _ => (g_name 8 (by decide) g.blk.nd)) (fun _ _ _ _ _ => (p_one (t_val (e_any g.blk T.n_any (a_cons (e_lcU true (own := [("_law_across", 9), ("_law_down", 10)]) g.blk (e_var 6) (blkOk_by (own := [("_law_across", 9), ("_law_down", 10)]) (N := N_u_law_met) (by dsimp only [Cx.blk, Cx.nox, compEnvC, relabel_S, cx_sc]; decide +kernel)) (fun _ _ _ _ _ => (g_tup (Gd.blk (Gd.blk g)) (gs_cons (g_name 9 (by decide) (Gd.blk (Gd.blk g)).nd) (gs_cons (g_name 10 (by decide) (Gd.blk (Gd.blk g)).nd) gs_nil)))) (fun _ _ _ _ _ => p_nil) (fun _ _ _ _ _ => (e_has h_u_law_lies.pure hr (by decide) gu (ar_cons (ar_cons (ar_cons ar_nil))) (a_cons (e_var 8) (a_cons (e_var 9) (a_cons (e_var 10) a_nil)))))) a_nil))))) (fun _ _ _ _ _ => (e_var 8)))
  (ss_one (s_expr (e_mt g PySem.F.slot_list_append PySem.F.type_list_append mt_append fAppend_ok (e_var 3) (a_cons (e_tup (a_cons (e_len g T.n_len (a_cons (e_var 7) a_nil)) (a_cons (e_var 5) (a_cons (e_var 4) a_nil)))) a_nil)))))))))
  (ss_one (s_ret (e_frz (e_var 3))))))
set_option maxHeartbeats 4000000 in
theorem ok_u_law_outright {f : Addr} {fd : FuncData} (hK : F.K = K) (T : Txt mg) (Z : Fun K "_law_outright" "_law_outright" s_u_law_outright f fd) (h_free_places : Has F P w K mg base "free_places" 5 3 m_free_places) (h_least_covering : Has F P w K mg base "least_covering" 5 3 m_least_covering) : Fn P w K mg base 6 f fd 0 [] (spM F 0 m_u_law_outright) :=
  fn_ok hK Z sc_u_law_outright rfl fun cdv A outer s H g hr gu =>
  (ss_cons (s_asg (e_tup (a_cons (e_lst true (a_cons (e_tup (a_cons e_int (a_cons e_int (a_cons e_int (a_cons e_int a_nil))))) a_nil)) (a_cons (e_tup (a_cons (e_tup (a_cons e_int (a_cons e_int a_nil))) (a_cons (e_tup (a_cons e_int (a_cons e_int a_nil))) (a_cons (e_tup (a_cons e_int (a_cons e_int a_nil))) a_nil)))) a_nil))) (g_tup g (gs_cons (g_name 0 trivial g.nd) (gs_cons (g_name 1 trivial g.nd) gs_nil))))
  (ss_cons (s_if (t_ne g (e_lcU true (own := [("_law_size_here", 6)]) g (e_var 1) (blkOk_by (own := [("_law_size_here", 6)]) (N := N_u_law_outright) (by show blkC N_u_law_outright (defScope s_u_law_outright) _ _ = true; decide +kernel)) (fun _ _ _ _ _ => (g_name 6 (by decide) g.blk.nd)) (fun _ _ _ _ _ => p_nil) (fun _ _ _ _ _ => (e_has h_free_places.pure hr (by decide) gu (ar_cons (ar_cons (ar_cons ar_nil))) (a_cons (e_var 6) (a_cons (e_var 0) (a_cons (e_tup (a_cons e_int (a_cons e_int a_nil))) a_nil)))))) (e_lst true (a_cons (e_lst true a_nil) (a_cons (e_lst true (a_cons (e_tup (a_cons e_int (a_cons e_int a_nil))) a_nil)) (a_cons (e_lst true (a_cons (e_tup (a_cons e_int (a_cons e_int a_nil))) a_nil)) a_nil))))) (ss_one (s_ret e_bl)) ss_nil)
  (ss_cons (s_if (t_ne g (e_lcU true (own := [("_law_size_here", 6)]) g (e_var 1) (blkOk_by (own := [("_law_size_here", 6)]) (N := N_u_law_outright) (by show blkC N_u_law_outright (defScope s_u_law_outright) _ _ = true; decide +kernel)) (fun _ _ _ _ _ => (g_name 6 (by decide) g.blk.nd)) (fun _ _ _ _ _ => p_nil) (fun _ _ _ _ _ => (e_has h_least_covering.pure hr (by decide) gu (ar_cons (ar_cons (ar_cons ar_nil))) (a_cons (e_var 6) (a_cons (e_var 0) (a_cons (e_tup (a_cons e_int (a_cons e_int a_nil))) a_nil)))))) (e_lst true (a_cons (e_tup (a_cons e_int (a_cons e_int (a_cons e_int a_nil)))) (a_cons (e_tup (a_cons e_int (a_cons e_int (a_cons e_int a_nil)))) (a_cons (e_tup (a_cons e_int (a_cons e_int (a_cons e_int a_nil)))) a_nil))))) (ss_one (s_ret e_bl)) ss_nil)
  (ss_cons (s_set 2 g.nd (e_add true g.hK (e_lc true (own := [("_law_at", 7)]) g (i_rg1 T.n_range e_int) (blkOk_by (own := [("_law_at", 7)]) (N := N_u_law_outright) (by show blkC N_u_law_outright (defScope s_u_law_outright) _ _ = true; decide +kernel)) (fun _ _ _ _ _ => (g_name 7 (by decide) g.blk.nd)) (fun _ _ _ _ _ => p_nil) (fun _ _ _ _ _ => (e_tup (a_cons (e_var 7) (a_cons e_int (a_cons e_int (a_cons e_int a_nil))))))) (e_lc true (own := [("_law_at", 7)]) g (i_rg1 T.n_range e_int) (blkOk_by (own := [("_law_at", 7)]) (N := N_u_law_outright) (by show blkC N_u_law_outright (defScope s_u_law_outright) _ _ = true; decide +kernel)) (fun _ _ _ _ _ => (g_name 7 (by decide) g.blk.nd)) (fun _ _ _ _ _ => p_nil) (fun _ _ _ _ _ => (e_tup (a_cons e_int (a_cons (e_var 7) (a_cons e_int (a_cons e_int a_nil)))))))))
  (ss_cons (s_set 3 g.nd (e_lst true (a_cons (e_tup (a_cons e_int (a_cons e_int a_nil))) (a_cons (e_tup (a_cons e_int (a_cons e_int a_nil))) (a_cons (e_tup (a_cons e_int (a_cons e_int a_nil))) (a_cons (e_tup (a_cons e_int (a_cons e_int a_nil))) a_nil))))))
  (ss_cons (s_if (t_ne g (e_lcU true (own := [("_law_room", 8)]) g (e_var 3) (blkOk_by (own := [("_law_room", 8)]) (N := N_u_law_outright) (by show blkC N_u_law_outright (defScope s_u_law_outright) _ _ = true; decide +kernel)) (fun _ _ _ _ _ => (g_name 8 (by decide) g.blk.nd)) (fun _ _ _ _ _ => p_nil) (fun _ _ _ _ _ => (e_has h_least_covering.pure hr (by decide) gu (ar_cons (ar_cons (ar_cons ar_nil))) (a_cons (e_tup (a_cons e_int (a_cons e_int a_nil))) (a_cons (e_var 2) (a_cons (e_var 8) a_nil)))))) (e_lst true (a_cons (e_tup (a_cons e_int (a_cons e_int (a_cons e_int a_nil)))) (a_cons (e_tup (a_cons e_int (a_cons e_int (a_cons e_int a_nil)))) (a_cons (e_tup (a_cons e_int (a_cons e_int (a_cons e_int a_nil)))) (a_cons (e_tup (a_cons e_int (a_cons e_int (a_cons e_int a_nil)))) a_nil)))))) (ss_one (s_ret e_bl)) ss_nil)
  (ss_cons (s_set 4 g.nd (e_add true g.hK (e_slice true g (e_var 2) o_none (o_some e_int)) (e_slice true g (e_var 2) (o_some e_int) (o_some e_int))))
  (ss_cons (s_if (t_w (w_or (t_ne g (e_has h_free_places.pure hr (by decide) gu (ar_cons (ar_cons (ar_cons ar_nil))) (a_cons (e_tup (a_cons e_int (a_cons e_int a_nil))) (a_cons (e_var 4) (a_cons (e_tup (a_cons e_int (a_cons e_int a_nil))) a_nil)))) (e_lst true (a_cons (e_tup (a_cons e_int (a_cons e_int a_nil))) a_nil))) (w_or1 (t_ne g (e_has h_least_covering.pure hr (by decide) gu (ar_cons (ar_cons (ar_cons ar_nil))) (a_cons (e_tup (a_cons e_int (a_cons e_int a_nil))) (a_cons (e_var 4) (a_cons (e_tup (a_cons e_int (a_cons e_int a_nil))) a_nil)))) (e_tup (a_cons e_int (a_cons e_int (a_cons e_int a_nil)))))))) (ss_one (s_ret e_bl)) ss_nil)
  (ss_cons (s_if (t_ne g (e_has h_free_places.pure hr (by decide) gu (ar_cons (ar_cons (ar_cons ar_nil))) (a_cons (e_tup (a_cons e_int (a_cons e_int a_nil))) (a_cons (e_lst true (a_cons (e_tup (a_cons e_int (a_cons e_int (a_cons e_int (a_cons e_int a_nil))))) a_nil)) (a_cons (e_tup (a_cons e_int (a_cons e_int a_nil))) a_nil)))) (e_lst true (a_cons (e_tup (a_cons e_int (a_cons e_int a_nil))) (a_cons (e_tup (a_cons e_int (a_cons e_int a_nil))) a_nil)))) (ss_one (s_ret e_bl)) ss_nil)
  (ss_cons (s_if (t_ne g (e_has h_least_covering.pure hr (by decide) gu (ar_cons (ar_cons (ar_cons ar_nil))) (a_cons (e_tup (a_cons e_int (a_cons e_int a_nil))) (a_cons (e_lst true (a_cons (e_tup (a_cons e_int (a_cons e_int (a_cons e_int (a_cons e_int a_nil))))) (a_cons (e_tup (a_cons e_int (a_cons e_int (a_cons e_int (a_cons e_int a_nil))))) a_nil))) (a_cons (e_tup (a_cons e_int (a_cons e_int a_nil))) a_nil)))) (e_tup (a_cons e_int (a_cons e_int (a_cons e_int a_nil))))) (ss_one (s_ret e_bl)) ss_nil)
  (ss_cons (s_set 5 g.nd (e_mul false (e_lst true (a_cons (e_tup (a_cons e_int (a_cons e_int (a_cons e_int (a_cons e_int a_nil))))) a_nil)) e_int))
  (ss_cons (s_if (t_w (w_or (t_ne g (e_has h_least_covering.pure hr (by decide) gu (ar_cons (ar_cons (ar_cons ar_nil))) (a_cons (e_tup (a_cons e_int (a_cons e_int a_nil))) (a_cons (e_var 5) (a_cons (e_tup (a_cons e_int (a_cons e_int a_nil))) a_nil)))) (e_tup (a_cons e_int (a_cons e_int (a_cons e_int a_nil))))) (w_or1 (t_ne g (e_has h_free_places.pure hr (by decide) gu (ar_cons (ar_cons (ar_cons ar_nil))) (a_cons (e_tup (a_cons e_int (a_cons e_int a_nil))) (a_cons (e_var 5) (a_cons (e_tup (a_cons e_int (a_cons e_int a_nil))) a_nil)))) (e_lst true a_nil))))) (ss_one (s_ret e_bl)) ss_nil)
  (ss_cons (s_expr (e_mt0 g PySem.F.slot_list_clear PySem.F.type_list_clear mt_clear fClear_ok fClear_l (e_var 5)))
  (ss_cons (s_expr (e_mt g PySem.F.slot_list_append PySem.F.type_list_append mt_append fAppend_ok (e_var 5) (a_cons (e_tup (a_cons e_int (a_cons e_int (a_cons e_int (a_cons e_int a_nil))))) a_nil)))
  (ss_cons (s_if (t_w (w_or (t_ne g (e_has h_least_covering.pure hr (by decide) gu (ar_cons (ar_cons (ar_cons ar_nil))) (a_cons (e_tup (a_cons e_int (a_cons e_int a_nil))) (a_cons (e_var 5) (a_cons (e_tup (a_cons e_int (a_cons e_int a_nil))) a_nil)))) (e_tup (a_cons e_int (a_cons e_int (a_cons e_int a_nil))))) (w_or1 (t_ne g (e_len g T.n_len (a_cons (e_has h_free_places.pure hr (by decide) gu (ar_cons (ar_cons (ar_cons ar_nil))) (a_cons (e_tup (a_cons e_int (a_cons e_int a_nil))) (a_cons (e_var 5) (a_cons (e_tup (a_cons e_int (a_cons e_int a_nil))) a_nil)))) a_nil)) e_int)))) (ss_one (s_ret e_bl)) ss_nil)
  (ss_one (s_ret (e_eq g (e_has h_free_places.pure hr (by decide) gu (ar_cons (ar_cons (ar_cons ar_nil))) (a_cons (e_tup (a_cons e_int (a_cons e_int a_nil))) (a_cons (e_lst true a_nil) (a_cons (e_tup (a_cons e_int (a_cons e_int a_nil))) a_nil)))) (e_lst true (a_cons (e_tup (a_cons e_int (a_cons e_int a_nil))) a_nil))))))))))))))))))))
set_option maxHeartbeats 4000000 in
theorem ok_law {f : Addr} {fd : FuncData} (hK : F.K = K) (T : Txt mg) (Z : Fun K "law" "law" s_law f fd) (h_free_places : Has F P w K mg base "free_places" 5 3 m_free_places) (h_free_places_L1 : Has F P w K mg base "free_places" 5 3 m_free_places_L1) (h_least_covering : Has F P w K mg base "least_covering" 5 3 m_least_covering) (h_u_law_cell_at : Has F P w K mg base "_law_cell_at" 1 2 m_u_law_cell_at) (h_u_law_number : Has F P w K mg base "_law_number" 2 3 m_u_law_number) (h_u_law_size : Has F P w K mg base "_law_size" 3 3 m_u_law_size) (h_u_law_notices : Has F P w K mg base "_law_notices" 4 4 m_u_law_notices) (h_u_law_met : Has F P w K mg base "_law_met" 2 3 m_u_law_met) (h_u_law_outright : Has F P w K mg base "_law_outright" 6 0 m_u_law_outright) : Fn P w K mg base 7 f fd 1 ["_law_script"] (spM F 1 m_law) :=
  fn_ok hK Z sc_law rfl fun cdv A outer s H g hr gu =>
  (ss_cons (s_for g PassesOwn.never (i_rg1 T.n_range e_int) (g_name 1 trivial g.nd) (ss_cons (s_set 2 g.nd (e_has h_u_law_size.pure hr (by decide) gu (ar_cons (ar_cons (ar_cons ar_nil))) (a_cons (e_var 0) (a_cons (e_var 1) (a_cons (e_if (t_eq g (e_var 1) e_int) e_int e_int) a_nil)))))
  (ss_cons (s_set 3 g.nd (e_has h_u_law_notices.pure hr (by decide) gu (ar_cons (ar_cons (ar_cons (ar_cons ar_nil)))) (a_cons (e_var 0) (a_cons (e_var 1) (a_cons (e_var 2) (a_cons e_int a_nil))))))
  (ss_cons (s_set 4 g.nd (e_has h_u_law_cell_at.pure hr (by decide) gu (ar_cons (ar_cons ar_nil)) (a_cons (e_var 0) (a_cons (e_var 1) a_nil))))
  (ss_cons (s_set 5 g.nd (e_tup (a_cons (e_add true g.hK e_int (e_has h_u_law_number.pure hr (by decide) gu (ar_cons (ar_cons (ar_cons ar_nil))) (a_cons (e_var 4) (a_cons (e_add true g.hK (e_var 1) e_int) (a_cons (e_ix g (e_var 2) e_int) a_nil))))) (a_cons (e_add true g.hK e_int (e_has h_u_law_number.pure hr (by decide) gu (ar_cons (ar_cons (ar_cons ar_nil))) (a_cons (e_var 4) (a_cons (e_add true g.hK (e_var 1) e_int) (a_cons (e_ix g (e_var 2) e_int) a_nil))))) a_nil))))
  (ss_one (s_forU g PassesOwn.never (e_tup (a_cons (e_var 5) (a_cons (e_tup (a_cons e_int (a_cons e_int a_nil))) (a_cons (e_var 2) (a_cons (e_tup (a_cons e_int (a_cons (e_ix g (e_var 2) e_int) a_nil))) a_nil))))) (g_name 6 trivial g.nd) (ss_cons (s_par2 7 8 g (by decide) (a_cons (e_list true g T.n_list (a_cons (e_var 3) a_nil)) (a_cons (e_has h_u_law_met.pure hr (by decide) gu (ar_cons (ar_cons (ar_cons ar_nil))) (a_cons (e_var 2) (a_cons (e_var 3) (a_cons (e_var 6) a_nil)))) a_nil)) (by rfl))
  (ss_cons (s_set 9 g.nd (e_min g T.n_min (a_cons (e_lcU true (own := [("_law_many", 16), ("_law_left", 17), ("_law_top", 18)]) g (e_var 8) (blkOk_by (own := [("_law_many", 16), ("_law_left", 17), ("_law_top", 18)]) (N := N_law) (by show blkC N_law (defScope s_law) _ _ = true; decide +kernel)) (fun _ _ _ _ _ => (g_tup g.blk (gs_cons (g_name 16 (by decide) g.blk.nd) (gs_cons (g_name 17 (by decide) g.blk.nd) (gs_cons (g_name 18 (by decide) g.blk.nd) gs_nil))))) (fun _ _ _ _ _ => p_nil) (fun _ _ _ _ _ => (e_var 16))) a_nil)))
  (ss_cons (s_for g PassesOwn.never (i_rg1 T.n_range e_int) (g_name 10 trivial g.nd) (ss_cons (s_set 11 g.nd (e_has h_free_places_L1.pureL hr (by decide) gu (ar_cons (ar_cons (ar_cons ar_nil))) (a_cons (e_var 2) (a_cons (e_var 7) (a_cons (e_var 6) a_nil)))))
  (ss_cons (s_setLcU true 12 (own := [("_law_many", 16), ("_law_left", 17), ("_law_top", 18)]) g (e_var 8) (blkOk_by (own := [("_law_many", 16), ("_law_left", 17), ("_law_top", 18)]) (N := N_law) (by show blkC N_law (defScope s_law) _ _ = true; decide +kernel)) (fun _ _ _ _ _ => (g_tup g.blk (gs_cons (g_name 16 (by decide) g.blk.nd) (gs_cons (g_name 17 (by decide) g.blk.nd) (gs_cons (g_name 18 (by decide) g.blk.nd) gs_nil))))) (fun _ _ _ _ _ => (p_one (t_eq g.blk (e_var 16) e_int))) (fun _ _ _ _ _ => (e_tup (a_cons (e_var 17) (a_cons (e_var 18) a_nil)))))
  (ss_cons (s_if (t_w (w_or (t_not (t_val (e_isi .list g T.n_isinstance T.n_list (by decide +kernel) (e_var 11)))) (w_or1 (t_ne g (e_strD g gu T.n_str (a_cons (e_var 11) a_nil)) (e_strD g gu T.n_str (a_cons (e_var 12) a_nil)))))) (ss_one (s_ret e_bl)) ss_nil)
  (ss_cons (s_expr (e_mt g PySem.F.slot_list_append PySem.F.type_list_append mt_append fAppend_ok (e_var 11) (a_cons (e_tup a_nil) a_nil)))
  (ss_cons (s_set 13 g.nd (e_ix g (e_lcU true (own := [("_law_one", 19)]) g (e_var 8) (blkOk_by (own := [("_law_one", 19)]) (N := N_law) (by show blkC N_law (defScope s_law) _ _ = true; decide +kernel)) (fun _ _ _ _ _ => (g_name 19 (by decide) g.blk.nd)) (fun _ _ _ _ _ => (p_one (t_eq g.blk (e_ix g.blk (e_var 19) e_int) (e_var 9)))) (fun _ _ _ _ _ => (e_var 19))) e_int))
  (ss_one (s_if (t_w (w_or (t_ne g (e_strD g gu T.n_str (a_cons (e_has h_least_covering.pure hr (by decide) gu (ar_cons (ar_cons (ar_cons ar_nil))) (a_cons (e_var 2) (a_cons (e_var 7) (a_cons (e_var 6) a_nil)))) a_nil)) (e_strD g gu T.n_str (a_cons (e_var 13) a_nil))) (w_or1 (t_ne g (e_var 7) (e_var 3))))) (ss_one (s_ret e_bl)) ss_nil))))))))
  (ss_cons (s_set 14 g.nd (e_slice true g (e_var 3) (o_some e_int) o_none))
  (ss_cons (s_set 15 g.nd (e_has h_free_places.pure hr (by decide) gu (ar_cons (ar_cons (ar_cons ar_nil))) (a_cons (e_var 2) (a_cons (e_var 14) (a_cons (e_var 6) a_nil)))))
  (ss_cons (s_if (t_not (t_val (e_all g T.n_all (a_cons (e_lcU true (own := [("_law_place", 20)]) g (e_has h_free_places.pure hr (by decide) gu (ar_cons (ar_cons (ar_cons ar_nil))) (a_cons (e_var 2) (a_cons (e_var 3) (a_cons (e_var 6) a_nil)))) (blkOk_by (own := [("_law_place", 20)]) (N := N_law) (by show blkC N_law (defScope s_law) _ _ = true; decide +kernel)) (fun _ _ _ _ _ => (g_name 20 (by decide) g.blk.nd)) (fun _ _ _ _ _ => p_nil) (fun _ _ _ _ _ => (e_in g.blk (e_var 20) (e_var 15)))) a_nil)))) (ss_one (s_ret e_bl)) ss_nil)
  (ss_one (s_if (t_gt g (e_ix g (e_has h_least_covering.pure hr (by decide) gu (ar_cons (ar_cons (ar_cons ar_nil))) (a_cons (e_var 2) (a_cons (e_var 14) (a_cons (e_var 6) a_nil)))) e_int) (e_var 9)) (ss_one (s_ret e_bl)) ss_nil)))))))))))))))
  (ss_one (s_ret (e_has0 h_u_law_outright.pure hr (by decide) gu))))
end
set_option maxHeartbeats 4000000 in
theorem all_mk {l : PySem.W.OpenLaw} {w : World} {K : PySem.W.Frag} {h : Heap} {mg : Str → Option Value} {fa f0 f1 f2 f3 f4 f5 f6 f7 f8 f9 f10 f11 f12 f13 f14 f15 f16 f17 f18 f19 f20 f21 : Addr} (X : K.In h) (G : h.Ns mainGlobals mg) (hfa : mg "law" = some (.ref fa))
    {od0 an0 od1 an1 od2 an2 od3 an3 od4 an4 od5 an5 od6 an6 od7 an7 od8 an8 od9 an9 od10 an10 od11 an11 od12 an12 od13 an13 od14 an14 od15 an15 od16 an16 od17 an17 od18 an18 od19 an19 od20 an20 od21 an21 : Option Addr} {sl0 sl1 sl2 sl3 sl4 sl5 sl6 sl7 sl8 sl9 sl10 sl11 sl12 sl13 sl14 sl15 sl16 sl17 sl18 sl19 sl20 sl21 : Array (Option Value)} {oc0 kV0 dc0 pm0 cd0 ct0 oc1 kV1 dc1 pm1 cd1 ct1 oc2 kV2 dc2 pm2 cd2 ct2 oc3 kV3 dc3 pm3 cd3 ct3 oc4 kV4 dc4 pm4 cd4 ct4 oc5 kV5 dc5 pm5 cd5 ct5 oc6 kV6 dc6 pm6 cd6 ct6 oc7 kV7 dc7 pm7 cd7 ct7 oc8 kV8 dc8 pm8 cd8 ct8 oc9 kV9 dc9 pm9 cd9 ct9 oc10 kV10 dc10 pm10 cd10 ct10 oc11 kV11 dc11 pm11 cd11 ct11 oc12 kV12 dc12 pm12 cd12 ct12 oc13 kV13 dc13 pm13 cd13 ct13 oc14 kV14 dc14 pm14 cd14 ct14 oc15 kV15 dc15 pm15 cd15 ct15 oc16 kV16 dc16 pm16 cd16 ct16 oc17 kV17 dc17 pm17 cd17 ct17 oc18 kV18 dc18 pm18 cd18 ct18 oc19 kV19 dc19 pm19 cd19 ct19 oc20 kV20 dc20 pm20 cd20 ct20 oc21 kV21 dc21 pm21 cd21 ct21 : Value}
    (a0 : PySem.W.nsIn K mainGlobals "is_whole" = some (some (.ref f0))) (l0 : K.lookup f0 = some ⟨oc0, od0, .func (PySem.W.fnOf "is_whole" "is_whole" (defArgs s_is_whole) (defBody s_is_whole) (defScope s_is_whole) .none kV0 dc0 pm0 an0 cd0 ct0), sl0⟩) (c0 : PySem.W.codeIn K cd0 "is_whole" = true) (k0 : PySem.W.keepIn K (.ref f0) = true)
    (a1 : PySem.W.nsIn K mainGlobals "is_between" = some (some (.ref f1))) (l1 : K.lookup f1 = some ⟨oc1, od1, .func (PySem.W.fnOf "is_between" "is_between" (defArgs s_is_between) (defBody s_is_between) (defScope s_is_between) .none kV1 dc1 pm1 an1 cd1 ct1), sl1⟩) (c1 : PySem.W.codeIn K cd1 "is_between" = true) (k1 : PySem.W.keepIn K (.ref f1) = true)
    (a2 : PySem.W.nsIn K mainGlobals "is_size" = some (some (.ref f2))) (l2 : K.lookup f2 = some ⟨oc2, od2, .func (PySem.W.fnOf "is_size" "is_size" (defArgs s_is_size) (defBody s_is_size) (defScope s_is_size) .none kV2 dc2 pm2 an2 cd2 ct2), sl2⟩) (c2 : PySem.W.codeIn K cd2 "is_size" = true) (k2 : PySem.W.keepIn K (.ref f2) = true)
    (a3 : PySem.W.nsIn K mainGlobals "check_size" = some (some (.ref f3))) (l3 : K.lookup f3 = some ⟨oc3, od3, .func (PySem.W.fnOf "check_size" "check_size" (defArgs s_check_size) (defBody s_check_size) (defScope s_check_size) .none kV3 dc3 pm3 an3 cd3 ct3), sl3⟩) (c3 : PySem.W.codeIn K cd3 "check_size" = true) (k3 : PySem.W.keepIn K (.ref f3) = true)
    (a4 : PySem.W.nsIn K mainGlobals "is_notice" = some (some (.ref f4))) (l4 : K.lookup f4 = some ⟨oc4, od4, .func (PySem.W.fnOf "is_notice" "is_notice" (defArgs s_is_notice) (defBody s_is_notice) (defScope s_is_notice) .none kV4 dc4 pm4 an4 cd4 ct4), sl4⟩) (c4 : PySem.W.codeIn K cd4 "is_notice" = true) (k4 : PySem.W.keepIn K (.ref f4) = true)
    (a5 : PySem.W.nsIn K mainGlobals "check_notices" = some (some (.ref f5))) (l5 : K.lookup f5 = some ⟨oc5, od5, .func (PySem.W.fnOf "check_notices" "check_notices" (defArgs s_check_notices) (defBody s_check_notices) (defScope s_check_notices) .none kV5 dc5 pm5 an5 cd5 ct5), sl5⟩) (c5 : PySem.W.codeIn K cd5 "check_notices" = true) (k5 : PySem.W.keepIn K (.ref f5) = true)
    (a6 : PySem.W.nsIn K mainGlobals "meets" = some (some (.ref f6))) (l6 : K.lookup f6 = some ⟨oc6, od6, .func (PySem.W.fnOf "meets" "meets" (defArgs s_meets) (defBody s_meets) (defScope s_meets) .none kV6 dc6 pm6 an6 cd6 ct6), sl6⟩) (c6 : PySem.W.codeIn K cd6 "meets" = true) (k6 : PySem.W.keepIn K (.ref f6) = true)
    (a7 : PySem.W.nsIn K mainGlobals "check_room" = some (some (.ref f7))) (l7 : K.lookup f7 = some ⟨oc7, od7, .func (PySem.W.fnOf "check_room" "check_room" (defArgs s_check_room) (defBody s_check_room) (defScope s_check_room) .none kV7 dc7 pm7 an7 cd7 ct7), sl7⟩) (c7 : PySem.W.codeIn K cd7 "check_room" = true) (k7 : PySem.W.keepIn K (.ref f7) = true)
    (a8 : PySem.W.nsIn K mainGlobals "met_by" = some (some (.ref f8))) (l8 : K.lookup f8 = some ⟨oc8, od8, .func (PySem.W.fnOf "met_by" "met_by" (defArgs s_met_by) (defBody s_met_by) (defScope s_met_by) .none kV8 dc8 pm8 an8 cd8 ct8), sl8⟩) (c8 : PySem.W.codeIn K cd8 "met_by" = true) (k8 : PySem.W.keepIn K (.ref f8) = true)
    (a9 : PySem.W.nsIn K mainGlobals "free_places" = some (some (.ref f9))) (l9 : K.lookup f9 = some ⟨oc9, od9, .func (PySem.W.fnOf "free_places" "free_places" (defArgs s_free_places) (defBody s_free_places) (defScope s_free_places) .none kV9 dc9 pm9 an9 cd9 ct9), sl9⟩) (c9 : PySem.W.codeIn K cd9 "free_places" = true) (k9 : PySem.W.keepIn K (.ref f9) = true)
    (a10 : PySem.W.nsIn K mainGlobals "least_covering" = some (some (.ref f10))) (l10 : K.lookup f10 = some ⟨oc10, od10, .func (PySem.W.fnOf "least_covering" "least_covering" (defArgs s_least_covering) (defBody s_least_covering) (defScope s_least_covering) .none kV10 dc10 pm10 an10 cd10 ct10), sl10⟩) (c10 : PySem.W.codeIn K cd10 "least_covering" = true) (k10 : PySem.W.keepIn K (.ref f10) = true)
    (a11 : PySem.W.nsIn K mainGlobals "_law_cell_at" = some (some (.ref f11))) (l11 : K.lookup f11 = some ⟨oc11, od11, .func (PySem.W.fnOf "_law_cell_at" "_law_cell_at" (defArgs s_u_law_cell_at) (defBody s_u_law_cell_at) (defScope s_u_law_cell_at) .none kV11 dc11 pm11 an11 cd11 ct11), sl11⟩) (c11 : PySem.W.codeIn K cd11 "_law_cell_at" = true) (k11 : PySem.W.keepIn K (.ref f11) = true)
    (a12 : PySem.W.nsIn K mainGlobals "_law_draw" = some (some (.ref f12))) (l12 : K.lookup f12 = some ⟨oc12, od12, .func (PySem.W.fnOf "_law_draw" "_law_draw" (defArgs s_u_law_draw) (defBody s_u_law_draw) (defScope s_u_law_draw) .none kV12 dc12 pm12 an12 cd12 ct12), sl12⟩) (c12 : PySem.W.codeIn K cd12 "_law_draw" = true) (k12 : PySem.W.keepIn K (.ref f12) = true)
    (a13 : PySem.W.nsIn K mainGlobals "_law_number" = some (some (.ref f13))) (l13 : K.lookup f13 = some ⟨oc13, od13, .func (PySem.W.fnOf "_law_number" "_law_number" (defArgs s_u_law_number) (defBody s_u_law_number) (defScope s_u_law_number) .none kV13 dc13 pm13 an13 cd13 ct13), sl13⟩) (c13 : PySem.W.codeIn K cd13 "_law_number" = true) (k13 : PySem.W.keepIn K (.ref f13) = true)
    (a14 : PySem.W.nsIn K mainGlobals "_law_size" = some (some (.ref f14))) (l14 : K.lookup f14 = some ⟨oc14, od14, .func (PySem.W.fnOf "_law_size" "_law_size" (defArgs s_u_law_size) (defBody s_u_law_size) (defScope s_u_law_size) .none kV14 dc14 pm14 an14 cd14 ct14), sl14⟩) (c14 : PySem.W.codeIn K cd14 "_law_size" = true) (k14 : PySem.W.keepIn K (.ref f14) = true)
    (a15 : PySem.W.nsIn K mainGlobals "_law_notice" = some (some (.ref f15))) (l15 : K.lookup f15 = some ⟨oc15, od15, .func (PySem.W.fnOf "_law_notice" "_law_notice" (defArgs s_u_law_notice) (defBody s_u_law_notice) (defScope s_u_law_notice) .none kV15 dc15 pm15 an15 cd15 ct15), sl15⟩) (c15 : PySem.W.codeIn K cd15 "_law_notice" = true) (k15 : PySem.W.keepIn K (.ref f15) = true)
    (a16 : PySem.W.nsIn K mainGlobals "_law_notices" = some (some (.ref f16))) (l16 : K.lookup f16 = some ⟨oc16, od16, .func (PySem.W.fnOf "_law_notices" "_law_notices" (defArgs s_u_law_notices) (defBody s_u_law_notices) (defScope s_u_law_notices) .none kV16 dc16 pm16 an16 cd16 ct16), sl16⟩) (c16 : PySem.W.codeIn K cd16 "_law_notices" = true) (k16 : PySem.W.keepIn K (.ref f16) = true)
    (a17 : PySem.W.nsIn K mainGlobals "_law_lies" = some (some (.ref f17))) (l17 : K.lookup f17 = some ⟨oc17, od17, .func (PySem.W.fnOf "_law_lies" "_law_lies" (defArgs s_u_law_lies) (defBody s_u_law_lies) (defScope s_u_law_lies) .none kV17 dc17 pm17 an17 cd17 ct17), sl17⟩) (c17 : PySem.W.codeIn K cd17 "_law_lies" = true) (k17 : PySem.W.keepIn K (.ref f17) = true)
    (a18 : PySem.W.nsIn K mainGlobals "_law_cells" = some (some (.ref f18))) (l18 : K.lookup f18 = some ⟨oc18, od18, .func (PySem.W.fnOf "_law_cells" "_law_cells" (defArgs s_u_law_cells) (defBody s_u_law_cells) (defScope s_u_law_cells) .none kV18 dc18 pm18 an18 cd18 ct18), sl18⟩) (c18 : PySem.W.codeIn K cd18 "_law_cells" = true) (k18 : PySem.W.keepIn K (.ref f18) = true)
    (a19 : PySem.W.nsIn K mainGlobals "_law_met" = some (some (.ref f19))) (l19 : K.lookup f19 = some ⟨oc19, od19, .func (PySem.W.fnOf "_law_met" "_law_met" (defArgs s_u_law_met) (defBody s_u_law_met) (defScope s_u_law_met) .none kV19 dc19 pm19 an19 cd19 ct19), sl19⟩) (c19 : PySem.W.codeIn K cd19 "_law_met" = true) (k19 : PySem.W.keepIn K (.ref f19) = true)
    (a20 : PySem.W.nsIn K mainGlobals "_law_outright" = some (some (.ref f20))) (l20 : K.lookup f20 = some ⟨oc20, od20, .func (PySem.W.fnOf "_law_outright" "_law_outright" (defArgs s_u_law_outright) (defBody s_u_law_outright) (defScope s_u_law_outright) .none kV20 dc20 pm20 an20 cd20 ct20), sl20⟩) (c20 : PySem.W.codeIn K cd20 "_law_outright" = true) (k20 : PySem.W.keepIn K (.ref f20) = true)
    (a21 : PySem.W.nsIn K mainGlobals "law" = some (some (.ref f21))) (l21 : K.lookup f21 = some ⟨oc21, od21, .func (PySem.W.fnOf "law" "law" (defArgs s_law) (defBody s_law) (defScope s_law) .none kV21 dc21 pm21 an21 cd21 ct21), sl21⟩) (c21 : PySem.W.codeIn K cd21 "law" = true) (k21 : PySem.W.keepIn K (.ref f21) = true)
    (z_all : PySem.W.nsIn K mainGlobals "all" = some none)
    (z_any : PySem.W.nsIn K mainGlobals "any" = some none)
    (z_bool : PySem.W.nsIn K mainGlobals "bool" = some none)
    (z_int : PySem.W.nsIn K mainGlobals "int" = some none)
    (z_isinstance : PySem.W.nsIn K mainGlobals "isinstance" = some none)
    (z_len : PySem.W.nsIn K mainGlobals "len" = some none)
    (z_list : PySem.W.nsIn K mainGlobals "list" = some none)
    (z_min : PySem.W.nsIn K mainGlobals "min" = some none)
    (z_range : PySem.W.nsIn K mainGlobals "range" = some none)
    (z_str : PySem.W.nsIn K mainGlobals "str" = some none)
    (z_tuple : PySem.W.nsIn K mainGlobals "tuple" = some none)
    {t_MOST_SIZE : Tok} (z_MOST_SIZE : PySem.W.nsIn K mainGlobals "MOST_SIZE" = some (some (.int 12 t_MOST_SIZE)))
    {t_MOST_NOTICES : Tok} (z_MOST_NOTICES : PySem.W.nsIn K mainGlobals "MOST_NOTICES" = some (some (.int 24 t_MOST_NOTICES)))
    : ∃ fd : FuncData, (∀ (s : Shared) (v : Value), BindsTo s fd ⟨[v], []⟩ [("_law_script", v)]) ∧ ∀ base : Heap, K.In base → base.Ns mainGlobals mg → Fn l.prog w K mg base 7 fa fd 1 ["_law_script"] (spM ⟨K, fun _ => 0⟩ 1 m_law) := by
  have e := hfa.symm.trans (PySem.W.mg_of X G a21)
  cases e
  have T : Txt mg := ⟨PySem.W.mg_none_of X G z_all, PySem.W.mg_none_of X G z_any, PySem.W.mg_none_of X G z_bool, PySem.W.mg_none_of X G z_int, PySem.W.mg_none_of X G z_isinstance, PySem.W.mg_none_of X G z_len, PySem.W.mg_none_of X G z_list, PySem.W.mg_none_of X G z_min, PySem.W.mg_none_of X G z_range, PySem.W.mg_none_of X G z_str, PySem.W.mg_none_of X G z_tuple, ⟨_, PySem.W.mg_of X G z_MOST_SIZE⟩, ⟨_, PySem.W.mg_of X G z_MOST_NOTICES⟩⟩
  refine ⟨PySem.W.fnOf "law" "law" (defArgs s_law) (defBody s_law) (defScope s_law) .none kV21 dc21 pm21 an21 cd21 ct21, fun s v => .of_eq rfl, fun base _ _ => ?_⟩
  have Z0 := fun_mk (st := s_is_whole) l0 c0 k0
  have Z1 := fun_mk (st := s_is_between) l1 c1 k1
  have Z2 := fun_mk (st := s_is_size) l2 c2 k2
  have Z3 := fun_mk (st := s_check_size) l3 c3 k3
  have Z4 := fun_mk (st := s_is_notice) l4 c4 k4
  have Z5 := fun_mk (st := s_check_notices) l5 c5 k5
  have Z6 := fun_mk (st := s_meets) l6 c6 k6
  have Z7 := fun_mk (st := s_check_room) l7 c7 k7
  have Z8 := fun_mk (st := s_met_by) l8 c8 k8
  have Z9 := fun_mk (st := s_free_places) l9 c9 k9
  have Z10 := fun_mk (st := s_least_covering) l10 c10 k10
  have Z11 := fun_mk (st := s_u_law_cell_at) l11 c11 k11
  have Z12 := fun_mk (st := s_u_law_draw) l12 c12 k12
  have Z13 := fun_mk (st := s_u_law_number) l13 c13 k13
  have Z14 := fun_mk (st := s_u_law_size) l14 c14 k14
  have Z15 := fun_mk (st := s_u_law_notice) l15 c15 k15
  have Z16 := fun_mk (st := s_u_law_notices) l16 c16 k16
  have Z17 := fun_mk (st := s_u_law_lies) l17 c17 k17
  have Z18 := fun_mk (st := s_u_law_cells) l18 c18 k18
  have Z19 := fun_mk (st := s_u_law_met) l19 c19 k19
  have Z20 := fun_mk (st := s_u_law_outright) l20 c20 k20
  have Z21 := fun_mk (st := s_law) l21 c21 k21
  have h_is_whole : Has ⟨K, fun _ => 0⟩ l.prog w K mg base "is_whole" 1 1 m_is_whole := has_mk (ok_is_whole rfl T Z0 ) (PySem.W.mg_of X G a0) k0 (Z0.binds (ps := ["thing"]) fun _ _ _ _ _ _ us hl => match us, hl with | [_], _ => rfl)
  have h_is_between : Has ⟨K, fun _ => 0⟩ l.prog w K mg base "is_between" 2 3 m_is_between := has_mk (ok_is_between rfl T Z1 h_is_whole) (PySem.W.mg_of X G a1) k1 (Z1.binds (ps := ["thing", "least", "most"]) fun _ _ _ _ _ _ us hl => match us, hl with | [_, _, _], _ => rfl)
  have h_is_size : Has ⟨K, fun _ => 0⟩ l.prog w K mg base "is_size" 3 1 m_is_size := has_mk (ok_is_size rfl T Z2 h_is_between) (PySem.W.mg_of X G a2) k2 (Z2.binds (ps := ["thing"]) fun _ _ _ _ _ _ us hl => match us, hl with | [_], _ => rfl)
  have h_check_size : Has ⟨K, fun _ => 0⟩ l.prog w K mg base "check_size" 4 1 m_check_size := has_mk (ok_check_size rfl T Z3 h_is_size) (PySem.W.mg_of X G a3) k3 (Z3.binds (ps := ["size"]) fun _ _ _ _ _ _ us hl => match us, hl with | [_], _ => rfl)
  have h_is_notice : Has ⟨K, fun _ => 0⟩ l.prog w K mg base "is_notice" 2 2 m_is_notice := has_mk (ok_is_notice rfl T Z4 h_is_whole) (PySem.W.mg_of X G a4) k4 (Z4.binds (ps := ["size", "thing"]) fun _ _ _ _ _ _ us hl => match us, hl with | [_, _], _ => rfl)
  have h_check_notices : Has ⟨K, fun _ => 0⟩ l.prog w K mg base "check_notices" 3 2 m_check_notices := has_mk (ok_check_notices rfl T Z5 h_is_notice) (PySem.W.mg_of X G a5) k5 (Z5.binds (ps := ["size", "notices"]) fun _ _ _ _ _ _ us hl => match us, hl with | [_, _], _ => rfl)
  have h_meets : Has ⟨K, fun _ => 0⟩ l.prog w K mg base "meets" 1 2 m_meets := has_mk (ok_meets rfl T Z6 ) (PySem.W.mg_of X G a6) k6 (Z6.binds (ps := ["one", "other"]) fun _ _ _ _ _ _ us hl => match us, hl with | [_, _], _ => rfl)
  have h_check_room : Has ⟨K, fun _ => 0⟩ l.prog w K mg base "check_room" 4 2 m_check_room := has_mk (ok_check_room rfl T Z7 h_is_size) (PySem.W.mg_of X G a7) k7 (Z7.binds (ps := ["size", "room"]) fun _ _ _ _ _ _ us hl => match us, hl with | [_, _], _ => rfl)
  have h_met_by : Has ⟨K, fun _ => 0⟩ l.prog w K mg base "met_by" 2 3 m_met_by := has_mk (ok_met_by rfl T Z8 h_meets) (PySem.W.mg_of X G a8) k8 (Z8.binds (ps := ["size", "notices", "room"]) fun _ _ _ _ _ _ us hl => match us, hl with | [_, _, _], _ => rfl)
  have h_free_places : Has ⟨K, fun _ => 0⟩ l.prog w K mg base "free_places" 5 3 m_free_places := has_mk (ok_free_places rfl T Z9 h_check_size h_check_notices h_check_room h_met_by) (PySem.W.mg_of X G a9) k9 (Z9.binds (ps := ["size", "notices", "room"]) fun _ _ _ _ _ _ us hl => match us, hl with | [_, _, _], _ => rfl)
  have h_free_places_L1 : Has ⟨K, fun _ => 0⟩ l.prog w K mg base "free_places" 5 3 m_free_places_L1 := has_mk (ok_free_places_L1 rfl T Z9 h_check_size h_check_notices h_check_room h_met_by) (PySem.W.mg_of X G a9) k9 (Z9.binds (ps := ["size", "notices", "room"]) fun _ _ _ _ _ _ us hl => match us, hl with | [_, _, _], _ => rfl)
  have h_least_covering : Has ⟨K, fun _ => 0⟩ l.prog w K mg base "least_covering" 5 3 m_least_covering := has_mk (ok_least_covering rfl T Z10 h_check_size h_check_notices h_check_room h_met_by) (PySem.W.mg_of X G a10) k10 (Z10.binds (ps := ["size", "notices", "room"]) fun _ _ _ _ _ _ us hl => match us, hl with | [_, _, _], _ => rfl)
  have h_u_law_cell_at : Has ⟨K, fun _ => 0⟩ l.prog w K mg base "_law_cell_at" 1 2 m_u_law_cell_at := has_mk (ok_u_law_cell_at rfl T Z11 ) (PySem.W.mg_of X G a11) k11 (Z11.binds (ps := ["_law_script", "_law_k"]) fun _ _ _ _ _ _ us hl => match us, hl with | [_, _], _ => rfl)
  have h_u_law_draw : Has ⟨K, fun _ => 0⟩ l.prog w K mg base "_law_draw" 1 3 m_u_law_draw := has_mk (ok_u_law_draw rfl T Z12 ) (PySem.W.mg_of X G a12) k12 (Z12.binds (ps := ["_law_cell", "_law_k", "_law_most"]) fun _ _ _ _ _ _ us hl => match us, hl with | [_, _, _], _ => rfl)
  have h_u_law_number : Has ⟨K, fun _ => 0⟩ l.prog w K mg base "_law_number" 2 3 m_u_law_number := has_mk (ok_u_law_number rfl T Z13 h_u_law_draw) (PySem.W.mg_of X G a13) k13 (Z13.binds (ps := ["_law_cell", "_law_k", "_law_limit"]) fun _ _ _ _ _ _ us hl => match us, hl with | [_, _, _], _ => rfl)
  have h_u_law_size : Has ⟨K, fun _ => 0⟩ l.prog w K mg base "_law_size" 3 3 m_u_law_size := has_mk (ok_u_law_size rfl T Z14 h_u_law_cell_at h_u_law_number) (PySem.W.mg_of X G a14) k14 (Z14.binds (ps := ["_law_script", "_law_by", "_law_most"]) fun _ _ _ _ _ _ us hl => match us, hl with | [_, _, _], _ => rfl)
  have h_u_law_notice : Has ⟨K, fun _ => 0⟩ l.prog w K mg base "_law_notice" 3 3 m_u_law_notice := has_mk (ok_u_law_notice rfl T Z15 h_u_law_number) (PySem.W.mg_of X G a15) k15 (Z15.binds (ps := ["_law_cell", "_law_at", "_law_size_here"]) fun _ _ _ _ _ _ us hl => match us, hl with | [_, _, _], _ => rfl)
  have h_u_law_notices : Has ⟨K, fun _ => 0⟩ l.prog w K mg base "_law_notices" 4 4 m_u_law_notices := has_mk (ok_u_law_notices rfl T Z16 h_u_law_cell_at h_u_law_number h_u_law_notice) (PySem.W.mg_of X G a16) k16 (Z16.binds (ps := ["_law_script", "_law_by", "_law_size_here", "_law_most"]) fun _ _ _ _ _ _ us hl => match us, hl with | [_, _, _, _], _ => rfl)
  have h_u_law_lies : Has ⟨K, fun _ => 0⟩ l.prog w K mg base "_law_lies" 1 3 m_u_law_lies := has_mk (ok_u_law_lies rfl T Z17 ) (PySem.W.mg_of X G a17) k17 (Z17.binds (ps := ["_law_notice_here", "_law_across", "_law_down"]) fun _ _ _ _ _ _ us hl => match us, hl with | [_, _, _], _ => rfl)
  have h_u_law_cells : Has ⟨K, fun _ => 0⟩ l.prog w K mg base "_law_cells" 1 1 m_u_law_cells := has_mk (ok_u_law_cells rfl T Z18 ) (PySem.W.mg_of X G a18) k18 (Z18.binds (ps := ["_law_notice_here"]) fun _ _ _ _ _ _ us hl => match us, hl with | [_], _ => rfl)
  have h_u_law_met : Has ⟨K, fun _ => 0⟩ l.prog w K mg base "_law_met" 2 3 m_u_law_met := has_mk (ok_u_law_met rfl T Z19 h_u_law_lies h_u_law_cells) (PySem.W.mg_of X G a19) k19 (Z19.binds (ps := ["_law_size_here", "_law_notices_here", "_law_room"]) fun _ _ _ _ _ _ us hl => match us, hl with | [_, _, _], _ => rfl)
  have h_u_law_outright : Has ⟨K, fun _ => 0⟩ l.prog w K mg base "_law_outright" 6 0 m_u_law_outright := has_mk (ok_u_law_outright rfl T Z20 h_free_places h_least_covering) (PySem.W.mg_of X G a20) k20 (Z20.binds (ps := []) fun _ _ _ _ _ _ us hl => match us, hl with | [], _ => rfl)
  exact ok_law rfl T Z21 h_free_places h_free_places_L1 h_least_covering h_u_law_cell_at h_u_law_number h_u_law_size h_u_law_notices h_u_law_met h_u_law_outright
end Lw


open PySem PySem.W PyProof.Rows
set_option maxRecDepth 100000 in
set_option maxHeartbeats 0 in
theorem PySem.Challenge.cw_pinboard_k08_whole_places_holds : PySem.Challenge.rw_pinboard_k08_whole_places.Holds := by
  w_on; o_law; k_head; (case hw => w_witness2)
  k_fill
  refine Mc.walk_M (l := PySem.Challenge.rw_pinboard_k08_whole_places) (k := 7) (x := "_law_script") (ff := Lw.m_law) rfl rfl ⟨rfl, by decide, by decide⟩ (fun w h Y => PySem.W.kIn_of Y) ?F Lw.law_holds
  case F =>
    intro w mg fa h KX G hmg
    refine' Lw.all_mk KX G hmg ?a0 ?l0 ?c0 ?k0 ?a1 ?l1 ?c1 ?k1 ?a2 ?l2 ?c2 ?k2 ?a3 ?l3 ?c3 ?k3 ?a4 ?l4 ?c4 ?k4 ?a5 ?l5 ?c5 ?k5 ?a6 ?l6 ?c6 ?k6 ?a7 ?l7 ?c7 ?k7 ?a8 ?l8 ?c8 ?k8 ?a9 ?l9 ?c9 ?k9 ?a10 ?l10 ?c10 ?k10 ?a11 ?l11 ?c11 ?k11 ?a12 ?l12 ?c12 ?k12 ?a13 ?l13 ?c13 ?k13 ?a14 ?l14 ?c14 ?k14 ?a15 ?l15 ?c15 ?k15 ?a16 ?l16 ?c16 ?k16 ?a17 ?l17 ?c17 ?k17 ?a18 ?l18 ?c18 ?k18 ?a19 ?l19 ?c19 ?k19 ?a20 ?l20 ?c20 ?k20 ?a21 ?l21 ?c21 ?k21 ?z_all ?z_any ?z_bool ?z_int ?z_isinstance ?z_len ?z_list ?z_min ?z_range ?z_str ?z_tuple ?z_MOST_SIZE ?z_MOST_NOTICES
    (case a0 => k_is); (case l0 => k_is); (case c0 => k_is); (case k0 => k_is); (case a1 => k_is); (case l1 => k_is)
    (case c1 => k_is); (case k1 => k_is); (case a2 => k_is); (case l2 => k_is); (case c2 => k_is); (case k2 => k_is)
    (case a3 => k_is); (case l3 => k_is); (case c3 => k_is); (case k3 => k_is); (case a4 => k_is); (case l4 => k_is)
    (case c4 => k_is); (case k4 => k_is); (case a5 => k_is); (case l5 => k_is); (case c5 => k_is); (case k5 => k_is)
    (case a6 => k_is); (case l6 => k_is); (case c6 => k_is); (case k6 => k_is); (case a7 => k_is); (case l7 => k_is)
    (case c7 => k_is); (case k7 => k_is); (case a8 => k_is); (case l8 => k_is); (case c8 => k_is); (case k8 => k_is)
    (case a9 => k_is); (case l9 => k_is); (case c9 => k_is); (case k9 => k_is); (case a10 => k_is); (case l10 => k_is)
    (case c10 => k_is); (case k10 => k_is); (case a11 => k_is); (case l11 => k_is); (case c11 => k_is); (case k11 => k_is)
    (case a12 => k_is); (case l12 => k_is); (case c12 => k_is); (case k12 => k_is); (case a13 => k_is); (case l13 => k_is)
    (case c13 => k_is); (case k13 => k_is); (case a14 => k_is); (case l14 => k_is); (case c14 => k_is); (case k14 => k_is)
    (case a15 => k_is); (case l15 => k_is); (case c15 => k_is); (case k15 => k_is); (case a16 => k_is); (case l16 => k_is)
    (case c16 => k_is); (case k16 => k_is); (case a17 => k_is); (case l17 => k_is); (case c17 => k_is); (case k17 => k_is)
    (case a18 => k_is); (case l18 => k_is); (case c18 => k_is); (case k18 => k_is); (case a19 => k_is); (case l19 => k_is)
    (case c19 => k_is); (case k19 => k_is); (case a20 => k_is); (case l20 => k_is); (case c20 => k_is); (case k20 => k_is)
    (case a21 => k_is); (case l21 => k_is); (case c21 => k_is); (case k21 => k_is); (case z_all => k_is); (case z_any => k_is)
    (case z_bool => k_is); (case z_int => k_is); (case z_isinstance => k_is); (case z_len => k_is); (case z_list => k_is); (case z_min => k_is)
    (case z_range => k_is); (case z_str => k_is); (case z_tuple => k_is); (case z_MOST_SIZE => k_is); (case z_MOST_NOTICES => k_is)

