import PyProof.Rows.All
import Wide.All
import OpenK.AllK
import Wide.FinOn
import HandS.ForExc
import HandS.Evl
import HandS.Comp
import KE.KDictKeyed
import HandS.Conv
import HandS.IsInst
import HandS.Wide
import HandS.TupAny
import HandS.TupLe
import HandS.Text
import HandS.Defaults
import HandS.WordsExc
import HandS.ExcOwn
import HandS.Ends
import HandS.EndBits
import HandS.ExcIs
import HandS.Exc
import HandS.HeadHook1
import HandS.HeadHook2
import HandS.HeadHook3
import HandS.HeadHook4
import HandS.Dict
import KE.LtSeq
import HandS.Deep
import HandS.TupLen
import KE.KDictDisplayH
import KE.DataCmp
import KE.SortData
import HandS.SortOrd
import HandS.SortInts
import HandS.SetFor
import HandS.Strs
import KE.KIsAll
import HandS.More
import HandS.Zip
import KE.KStateDown
import Lean
import HandS.Base
import HandS.Call
import HandS.Words
import HandS.Head0
import HandS.Head1
import HandS.Head2
import HandS.HeadEnd
import PySem.Challenge.RW_probewell_k63_whole_thinned_passed
set_option Elab.async false
set_option linter.all false
set_option maxRecDepth 100000
set_option maxHeartbeats 0
namespace Dv
open PySem L2 Evl

/-! ### plain data -/
inductive D where
  | non | bl (b : Bool) | int (i : Int) | str (x : Str)
  | tup (xs : List D) | lst (xs : List D) | sc (xs : List D)
  | dK (kvs : List (Key × D)) | dT (kvs : List (List Key × D))
  | dN (kvs : List (NestedKey × D))
  | ins (c : Str) (fs : List (Str × D))
instance : Inhabited D := ⟨.non⟩

mutual
def imm : D → Bool
  | .non => true
  | .bl _ => true
  | .int _ => true
  | .str _ => true
  | .tup xs => immL xs
  | .sc xs => immL xs
  | .lst _ => false
  | .dK _ => false
  | .dT _ => false
  | .dN _ => false
  | .ins _ _ => false
def immL : List D → Bool
  | [] => true
  | x :: xs => imm x && immL xs
end

inductive Ow where
  | full | top | no
  deriving DecidableEq
abbrev Sl := Option (D × Ow)
abbrev SD := List Sl

/-! ### what the heap holds -/
/-- a locked list (the script) -/
def SqF (K : PySem.W.Frag) (H : Hp) (a : Addr) (xs : List V) : Prop :=
  (∃ o, H a = some (.frz o (.lst xs))) ∨
    ∃ (o : Obj) (its : Array Value) (n : Nat), K.lookup a = some o ∧ o.cls = .type "list" ∧ o.dict = none ∧ o.data = .seq its n ∧ its.size ≤ sizeLine ∧ Vals xs its.toList
theorem SqF.l {K : PySem.W.Frag} {H : Hp} {a : Addr} {xs : List V} (h : SqF K H a xs) : SqL K H a xs := by
  rcases h with ⟨o, h⟩ | h
  · exact .inl (.inr ⟨o, h⟩)
  · exact .inr h
/-! ### keys of any depth (no texts) -/
mutual
inductive NkAt (H : Hp) : NestedKey → V → Prop
  | num (i : Int) : NkAt H (.num i) (.int i)
  | tup {q : Addr} {vs : List V} {ks : List NestedKey} : H q = some (.tup vs) → NkAll H ks vs → NkAt H (.tup ks) (.ref q)
inductive NkAll (H : Hp) : List NestedKey → List V → Prop
  | nil : NkAll H [] []
  | cons {k : NestedKey} {v : V} {ks : List NestedKey} {vs : List V} : NkAt H k v → NkAll H ks vs → NkAll H (k :: ks) (v :: vs)
end
mutual
theorem NkAt.mono {H H' : Hp} (t : ∀ p xs, H p = some (.tup xs) → H' p = some (.tup xs)) : ∀ {k : NestedKey} {v : V}, NkAt H k v → NkAt H' k v
  | _, _, .num i => .num i
  | _, _, .tup h r => .tup (t _ _ h) (NkAll.mono t r)
theorem NkAll.mono {H H' : Hp} (t : ∀ p xs, H p = some (.tup xs) → H' p = some (.tup xs)) : ∀ {k : List NestedKey} {v : List V}, NkAll H k v → NkAll H' k v
  | _, _, .nil => .nil
  | _, _, .cons a b => .cons (NkAt.mono t a) (NkAll.mono t b)
end
def DictNOk (a : Addr) (xs : List (NestedKey × Addr × V)) (h : Heap) : Prop :=
  xs.length ≤ sizeLine ∧ (a == sysModules) = false ∧ ∃ ys : List (NestedKey × Addr × Value), Paired (fun (p : NestedKey × Addr × V) (q : NestedKey × Addr × Value) => p.1 = q.1 ∧ p.2.1 = q.2.1 ∧ RelV p.2.2 q.2.2) xs ys ∧
    ∃ o es ep, h.get? a = some o ∧ o.ExactDict ∧ o.data = .dict es ep ∧ (∀ (P : Program) (w : World), es.toList = ys.map (entryOfKey (nestedKind P w))) ∧ (ys.map (·.1)).Nodup
/-- a dict with keys of any depth -/
def dictN (a : Addr) (xs : List (NestedKey × Addr × V)) : HO := .ext (DictNOk a xs)
/-- its keys stand where it says -/
def NkIs (H : Hp) (xs : List (NestedKey × Addr × V)) : Prop := ∀ x ∈ xs, NkAt H x.1 (.ref x.2.1) ∧ x.1.depth ≤ 8
theorem NkIs.mono {H H' : Hp} (t : ∀ p xs, H p = some (.tup xs) → H' p = some (.tup xs)) {xs : List (NestedKey × Addr × V)} (h : NkIs H xs) : NkIs H' xs := fun x hx => ⟨(h x hx).1.mono t, (h x hx).2⟩
mutual
/-- v reads as d: lists in G, tuples in H -/
inductive Re (K : PySem.W.Frag) (G H : Hp) : V → D → Prop
  | non : Re K G H .non .non
  | bl (b : Bool) : Re K G H (.bl b) (.bl b)
  | int (i : Int) : Re K G H (.int i) (.int i)
  | str (x : Str) : Re K G H (.str x) (.str x)
  | tup {p : Addr} {vs : List V} {ds : List D} : H p = some (.tup vs) → ReL K G H vs ds → Re K G H (.ref p) (.tup ds)
  | lst {p : Addr} {vs : List V} {ds : List D} : G p = some (.lst vs) → ReL K G H vs ds → Re K G H (.ref p) (.lst ds)
  | sc {p : Addr} {vs : List V} {ds : List D} : SqF K H p vs → ReL K G H vs ds → Re K G H (.ref p) (.sc ds)
  | dk {p : Addr} {ks : List (Key × V)} {kd : List (Key × D)} : G p = some (.dK ks) → ks.map (·.1) = kd.map (·.1) → ReL K G H (ks.map (·.2)) (kd.map (·.2)) → Re K G H (.ref p) (.dK kd)
  | dt {p : Addr} {ks : List (List Key × V)} {kd : List (List Key × D)} : G p = some (.dT ks) → ks.map (·.1) = kd.map (·.1) → ReL K G H (ks.map (·.2)) (kd.map (·.2)) → Re K G H (.ref p) (.dT kd)
  | dn {p : Addr} {xs : List (NestedKey × Addr × V)} {kd : List (NestedKey × D)} : G p = some (dictN p xs) → NkIs H xs → xs.map (·.1) = kd.map (·.1) → ReL K G H (xs.map (·.2.2)) (kd.map (·.2)) → Re K G H (.ref p) (.dN kd)
inductive ReL (K : PySem.W.Frag) (G H : Hp) : List V → List D → Prop
  | nil : ReL K G H [] []
  | cons {v : V} {d : D} {vs : List V} {ds : List D} : Re K G H v d → ReL K G H vs ds → ReL K G H (v :: vs) (d :: ds)
end

/-- tuples and locked things stay -/
structure Tk (H H' : Hp) : Prop where
  t : ∀ p xs, H p = some (.tup xs) → H' p = some (.tup xs)
  f : ∀ p o u, H p = some (.frz o u) → H' p = some (.frz o u)
theorem Tk.refl (H : Hp) : Tk H H := ⟨fun _ _ h => h, fun _ _ _ h => h⟩
theorem Tk.trans {H H1 H2 : Hp} (a : Tk H H1) (b : Tk H1 H2) : Tk H H2 := ⟨fun p xs h => b.t p xs (a.t p xs h), fun p o u h => b.f p o u (a.f p o u h)⟩
theorem Tk.of_ex {H H' : Hp} (e : Ex H H') : Tk H H' := ⟨fun p xs h => e p _ h, fun p o u h => e p _ h⟩
theorem Tk.sq {K : PySem.W.Frag} {H H' : Hp} {p : Addr} {vs : List V} (e : Tk H H') (h : SqT K H p vs) : SqT K H' p vs := by
  rcases h with (h | ⟨o, h⟩) | h
  · exact .inl (.inl (e.t _ _ h))
  · exact .inl (.inr ⟨o, e.f _ _ _ h⟩)
  · exact .inr h

theorem Tk.sf {K : PySem.W.Frag} {H H' : Hp} {p : Addr} {vs : List V} (e : Tk H H') (h : SqF K H p vs) : SqF K H' p vs := by
  rcases h with ⟨o, h⟩ | h
  · exact .inl ⟨o, e.f _ _ _ h⟩
  · exact .inr h
mutual
theorem Re.mono {K : PySem.W.Frag} {G G' H H' : Hp} (g : Ex G G') (t : Tk H H') : ∀ {v : V} {d : D}, Re K G H v d → Re K G' H' v d
  | _, _, .non => .non
  | _, _, .bl b => .bl b
  | _, _, .int i => .int i
  | _, _, .str x => .str x
  | _, _, .tup h r => .tup (t.t _ _ h) (ReL.mono g t r)
  | _, _, .lst h r => .lst (g _ _ h) (ReL.mono g t r)
  | _, _, .sc h r => .sc (t.sf h) (ReL.mono g t r)
  | _, _, .dk h e r => .dk (g _ _ h) e (ReL.mono g t r)
  | _, _, .dt h e r => .dt (g _ _ h) e (ReL.mono g t r)
  | _, _, .dn h n e r => .dn (g _ _ h) (n.mono t.t) e (ReL.mono g t r)
theorem ReL.mono {K : PySem.W.Frag} {G G' H H' : Hp} (g : Ex G G') (t : Tk H H') : ∀ {vs : List V} {ds : List D}, ReL K G H vs ds → ReL K G' H' vs ds
  | _, _, .nil => .nil
  | _, _, .cons a b => .cons (Re.mono g t a) (ReL.mono g t b)
end
theorem Re.ex {K : PySem.W.Frag} {H H' : Hp} {v : V} {d : D} (e : Ex H H') (h : Re K H H v d) : Re K H' H' v d := h.mono e (Tk.of_ex e)
theorem ReL.ex {K : PySem.W.Frag} {H H' : Hp} {v : List V} {d : List D} (e : Ex H H') (h : ReL K H H v d) : ReL K H' H' v d := h.mono e (Tk.of_ex e)
mutual
theorem Re.any {K : PySem.W.Frag} {G G' H : Hp} : ∀ {v : V} {d : D}, Re K G H v d → imm d = true → Re K G' H v d
  | _, _, .non, _ => .non
  | _, _, .bl b, _ => .bl b
  | _, _, .int i, _ => .int i
  | _, _, .str x, _ => .str x
  | _, _, .tup h r, e => .tup h (ReL.any r (by simpa [imm] using e))
  | _, _, .lst h r, e => absurd e (by simp [imm])
  | _, _, .sc h r, e => .sc h (ReL.any r (by simpa [imm] using e))
  | _, _, .dk h _ r, e => absurd e (by simp [imm])
  | _, _, .dt h _ r, e => absurd e (by simp [imm])
  | _, _, .dn h _ _ r, e => absurd e (by simp [imm])
theorem ReL.any {K : PySem.W.Frag} {G G' H : Hp} : ∀ {vs : List V} {ds : List D}, ReL K G H vs ds → immL ds = true → ReL K G' H vs ds
  | _, _, .nil, _ => .nil
  | _ :: _, d :: ds, .cons a b, e => by
    have e2 : (imm d && immL ds) = true := by simpa only [immL] using e
    have e3 := Bool.and_eq_true_iff.mp e2
    exact .cons (Re.any a e3.1) (ReL.any b e3.2)
end
theorem ReL.length {K : PySem.W.Frag} {G H : Hp} : ∀ {vs : List V} {ds : List D}, ReL K G H vs ds → vs.length = ds.length
  | _, _, .nil => rfl
  | _, _, .cons _ b => by
    have := ReL.length b
    simp [this]
theorem ReL.get {K : PySem.W.Frag} {G H : Hp} : ∀ {vs : List V} {ds : List D} {i : Nat} {d : D}, ReL K G H vs ds → ds[i]? = some d → ∃ v, vs[i]? = some v ∧ Re K G H v d
  | _, _, _, _, .nil, e => by simp at e
  | _, _, 0, _, .cons r _, e => by simp at e; subst e; exact ⟨_, rfl, r⟩
  | _, _, i + 1, d, .cons _ t, e => by
    obtain ⟨u, h1, h2⟩ := ReL.get (i := i) (d := d) t (by simpa using e)
    exact ⟨u, by simpa using h1, h2⟩
theorem ReL.append {K : PySem.W.Frag} {G H : Hp} : ∀ {vs ws : List V} {ds es : List D}, ReL K G H vs ds → ReL K G H ws es → ReL K G H (vs ++ ws) (ds ++ es)
  | _, _, _, _, .nil, s => s
  | _, _, _, _, .cons r t, s => .cons r (ReL.append t s)
theorem ReL.take {K : PySem.W.Frag} {G H : Hp} : ∀ {vs : List V} {ds : List D} (n : Nat), ReL K G H vs ds → ReL K G H (vs.take n) (ds.take n)
  | _, _, 0, _ => .nil
  | _, _, _ + 1, .nil => .nil
  | _, _, n + 1, .cons r t => .cons r (ReL.take n t)
theorem ReL.drop {K : PySem.W.Frag} {G H : Hp} : ∀ {vs : List V} {ds : List D} (n : Nat), ReL K G H vs ds → ReL K G H (vs.drop n) (ds.drop n)
  | _, _, 0, r => r
  | _, _, _ + 1, .nil => .nil
  | _, _, n + 1, .cons _ t => ReL.drop n t

/-! ### what is owned: its lists' addresses -/
mutual
inductive Own (K : PySem.W.Frag) (H : Hp) : V → D → List Addr → Prop
  | im {v : V} {d : D} : imm d = true → Re K H H v d → Own K H v d []
  | tup {p : Addr} {vs : List V} {ds : List D} {F : List Addr} : H p = some (.tup vs) → OwnL K H vs ds F → Own K H (.ref p) (.tup ds) F
  | lst {p : Addr} {vs : List V} {ds : List D} {F : List Addr} : H p = some (.lst vs) → OwnL K H vs ds F → Own K H (.ref p) (.lst ds) (p :: F)
  | dk {p : Addr} {ks : List (Key × V)} {kd : List (Key × D)} {F : List Addr} : H p = some (.dK ks) → ks.map (·.1) = kd.map (·.1) → OwnL K H (ks.map (·.2)) (kd.map (·.2)) F → Own K H (.ref p) (.dK kd) (p :: F)
  | dt {p : Addr} {ks : List (List Key × V)} {kd : List (List Key × D)} {F : List Addr} : H p = some (.dT ks) → ks.map (·.1) = kd.map (·.1) → OwnL K H (ks.map (·.2)) (kd.map (·.2)) F → Own K H (.ref p) (.dT kd) (p :: F)
  | dn {p : Addr} {xs : List (NestedKey × Addr × V)} {kd : List (NestedKey × D)} {F : List Addr} : H p = some (dictN p xs) → NkIs H xs → xs.map (·.1) = kd.map (·.1) → OwnL K H (xs.map (·.2.2)) (kd.map (·.2)) F → Own K H (.ref p) (.dN kd) (p :: F)
inductive OwnL (K : PySem.W.Frag) (H : Hp) : List V → List D → List Addr → Prop
  | nil : OwnL K H [] [] []
  | cons {v : V} {d : D} {vs : List V} {ds : List D} {F G : List Addr} : Own K H v d F → OwnL K H vs ds G → OwnL K H (v :: vs) (d :: ds) (F ++ G)
end
mutual
theorem Own.mono {K : PySem.W.Frag} {H H' : Hp} (t : Tk H H') : ∀ {v : V} {d : D} {F : List Addr}, Own K H v d F → (∀ a ∈ F, H' a = H a) → Own K H' v d F
  | _, _, _, .im e r, _ => .im e ((r.mono (Ex.refl _) t).any e)
  | _, _, _, .tup h r, k => .tup (t.t _ _ h) (OwnL.mono t r k)
  | _, _, _, .lst h r, k => .lst ((k _ List.mem_cons_self).trans h) (OwnL.mono t r fun a ha => k a (List.mem_cons_of_mem _ ha))
  | _, _, _, .dk h e r, k => .dk ((k _ List.mem_cons_self).trans h) e (OwnL.mono t r fun a ha => k a (List.mem_cons_of_mem _ ha))
  | _, _, _, .dt h e r, k => .dt ((k _ List.mem_cons_self).trans h) e (OwnL.mono t r fun a ha => k a (List.mem_cons_of_mem _ ha))
  | _, _, _, .dn h n e r, k => .dn ((k _ List.mem_cons_self).trans h) (n.mono t.t) e (OwnL.mono t r fun a ha => k a (List.mem_cons_of_mem _ ha))
theorem OwnL.mono {K : PySem.W.Frag} {H H' : Hp} (t : Tk H H') : ∀ {vs : List V} {ds : List D} {F : List Addr}, OwnL K H vs ds F → (∀ a ∈ F, H' a = H a) → OwnL K H' vs ds F
  | _, _, _, .nil, _ => .nil
  | _, _, _, .cons a b, k => .cons (Own.mono t a fun x hx => k x (List.mem_append_left _ hx)) (OwnL.mono t b fun x hx => k x (List.mem_append_right _ hx))
end
mutual
theorem Own.re {K : PySem.W.Frag} {G H : Hp} : ∀ {v : V} {d : D} {F : List Addr}, Own K H v d F → (∀ a ∈ F, G a = H a) → Re K G H v d
  | _, _, _, .im e r, _ => r.any e
  | _, _, _, .tup h r, k => .tup h (OwnL.re r k)
  | _, _, _, .lst h r, k => .lst ((k _ List.mem_cons_self).trans h) (OwnL.re r fun a ha => k a (List.mem_cons_of_mem _ ha))
  | _, _, _, .dk h e r, k => .dk ((k _ List.mem_cons_self).trans h) e (OwnL.re r fun a ha => k a (List.mem_cons_of_mem _ ha))
  | _, _, _, .dt h e r, k => .dt ((k _ List.mem_cons_self).trans h) e (OwnL.re r fun a ha => k a (List.mem_cons_of_mem _ ha))
  | _, _, _, .dn h n e r, k => .dn ((k _ List.mem_cons_self).trans h) n e (OwnL.re r fun a ha => k a (List.mem_cons_of_mem _ ha))
theorem OwnL.re {K : PySem.W.Frag} {G H : Hp} : ∀ {vs : List V} {ds : List D} {F : List Addr}, OwnL K H vs ds F → (∀ a ∈ F, G a = H a) → ReL K G H vs ds
  | _, _, _, .nil, _ => .nil
  | _, _, _, .cons a b, k => .cons (Own.re a fun x hx => k x (List.mem_append_left _ hx)) (OwnL.re b fun x hx => k x (List.mem_append_right _ hx))
end
mutual
theorem Own.live {K : PySem.W.Frag} {H : Hp} : ∀ {v : V} {d : D} {F : List Addr}, Own K H v d F → ∀ a ∈ F, H a ≠ none
  | _, _, _, .im _ _, a, ha => by cases ha
  | _, _, _, .tup _ r, a, ha => OwnL.live r a ha
  | _, _, _, .lst h r, a, ha => by
    rcases List.mem_cons.mp ha with e | ha
    · rw [e, h]; exact fun q => nomatch q
    · exact OwnL.live r a ha
  | _, _, _, .dk h _ r, a, ha => by
    rcases List.mem_cons.mp ha with e | ha
    · rw [e, h]; exact fun q => nomatch q
    · exact OwnL.live r a ha
  | _, _, _, .dt h _ r, a, ha => by
    rcases List.mem_cons.mp ha with e | ha
    · rw [e, h]; exact fun q => nomatch q
    · exact OwnL.live r a ha
  | _, _, _, .dn h _ _ r, a, ha => by
    rcases List.mem_cons.mp ha with e | ha
    · rw [e, h]; exact fun q => nomatch q
    · exact OwnL.live r a ha
theorem OwnL.live {K : PySem.W.Frag} {H : Hp} : ∀ {vs : List V} {ds : List D} {F : List Addr}, OwnL K H vs ds F → ∀ a ∈ F, H a ≠ none
  | _, _, _, .nil, a, ha => by cases ha
  | _, _, _, .cons x y, a, ha => by
    rcases List.mem_append.mp ha with ha | ha
    · exact Own.live x a ha
    · exact OwnL.live y a ha
end
theorem OwnL.append {K : PySem.W.Frag} {H : Hp} : ∀ {vs ws : List V} {ds es : List D} {F G : List Addr}, OwnL K H vs ds F → OwnL K H ws es G → OwnL K H (vs ++ ws) (ds ++ es) (F ++ G)
  | _, _, _, _, _, _, .nil, s => s
  | _, _, _, _, _, _, .cons r t, s => by
    rw [List.append_assoc]
    exact .cons r (OwnL.append t s)
/-- a list of things without lists -/
theorem OwnL.imms {K : PySem.W.Frag} {G H : Hp} : ∀ {vs : List V} {ds : List D}, ReL K G H vs ds → immL ds = true → OwnL K H vs ds []
  | _, _, .nil, _ => .nil
  | _ :: _, d :: ds, .cons a b, e => by
    have e2 : (imm d && immL ds) = true := by simpa only [immL] using e
    have e3 := Bool.and_eq_true_iff.mp e2
    exact .cons (F := []) (G := []) (.im e3.1 (a.any e3.1)) (OwnL.imms b e3.2)

/-- a thing held: in full, its top alone, not at all -/
def RS (K : PySem.W.Frag) (B H : Hp) (v : V) (d : D) : Ow → List Addr → Prop
  | .full, F => Own K H v d F
  | .top, F => ∃ p vs ds, v = .ref p ∧ d = .lst ds ∧ H p = some (.lst vs) ∧ ReL K B H vs ds ∧ F = [p]
  | .no, F => Re K B H v d ∧ F = []
section
variable {K : PySem.W.Frag} {B B' H H' : Hp} {v : V} {d : D} {ow : Ow} {F : List Addr}
theorem RS.mono (r : RS K B H v d ow F) (b : Ex B B') (t : Tk H H') (k : ∀ a ∈ F, H' a = H a) : RS K B' H' v d ow F := by
  cases ow with
  | full => exact Own.mono t r k
  | top =>
    obtain ⟨p, vs, ds, e1, e2, e3, e4, e5⟩ := r
    subst e5
    exact ⟨p, vs, ds, e1, e2, (k p (by simp)).trans e3, e4.mono b t, rfl⟩
  | no => exact ⟨r.1.mono b t, r.2⟩
theorem RS.live (r : RS K B H v d ow F) : ∀ a ∈ F, H a ≠ none := by
  cases ow with
  | full => exact Own.live r
  | top =>
    obtain ⟨p, vs, ds, e1, e2, e3, e4, e5⟩ := r
    subst e5
    intro a ha
    rw [List.mem_singleton.mp ha, e3]
    exact fun q => nomatch q
  | no =>
    intro a ha
    rw [r.2] at ha
    cases ha
/-- with what was held let go -/
theorem RS.fz (r : RS K B H v d ow F) {G : Hp} (b : Ex B G) (k : ∀ a ∈ F, G a = H a) : Re K G H v d := by
  cases ow with
  | full => exact Own.re r k
  | top =>
    obtain ⟨p, vs, ds, e1, e2, e3, e4, e5⟩ := r
    subst e5 e1 e2
    exact .lst ((k p (by simp)).trans e3) (e4.mono b (Tk.refl _))
  | no => exact r.1.mono b (Tk.refl _)
theorem RS.re (r : RS K B H v d ow F) (e : Ex B H) : Re K H H v d := r.fz e fun _ _ => rfl
end

/-! ### counting -/
def w (B : Hp) (a : Addr) : Nat := match B a with
  | some _ => 1
  | none => 0
def tot (Fs : List (List Addr)) (a : Addr) : Nat := (Fs.map (fun F => F.count a)).sum
theorem w_some {B : Hp} {a : Addr} {o : HO} (h : B a = some o) : w B a = 1 := by unfold w; rw [h]
theorem w_none {B : Hp} {a : Addr} (h : B a = none) : w B a = 0 := by unfold w; rw [h]
theorem w_le {B : Hp} {a : Addr} : w B a ≤ 1 := by
  unfold w
  split <;> omega
theorem w_zero {B : Hp} {a : Addr} (h : w B a = 0) : B a = none := by
  unfold w at h
  split at h
  · omega
  · assumption
theorem w_mono {B B' : Hp} (e : Ex B B') (a : Addr) : w B a ≤ w B' a := by
  cases h : B a with
  | none => rw [w_none h]; omega
  | some o => rw [w_some h, w_some (e _ _ h)]; omega
theorem tot_set : ∀ (Fs : List (List Addr)) (i : Nat) (F : List Addr) (a : Addr), i < Fs.length → tot (Fs.set i F) a + (Fs.getD i []).count a = tot Fs a + F.count a
  | [], i, F, a, h => absurd h (Nat.not_lt_zero _)
  | G :: Fs, 0, F, a, _ => by simp [tot]; omega
  | G :: Fs, i + 1, F, a, h => by
    have := tot_set Fs i F a (by simpa using h)
    simp [tot] at this ⊢
    omega
theorem tot_get : ∀ (Fs : List (List Addr)) (i : Nat) (a : Addr), (Fs.getD i []).count a ≤ tot Fs a
  | [], i, a => by simp
  | G :: Fs, 0, a => by simp [tot]
  | G :: Fs, i + 1, a => by
    have := tot_get Fs i a
    simp [tot] at this ⊢
    omega
theorem tot_get2 : ∀ (Fs : List (List Addr)) (i j : Nat) (a : Addr), i ≠ j → (Fs.getD i []).count a + (Fs.getD j []).count a ≤ tot Fs a
  | [], i, j, a, _ => by simp
  | G :: Fs, 0, 0, a, h => absurd rfl h
  | G :: Fs, 0, j + 1, a, _ => by
    have := tot_get Fs j a
    simp [tot] at this ⊢
    omega
  | G :: Fs, i + 1, 0, a, _ => by
    have := tot_get Fs i a
    simp [tot] at this ⊢
    omega
  | G :: Fs, i + 1, j + 1, a, h => by
    have := tot_get2 Fs i j a (by omega)
    simp [tot] at this ⊢
    omega
theorem tot_rep (n : Nat) (a : Addr) : tot (List.replicate n []) a = 0 := by
  induction n with
  | zero => rfl
  | succ n ih =>
    simp [tot, List.replicate_succ] at ih ⊢
theorem mem_count {a : Addr} {F : List Addr} (h : a ∈ F) : 0 < F.count a := List.count_pos_iff.mpr h
theorem count_mem {a : Addr} {F : List Addr} (h : 0 < F.count a) : a ∈ F := List.count_pos_iff.mp h

/-- B with the things at F known for good -/
def frz (B H : Hp) (F : List Addr) : Hp := fun a => if a ∈ F then H a else B a
theorem frz_in {B H : Hp} {F : List Addr} {a : Addr} (h : a ∈ F) : frz B H F a = H a := if_pos h
theorem frz_out {B H : Hp} {F : List Addr} {a : Addr} (h : a ∉ F) : frz B H F a = B a := if_neg h
theorem frz_ex {B H : Hp} {F : List Addr} (e : Ex B H) : Ex B (frz B H F) := fun a o h => by
  by_cases m : a ∈ F
  · rw [frz_in m]; exact e a o h
  · rw [frz_out m]; exact h
theorem frz_le {B H : Hp} {F : List Addr} (e : Ex B H) : Ex (frz B H F) H := fun a o h => by
  by_cases m : a ∈ F
  · rw [frz_in m] at h; exact h
  · rw [frz_out m] at h; exact e a o h
theorem frz_w (B H : Hp) (F : List Addr) (a : Addr) : w (frz B H F) a ≤ w B a + F.count a := by
  by_cases m : a ∈ F
  · have := mem_count m
    have := w_le (B := frz B H F) (a := a)
    omega
  · have e : w (frz B H F) a = w B a := by
      unfold w
      rw [frz_out m]
    omega

/-! ### the state -/
structure Rel (K : PySem.W.Frag) (B H : Hp) (σ : L2.St) (s : SD) (Fs : List (List Addr)) : Prop where
  ex : Ex B H
  l1 : s.length = σ.length
  l2 : Fs.length = σ.length
  at_ : ∀ i d ow, s[i]? = some (some (d, ow)) → ∃ v, σ[i]? = some (some v) ∧ RS K B H v d ow (Fs.getD i [])
  wt : ∀ a, w B a + tot Fs a ≤ 1
  lv : ∀ a ∈ Fs.flatten, H a ≠ none
theorem tot_flat (Fs : List (List Addr)) (a : Addr) : Fs.flatten.count a = tot Fs a := by
  unfold tot
  exact List.count_flatten
theorem Rel.wf {K : PySem.W.Frag} {B H : Hp} {σ : L2.St} {s : SD} {Fs : List (List Addr)} (r : Rel K B H σ s Fs) (a : Addr) : w B a + Fs.flatten.count a ≤ 1 := by
  rw [tot_flat]
  exact r.wt a
/-- an expression's step: L what is owned -/
structure ES (B H : Hp) (L : List Addr) (B' H' : Hp) (L' : List Addr) : Prop where
  exB : Ex B B'
  exH : Ex H H'
  wt : ∀ a, H a ≠ none → w B' a + L'.count a ≤ w B a + L.count a
  vw : Ex (frz B H L) (frz B' H' L')
theorem ES.refl (B H : Hp) (L : List Addr) : ES B H L B H L := ⟨Ex.refl _, Ex.refl _, fun _ _ => Nat.le_refl _, Ex.refl _⟩
theorem ex_ne {H H' : Hp} (e : Ex H H') {a : Addr} (h : H a ≠ none) : H' a ≠ none := by
  cases q : H a with
  | none => exact absurd q h
  | some o => rw [e _ _ q]; exact fun z => nomatch z
theorem ES.trans {B H B1 H1 B2 H2 : Hp} {t t1 t2 : List Addr} (x : ES B H t B1 H1 t1) (y : ES B1 H1 t1 B2 H2 t2) : ES B H t B2 H2 t2 :=
  ⟨x.exB.trans y.exB, x.exH.trans y.exH, fun a h => Nat.le_trans (y.wt a (ex_ne x.exH h)) (x.wt a h), x.vw.trans y.vw⟩
theorem frz_cong {B H : Hp} {L L' : List Addr} (h : ∀ a, a ∈ L ↔ a ∈ L') : frz B H L = frz B H L' := by
  funext a
  by_cases m : a ∈ L
  · rw [frz_in m, frz_in ((h a).mp m)]
  · rw [frz_out m, frz_out fun q => m ((h a).mpr q)]
theorem mem_cong {L L' : List Addr} (h : ∀ a, L.count a = L'.count a) (a : Addr) : a ∈ L ↔ a ∈ L' := by
  rw [← List.count_pos_iff, ← List.count_pos_iff, h a]
theorem ES.cong {B H B' H' : Hp} {t t1 t' t1' : List Addr} (x : ES B H t B' H' t') (h : ∀ a, t.count a = t1.count a) (h' : ∀ a, t'.count a = t1'.count a) : ES B H t1 B' H' t1' :=
  ⟨x.exB, x.exH, fun a q => by rw [← h a, ← h' a]; exact x.wt a q, by rw [← frz_cong (mem_cong h), ← frz_cong (mem_cong h')]; exact x.vw⟩
/-- a statement's step -/
structure SS (B H : Hp) (t : List Addr) (B' H' : Hp) (t' : List Addr) : Prop where
  exB : Ex B B'
  tk : Tk H H'
  keep : ∀ a, H a ≠ none → t.count a = 0 → H' a = H a
  live : ∀ a, H a ≠ none → H' a ≠ none
  wt : ∀ a, H a ≠ none → w B' a + t'.count a ≤ w B a + t.count a
theorem SS.refl (B H : Hp) (t : List Addr) : SS B H t B H t := ⟨Ex.refl _, Tk.refl _, fun _ _ _ => rfl, fun _ h => h, fun _ _ => Nat.le_refl _⟩
theorem ES.ss {B H B' H' : Hp} {t t' : List Addr} (x : ES B H t B' H' t') : SS B H t B' H' t' :=
  ⟨x.exB, Tk.of_ex x.exH, fun a h _ => by
    cases q : H a with
    | none => exact absurd q h
    | some o => exact x.exH _ _ q, fun a h => ex_ne x.exH h, x.wt⟩
theorem SS.trans {B H B1 H1 B2 H2 : Hp} {t t1 t2 : List Addr} (x : SS B H t B1 H1 t1) (y : SS B1 H1 t1 B2 H2 t2) : SS B H t B2 H2 t2 := by
  refine ⟨x.exB.trans y.exB, x.tk.trans y.tk, fun a h z => ?_, fun a h => y.live a (x.live a h), fun a h => Nat.le_trans (y.wt a (x.live a h)) (x.wt a h)⟩
  have h1 := x.wt a h
  have h2 := w_mono x.exB a
  exact (y.keep a (x.live a h) (by omega)).trans (x.keep a h z)
theorem SS.le {B H B1 H1 : Hp} {t t1 t2 : List Addr} (x : SS B H t B1 H1 t1) (h : ∀ a, t2.count a ≤ t1.count a) : SS B H t B1 H1 t2 :=
  ⟨x.exB, x.tk, x.keep, x.live, fun a q => by have := x.wt a q; have := h a; omega⟩
/-- nothing held ahead: all is kept -/
theorem SS.all {B H B' H' : Hp} {t t' : List Addr} (x : SS B H t B' H' t') (z : ∀ a, t.count a = 0) : Ex H H' := fun a o h => by
  rw [x.keep a (by rw [h]; exact fun q => nomatch q) (z a)]
  exact h
/-- let go of what is owned -/
theorem ES.let_go {B H B' H' : Hp} {t t' : List Addr} (x : ES B H t B' H' t') (F G : List Addr) (hl : ∀ a ∈ F, H' a ≠ none) (e : ∀ a, t'.count a = F.count a + G.count a) (hb : Ex B' H') : ES B H t (frz B' H' F) H' G := by
  refine ⟨x.exB.trans (frz_ex hb), x.exH, fun a h => ?_, ?_⟩
  · have h1 := x.wt a h
    have h2 := frz_w B' H' F a
    have h3 := e a
    omega
  · refine x.vw.trans fun a o h => ?_
    by_cases m : a ∈ t'
    · rw [frz_in m] at h
      by_cases g : a ∈ G
      · rw [frz_in g]; exact h
      · rw [frz_out g]
        have : a ∈ F := by
          have h1 := mem_count m
          have h2 : G.count a = 0 := List.count_eq_zero.mpr g
          have h3 := e a
          exact count_mem (by omega)
        rw [frz_in this]; exact h
    · rw [frz_out m] at h
      by_cases g : a ∈ G
      · rw [frz_in g]; exact hb _ _ h
      · rw [frz_out g]
        exact frz_ex hb _ _ h
end Dv

namespace Dv
open PySem L2 Evl

inductive Er (α : Type) where
  | ok (a : α) (s : SD) | exc (c : Str) (s : SD)
abbrev DE (α : Type) := SD → Option (Er α)
/-- the wish for what is raised: by the class's name -/
abbrev WW := Str → L2.St → Hp → Prop
/-- known, the heap, what the slots own, the value, what it stands for, what it owns -/
abbrev RelT (R α : Type) := Hp → Hp → List (List Addr) → R → α → List Addr → Prop
abbrev TX (R : Type) := L2.St → Hp → (R → Hp → Prop) → Prop

def Post {R α : Type} (rel : RelT R α) (K : PySem.W.Frag) (W : WW) (B H : Hp) (t : List Addr) (σ : L2.St) (Q : R → Hp → Prop) : Er α → Prop
  | .ok a s' => ∀ v B' H' Fs' F, Rel K B' H' σ s' Fs' → ES B H t B' H' (F ++ Fs'.flatten) → (∀ x, w B' x + (F ++ Fs'.flatten).count x ≤ 1) → (∀ x ∈ F, H' x ≠ none) → rel B' H' Fs' v a F → Q v H'
  | .exc c s' => ∀ B' H' Fs', Rel K B' H' σ s' Fs' → ES B H t B' H' Fs'.flatten → W c σ H'
def J {R α : Type} (rel : RelT R α) (K : PySem.W.Frag) (W : WW) (te : TX R) (de : DE α) : Prop :=
  ∀ s r, de s = some r → ∀ B H σ Fs, Rel K B H σ s Fs → ∀ Q, Post rel K W B H Fs.flatten σ Q r → te σ H Q
abbrev rB (K : PySem.W.Frag) : RelT V D := fun B H Fs v d F => Re K (frz B H Fs.flatten) H v d ∧ F = []
abbrev rC (K : PySem.W.Frag) : RelT V (D × Ow) := fun B H _ v p F => RS K B H v p.1 p.2 F
abbrev rT : RelT Bool Bool := fun _ _ _ b c F => b = c ∧ F = []
abbrev rL (K : PySem.W.Frag) : RelT (List V) (List D) := fun B H Fs vs ds F => ReL K (frz B H Fs.flatten) H vs ds ∧ F = []
/-- several things made: all held in full, or let go -/
def rCL (K : PySem.W.Frag) : RelT (List V) (List D × Bool) := fun B H _ vs p F => match p.2 with
  | true => OwnL K H vs p.1 F
  | false => ReL K B H vs p.1 ∧ F = []
abbrev JB (K : PySem.W.Frag) (W : WW) (te : TE) (de : DE D) : Prop := J (rB K) K W te de
abbrev JC (K : PySem.W.Frag) (W : WW) (te : TE) (de : DE (D × Ow)) : Prop := J (rC K) K W te de
abbrev JT (K : PySem.W.Frag) (W : WW) (te : TT) (de : DE Bool) : Prop := J rT K W te de
abbrev JA (K : PySem.W.Frag) (W : WW) (te : TA) (de : DE (List D)) : Prop := J (rL K) K W te de
abbrev JCL (K : PySem.W.Frag) (W : WW) (te : TA) (de : DE (List D × Bool)) : Prop := J (rCL K) K W te de

def bnd {α β : Type} (da : DE α) (k : α → DE β) : DE β := fun s => match da s with
  | some (.ok a s1) => k a s1
  | some (.exc c s1) => some (.exc c s1)
  | none => none

section
variable {R R1 R2 α β : Type} {K : PySem.W.Frag} {W : WW} {B H B1 H1 : Hp} {t t1 : List Addr} {σ : L2.St} {s : SD} {Fs : List (List Addr)}
theorem Rel.val (r : Rel K B H σ s Fs) : ∀ x, w B x + (([] : List Addr) ++ Fs.flatten).count x ≤ 1 := fun x => r.wf x
theorem Post.step {rel : RelT R α} {Q : R → Hp → Prop} {r : Er α} (e : ES B H t B1 H1 t1) (p : Post rel K W B H t σ Q r) : Post rel K W B1 H1 t1 σ Q r := by
  cases r with
  | ok a s' => exact fun v B' H' Fs' F x y z l q => p v B' H' Fs' F x (e.trans y) z l q
  | exc c s' => exact fun B' H' Fs' x y => p B' H' Fs' x (e.trans y)
/-- it stands as it is -/
theorem Post.here {rel : RelT R α} {Q : R → Hp → Prop} {a : α} (R0 : Rel K B H σ s Fs) {v : R} (h : rel B H Fs v a []) (p : Post rel K W B H Fs.flatten σ Q (.ok a s)) : Q v H :=
  p v B H Fs [] R0 (ES.refl _ _ _) R0.val (fun _ q => nomatch q) h
theorem J.bind {rel1 : RelT R1 α} {rel2 : RelT R2 β} {te : TX R1} {de : DE α} {k : R1 → TX R2} {dk : α → DE β} (h : J rel1 K W te de)
    (hk : ∀ a s1 r, dk a s1 = some r → ∀ v B1 H1 σ Fs1 F, Rel K B1 H1 σ s1 Fs1 → (∀ x, w B1 x + (F ++ Fs1.flatten).count x ≤ 1) → (∀ x ∈ F, H1 x ≠ none) → rel1 B1 H1 Fs1 v a F → ∀ Q, Post rel2 K W B1 H1 (F ++ Fs1.flatten) σ Q r → k v σ H1 Q) :
    J rel2 K W (fun σ H Q => te σ H fun v H1 => k v σ H1 Q) (bnd de dk) := by
  intro s r e B H σ Fs R0 Q p
  unfold bnd at e
  cases e1 : de s with
  | none => rw [e1] at e; cases e
  | some r1 =>
    rw [e1] at e
    refine h s r1 e1 B H σ Fs R0 _ ?_
    cases r1 with
    | ok a s1 => exact fun v B1 H1 Fs1 F x y z l q => hk a s1 r e v B1 H1 σ Fs1 F x z l q Q (p.step y)
    | exc c s1 =>
      have e2 : r = .exc c s1 := (Option.some.inj e).symm
      subst e2
      exact p
/-- with things pending -/
theorem J.pend {rel : RelT R α} {te : TX R} {de : DE α} {F : List Addr} (h : J rel K W te de) {r : Er α} (e : de s = some r) (R0 : Rel K B H σ s Fs) (hv : ∀ x, w B x + (F ++ Fs.flatten).count x ≤ 1) (hl : ∀ x ∈ F, H x ≠ none) {Q : R → Hp → Prop}
    (hok : ∀ a s', r = .ok a s' → ∀ v B' H' Fs' G, Rel K B' H' σ s' Fs' → ES B H (F ++ Fs.flatten) B' H' (F ++ (G ++ Fs'.flatten)) → (∀ x, w B' x + (F ++ (G ++ Fs'.flatten)).count x ≤ 1) → (∀ x ∈ G, H' x ≠ none) → rel B' H' Fs' v a G → Q v H')
    (hx : ∀ c s', r = .exc c s' → ∀ B' H' Fs', Rel K B' H' σ s' Fs' → ES B H (F ++ Fs.flatten) B' H' (F ++ Fs'.flatten) → (∀ x, w B' x + (F ++ Fs'.flatten).count x ≤ 1) → W c σ H') : te σ H Q := by
  have key : ∀ {B' H' : Hp} {L' : List Addr}, ES B H Fs.flatten B' H' L' → (∀ x, w B' x + L'.count x ≤ 1) → ES B H (F ++ Fs.flatten) B' H' (F ++ L') ∧ ∀ x, w B' x + (F ++ L').count x ≤ 1 := by
    intro B' H' L' y z
    have wt : ∀ a, H a ≠ none → w B' a + (F ++ L').count a ≤ w B a + (F ++ Fs.flatten).count a := fun a ha => by
      have := y.wt a ha
      rw [List.count_append, List.count_append]
      omega
    refine ⟨⟨y.exB, y.exH, wt, fun a o q => ?_⟩, fun a => ?_⟩
    · by_cases m : a ∈ F
      · rw [frz_in (List.mem_append_left _ m)] at q ⊢
        exact y.exH _ _ q
      · have q2 : frz B H Fs.flatten a = some o := by
          rw [← q]
          by_cases g : a ∈ Fs.flatten
          · rw [frz_in g, frz_in (List.mem_append_right _ g)]
          · rw [frz_out g, frz_out fun z => (List.mem_append.mp z).elim m g]
        have q3 := y.vw _ _ q2
        rw [← q3]
        by_cases g : a ∈ L'
        · rw [frz_in g, frz_in (List.mem_append_right _ g)]
        · rw [frz_out g, frz_out fun z => (List.mem_append.mp z).elim m g]
    · by_cases ha : H a = none
      · have e1 : F.count a = 0 := List.count_eq_zero.mpr fun m => hl a m ha
        have := z a
        rw [List.count_append]
        omega
      · have h1 := wt a ha
        have h2 := hv a
        omega
  refine h s r e B H σ Fs R0 Q ?_
  cases r with
  | ok a s' =>
    intro v B' H' Fs' G x y z l q
    obtain ⟨k1, k2⟩ := key y z
    exact hok a s' rfl v B' H' Fs' G x k1 k2 l q
  | exc c s' =>
    intro B' H' Fs' x y
    obtain ⟨k1, k2⟩ := key y x.wf
    exact hx c s' rfl B' H' Fs' x k1 k2
end

theorem getD_mem {Fs : List (List Addr)} {i : Nat} {a : Addr} (h : a ∈ Fs.getD i []) : Fs.getD i [] ∈ Fs := by
  rw [List.getD_eq_getElem?_getD] at h ⊢
  cases e : Fs[i]? with
  | none => rw [e] at h; cases h
  | some G => exact List.mem_of_getElem? e
/-! ### expressions that are read -/
def dVar (i : Nat) : DE D := fun s => match s[i]? with
  | some (some (d, _)) => some (.ok d s)
  | _ => none
def dC (d : D) : DE D := fun s => some (.ok d s)
/-- an operation without effect -/
def dOp (f : D → D → Option D) (a b : DE D) : DE D := bnd a fun x => bnd b fun y => fun s => (f x y).map fun d => .ok d s
def dUn (f : D → Option D) (a : DE D) : DE D := bnd a fun x s => (f x).map fun d => .ok d s
def dNil : DE (List D) := fun s => some (.ok [] s)
def dCons (a : DE D) (l : DE (List D)) : DE (List D) := bnd a fun x => bnd l fun xs s => some (.ok (x :: xs) s)
def dCB (f : List D → Option D) (a : DE (List D)) : DE D := bnd a fun xs s => (f xs).map fun d => .ok d s
section
variable {K : PySem.W.Frag} {W : WW} {ta tb te : TE} {da db : DE D} {i : Nat}
theorem jVar : JB K W (tVar i) (dVar i) := by
  intro s r e B H σ Fs R0 Q p
  unfold dVar at e
  split at e
  · rename_i d ow h
    cases e
    obtain ⟨v, hv, q⟩ := R0.at_ i d ow h
    exact ⟨v, hv, Post.here R0 ⟨q.fz (frz_ex R0.ex) fun a ha => frz_in (List.mem_flatten.mpr ⟨_, getD_mem ha, ha⟩), rfl⟩ p⟩
  · cases e
/-- a constant that is no object -/
theorem jC {v : V} {d : D} (h : ∀ G H, Re K G H v d) : JB K W (tC v) (dC d) := by
  intro s r e B H σ Fs R0 Q p
  cases e
  exact Post.here R0 ⟨h _ H, rfl⟩ p
theorem jInt {n : Int} : JB K W (tC (.int n)) (dC (.int n)) := jC fun _ _ => .int n
theorem jBl {n : Bool} : JB K W (tC (.bl n)) (dC (.bl n)) := jC fun _ _ => .bl n
theorem jNon : JB K W (tC .non) (dC .non) := jC fun _ _ => .non
theorem jStr {n : Str} : JB K W (tC (.str n)) (dC (.str n)) := jC fun _ _ => .str n
/-- what an operation by values gives: one of the things of the heap as it stands -/
def RV (K : PySem.W.Frag) (r : R2) (f : D → D → Option D) : Prop := ∀ G H x y dx dy d, Ex G H → Re K G H x dx → Re K G H y dy → f dx dy = some d → ∀ Q : VK, (∀ v, Re K G H v d → Q v H) → r x y H Q
def RU1 (K : PySem.W.Frag) (r : V → Hp → VK → Prop) (f : D → Option D) : Prop := ∀ G H x dx d, Ex G H → Re K G H x dx → f dx = some d → ∀ Q : VK, (∀ v, Re K G H v d → Q v H) → r x H Q
def RCL (K : PySem.W.Frag) (r : List V → Hp → VK → Prop) (f : List D → Option D) : Prop := ∀ G H xs ds d, Ex G H → ReL K G H xs ds → f ds = some d → ∀ Q : VK, (∀ v, Re K G H v d → Q v H) → r xs H Q
/-- two things read, then more -/
theorem J.two {R β : Type} {rel : RelT R β} {k : V → V → TX R} {dk : D → D → DE β} (ha : JB K W ta da) (hb : JB K W tb db)
    (hk : ∀ x y s r, dk x y s = some r → ∀ vx vy B H σ Fs, Rel K B H σ s Fs → Re K (frz B H Fs.flatten) H vx x → Re K (frz B H Fs.flatten) H vy y → ∀ Q, Post rel K W B H Fs.flatten σ Q r → k vx vy σ H Q) :
    J rel K W (fun σ H Q => ta σ H fun x H1 => tb σ H1 fun y H2 => k x y σ H2 Q) (bnd da fun x => bnd db fun y => dk x y) := by
  intro s r e B H σ Fs R0 Q p
  unfold bnd at e
  cases e1 : da s with
  | none => rw [e1] at e; cases e
  | some r1 =>
    rw [e1] at e
    refine ha s r1 e1 B H σ Fs R0 _ ?_
    cases r1 with
    | exc c s1 =>
      have e2 : r = .exc c s1 := (Option.some.inj e).symm
      subst e2
      exact p
    | ok a s1 =>
      intro v B1 H1 Fs1 F R1 y1 z1 l1 q1
      obtain ⟨q1, rfl⟩ := q1
      have e : bnd db (fun y => dk a y) s1 = some r := e
      unfold bnd at e
      cases e3 : db s1 with
      | none => rw [e3] at e; cases e
      | some r2 =>
        rw [e3] at e
        refine hb s1 r2 e3 B1 H1 σ Fs1 R1 _ ?_
        cases r2 with
        | exc c s2 =>
          have e2 : r = .exc c s2 := (Option.some.inj e).symm
          subst e2
          exact p.step y1
        | ok b s2 =>
          intro u B2 H2 Fs2 F2 R2 y2 z2 l2 q2
          obtain ⟨q2, rfl⟩ := q2
          exact hk a b s2 r e v u B2 H2 σ Fs2 R2 (q1.mono y2.vw (Tk.of_ex y2.exH)) q2 Q (p.step (y1.trans y2))
theorem jOp {r : R2} {f : D → D → Option D} (hr : RV K r f) (ha : JB K W ta da) (hb : JB K W tb db) : JB K W (tOp r ta tb) (dOp f da db) := by
  refine J.two (k := fun x y _ H Q => r x y H Q) (dk := fun x y s => (f x y).map fun d => .ok d s) ha hb fun x y s r0 e vx vy B H σ Fs R0 q1 q2 Q p => ?_
  cases ef : f x y with
  | none => rw [ef] at e; cases e
  | some d =>
    rw [ef] at e
    cases e
    exact hr _ H vx vy x y d (frz_le R0.ex) q1 q2 ef Q fun v h => Post.here R0 ⟨h, rfl⟩ p
/-- one thing read, then more -/
theorem J.one {R R1 α β : Type} {rel1 : RelT R1 α} {rel : RelT R β} {te : TX R1} {de : DE α} {k : R1 → TX R} {dk : α → DE β} (h : J rel1 K W te de) (h0 : ∀ B H L v a F, rel1 B H L v a F → F = [])
    (hk : ∀ x s r, dk x s = some r → ∀ vx B H σ Fs, Rel K B H σ s Fs → rel1 B H Fs vx x [] → ∀ Q, Post rel K W B H Fs.flatten σ Q r → k vx σ H Q) :
    J rel K W (fun σ H Q => te σ H fun x H1 => k x σ H1 Q) (bnd de dk) := by
  refine J.bind h fun a s1 r1 e1 v B1 H1 σ Fs1 F R1 hv hl q1 Q p => ?_
  obtain rfl := h0 _ _ _ _ _ _ q1
  exact hk a s1 r1 e1 v B1 H1 σ Fs1 R1 q1 Q p
theorem zB : ∀ B H L v a F, rB K B H L v a F → F = [] := fun _ _ _ _ _ _ h => h.2
theorem zL : ∀ B H L v a F, rL K B H L v a F → F = [] := fun _ _ _ _ _ _ h => h.2
theorem zT : ∀ B H L v a F, rT B H L v a F → F = [] := fun _ _ _ _ _ _ h => h.2
theorem jUn {r : V → Hp → VK → Prop} {f : D → Option D} (hr : RU1 K r f) (ha : JB K W ta da) : JB K W (tUn r ta) (dUn f da) := by
  refine J.one (k := fun x _ H Q => r x H Q) (dk := fun x s => (f x).map fun d => .ok d s) ha zB fun x s r0 e vx B H σ Fs R0 q1 Q p => ?_
  cases ef : f x with
  | none => rw [ef] at e; cases e
  | some d =>
    rw [ef] at e
    cases e
    exact hr _ H vx x d (frz_le R0.ex) q1.1 ef Q fun v h => Post.here R0 ⟨h, rfl⟩ p
theorem jNil : JA K W tNil dNil := by
  intro s r e B H σ Fs R0 Q p
  cases e
  exact Post.here R0 ⟨.nil, rfl⟩ p
theorem jCons {tr : TA} {dr : DE (List D)} (ha : JB K W ta da) (hr : JA K W tr dr) : JA K W (tCons ta tr) (dCons da dr) := by
  intro s r e B H σ Fs R0 Q p
  unfold dCons bnd at e
  cases e1 : da s with
  | none => rw [e1] at e; cases e
  | some r1 =>
    rw [e1] at e
    refine ha s r1 e1 B H σ Fs R0 _ ?_
    cases r1 with
    | exc c s1 =>
      have e2 : r = .exc c s1 := (Option.some.inj e).symm
      subst e2
      exact p
    | ok a s1 =>
      intro v B1 H1 Fs1 F R1 y1 z1 l1 q1
      obtain ⟨q1, rfl⟩ := q1
      have e : bnd dr (fun xs s => some (.ok (a :: xs) s)) s1 = some r := e
      unfold bnd at e
      cases e3 : dr s1 with
      | none => rw [e3] at e; cases e
      | some r2 =>
        rw [e3] at e
        refine hr s1 r2 e3 B1 H1 σ Fs1 R1 _ ?_
        cases r2 with
        | exc c s2 =>
          have e2 : r = .exc c s2 := (Option.some.inj e).symm
          subst e2
          exact p.step y1
        | ok b s2 =>
          intro u B2 H2 Fs2 F2 R2 y2 z2 l2 q2
          obtain ⟨q2, rfl⟩ := q2
          have e2 : r = .ok (a :: b) s2 := (Option.some.inj e).symm
          subst e2
          exact Post.here R2 ⟨.cons (q1.mono y2.vw (Tk.of_ex y2.exH)) q2, rfl⟩ (p.step (y1.trans y2))
theorem jCB {r : List V → Hp → VK → Prop} {f : List D → Option D} {tr : TA} {dr : DE (List D)} (hf : RCL K r f) (h : JA K W tr dr) : JB K W (tCB r tr) (dCB f dr) := by
  refine J.one (k := fun x _ H Q => r x H Q) (dk := fun x s => (f x).map fun d => .ok d s) h zL fun x s r0 e vx B H σ Fs R0 q1 Q p => ?_
  cases ef : f x with
  | none => rw [ef] at e; cases e
  | some d =>
    rw [ef] at e
    cases e
    exact hf _ H vx x d (frz_le R0.ex) q1.1 ef Q fun v h => Post.here R0 ⟨h, rfl⟩ p
end

/-! ### tests -/
/-- a truth as a test -/
def dTest (a : DE D) : DE Bool := bnd a fun d s => match d with
  | .bl b => some (.ok b s)
  | _ => none
def dAnd (a b : DE Bool) : DE Bool := bnd a fun c => if c then b else fun s => some (.ok false s)
def dOr (a b : DE Bool) : DE Bool := bnd a fun c => if c then (fun s => some (.ok true s)) else b
def dNot (a : DE Bool) : DE Bool := bnd a fun c s => some (.ok (!c) s)
def dAndV (a b : DE D) : DE D := bnd a fun d => match d with
  | .bl true => b
  | .bl false => fun s => some (.ok (.bl false) s)
  | _ => fun _ => none
def dOrV (a b : DE D) : DE D := bnd a fun d => match d with
  | .bl false => b
  | .bl true => fun s => some (.ok (.bl true) s)
  | _ => fun _ => none
def dNotV (a : DE D) : DE D := bnd a fun d s => match d with
  | .bl b => some (.ok (.bl (!b)) s)
  | _ => none
def dIf {α : Type} (c : DE Bool) (a b : DE α) : DE α := bnd c fun k => if k then a else b
section
variable {K : PySem.W.Frag} {W : WW} {ta tb te : TE} {da db : DE D} {t u : TT} {dt du : DE Bool}
theorem jTest (ha : JB K W ta da) : JT K W (tTest ta) (dTest da) := by
  refine J.one (k := fun x _ H Q => ∃ k, x = .bl k ∧ Q k H) ha zB fun x s r0 e vx B H σ Fs R0 q1 Q p => ?_
  cases q1.1 with
  | bl b =>
    cases e
    exact ⟨b, rfl, Post.here R0 ⟨rfl, rfl⟩ p⟩
  | _ => cases e
theorem jTB (ha : JB K W ta da) : JT K W (tB ta) (dTest da) := jTest ha
theorem jAnd (h1 : JT K W t dt) (h2 : JT K W u du) : JT K W (tAnd t u) (dAnd dt du) := by
  refine J.one (k := fun c σ H Q => if c = true then u σ H Q else Q false H) h1 zT fun x s r0 e vx B H σ Fs R0 q1 Q p => ?_
  obtain rfl := q1.1
  cases vx with
  | true =>
    rw [if_pos rfl]
    exact h2 s r0 (by simpa using e) B H σ Fs R0 Q p
  | false =>
    have e : some (Er.ok false s) = some r0 := by simpa using e
    cases e
    exact Post.here R0 ⟨rfl, rfl⟩ p
theorem jOr (h1 : JT K W t dt) (h2 : JT K W u du) : JT K W (tOr t u) (dOr dt du) := by
  refine J.one (k := fun c σ H Q => if c = true then Q true H else u σ H Q) h1 zT fun x s r0 e vx B H σ Fs R0 q1 Q p => ?_
  obtain rfl := q1.1
  cases vx with
  | false => exact h2 s r0 (by simpa using e) B H σ Fs R0 Q p
  | true =>
    have e : some (Er.ok true s) = some r0 := by simpa using e
    cases e
    exact Post.here R0 ⟨rfl, rfl⟩ p
theorem jNot (h1 : JT K W t dt) : JT K W (tNot t) (dNot dt) := by
  refine J.one (k := fun c _ H Q => Q (!c) H) h1 zT fun x s r0 e vx B H σ Fs R0 q1 Q p => ?_
  obtain rfl := q1.1
  cases e
  exact Post.here R0 ⟨rfl, rfl⟩ p
theorem jAndV (h1 : JB K W ta da) (h2 : JB K W tb db) : JB K W (tAndV ta tb) (dAndV da db) := by
  refine J.one (k := fun x σ H Q => ∃ c, x = .bl c ∧ if c = true then tb σ H Q else Q (.bl false) H) h1 zB fun x s r0 e vx B H σ Fs R0 q1 Q p => ?_
  cases q1.1 with
  | bl b =>
    refine ⟨b, rfl, ?_⟩
    cases b with
    | true => exact h2 s r0 e B H σ Fs R0 Q p
    | false =>
      cases e
      exact Post.here R0 ⟨.bl _, rfl⟩ p
  | _ => cases e
theorem jOrV (h1 : JB K W ta da) (h2 : JB K W tb db) : JB K W (tOrV ta tb) (dOrV da db) := by
  refine J.one (k := fun x σ H Q => ∃ c, x = .bl c ∧ if c = true then Q (.bl true) H else tb σ H Q) h1 zB fun x s r0 e vx B H σ Fs R0 q1 Q p => ?_
  cases q1.1 with
  | bl b =>
    refine ⟨b, rfl, ?_⟩
    cases b with
    | false => exact h2 s r0 e B H σ Fs R0 Q p
    | true =>
      cases e
      exact Post.here R0 ⟨.bl _, rfl⟩ p
  | _ => cases e
theorem jNotV (h1 : JB K W ta da) : JB K W (tNotV ta) (dNotV da) := by
  refine J.one (k := fun x _ H Q => ∃ c, x = V.bl c ∧ Q (V.bl (!c)) H) h1 zB fun x s r0 e vx B H σ Fs R0 q1 Q p => ?_
  cases q1.1 with
  | bl b =>
    cases e
    exact ⟨b, rfl, Post.here R0 ⟨.bl _, rfl⟩ p⟩
  | _ => cases e
theorem jIf {R α : Type} {rel : RelT R α} {ta tb : TX R} {da db : DE α} (hc : JT K W t dt) (h1 : J rel K W ta da) (h2 : J rel K W tb db) : J rel K W (fun σ H Q => t σ H fun c H1 => if c = true then ta σ H1 Q else tb σ H1 Q) (dIf dt da db) := by
  refine J.one (k := fun c σ H Q => if c = true then ta σ H Q else tb σ H Q) hc zT fun x s r0 e vx B H σ Fs R0 q1 Q p => ?_
  obtain rfl := q1.1
  cases vx with
  | true => exact h1 s r0 (by simpa using e) B H σ Fs R0 Q p
  | false => exact h2 s r0 (by simpa using e) B H σ Fs R0 Q p
theorem jIfE (hc : JT K W t dt) (h1 : JB K W ta da) (h2 : JB K W tb db) : JB K W (tIf t ta tb) (dIf dt da db) := jIf hc h1 h2
end
end Dv

namespace Dv
open PySem L2 Evl

/-! ### things made -/
/-- a thing made, read: it is let go -/
def toB (a : DE (D × Ow)) : DE D := fun s => match a s with
  | some (.ok (d, _) s1) => some (.ok d s1)
  | some (.exc c s1) => some (.exc c s1)
  | none => none
/-- a thing read that holds no list, as a thing held -/
def toC (a : DE D) : DE (D × Ow) := fun s => match a s with
  | some (.ok d s1) => if imm d then some (.ok (d, .full) s1) else none
  | some (.exc c s1) => some (.exc c s1)
  | none => none
def fzAll (s : SD) : SD := s.map (Option.map fun p => (p.1, Ow.no))
/-- a name's thing, held by it no more -/
def mvOw (d : D) (ow : Ow) : Ow := match ow with
  | .no => if imm d = true then .full else .no
  | o => o
theorem RS.mv {K : PySem.W.Frag} {B H : Hp} {v : V} {d : D} {ow : Ow} {F : List Addr} (q : RS K B H v d ow F) : RS K B H v d (mvOw d ow) F := by
  cases ow with
  | full => exact q
  | top => exact q
  | no =>
    by_cases hi : imm d = true
    · have e : mvOw d .no = .full := if_pos hi
      rw [e]
      obtain ⟨r, rfl⟩ := q
      exact Own.im hi (r.any hi)
    · have e : mvOw d .no = .no := if_neg hi
      rw [e]
      exact q
def cMove (i : Nat) : DE (D × Ow) := fun s => match s[i]? with
  | some (some (d, ow)) => some (.ok (d, mvOw d ow) (s.set i none))
  | _ => none
/-- a name's thing, once more -/
def cAlias (i : Nat) : DE (D × Ow) := fun s => match s[i]? with
  | some (some (d, _)) => if imm d then some (.ok (d, .full) s) else some (.ok (d, .no) (s.set i (some (d, .no))))
  | _ => none
/-- a part of things read, once more: all is let go -/
def cShare (a : DE D) : DE (D × Ow) := fun s => match a s with
  | some (.ok d s1) => if imm d then some (.ok (d, .full) s1) else some (.ok (d, .no) (fzAll s1))
  | some (.exc c s1) => some (.exc c s1)
  | none => none
section
variable {K : PySem.W.Frag} {W : WW} {te ta tb : TE} {dc : DE (D × Ow)} {de da db : DE D} {i : Nat} {B H : Hp} {σ : L2.St} {s : SD} {Fs : List (List Addr)}
theorem frz_frz {B H : Hp} {F L : List Addr} (a : Addr) : frz (frz B H F) H L a = frz B H (F ++ L) a := by
  by_cases m : a ∈ L
  · rw [frz_in m, frz_in (List.mem_append_right _ m)]
  · rw [frz_out m]
    by_cases g : a ∈ F
    · rw [frz_in g, frz_in (List.mem_append_left _ g)]
    · rw [frz_out g, frz_out fun z => (List.mem_append.mp z).elim g m]
/-- the slots hold what they hold where more is known -/
theorem Rel.know (r : Rel K B H σ s Fs) {F : List Addr} (hv : ∀ x, w B x + (F ++ Fs.flatten).count x ≤ 1) : Rel K (frz B H F) H σ s Fs := by
  refine ⟨frz_le r.ex, r.l1, r.l2, fun i d ow e => ?_, fun a => ?_, r.lv⟩
  · obtain ⟨v, h1, h2⟩ := r.at_ i d ow e
    exact ⟨v, h1, h2.mono (frz_ex r.ex) (Tk.refl _) fun _ _ => rfl⟩
  · have h1 := frz_w B H F a
    have h2 := hv a
    rw [List.count_append, tot_flat] at h2
    omega
theorem jToB (h : JC K W te dc) : JB K W te (toB dc) := by
  intro s r e B H σ Fs R0 Q p
  unfold toB at e
  cases e1 : dc s with
  | none => rw [e1] at e; cases e
  | some r1 =>
    rw [e1] at e
    refine h s r1 e1 B H σ Fs R0 _ ?_
    cases r1 with
    | exc c s1 =>
      cases e
      exact p
    | ok a s1 =>
      obtain ⟨d, ow⟩ := a
      cases e
      intro v B1 H1 Fs1 F R1 y1 z1 l1 q1
      have y2 : ES B H Fs.flatten (frz B1 H1 F) H1 Fs1.flatten := y1.let_go F _ l1 (fun a => List.count_append) R1.ex
      refine p v _ H1 Fs1 [] (R1.know z1) y2 (R1.know z1).wf (fun _ q => nomatch q) ⟨?_, rfl⟩
      have q2 : RS K B1 H1 v d ow F := q1
      refine q2.fz (G := frz (frz B1 H1 F) H1 Fs1.flatten) ((frz_ex R1.ex).trans (frz_ex (frz_le R1.ex))) fun a ha => ?_
      rw [frz_frz]
      exact frz_in (List.mem_append_left _ ha)
theorem jToC (h : JB K W te de) : JC K W te (toC de) := by
  intro s r e B H σ Fs R0 Q p
  unfold toC at e
  cases e1 : de s with
  | none => rw [e1] at e; cases e
  | some r1 =>
    rw [e1] at e
    refine h s r1 e1 B H σ Fs R0 _ ?_
    cases r1 with
    | exc c s1 =>
      cases e
      exact p
    | ok d s1 =>
      have e : (if imm d then some (Er.ok (d, Ow.full) s1) else none) = some r := e
      split at e
      · rename_i hi
        cases e
        intro v B1 H1 Fs1 F R1 y1 z1 l1 q1
        obtain ⟨q1, rfl⟩ := q1
        exact p v B1 H1 Fs1 [] R1 y1 z1 l1 (Own.im hi (q1.any hi))
      · cases e
theorem getD_set {Fs : List (List Addr)} {i j : Nat} {F : List Addr} (h : i < Fs.length) : (Fs.set i F).getD j [] = if j = i then F else Fs.getD j [] := by
  rw [List.getD_eq_getElem?_getD, List.getD_eq_getElem?_getD]
  by_cases e : j = i
  · subst e
    rw [if_pos rfl, List.getElem?_set_self h]
    rfl
  · rw [if_neg e, List.getElem?_set_ne (Ne.symm e)]
theorem flat_set {Fs : List (List Addr)} {i : Nat} {F : List Addr} (h : i < Fs.length) (a : Addr) : (Fs.set i F).flatten.count a + (Fs.getD i []).count a = Fs.flatten.count a + F.count a := by
  rw [tot_flat, tot_flat]
  exact tot_set Fs i F a h
theorem flat_get {Fs : List (List Addr)} {i : Nat} (a : Addr) : (Fs.getD i []).count a ≤ Fs.flatten.count a := by
  rw [tot_flat]
  exact tot_get Fs i a
theorem mem_set_flat {Fs : List (List Addr)} {i : Nat} {F : List Addr} {a : Addr} (h : a ∈ (Fs.set i F).flatten) : a ∈ Fs.flatten ∨ a ∈ F := by
  obtain ⟨G, hG, ha⟩ := List.mem_flatten.mp h
  rcases List.mem_or_eq_of_mem_set hG with hG | rfl
  · exact .inl (List.mem_flatten.mpr ⟨G, hG, ha⟩)
  · exact .inr ha
/-- a slot is put otherwise, in the state as kept -/
theorem Rel.slot {sl : Sl} {F : List Addr} (r : Rel K B H σ s Fs) (hi : i < s.length) (hs : ∀ d ow, sl = some (d, ow) → ∃ v, σ[i]? = some (some v) ∧ RS K B H v d ow F) (wt : ∀ a, w B a + (Fs.set i F).flatten.count a ≤ 1) (lv : ∀ a ∈ F, H a ≠ none) : Rel K B H σ (s.set i sl) (Fs.set i F) := by
  have hF : i < Fs.length := by rw [r.l2, ← r.l1]; exact hi
  refine ⟨r.ex, by rw [List.length_set]; exact r.l1, by rw [List.length_set]; exact r.l2, fun j d ow e => ?_, fun a => by rw [← tot_flat]; exact wt a, fun a ha => (mem_set_flat ha).elim (r.lv a) (lv a)⟩
  rw [getD_set hF]
  by_cases ej : j = i
  · subst ej
    rw [List.getElem?_set_self hi] at e
    rw [if_pos rfl]
    exact hs d ow (Option.some.inj e)
  · rw [List.getElem?_set_ne (Ne.symm ej)] at e
    rw [if_neg ej]
    exact r.at_ j d ow e
theorem lt_of_get {α : Type} {l : List α} {i : Nat} {x : α} (h : l[i]? = some x) : i < l.length := (List.getElem?_eq_some_iff.mp h).1
theorem ES.of_count {B H : Hp} {L L' : List Addr} (e : ∀ a, L.count a = L'.count a) : ES B H L B H L' :=
  (ES.refl B H L).cong (fun _ => rfl) e
theorem jMove : JC K W (tVar i) (cMove i) := by
  intro s r e B H σ Fs R0 Q p
  unfold cMove at e
  split at e
  · rename_i d ow h
    cases e
    obtain ⟨v, hv, q⟩ := R0.at_ i d ow h
    have hi := lt_of_get h
    have hF : i < Fs.length := by rw [R0.l2, ← R0.l1]; exact hi
    have cnt : ∀ a, Fs.flatten.count a = (Fs.getD i [] ++ (Fs.set i []).flatten).count a := fun a => by
      have := flat_set (F := []) hF a
      rw [List.count_append]
      simp at this ⊢
      omega
    refine ⟨v, hv, p v B H (Fs.set i []) (Fs.getD i []) (R0.slot (sl := none) (F := []) hi (fun _ _ z => nomatch z) (fun a => ?_) (fun _ z => nomatch z)) (ES.of_count cnt) (fun a => by rw [← cnt a]; exact R0.wf a) q.live q.mv⟩
    have h1 := flat_set (F := []) hF a
    have h2 := R0.wf a
    simp at h1
    omega
  · cases e
theorem flat_nil (Fs : List (List Addr)) : (Fs.map fun _ => ([] : List Addr)).flatten = [] := by
  induction Fs with
  | nil => rfl
  | cons x xs ih => simpa using ih
/-- all slots let go -/
theorem Rel.letAll (r : Rel K B H σ s Fs) : Rel K (frz B H Fs.flatten) H σ (fzAll s) (Fs.map fun _ => []) := by
  refine ⟨frz_le r.ex, by unfold fzAll; rw [List.length_map]; exact r.l1, by rw [List.length_map]; exact r.l2, fun j d ow e => ?_, fun a => ?_, fun a ha => by rw [flat_nil] at ha; cases ha⟩
  · unfold fzAll at e
    rw [List.getElem?_map] at e
    cases e1 : s[j]? with
    | none => rw [e1] at e; cases e
    | some x =>
      rw [e1] at e
      cases x with
      | none => cases e
      | some y =>
        obtain ⟨d1, ow1⟩ := y
        cases e
        obtain ⟨v, h1, h2⟩ := r.at_ j d1 ow1 e1
        refine ⟨v, h1, h2.fz (frz_ex r.ex) fun a ha => frz_in (List.mem_flatten.mpr ⟨_, getD_mem ha, ha⟩), ?_⟩
        rw [List.getD_eq_getElem?_getD, List.getElem?_map]
        cases Fs[j]? <;> rfl
  · have h1 : tot (Fs.map fun _ => []) a = 0 := by
      rw [← tot_flat, flat_nil]
      rfl
    rw [h1]
    exact w_le
theorem frz_same (B H : Hp) (L : List Addr) : frz (frz B H L) H [] = frz B H L := by
  funext a
  exact frz_out (fun q => nomatch q)
theorem ES.all (e : Ex B H) (L : List Addr) : ES B H L (frz B H L) H [] :=
  ⟨frz_ex e, Ex.refl _, fun a _ => by have := frz_w B H L a; simpa using this, by rw [frz_same]; exact Ex.refl _⟩
theorem jShare (h : JB K W te de) : JC K W te (cShare de) := by
  intro s r e B H σ Fs R0 Q p
  unfold cShare at e
  cases e1 : de s with
  | none => rw [e1] at e; cases e
  | some r1 =>
    rw [e1] at e
    refine h s r1 e1 B H σ Fs R0 _ ?_
    cases r1 with
    | exc c s1 =>
      cases e
      exact p
    | ok d s1 =>
      have e : (if imm d then some (Er.ok (d, Ow.full) s1) else some (.ok (d, .no) (fzAll s1))) = some r := e
      intro v B1 H1 Fs1 F R1 y1 z1 l1 q1
      obtain ⟨q1, rfl⟩ := q1
      split at e
      · rename_i hi
        cases e
        exact p v B1 H1 Fs1 [] R1 y1 z1 l1 (Own.im hi (q1.any hi))
      · cases e
        refine p v (frz B1 H1 Fs1.flatten) H1 (Fs1.map fun _ => []) [] R1.letAll ?_ (by rw [flat_nil]; exact fun x => w_le) (fun _ q => nomatch q) ⟨q1, rfl⟩
        rw [flat_nil]
        exact y1.trans (ES.all R1.ex _)
theorem jAlias : JC K W (tVar i) (cAlias i) := by
  intro s r e B H σ Fs R0 Q p
  unfold cAlias at e
  split at e
  · rename_i d ow h
    obtain ⟨v, hv, q⟩ := R0.at_ i d ow h
    have hi := lt_of_get h
    have hF : i < Fs.length := by rw [R0.l2, ← R0.l1]; exact hi
    split at e
    · rename_i hm
      cases e
      exact ⟨v, hv, Post.here R0 (Own.im hm ((q.re R0.ex).any hm)) p⟩
    · cases e
      have cnt : ∀ a, Fs.flatten.count a = (Fs.getD i []).count a + (Fs.set i []).flatten.count a := fun a => by
        have := flat_set (F := []) hF a
        simp at this ⊢
        omega
      have y := (ES.refl B H Fs.flatten).let_go (Fs.getD i []) (Fs.set i []).flatten q.live cnt R0.ex
      have q2 : Re K (frz B H (Fs.getD i [])) H v d := q.fz (frz_ex R0.ex) fun a ha => frz_in ha
      have R1 : Rel K (frz B H (Fs.getD i [])) H σ (s.set i (some (d, .no))) (Fs.set i []) := by
        refine Rel.slot (F := []) (r := (?_ : Rel K (frz B H (Fs.getD i [])) H σ (s.set i none) (Fs.set i []))) (by simpa using hi) (fun d' ow' z => ?_) (fun a => ?_) (fun _ z => nomatch z) |> fun z => by simpa using z
        · refine Rel.know (B := B) (R0.slot (sl := none) (F := []) hi (fun _ _ z => nomatch z) (fun a => ?_) (fun _ z => nomatch z)) fun a => ?_
          · have h1 := cnt a
            have h2 := R0.wf a
            omega
          · rw [List.count_append, ← cnt a]
            exact R0.wf a
        · cases z
          exact ⟨v, hv, q2, rfl⟩
        · have h1 := cnt a
          have h2 := R0.wf a
          have h3 := frz_w B H (Fs.getD i []) a
          rw [List.set_set]
          omega
      refine ⟨v, hv, p v _ H (Fs.set i []) [] R1 y (fun a => ?_) (fun _ q => nomatch q) ⟨q2, rfl⟩⟩
      exact R1.wf a
  · cases e
end
end Dv

namespace Dv
open PySem L2 Evl

section
variable {K : PySem.W.Frag} {W : WW} {B H B' H' : Hp} {σ : L2.St} {s : SD} {Fs : List (List Addr)} {L F : List Addr} {p : Addr} {o : HO}
theorem Rel.ext (r : Rel K B H σ s Fs) (e : Ex H H') : Rel K B H' σ s Fs := by
  refine ⟨r.ex.trans e, r.l1, r.l2, fun i d ow h => ?_, r.wt, fun a ha => ex_ne e (r.lv a ha)⟩
  obtain ⟨v, h1, h2⟩ := r.at_ i d ow h
  refine ⟨v, h1, h2.mono (Ex.refl _) (Tk.of_ex e) fun a ha => ?_⟩
  cases q : H a with
  | none => exact absurd q (h2.live a ha)
  | some x => exact e _ _ q
theorem ES.ext (b : Ex B H) (e : Ex H H') : ES B H L B H' L := by
  refine ⟨Ex.refl _, e, fun _ _ => Nat.le_refl _, fun a x h => ?_⟩
  by_cases m : a ∈ L
  · rw [frz_in m] at h ⊢
    exact e _ _ h
  · rw [frz_out m] at h ⊢
    exact h
/-- new things come to be owned -/
theorem ES.more (b : Ex B H) (e : Ex H H') (new : ∀ a ∈ F, H a = none) : ES B H L B H' (F ++ L) := by
  refine ⟨Ex.refl _, e, fun a h => ?_, fun a x h => ?_⟩
  · have : F.count a = 0 := List.count_eq_zero.mpr fun m => h (new a m)
    rw [List.count_append]
    omega
  · have hx : H a = some x := frz_le b _ _ h
    have nF : a ∉ F := fun m => by rw [new a m] at hx; cases hx
    by_cases m : a ∈ L
    · rw [frz_in (List.mem_append_right _ m)]
      exact e _ _ hx
    · rw [frz_out m] at h
      rw [frz_out fun z => (List.mem_append.mp z).elim nF m]
      exact h
theorem val_new {B H : Hp} {p : Addr} {L : List Addr} (b : Ex B H) (hp : H p = none) (hv : ∀ x, w B x + L.count x ≤ 1) (hl : ∀ x ∈ L, H x ≠ none) : ∀ x, w B x + (p :: L).count x ≤ 1 := fun x => by
  rw [List.count_cons]
  by_cases e : p = x
  · subst e
    have h1 : L.count p = 0 := List.count_eq_zero.mpr fun m => hl p m hp
    have h2 : w B p = 0 := by
      cases q : B p with
      | none => exact w_none q
      | some u => rw [b _ _ q] at hp; cases hp
    simp [h1, h2]
  · have := hv x
    simp [e]
    exact this
theorem ne_new {H : Hp} {p a : Addr} (hp : H p = none) (h : H a ≠ none) : a ≠ p := fun e => h (by rw [e]; exact hp)
theorem upd_keep {H : Hp} {p : Addr} {o : HO} (hp : H p = none) {F : List Addr} (hl : ∀ a ∈ F, H a ≠ none) : ∀ a ∈ F, upd H p o a = H a := fun a ha => upd_ne (ne_new hp (hl a ha))

/-! ### displays -/
def cNil : DE (List D × Bool) := fun s => some (.ok ([], true) s)
def cCons (a : DE (D × Ow)) (l : DE (List D × Bool)) : DE (List D × Bool) := bnd a fun x => bnd l fun y s => some (.ok (x.1 :: y.1, decide (x.2 = .full) && y.2) s)
theorem jcNil : JCL K W tNil cNil := by
  intro s r e B H σ Fs R0 Q p
  cases e
  exact Post.here R0 (show OwnL K H [] [] [] from .nil) p
theorem rCL_go {G : Hp} {vs : List V} {ds : List D} {b : Bool} {L : List (List Addr)} (q : rCL K B H L vs (ds, b) F) (g : Ex B G) (k : ∀ a ∈ F, G a = H a) : ReL K G H vs ds := by
  cases b with
  | true => exact OwnL.re q k
  | false => exact q.1.mono g (Tk.refl _)
theorem jcCons {ta : TE} {tr : TA} {da : DE (D × Ow)} {dr : DE (List D × Bool)} (ha : JC K W ta da) (hr : JCL K W tr dr) : JCL K W (tCons ta tr) (cCons da dr) := by
  refine J.bind (k := fun x σ H Q => tr σ H fun xs H2 => Q (x :: xs) H2) ha fun a s1 r e v B1 H1 σ Fs1 F R1 hv hl q1 Q p => ?_
  obtain ⟨d, ow⟩ := a
  unfold bnd at e
  cases e3 : dr s1 with
  | none => rw [e3] at e; cases e
  | some r2 =>
    rw [e3] at e
    have q1 : RS K B1 H1 v d ow F := q1
    refine J.pend hr e3 R1 hv hl (fun b s2 er u B2 H2 Fs2 G R2 y2 z2 l2 q2 => ?_) (fun c s2 er B2 H2 Fs2 R2 y2 z2 => ?_)
    · subst er
      obtain ⟨ds, fu⟩ := b
      cases e
      have q3 : RS K B2 H2 v d ow F := q1.mono y2.exB (Tk.of_ex y2.exH) fun a ha => by
        cases q : H1 a with
        | none => exact absurd q (hl a ha)
        | some x => exact y2.exH _ _ q
      have lFG : ∀ x ∈ F ++ G, H2 x ≠ none := fun x hx => (List.mem_append.mp hx).elim (q3.live x) (l2 x)
      have go : ReL K (frz B2 H2 (F ++ G)) H2 (v :: u) (d :: ds) :=
        .cons (q3.fz (frz_ex R2.ex) fun a ha => frz_in (List.mem_append_left _ ha)) (rCL_go q2 (frz_ex R2.ex) fun a ha => frz_in (List.mem_append_right _ ha))
      have zz : ∀ x, w B2 x + ((F ++ G) ++ Fs2.flatten).count x ≤ 1 := fun x => by rw [List.append_assoc]; exact z2 x
      have yy := (y2.let_go (F ++ G) Fs2.flatten lFG (fun a => by rw [← List.append_assoc, List.count_append]) R2.ex)
      by_cases hf : (decide (ow = .full) && fu) = true
      · have h2 := Bool.and_eq_true_iff.mp hf
        have h1 := of_decide_eq_true h2.1
        have h3 := h2.2
        subst h1 h3
        refine p (v :: u) B2 H2 Fs2 (F ++ G) R2 (by rw [List.append_assoc]; exact y2) zz lFG ?_
        show OwnL K H2 (v :: u) (d :: ds) (F ++ G)
        exact .cons q3 q2
      · have hf2 : (decide (ow = .full) && fu) = false := by simpa using hf
        refine p (v :: u) _ H2 Fs2 [] (R2.know zz) yy (R2.know zz).wf (fun _ q => nomatch q) ?_
        show rCL K _ _ _ _ (d :: ds, decide (ow = .full) && fu) []
        rw [hf2]
        exact ⟨go, rfl⟩
    · subst er
      cases e
      exact p _ H2 Fs2 (R2.know z2) (y2.let_go F Fs2.flatten (fun a ha => ex_ne y2.exH (hl a ha)) (fun a => List.count_append) R2.ex)
def cLst (l : DE (List D × Bool)) : DE (D × Ow) := bnd l fun y s => if y.1.length ≤ 1000000 then some (.ok (.lst y.1, if y.2 then .full else .top) s) else none
def cTup (l : DE (List D × Bool)) : DE (D × Ow) := bnd l fun y s => if y.1.length ≤ 1000000 then some (.ok (.tup y.1, if y.2 then .full else .no) s) else none
theorem sz6 {n : Nat} (h : n ≤ 1000000) : n ≤ sizeLine := Nat.le_trans h (by decide)
/-- a new list -/
theorem new_list {vs : List V} {ds : List D} {b : Bool} (R0 : Rel K B H σ s Fs) (hv : ∀ x, w B x + (F ++ Fs.flatten).count x ≤ 1) (hl : ∀ x ∈ F, H x ≠ none) (q : rCL K B H Fs vs (ds, b) F) (hp : H p = none) :
    Rel K B (upd H p (.lst vs)) σ s Fs ∧ ES B H (F ++ Fs.flatten) B (upd H p (.lst vs)) ((p :: F) ++ Fs.flatten) ∧ (∀ x, w B x + ((p :: F) ++ Fs.flatten).count x ≤ 1) ∧ (∀ x ∈ p :: F, upd H p (.lst vs) x ≠ none) ∧ rC K B (upd H p (.lst vs)) Fs (.ref p) (.lst ds, if b then .full else .top) (p :: F) := by
  have e : Ex H (upd H p (.lst vs)) := Ex.new hp
  refine ⟨R0.ext e, ES.more (F := [p]) R0.ex e (fun a ha => by rw [List.mem_singleton.mp ha]; exact hp), ?_, fun x hx => ?_, ?_⟩
  · exact val_new (L := F ++ Fs.flatten) R0.ex hp hv fun x hx => (List.mem_append.mp hx).elim (hl x) (R0.lv x)
  · rcases List.mem_cons.mp hx with rfl | hx
    · rw [upd_same]; exact fun z => nomatch z
    · exact ex_ne e (hl x hx)
  · cases b with
    | true => exact Own.lst upd_same (OwnL.mono (Tk.of_ex e) q (upd_keep hp hl))
    | false =>
      obtain ⟨q, rfl⟩ := q
      exact ⟨p, vs, ds, rfl, rfl, upd_same, q.mono (Ex.refl _) (Tk.of_ex e), rfl⟩
theorem jcLst {tr : TA} {dr : DE (List D × Bool)} (hr : JCL K W tr dr) : JC K W (tLst tr) (cLst dr) := by
  refine J.bind (k := fun xs σ H Q => xs.length ≤ sizeLine ∧ ∀ p, H p = none → Q (V.ref p) (upd H p (.lst xs))) hr fun a s1 r e vs B1 H1 σ Fs1 F R1 hv hl q1 Q p => ?_
  obtain ⟨ds, b⟩ := a
  split at e
  · rename_i hz
    cases e
    have len : vs.length = ds.length := (rCL_go q1 R1.ex fun _ _ => rfl).length
    refine ⟨by rw [len]; exact sz6 hz, fun x hx => ?_⟩
    obtain ⟨a1, a2, a3, a4, a5⟩ := new_list R1 hv hl q1 hx
    exact p _ B1 _ Fs1 (x :: F) a1 a2 a3 a4 a5
  · cases e
theorem jcTup {tr : TA} {dr : DE (List D × Bool)} (hr : JCL K W tr dr) : JC K W (tTup tr) (cTup dr) := by
  refine J.bind (k := fun xs σ H Q => xs.length ≤ sizeLine ∧ ∀ p, H p = none → Q (V.ref p) (upd H p (.tup xs))) hr fun a s1 r e vs B1 H1 σ Fs1 F R1 hv hl q1 Q p => ?_
  obtain ⟨ds, b⟩ := a
  split at e
  · rename_i hz
    cases e
    have len : vs.length = ds.length := (rCL_go q1 R1.ex fun _ _ => rfl).length
    refine ⟨by rw [len]; exact sz6 hz, fun x hx => ?_⟩
    have e : Ex H1 (upd H1 x (.tup vs)) := Ex.new hx
    refine p _ B1 _ Fs1 F (R1.ext e) (ES.ext R1.ex e) hv (fun y hy => ex_ne e (hl y hy)) ?_
    cases b with
    | true => exact Own.tup upd_same (OwnL.mono (Tk.of_ex e) q1 (upd_keep hx hl))
    | false =>
      obtain ⟨q1, rfl⟩ := q1
      exact ⟨Re.tup upd_same (q1.mono (Ex.refl _) (Tk.of_ex e)), rfl⟩
  · cases e
end

/-! ### calls of defs -/
inductive Fo where
  | ret (d : D) (ow : Ow) | exc (c : Str)
abbrev DF := List D → Option Fo
/-- a def's promise -/
def spD (K : PySem.W.Frag) (cl : Str → Value) (n : Nat) (df : DF) : Sp := fun vs H Q E => ∃ B ds o, Ex B H ∧ ReL K B H vs ds ∧ ds.length = n ∧ df ds = some o ∧ match o with
  | .ret d ow => ∀ v B' H' F, Ex B B' → Ex B' H' → Ex H H' → (∀ a, H a ≠ none → w B' a + F.count a ≤ w B a) → (∀ a, w B' a + F.count a ≤ 1) → RS K B' H' v d ow F → Q v H'
  | .exc c => ∀ H', Ex H H' → E (cl c) none H'
theorem spD_len {K : PySem.W.Frag} {cl : Str → Value} {n : Nat} {df : DF} {vs : List V} {H : Hp} {Q : VK} {E : XK} (h : spD K cl n df vs H Q E) : vs.length = n := by
  obtain ⟨B, ds, o, _, r, e, _⟩ := h
  rw [r.length, e]
def wOf (cl : Str → Value) (X : WX) : WW := fun c σ H => X (cl c) none σ H
def cCall (df : DF) (a : DE (List D)) : DE (D × Ow) := bnd a fun ds s => match df ds with
  | some (.ret d ow) => if imm d || decide (ow = .full) then some (.ok (d, .full) s) else some (.ok (d, ow) (fzAll s))
  | some (.exc c) => some (.exc c s)
  | none => none
section
variable {K : PySem.W.Frag} {B H B' H' : Hp} {σ : L2.St} {s : SD} {Fs : List (List Addr)} {cl : Str → Value} {X : WX}
theorem jcCall {n : Nat} {df : DF} {tr : TA} {dr : DE (List D)} (hn : ∀ ds, df ds ≠ none → ds.length = n) (hr : JA K (wOf cl X) tr dr) : JC K (wOf cl X) (tCallS (spD K cl n df) (WE X) tr) (cCall df dr) := by
  refine J.one (k := fun vs σ H Q => spD K cl n df vs H Q (WE X σ)) hr zL fun ds s r e vs B H σ Fs R0 q Q p => ?_
  obtain ⟨q, -⟩ := q
  cases ed : df ds with
  | none => rw [ed] at e; cases e
  | some o =>
    rw [ed] at e
    refine ⟨frz B H Fs.flatten, ds, o, frz_le R0.ex, q, hn ds (by rw [ed]; exact fun z => nomatch z), ed, ?_⟩
    cases o with
    | exc c =>
      cases e
      intro H' x
      exact p B H' Fs (R0.ext x) (ES.ext R0.ex x)
    | ret d ow =>
      intro v B' H' F x1 x2 x3 x4 x5 x6
      have e : (if (imm d || decide (ow = .full)) = true then some (Er.ok (d, Ow.full) s) else some (.ok (d, ow) (fzAll s))) = some r := e
      have newF : ∀ a ∈ F, frz B H Fs.flatten a = none ∨ H a = none := fun a ha => by
        by_cases hh : H a = none
        · exact .inr hh
        · refine .inl ?_
          have h1 := x4 a hh
          have h2 := mem_count ha
          have h3 := w_mono x1 a
          exact w_zero (by omega)
      split at e
      · rename_i hc
        cases e
        -- held in full, or no list in it
        have own : ∃ G, Own K H' v d G ∧ (∀ a ∈ G, a ∈ F) ∧ ∀ a, G.count a ≤ F.count a := by
          rcases Bool.or_eq_true_iff.mp hc with hi | ho
          · exact ⟨[], .im hi ((x6.re x2).any hi), fun a (z : a ∈ []) => (nomatch z), fun a => Nat.zero_le _⟩
          · have := of_decide_eq_true ho
            subst this
            exact ⟨F, x6, fun _ z => z, fun a => Nat.le_refl _⟩
        obtain ⟨G, oG, sG, cG⟩ := own
        have newG : ∀ a ∈ G, H a = none := fun a ha => by
          by_cases hh : H a = none
          · exact hh
          · have h1 := x4 a hh
            have h2 := mem_count (sG a ha)
            have h3 := w_mono x1 a
            have h5 := x5 a
            have h6 : w B' a = 0 := by omega
            exfalso
            have h7 : w (frz B H Fs.flatten) a = 0 := by omega
            omega
        refine p v B H' Fs G (R0.ext x3) (ES.more R0.ex x3 newG) (fun a => ?_) oG.live oG
        rw [List.count_append]
        by_cases ha : a ∈ G
        · have hn := newG a ha
          have h1 : Fs.flatten.count a = 0 := List.count_eq_zero.mpr fun m => R0.lv a m hn
          have h2 : w B a = 0 := by
            cases q : B a with
            | none => exact w_none q
            | some u => rw [R0.ex _ _ q] at hn; cases hn
          have h3 := x5 a
          have h4 := cG a
          omega
        · have h1 : G.count a = 0 := List.count_eq_zero.mpr ha
          have h2 := R0.wf a
          omega
      · cases e
        have R1 := R0.letAll
        have R2 : Rel K B' H' σ (fzAll s) (Fs.map fun _ => []) := by
          refine ⟨x2, R1.l1, R1.l2, fun i d' ow' h => ?_, fun a => ?_, fun a ha => by rw [flat_nil] at ha; cases ha⟩
          · obtain ⟨u, h1, h2⟩ := R1.at_ i d' ow' h
            exact ⟨u, h1, h2.mono x1 (Tk.of_ex x3) fun a ha => by
              cases q : H a with
              | none => exact absurd q (h2.live a ha)
              | some x => exact x3 _ _ q⟩
          · have h0 : tot (Fs.map fun _ => []) a = 0 := by rw [← tot_flat, flat_nil] <;> rfl
            rw [h0]
            exact w_le
        refine p v B' H' _ F R2 ?_ (fun a => by rw [flat_nil, List.append_nil]; exact x5 a) x6.live x6
        rw [flat_nil, List.append_nil]
        refine ⟨(frz_ex R0.ex).trans x1, x3, fun a h => ?_, fun a o h => ?_⟩
        · have h1 := x4 a h
          have h2 := frz_w B H Fs.flatten a
          omega
        · have h1 := x1 _ _ h
          have nF : a ∉ F := fun m => by
            have h2 := mem_count m
            have h3 := x5 a
            have h4 := w_some h1
            omega
          rw [frz_out nF]
          exact h1
end
end Dv

namespace Dv
open PySem L2 Evl

inductive Out where
  | next (s : SD) | brk (s : SD) | cont (s : SD) | ret (d : D) (ow : Ow) | exc (c : Str) (s : SD)
abbrev DS := SD → Option Out
def PostS (K : PySem.W.Frag) (W : WW) (B H : Hp) (L : List Addr) (En : Ends) : Out → Prop
  | .next s' => ∀ σ' B' H' Fs', Rel K B' H' σ' s' Fs' → SS B H L B' H' Fs'.flatten → En.nx σ' H'
  | .brk s' => ∀ σ' B' H' Fs', Rel K B' H' σ' s' Fs' → SS B H L B' H' Fs'.flatten → En.bk σ' H'
  | .cont s' => ∀ σ' B' H' Fs', Rel K B' H' σ' s' Fs' → SS B H L B' H' Fs'.flatten → En.ct σ' H'
  | .ret d ow => ∀ v B' H' F, Ex B' H' → SS B H L B' H' F → (∀ a, w B' a + F.count a ≤ 1) → RS K B' H' v d ow F → En.rt v H'
  | .exc c s' => ∀ σ' B' H' Fs', Rel K B' H' σ' s' Fs' → SS B H L B' H' Fs'.flatten → W c σ' H'
def JS (K : PySem.W.Frag) (W : WW) (ts : TS) (ds : DS) : Prop :=
  ∀ s o, ds s = some o → ∀ B H σ Fs, Rel K B H σ s Fs → ∀ En : Ends, PostS K W B H Fs.flatten En o → ts En σ H
section
variable {K : PySem.W.Frag} {W : WW} {B H B1 H1 B' H' : Hp} {L L1 : List Addr} {En : Ends} {o : Out} {σ : L2.St} {s : SD} {Fs : List (List Addr)} {F : List Addr} {i : Nat} {v : V} {d : D} {ow : Ow}
theorem PostS.step (x : SS B H L B1 H1 L1) (p : PostS K W B H L En o) : PostS K W B1 H1 L1 En o := by
  cases o with
  | next s' => exact fun σ' B' H' Fs' a b => p σ' B' H' Fs' a (x.trans b)
  | brk s' => exact fun σ' B' H' Fs' a b => p σ' B' H' Fs' a (x.trans b)
  | cont s' => exact fun σ' B' H' Fs' a b => p σ' B' H' Fs' a (x.trans b)
  | exc c s' => exact fun σ' B' H' Fs' a b => p σ' B' H' Fs' a (x.trans b)
  | ret d ow => exact fun v B' H' F a b c e => p v B' H' F a (x.trans b) c e
/-- a name is stored -/
theorem Rel.store (r : Rel K B H σ s Fs) (hi : i < s.length) (q : RS K B H v d ow F) (hv : ∀ a, w B a + (F ++ Fs.flatten).count a ≤ 1) :
    Rel K B H (σ.set i (some v)) (s.set i (some (d, ow))) (Fs.set i F) ∧ ∀ a, (Fs.set i F).flatten.count a ≤ (F ++ Fs.flatten).count a := by
  have hF : i < Fs.length := by rw [r.l2, ← r.l1]; exact hi
  have le : ∀ a, (Fs.set i F).flatten.count a ≤ (F ++ Fs.flatten).count a := fun a => by
    have := flat_set (F := F) hF a
    rw [List.count_append]
    omega
  refine ⟨⟨r.ex, by rw [List.length_set, List.length_set]; exact r.l1, by rw [List.length_set, List.length_set]; exact r.l2, fun j d' ow' e => ?_, fun a => ?_, fun a ha => (mem_set_flat ha).elim (r.lv a) (q.live a)⟩, le⟩
  · rw [getD_set hF]
    by_cases ej : j = i
    · subst ej
      rw [List.getElem?_set_self hi] at e
      rw [if_pos rfl]
      cases e
      exact ⟨v, List.getElem?_set_self (by rw [← r.l1]; exact hi), q⟩
    · rw [List.getElem?_set_ne (Ne.symm ej)] at e
      rw [if_neg ej]
      obtain ⟨u, h1, h2⟩ := r.at_ j d' ow' e
      exact ⟨u, by rw [List.getElem?_set_ne (Ne.symm ej)]; exact h1, h2⟩
  · rw [← tot_flat]
    have := le a
    have := hv a
    omega
end

/-! ### small statements -/
def sSeq (a b : DS) : DS := fun s => match a s with
  | some (.next s1) => b s1
  | r => r
def sNext : DS := fun s => some (.next s)
def sBrk : DS := fun s => some (.brk s)
def sCont : DS := fun s => some (.cont s)
def sNever : DS := fun _ => none
def sSet (i : Nat) (c : DE (D × Ow)) : DS := fun s => match c s with
  | some (.ok (d, ow) s1) => if i < s1.length then some (.next (s1.set i (some (d, ow)))) else none
  | some (.exc x s1) => some (.exc x s1)
  | none => none
def sDrop (a : DE D) : DS := fun s => match a s with
  | some (.ok _ s1) => some (.next s1)
  | some (.exc x s1) => some (.exc x s1)
  | none => none
def sRet (c : DE (D × Ow)) : DS := fun s => match c s with
  | some (.ok (d, ow) _) => some (.ret d ow)
  | some (.exc x s1) => some (.exc x s1)
  | none => none
def sRetN : DS := fun _ => some (.ret .non .full)
def sIf (c : DE Bool) (a b : DS) : DS := fun s => match c s with
  | some (.ok true s1) => a s1
  | some (.ok false s1) => b s1
  | some (.exc x s1) => some (.exc x s1)
  | none => none
section
variable {K : PySem.W.Frag} {W : WW} {t u : TS} {a b : DS} {te : TE} {tt : TT} {c : DE (D × Ow)} {de : DE D} {dt : DE Bool} {i : Nat}
theorem jsSeq (h1 : JS K W t a) (h2 : JS K W u b) : JS K W (tSeq t u) (sSeq a b) := by
  intro s o e B H σ Fs R0 En p
  unfold sSeq at e
  cases e1 : a s with
  | none => rw [e1] at e; cases e
  | some r =>
    rw [e1] at e
    refine h1 s r e1 B H σ Fs R0 _ ?_
    cases r with
    | next s1 => exact fun σ' B' H' Fs' x y => h2 s1 o e B' H' σ' Fs' x En (p.step y)
    | brk s1 => cases e; exact p
    | cont s1 => cases e; exact p
    | exc x s1 => cases e; exact p
    | ret d ow => cases e; exact p
theorem jsNext : JS K W tNext sNext := by
  intro s o e B H σ Fs R0 En p
  cases e
  exact p σ B H Fs R0 (SS.refl _ _ _)
theorem jsBrk : JS K W tBreak sBrk := by
  intro s o e B H σ Fs R0 En p
  cases e
  exact p σ B H Fs R0 (SS.refl _ _ _)
theorem jsCont : JS K W tCont sCont := by
  intro s o e B H σ Fs R0 En p
  cases e
  exact p σ B H Fs R0 (SS.refl _ _ _)
theorem jsNever : JS K W tNever sNever := by
  intro s o e
  cases e
theorem jsNeverT (t : TS) : JS K W t sNever := by
  intro s o e
  cases e
theorem jsSet (h : JC K W te c) : JS K W (tAsg te (gName i)) (sSet i c) := by
  intro s o e B H σ Fs R0 En p
  unfold sSet at e
  cases e1 : c s with
  | none => rw [e1] at e; cases e
  | some r =>
    rw [e1] at e
    refine h s r e1 B H σ Fs R0 _ ?_
    cases r with
    | exc x s1 =>
      cases e
      exact fun B' H' Fs' x y => p σ B' H' Fs' x y.ss
    | ok q s1 =>
      obtain ⟨d, ow⟩ := q
      have e : (if i < s1.length then some (Out.next (s1.set i (some (d, ow)))) else none) = some o := e
      split at e
      · rename_i hi
        cases e
        intro v B' H' Fs' F x y z l q
        obtain ⟨h1, h2⟩ := x.store hi q z
        exact p _ B' H' _ h1 (y.ss.le h2)
      · cases e
theorem jsDrop (h : JB K W te de) : JS K W (tDrop te) (sDrop de) := by
  intro s o e B H σ Fs R0 En p
  unfold sDrop at e
  cases e1 : de s with
  | none => rw [e1] at e; cases e
  | some r =>
    rw [e1] at e
    refine h s r e1 B H σ Fs R0 _ ?_
    cases r with
    | exc x s1 =>
      cases e
      exact fun B' H' Fs' x y => p σ B' H' Fs' x y.ss
    | ok q s1 =>
      cases e
      intro v B' H' Fs' F x y z l q
      obtain ⟨q, rfl⟩ := q
      exact p _ B' H' _ x y.ss
theorem jsRet (h : JC K W te c) : JS K W (tRet te) (sRet c) := by
  intro s o e B H σ Fs R0 En p
  unfold sRet at e
  cases e1 : c s with
  | none => rw [e1] at e; cases e
  | some r =>
    rw [e1] at e
    refine h s r e1 B H σ Fs R0 _ ?_
    cases r with
    | exc x s1 =>
      cases e
      exact fun B' H' Fs' x y => p σ B' H' Fs' x y.ss
    | ok q s1 =>
      obtain ⟨d, ow⟩ := q
      cases e
      intro v B' H' Fs' F x y z l q
      refine p v B' H' F x.ex (y.ss.le fun a => ?_) (fun a => ?_) q
      · rw [List.count_append]; omega
      · have := z a
        rw [List.count_append] at this
        omega
theorem jsRetN : JS K W tRetN sRetN := by
  intro s o e B H σ Fs R0 En p
  cases e
  exact p .non B H [] R0.ex ((SS.refl B H Fs.flatten).le fun a => Nat.zero_le _) (fun a => w_le) (Own.im rfl .non)
theorem jsIf (h : JT K W tt dt) (h1 : JS K W t a) (h2 : JS K W u b) : JS K W (tIfS tt t u) (sIf dt a b) := by
  intro s o e B H σ Fs R0 En p
  unfold sIf at e
  cases e1 : dt s with
  | none => rw [e1] at e; cases e
  | some r =>
    rw [e1] at e
    refine h s r e1 B H σ Fs R0 _ ?_
    cases r with
    | exc x s1 =>
      cases e
      exact fun B' H' Fs' x y => p σ B' H' Fs' x y.ss
    | ok q s1 =>
      intro v B' H' Fs' F x y z l q
      obtain ⟨rfl, rfl⟩ := q
      cases v with
      | true => exact h1 s1 o e B' H' σ Fs' x En (p.step y.ss)
      | false => exact h2 s1 o e B' H' σ Fs' x En (p.step y.ss)
end

/-! ### a def -/
def stD (ds : List D) (n : Nat) : SD := ds.map (fun d => some (d, Ow.no)) ++ List.replicate (n - ds.length) none
def outF : Option Out → Option Fo
  | some (.ret d ow) => some (.ret d ow)
  | some (.next _) => some (.ret .non .full)
  | some (.exc c _) => some (.exc c)
  | _ => none
/-- a def of n slots, its body -/
def dDef (n : Nat) (body : DS) : DF := fun ds => outF (body (stD ds n))
theorem start_len {N : List Str} {vs : List V} (h : vs.length ≤ N.length) : (L2.start N vs).length = N.length := by
  unfold L2.start
  simp
  omega
theorem def_ok {K : PySem.W.Frag} {cl : Str → Value} {N : List Str} {n : Nat} {body : DS} {ts : TS} {E : XK} {vs : List V} {H : Hp} {Q : VK} (hn : n ≤ N.length) (h : JS K (fun c _ H' => E (cl c) none H') ts body)
    (sp : spD K cl n (dDef N.length body) vs H Q E) : ts { nx := fun _ H' => Q .non H', rt := Q } (L2.start N vs) H := by
  obtain ⟨B, ds, o, eB, r, el, ed, post⟩ := sp
  have lv : vs.length = n := by rw [r.length, el]
  unfold dDef at ed
  cases eb : body (stD ds N.length) with
  | none => rw [eb] at ed; cases ed
  | some out =>
    rw [eb] at ed
    have R0 : Rel K B H (L2.start N vs) (stD ds N.length) (List.replicate N.length []) := by
      refine ⟨eB, ?_, ?_, fun i d ow e => ?_, fun a => by rw [tot_rep]; exact w_le, fun a ha => ?_⟩
      · rw [start_len (by omega)]
        unfold stD
        simp
        omega
      · rw [start_len (by omega), List.length_replicate]
      · unfold stD at e
        by_cases hi : i < ds.length
        · rw [List.getElem?_append_left (by simpa using hi), List.getElem?_map] at e
          cases e1 : ds[i]? with
          | none => rw [e1] at e; cases e
          | some d1 =>
            rw [e1] at e
            cases e
            obtain ⟨v, h1, h2⟩ := r.get e1
            refine ⟨v, ?_, h2, ?_⟩
            · unfold L2.start
              have := lt_of_get h1
              rw [List.getElem?_append_left (by simpa using this), List.getElem?_map, h1]
              rfl
            · rw [List.getD_eq_getElem?_getD, List.getElem?_replicate]
              split <;> rfl
        · rw [List.getElem?_append_right (by simpa using hi), List.getElem?_replicate] at e
          split at e <;> cases e
      · have : (List.replicate N.length ([] : List Addr)).flatten = [] := by
          induction N.length with
          | zero => rfl
          | succ m ih => simp [List.replicate_succ] at ih ⊢
        rw [this] at ha
        cases ha
    have L0 : (List.replicate N.length ([] : List Addr)).flatten = [] := by
      induction N.length with
      | zero => rfl
      | succ m ih => simp [List.replicate_succ] at ih ⊢
    refine h _ out eb B H _ _ R0 _ ?_
    rw [L0]
    cases out with
    | next s' =>
      cases ed
      intro σ' B' H' Fs' x y
      refine post .non B' H' [] y.exB x.ex (y.all fun _ => rfl) (fun a ha => ?_) (fun a => w_le) (Own.im rfl .non)
      have := y.wt a ha
      simp at this ⊢
      omega
    | brk s' => cases ed
    | cont s' => cases ed
    | exc c s' =>
      cases ed
      exact fun σ' B' H' Fs' x y => post H' (y.all fun _ => rfl)
    | ret d ow =>
      cases ed
      intro v B' H' F x y z q
      exact post v B' H' F y.exB x (y.all fun _ => rfl) (fun a ha => by have := y.wt a ha; simpa using this) z q
end Dv

namespace Dv
open PySem L2 Evl

/-! ### targets -/
abbrev DT := D → Ow → SD → Option SD
def JG (K : PySem.W.Frag) (g : TG) (tg : DT) (own : List Nat) : Prop := ∀ d ow s s', tg d ow s = some s' → ∀ B H σ Fs v F, Rel K B H σ s Fs → RS K B H v d ow F → (∀ a, w B a + (F ++ Fs.flatten).count a ≤ 1) →
  ∀ Q : L2.St → Hp → Prop, (∀ σ' Fs', Rel K B H σ' s' Fs' → (∀ a, Fs'.flatten.count a ≤ (F ++ Fs.flatten).count a) → σ'.length = σ.length → (∀ j, j ∉ own → σ'[j]? = σ[j]?) → Q σ' H) → g v σ H Q
def tgN (i : Nat) : DT := fun d ow s => if i < s.length then some (s.set i (some (d, ow))) else none
theorem jgN {K : PySem.W.Frag} {i : Nat} : JG K (gName i) (tgN i) [i] := by
  intro d ow s s' e B H σ Fs v F R0 q z Q h
  unfold tgN at e
  split at e
  · rename_i hi
    cases e
    obtain ⟨h1, h2⟩ := R0.store hi q z
    exact h _ _ h1 h2 (by rw [List.length_set]) fun j hj => List.getElem?_set_ne fun e => hj (by simp [e])
  · cases e
/-- several names, from the left -/
def tgL : List Nat → List D → Ow → SD → Option SD
  | [], [], _, s => some s
  | i :: is, d :: ds, ow, s => if i < s.length then tgL is ds ow (s.set i (some (d, if imm d then .full else ow))) else none
  | _, _, _, _ => none
def tgT (is : List Nat) : DT := fun d ow s => match d with
  | .tup ds => if ow = .top then none else tgL is ds ow s
  | _ => none
def gNs : List Nat → TGs
  | [] => gNil
  | i :: is => gCons (gName i) (gNs is)
/-- owned in full, or known -/
def RL (K : PySem.W.Frag) (B H : Hp) (vs : List V) (ds : List D) : Ow → List Addr → Prop
  | .full, F => OwnL K H vs ds F
  | _, F => ReL K B H vs ds ∧ F = []
section
variable {K : PySem.W.Frag} {B H : Hp}
theorem RL.cons {v : V} {d : D} {vs : List V} {ds : List D} {ow : Ow} {F : List Addr} (ht : ow ≠ .top) (q : RL K B H (v :: vs) (d :: ds) ow F) (e : Ex B H) :
    ∃ F1 F2, F = F1 ++ F2 ∧ RS K B H v d (if imm d then .full else ow) F1 ∧ RL K B H vs ds ow F2 := by
  cases ow with
  | top => exact absurd rfl ht
  | full =>
    have q : OwnL K H (v :: vs) (d :: ds) F := q
    cases q with
    | cons a b =>
      refine ⟨_, _, rfl, ?_, b⟩
      split
      · exact a
      · exact a
  | no =>
    obtain ⟨q, rfl⟩ := q
    cases q with
    | cons a b =>
      refine ⟨[], [], rfl, ?_, b, rfl⟩
      split
      · rename_i hi
        exact Own.im hi (a.any hi)
      · exact ⟨a, rfl⟩
theorem jgL (own : List Nat) (is : List Nat) (hown : ∀ i ∈ is, i ∈ own) : ∀ (ds : List D) (ow : Ow) (s s' : SD), ow ≠ .top → tgL is ds ow s = some s' → ∀ σ Fs vs F, Rel K B H σ s Fs → RL K B H vs ds ow F → (∀ a, w B a + (F ++ Fs.flatten).count a ≤ 1) →
    ∀ Q : L2.St → Hp → Prop, (∀ σ' Fs', Rel K B H σ' s' Fs' → (∀ a, Fs'.flatten.count a ≤ (F ++ Fs.flatten).count a) → σ'.length = σ.length → (∀ j, j ∉ own → σ'[j]? = σ[j]?) → Q σ' H) → gNs is vs σ H Q := by
  induction is with
  | nil =>
    intro ds ow s s' ht e σ Fs vs F R0 q z Q h
    cases ds with
    | nil =>
      have e : some s = some s' := e
      cases e
      refine ⟨?_, h σ Fs R0 (fun a => by rw [List.count_append]; omega) rfl fun _ _ => rfl⟩
      cases ow with
      | full =>
        have q : OwnL K H vs [] F := q
        cases q
        rfl
      | top => exact absurd rfl ht
      | no =>
        cases q.1
        rfl
    | cons d ds => cases e
  | cons i is ih =>
    intro ds ow s s' ht e σ Fs vs F R0 q z Q h
    cases ds with
    | nil => cases e
    | cons d ds =>
      have e : (if i < s.length then tgL is ds ow (s.set i (some (d, if imm d then .full else ow))) else none) = some s' := e
      split at e
      · rename_i hi
        have hv : ∃ v vr, vs = v :: vr := by
          cases ow with
          | full =>
            have q : OwnL K H vs (d :: ds) F := q
            cases q
            exact ⟨_, _, rfl⟩
          | top => exact absurd rfl ht
          | no =>
            cases q.1
            exact ⟨_, _, rfl⟩
        obtain ⟨v, vr, rfl⟩ := hv
        obtain ⟨F1, F2, rfl, q1, q2⟩ := RL.cons ht q R0.ex
        have z1 : ∀ a, w B a + (F1 ++ Fs.flatten).count a ≤ 1 := fun a => by
          have := z a
          rw [List.count_append, List.count_append] at this
          rw [List.count_append]
          omega
        obtain ⟨R1, c1⟩ := R0.store hi q1 z1
        refine ⟨v, vr, rfl, ?_⟩
        refine ih (fun j hj => hown j (by simp [hj])) ds ow _ s' ht e _ _ vr F2 R1 q2 (fun a => ?_) Q fun σ' Fs' x y u1 u2 => h σ' Fs' x (fun a => ?_) (by rw [u1, List.length_set]) fun j hj => (u2 j hj).trans (List.getElem?_set_ne fun e => hj (by rw [← e]; exact hown i (by simp)))
        · have h1 := z a
          have h2 := c1 a
          rw [List.count_append, List.count_append] at h1
          rw [List.count_append] at h2
          rw [List.count_append]
          omega
        · have h1 := y a
          have h2 := c1 a
          rw [List.count_append] at h1 h2
          rw [List.count_append, List.count_append]
          omega
      · cases e
theorem jgT {is : List Nat} {n : Nat} (hn : is.length = n) : JG K (gTup K n (gNs is)) (tgT is) is := by
  intro d ow s s' e B H σ Fs v F R0 q z Q h
  unfold tgT at e
  cases d with
  | tup ds =>
    have e : (if ow = .top then none else tgL is ds ow s) = some s' := e
    split at e
    · cases e
    · rename_i ht
      have key : ∃ p vs, v = .ref p ∧ SqT K H p vs ∧ RL K B H vs ds ow F ∧ vs.length = ds.length := by
        cases ow with
        | top => exact absurd rfl ht
        | full =>
          have q : Own K H v (.tup ds) F := q
          cases q with
          | im hi r =>
            cases r with
            | tup a b => exact ⟨_, _, rfl, SqT.of a, OwnL.imms b (by simpa [imm] using hi), b.length⟩
          | tup a b => exact ⟨_, _, rfl, SqT.of a, b, (OwnL.re b fun _ _ => rfl).length⟩
        | no =>
          obtain ⟨q, rfl⟩ := q
          cases q with
          | tup a b => exact ⟨_, _, rfl, SqT.of a, ⟨b, rfl⟩, b.length⟩
      obtain ⟨p, vs, rfl, hq, hl, len⟩ := key
      refine ⟨p, vs, rfl, hq, ?_, jgL is is (fun _ h => h) ds ow s s' ht e σ Fs vs F R0 hl z Q h⟩
      -- the numbers of names and of things
      have : ∀ (is : List Nat) (ds : List D) (s : SD), tgL is ds ow s = some s' → is.length = ds.length := by
        intro is
        induction is with
        | nil =>
          intro ds s e
          cases ds with
          | nil => rfl
          | cons _ _ => cases e
        | cons i is ih =>
          intro ds s e
          cases ds with
          | nil => cases e
          | cons d ds =>
            have e : (if i < s.length then tgL is ds ow (s.set i (some (d, if imm d then .full else ow))) else none) = some s' := e
            split at e
            · simpa using ih ds _ e
            · cases e
      rw [len, ← this is ds s e, hn]
  | _ => cases e
end
/-- targets = a thing held -/
def sAsg (tg : DT) (c : DE (D × Ow)) : DS := fun s => match c s with
  | some (.ok (d, ow) s1) => (tg d ow s1).map Out.next
  | some (.exc x s1) => some (.exc x s1)
  | none => none
theorem jsAsg {K : PySem.W.Frag} {W : WW} {te : TE} {g : TG} {c : DE (D × Ow)} {tg : DT} {own : List Nat} (h : JC K W te c) (hg : JG K g tg own) : JS K W (tAsg te g) (sAsg tg c) := by
  intro s o e B H σ Fs R0 En p
  unfold sAsg at e
  cases e1 : c s with
  | none => rw [e1] at e; cases e
  | some r =>
    rw [e1] at e
    refine h s r e1 B H σ Fs R0 _ ?_
    cases r with
    | exc x s1 =>
      cases e
      exact fun B' H' Fs' x y => p σ B' H' Fs' x y.ss
    | ok q s1 =>
      obtain ⟨d, ow⟩ := q
      have e : (tg d ow s1).map Out.next = some o := e
      cases e2 : tg d ow s1 with
      | none => rw [e2] at e; cases e
      | some s2 =>
        rw [e2] at e
        cases e
        intro v B' H' Fs' F x y z l q
        refine hg d ow s1 s2 e2 B' H' σ Fs' v F x q z _ fun σ' Fs2 x2 c2 _ _ => ?_
        exact p _ B' H' _ x2 (y.ss.le c2)

/-! ### for -/
def goFor (tg : DT) (body : DS) : List (D × Ow) → DS
  | [], s => some (.next s)
  | (d, ow) :: r, s => match tg d ow s with
    | none => none
    | some s1 => match body s1 with
      | some (.next s2) => goFor tg body r s2
      | some (.cont s2) => goFor tg body r s2
      | some (.brk s2) => some (.next s2)
      | x => x
section
variable {K : PySem.W.Frag} {W : WW} {B1 H1 : Hp} {L1 : List Addr} {g : TG} {tb : TS} {tg : DT} {own : List Nat} {body : DS} {o : Out} {En : Ends} {items : List (D × Ow)}
def FP (K : PySem.W.Frag) (tg : DT) (body : DS) (o : Out) (B1 H1 : Hp) (L1 : List Addr) (items : List (D × Ow)) (k : Nat) (σ : L2.St) (H : Hp) : Prop :=
  ∃ B' Fs' s', Rel K B' H σ s' Fs' ∧ SS B1 H1 L1 B' H Fs'.flatten ∧ goFor tg body (items.drop k) s' = some o
theorem for_step (hg : JG K g tg own) (hb : JS K W tb body) (p : PostS K W B1 H1 L1 En o) {k : Nat} {d : D} {ow : Ow} (hk : items[k]? = some (d, ow)) {v : V} {σ : L2.St} {H : Hp} (P : FP K tg body o B1 H1 L1 items k σ H)
    (hv : ∀ B' H' L', SS B1 H1 L1 B' H' L' → RS K B' H' v d ow []) :
    g v σ H fun σ2 H2 => tb { En with nx := FP K tg body o B1 H1 L1 items (k + 1), ct := FP K tg body o B1 H1 L1 items (k + 1), bk := En.nx } σ2 H2 := by
  obtain ⟨B', Fs', s', R, x, e⟩ := P
  have hd : items.drop k = (d, ow) :: items.drop (k + 1) := by
    obtain ⟨h1, h2⟩ := List.getElem?_eq_some_iff.mp hk
    rw [List.drop_eq_getElem_cons h1, h2]
  rw [hd] at e
  unfold goFor at e
  cases e1 : tg d ow s' with
  | none => rw [e1] at e; cases e
  | some s1 =>
    rw [e1] at e
    have e : (match body s1 with
      | some (.next s2) => goFor tg body (items.drop (k + 1)) s2
      | some (.cont s2) => goFor tg body (items.drop (k + 1)) s2
      | some (.brk s2) => some (.next s2)
      | x => x) = some o := e
    refine hg d ow s' s1 e1 B' H σ Fs' v [] R (hv _ _ _ x) R.val _ fun σ2 Fs2 R2 c2 _ _ => ?_
    have x2 : SS B1 H1 L1 B' H Fs2.flatten := x.le fun a => by simpa using c2 a
    cases e2 : body s1 with
    | none => rw [e2] at e; cases e
    | some r =>
      rw [e2] at e
      refine hb s1 r e2 B' H σ2 Fs2 R2 _ ?_
      cases r with
      | next s2 => exact fun σ3 B3 H3 Fs3 y1 y2 => ⟨B3, Fs3, s2, y1, x2.trans y2, e⟩
      | cont s2 => exact fun σ3 B3 H3 Fs3 y1 y2 => ⟨B3, Fs3, s2, y1, x2.trans y2, e⟩
      | brk s2 =>
        cases e
        exact fun σ3 B3 H3 Fs3 y1 y2 => p σ3 B3 H3 Fs3 y1 (x2.trans y2)
      | ret d ow =>
        cases e
        exact fun v3 B3 H3 F3 y1 y2 y3 y4 => p v3 B3 H3 F3 y1 (x2.trans y2) y3 y4
      | exc c s2 =>
        cases e
        exact fun σ3 B3 H3 Fs3 y1 y2 => p σ3 B3 H3 Fs3 y1 (x2.trans y2)
theorem for_end (p : PostS K W B1 H1 L1 En o) {σ : L2.St} {H : Hp} (P : FP K tg body o B1 H1 L1 items items.length σ H) : En.nx σ H := by
  obtain ⟨B', Fs', s', R, x, e⟩ := P
  rw [List.drop_length] at e
  cases e
  exact p σ B' H Fs' R x
/-- over a list that stays -/
theorem for_l {a : Addr} {vs : List V} {σ : L2.St} {B : Hp} {s : SD} {Fs : List (List Addr)} (hg : JG K g tg own) (hb : JS K W tb body) (R : Rel K B1 H1 σ s Fs) (p : PostS K W B1 H1 Fs.flatten En o) (e : goFor tg body items s = some o)
    (hl : vs.length = items.length) (stay : ∀ B' H' L', Ex B' H' → SS B1 H1 Fs.flatten B' H' L' → SqL K H' a vs) (hv : ∀ (k : Nat) v d ow, vs[k]? = some v → items[k]? = some (d, ow) → ∀ B' H' L', SS B1 H1 Fs.flatten B' H' L' → RS K B' H' v d ow []) :
    ∃ W : Nat → Nat → L2.St → Hp → Prop, (∃ m, W 0 m σ H1) ∧ ∀ i m σ H, W i m σ H →
      ((Itl K a).stop i H ∧ En.nx σ H) ∨ ((Itl K a).go i H ∧ ∃ N : L2.St → Hp → Prop, (∀ σ' H', N σ' H' → ∃ m', m' < m ∧ W (i + 1) m' σ' H') ∧ ∀ x H', (Itl K a).yld i H x H' → g x σ H' fun σ2 H2 => tb { En with nx := N, ct := N, bk := En.nx } σ2 H2) := by
  refine for_list (xs := vs) (FP K tg body o B1 H1 Fs.flatten items) ⟨B1, Fs, s, R, SS.refl _ _ _, e⟩ (fun i σ H _ ⟨B', Fs', s', R', x', _⟩ => stay B' H _ R'.ex x') (fun i x σ H hx P => ?_) fun σ H P => ?_
  · have hi := lt_of_get hx
    obtain ⟨it, hit⟩ : ∃ it, items[i]? = some it := ⟨items[i], List.getElem?_eq_getElem (by omega)⟩
    obtain ⟨d, ow⟩ := it
    exact for_step hg hb p hit P (hv i x d ow hx hit)
  · rw [hl] at P
    exact for_end p P
theorem for_t {a : Addr} {vs : List V} {σ : L2.St} {B : Hp} {s : SD} {Fs : List (List Addr)} (hg : JG K g tg own) (hb : JS K W tb body) (R : Rel K B1 H1 σ s Fs) (p : PostS K W B1 H1 Fs.flatten En o) (e : goFor tg body items s = some o)
    (hl : vs.length = items.length) (stay : ∀ B' H' L', Ex B' H' → SS B1 H1 Fs.flatten B' H' L' → SqT K H' a vs) (hv : ∀ (k : Nat) v d ow, vs[k]? = some v → items[k]? = some (d, ow) → ∀ B' H' L', SS B1 H1 Fs.flatten B' H' L' → RS K B' H' v d ow []) :
    ∃ W : Nat → Nat → L2.St → Hp → Prop, (∃ m, W 0 m σ H1) ∧ ∀ i m σ H, W i m σ H →
      ((Itt K a).stop i H ∧ En.nx σ H) ∨ ((Itt K a).go i H ∧ ∃ N : L2.St → Hp → Prop, (∀ σ' H', N σ' H' → ∃ m', m' < m ∧ W (i + 1) m' σ' H') ∧ ∀ x H', (Itt K a).yld i H x H' → g x σ H' fun σ2 H2 => tb { En with nx := N, ct := N, bk := En.nx } σ2 H2) := by
  refine for_tup (xs := vs) (FP K tg body o B1 H1 Fs.flatten items) ⟨B1, Fs, s, R, SS.refl _ _ _, e⟩ (fun i σ H _ ⟨B', Fs', s', R', x', _⟩ => stay B' H _ R'.ex x') (fun i x σ H hx P => ?_) fun σ H P => ?_
  · have hi := lt_of_get hx
    obtain ⟨it, hit⟩ : ∃ it, items[i]? = some it := ⟨items[i], List.getElem?_eq_getElem (by omega)⟩
    obtain ⟨d, ow⟩ := it
    exact for_step hg hb p hit P (hv i x d ow hx hit)
  · rw [hl] at P
    exact for_end p P
def rngD (lo : Int) (n : Nat) : List (D × Ow) := (List.range n).map fun (k : Nat) => (D.int (lo + (k : Int)), Ow.full)
theorem for_r {lo : Int} {n : Nat} {σ : L2.St} {s : SD} {Fs : List (List Addr)} (hg : JG K g tg own) (hb : JS K W tb body) (R : Rel K B1 H1 σ s Fs) (p : PostS K W B1 H1 Fs.flatten En o) (e : goFor tg body (rngD lo n) s = some o) :
    ∃ W : Nat → Nat → L2.St → Hp → Prop, (∃ m, W 0 m σ H1) ∧ ∀ i m σ H, W i m σ H →
      ((Itr lo n).stop i H ∧ En.nx σ H) ∨ ((Itr lo n).go i H ∧ ∃ N : L2.St → Hp → Prop, (∀ σ' H', N σ' H' → ∃ m', m' < m ∧ W (i + 1) m' σ' H') ∧ ∀ x H', (Itr lo n).yld i H x H' → g x σ H' fun σ2 H2 => tb { En with nx := N, ct := N, bk := En.nx } σ2 H2) := by
  refine for_range (FP K tg body o B1 H1 Fs.flatten (rngD lo n)) ⟨B1, Fs, s, R, SS.refl _ _ _, e⟩ (fun i σ H hi P => ?_) fun σ H P => ?_
  · have hit : (rngD lo n)[i]? = some (D.int (lo + (i : Int)), Ow.full) := by
      unfold rngD
      rw [List.getElem?_map, List.getElem?_range hi]
      rfl
    exact for_step hg hb p hit P fun B' H' L' x => Own.im rfl (.int _)
  · have hl : n = (rngD lo n).length := by simp [rngD]
    have P2 : FP K tg body o B1 H1 Fs.flatten (rngD lo n) (rngD lo n).length σ H := hl ▸ P
    exact for_end p P2
end

/-- range(a), range(a, b) -/
def sForR (tg : DT) (a : DE (List D)) (body : DS) : DS := fun s => match a s with
  | some (.ok ds s1) => match ds with
    | [.int j] => if -(2 ^ 62) ≤ j ∧ j < 2 ^ 62 then goFor tg body (rngD 0 j.toNat) s1 else none
    | [.int i, .int j] => if -(2 ^ 62) ≤ i ∧ i < 2 ^ 62 ∧ -(2 ^ 62) ≤ j ∧ j < 2 ^ 62 then goFor tg body (rngD i (j - i).toNat) s1 else none
    | _ => none
  | some (.exc x s1) => some (.exc x s1)
  | none => none
section
variable {K : PySem.W.Frag} {W : WW} {g : TG} {tb : TS} {tg : DT} {own : List Nat} {body : DS} {ta : TA} {da : DE (List D)}
theorem reL1 {G H : Hp} {vs : List V} {i : Int} (h : ReL K G H vs [.int i]) : vs = [.int i] := by
  cases h with
  | cons a b =>
    cases a
    cases b
    rfl
theorem reL2 {G H : Hp} {vs : List V} {i j : Int} (h : ReL K G H vs [.int i, .int j]) : vs = [.int i, .int j] := by
  cases h with
  | cons a b =>
    cases a
    rw [reL1 b]
theorem jsForR1 (ha : JA K W ta da) (hg : JG K g tg own) (hb : JS K W tb body) (h1 : ∀ s ds s1, da s = some (.ok ds s1) → ds.length = 1) : JS K W (tFor (iRng1 ta) g tb) (sForR tg da body) := by
  intro s o e B H σ Fs R0 En p
  unfold sForR at e
  cases e1 : da s with
  | none => rw [e1] at e; cases e
  | some r =>
    rw [e1] at e
    refine ha s r e1 B H σ Fs R0 _ ?_
    cases r with
    | exc x s1 =>
      cases e
      exact fun B' H' Fs' x y => p σ B' H' Fs' x y.ss
    | ok ds s1 =>
      intro vs B' H' Fs' F R1 y z l q
      obtain ⟨q, rfl⟩ := q
      have hl := h1 _ _ _ e1
      simp only at e
      split at e
      · rename_i j
        split at e
        · rename_i hj
          exact ⟨j, reL1 q, hj.1, hj.2, for_r hg hb R1 (p.step y.ss) e⟩
        · cases e
      · simp at hl
      · cases e
theorem jsForR2 (ha : JA K W ta da) (hg : JG K g tg own) (hb : JS K W tb body) (h1 : ∀ s ds s1, da s = some (.ok ds s1) → ds.length = 2) : JS K W (tFor (iRng2 ta) g tb) (sForR tg da body) := by
  intro s o e B H σ Fs R0 En p
  unfold sForR at e
  cases e1 : da s with
  | none => rw [e1] at e; cases e
  | some r =>
    rw [e1] at e
    refine ha s r e1 B H σ Fs R0 _ ?_
    cases r with
    | exc x s1 =>
      cases e
      exact fun B' H' Fs' x y => p σ B' H' Fs' x y.ss
    | ok ds s1 =>
      intro vs B' H' Fs' F R1 y z l q
      obtain ⟨q, rfl⟩ := q
      have hl := h1 _ _ _ e1
      simp only at e
      split at e
      · simp at hl
      · rename_i i j
        split at e
        · rename_i hj
          exact ⟨i, j, reL2 q, hj, for_r hg hb R1 (p.step y.ss) e⟩
        · cases e
      · cases e
end
end Dv

namespace Dv
open PySem L2 Evl

/-! ### one reading or another -/
def tOr2 (t u : TE) : TE := fun σ H Q => t σ H Q ∨ u σ H Q
def iOr2 (t u : TI) : TI := fun σ H R => t σ H R ∨ u σ H R
theorem pe_or2 {X : Cx} {e : Expr} {t u : TE} (h1 : PE X e t) (h2 : PE X e u) : PE X e (tOr2 t u) :=
  ⟨fun pins s σ H Q I h => h.elim (h1.run pins s σ H Q I) (h2.run pins s σ H Q I)⟩
theorem pi_or2 {X : Cx} {g e : Expr} {t u : TI} (h1 : PI X g e t) (h2 : PI X g e u) : PI X g e (iOr2 t u) :=
  ⟨fun pins s σ H Q I h => h.elim (h1.run pins s σ H Q I) (h2.run pins s σ H Q I)⟩
/-! ### for over things held: they are let go -/
def itm (d : D) (ow : Ow) : D × Ow := (d, if imm d then .full else ow)
def itemsOf : D → Option (List D)
  | .lst ds => some ds
  | .sc ds => some ds
  | .tup ds => some ds
  | _ => none
abbrev noIt (ds : List D) : List (D × Ow) := ds.map fun d => itm d .no
abbrev iSq (K : PySem.W.Frag) (te : TE) : TI := iOr2 (iList K te) (iTup K te)
def sForC (tg : DT) (c : DE (D × Ow)) (body : DS) : DS := fun s => match c s with
  | some (.ok (d, _) s1) => match itemsOf d with
    | some its => goFor tg body (noIt its) s1
    | none => none
  | some (.exc x s1) => some (.exc x s1)
  | none => none
section
variable {K : PySem.W.Frag} {W : WW} {te : TE} {g : TG} {tb : TS} {tg : DT} {own : List Nat} {body : DS} {c : DE (D × Ow)}
theorem noIt_ok {B H B' H' : Hp} {vs : List V} {ds : List D} {L L' : List Addr} (r : ReL K B H vs ds) (x : SS B H L B' H' L') : ∀ (k : Nat) v d ow, vs[k]? = some v → (noIt ds)[k]? = some (d, ow) → RS K B' H' v d ow [] := by
  intro k v d ow hv hi
  rw [List.getElem?_map] at hi
  cases e : ds[k]? with
  | none => rw [e] at hi; cases hi
  | some d0 =>
    rw [e] at hi
    cases hi
    obtain ⟨u, h1, h2⟩ := r.get e
    rw [hv] at h1
    cases h1
    have h3 := h2.mono x.exB x.tk
    show RS K B' H' v d (if imm d then .full else .no) []
    split
    · rename_i hm
      exact Own.im hm (h3.any hm)
    · exact ⟨h3, rfl⟩
theorem jsForC (hc : JC K W te c) (hg : JG K g tg own) (hb : JS K W tb body) : JS K W (tFor (iSq K te) g tb) (sForC tg c body) := by
  intro s o e B H σ Fs R0 En p
  unfold sForC at e
  cases e1 : c s with
  | none => rw [e1] at e; cases e
  | some r =>
    rw [e1] at e
    have hh := hc s r e1 B H σ Fs R0
    cases r with
    | exc x s1 =>
      cases e
      exact .inl (hh _ fun B' H' Fs' x y => p σ B' H' Fs' x y.ss)
    | ok q s1 =>
      obtain ⟨d, ow⟩ := q
      have key : ∀ (v : V) (B' H' : Hp) (Fs' : List (List Addr)) (F : List Addr), Rel K B' H' σ s1 Fs' → ES B H Fs.flatten B' H' (F ++ Fs'.flatten) → (∀ x, w B' x + (F ++ Fs'.flatten).count x ≤ 1) → (∀ x ∈ F, H' x ≠ none) → RS K B' H' v d ow F →
          Rel K (frz B' H' F) H' σ s1 Fs' ∧ SS B H Fs.flatten (frz B' H' F) H' Fs'.flatten ∧ Re K (frz B' H' F) H' v d := fun v B' H' Fs' F R1 y z l q =>
        ⟨R1.know z, (y.let_go F _ l (fun a => List.count_append) R1.ex).ss, q.fz (frz_ex R1.ex) fun a ha => frz_in ha⟩
      cases d with
      | lst ds =>
        refine .inl (hh _ fun v B' H' Fs' F R1 y z l q => ?_)
        obtain ⟨R2, y2, q2⟩ := key v B' H' Fs' F R1 y z l q
        cases q2 with
        | lst hp hr =>
          rename_i a vs
          have hs : ∀ B2 H2 L2, Ex B2 H2 → SS (frz B' H' F) H' Fs'.flatten B2 H2 L2 → SqL K H2 a vs := fun B2 H2 L2 e2 x2 => sq_of (e2 _ _ (x2.exB _ _ hp))
          exact ⟨a, rfl, ⟨vs, sq_of (R2.ex _ _ hp)⟩, for_l (B := B) hg hb R2 (p.step y2) e (by rw [hr.length, List.length_map]) hs fun k v d ow h1 h2 B2 H2 L2 x2 => noIt_ok hr x2 k v d ow h1 h2⟩
      | sc ds =>
        refine .inl (hh _ fun v B' H' Fs' F R1 y z l q => ?_)
        obtain ⟨R2, y2, q2⟩ := key v B' H' Fs' F R1 y z l q
        cases q2 with
        | sc hp hr =>
          rename_i a vs
          have hs : ∀ B2 H2 L2, Ex B2 H2 → SS (frz B' H' F) H' Fs'.flatten B2 H2 L2 → SqL K H2 a vs := fun B2 H2 L2 e2 x2 => (x2.tk.sf hp).l
          exact ⟨a, rfl, ⟨vs, hp.l⟩, for_l (B := B) hg hb R2 (p.step y2) e (by rw [hr.length, List.length_map]) hs fun k v d ow h1 h2 B2 H2 L2 x2 => noIt_ok hr x2 k v d ow h1 h2⟩
      | tup ds =>
        refine .inr (hh _ fun v B' H' Fs' F R1 y z l q => ?_)
        obtain ⟨R2, y2, q2⟩ := key v B' H' Fs' F R1 y z l q
        cases q2 with
        | tup hp hr =>
          rename_i a vs
          have hs : ∀ B2 H2 L2, Ex B2 H2 → SS (frz B' H' F) H' Fs'.flatten B2 H2 L2 → SqT K H2 a vs := fun B2 H2 L2 e2 x2 => x2.tk.sq (SqT.of hp)
          exact ⟨a, rfl, ⟨vs, SqT.of hp⟩, for_t (B := B) hg hb R2 (p.step y2) e (by rw [hr.length, List.length_map]) hs fun k v d ow h1 h2 B2 H2 L2 x2 => noIt_ok hr x2 k v d ow h1 h2⟩
      | _ => cases e
end

/-! ### while -/
def goWh (c : DE Bool) (body : DS) : Nat → DS
  | 0, _ => none
  | n + 1, s => match c s with
    | some (.ok true s1) => match body s1 with
      | some (.next s2) => goWh c body n s2
      | some (.cont s2) => goWh c body n s2
      | some (.brk s2) => some (.next s2)
      | x => x
    | some (.ok false s1) => some (.next s1)
    | some (.exc x s1) => some (.exc x s1)
    | none => none
def fuel : Nat := 1208925819614629174706176
def sWhile (c : DE Bool) (body : DS) : DS := goWh c body fuel
theorem goWh_mono {c : DE Bool} {body : DS} : ∀ {n m : Nat} {s : SD} {o : Out}, n ≤ m → goWh c body n s = some o → goWh c body m s = some o := by
  intro n
  induction n with
  | zero => intro m s o _ e; cases e
  | succ n ih =>
    intro m s o h e
    obtain ⟨k, rfl⟩ : ∃ k, m = k + 1 := ⟨m - 1, by omega⟩
    unfold goWh at e ⊢
    cases e1 : c s with
    | none => rw [e1] at e; cases e
    | some r =>
      rw [e1] at e
      cases r with
      | exc x s1 => exact e
      | ok b s1 =>
        cases b with
        | false => exact e
        | true =>
          simp only at e ⊢
          cases e2 : body s1 with
          | none => rw [e2] at e; cases e
          | some r2 =>
            rw [e2] at e
            cases r2 with
            | next s2 => exact ih (by omega) e
            | cont s2 => exact ih (by omega) e
            | brk s2 => exact e
            | ret d ow => exact e
            | exc c s2 => exact e
section
variable {K : PySem.W.Frag} {W : WW} {tc : TT} {tb : TS} {c : DE Bool} {body : DS}
theorem jsWhile (hc : JT K W tc c) (hb : JS K W tb body) : JS K W (tWhile tc tb) (sWhile c body) := by
  intro s o e B H σ Fs R0 En p
  refine ⟨fun m σ' H' => ∃ B' Fs' s', Rel K B' H' σ' s' Fs' ∧ SS B H Fs.flatten B' H' Fs'.flatten ∧ goWh c body m s' = some o, ⟨fuel, B, Fs, s, R0, SS.refl _ _ _, e⟩, ?_⟩
  rintro m σ1 H1 ⟨B1, Fs1, s1, R1, x1, e1⟩
  cases m with
  | zero => cases e1
  | succ m =>
    unfold goWh at e1
    cases e2 : c s1 with
    | none => rw [e2] at e1; cases e1
    | some r =>
      rw [e2] at e1
      refine hc s1 r e2 B1 H1 σ1 Fs1 R1 _ ?_
      cases r with
      | exc x s2 =>
        cases e1
        exact fun B' H' Fs' x y => p σ1 B' H' Fs' x (x1.trans y.ss)
      | ok b s2 =>
        intro v B2 H2 Fs2 F R2 y z l q
        obtain ⟨rfl, rfl⟩ := q
        cases v with
        | false =>
          cases e1
          exact p σ1 B2 H2 Fs2 R2 (x1.trans y.ss)
        | true =>
          have e1 : (match body s2 with
            | some (.next s2) => goWh c body m s2
            | some (.cont s2) => goWh c body m s2
            | some (.brk s2) => some (.next s2)
            | x => x) = some o := e1
          refine ⟨_, fun σ' H' h => ⟨m, Nat.lt_succ_self m, h⟩, ?_⟩
          cases e3 : body s2 with
          | none => rw [e3] at e1; cases e1
          | some r2 =>
            rw [e3] at e1
            refine hb s2 r2 e3 B2 H2 σ1 Fs2 R2 _ ?_
            have x2 := x1.trans y.ss
            cases r2 with
            | next s3 => exact fun σ3 B3 H3 Fs3 y1 y2 => ⟨B3, Fs3, s3, y1, x2.trans y2, e1⟩
            | cont s3 => exact fun σ3 B3 H3 Fs3 y1 y2 => ⟨B3, Fs3, s3, y1, x2.trans y2, e1⟩
            | brk s3 =>
              cases e1
              exact fun σ3 B3 H3 Fs3 y1 y2 => p σ3 B3 H3 Fs3 y1 (x2.trans y2)
            | ret d ow =>
              cases e1
              exact fun v3 B3 H3 F3 y1 y2 y3 y4 => p v3 B3 H3 F3 y1 (x2.trans y2) y3 y4
            | exc x s3 =>
              cases e1
              exact fun σ3 B3 H3 Fs3 y1 y2 => p σ3 B3 H3 Fs3 y1 (x2.trans y2)
end

/-! ### a list by a comprehension -/
def wipeD : List Nat → SD → SD
  | [], s => s
  | i :: is, s => (wipeD is s).set i none
def okE (m : Bool) (e : D) (eo : Ow) : Bool := match m with
  | true => decide (eo = .full)
  | false => decide (eo = .no) || imm e
def goC (m : Bool) (tg : DT) (cond : DE Bool) (elt : DE (D × Ow)) (own : List Nat) : List (D × Ow) → List D → DE (List D)
  | [], acc, s => some (.ok acc s)
  | (d, ow) :: r, acc, s => match tg d ow s with
    | none => none
    | some s1 => match cond s1 with
      | some (.ok false s2) => goC m tg cond elt own r acc (wipeD own s2)
      | some (.ok true s2) => match elt s2 with
        | some (.ok (e, eo) s3) => if (okE m e eo && decide (acc.length < 1000000)) = true then goC m tg cond elt own r (acc ++ [e]) (wipeD own s3) else none
        | _ => none
      | _ => none
section
variable {K : PySem.W.Frag} {B H B' H' : Hp} {σ : L2.St} {s : SD} {Fs : List (List Addr)} {own : List Nat}
def wipeF : List Nat → List (List Addr) → List (List Addr)
  | [], Fs => Fs
  | i :: is, Fs => (wipeF is Fs).set i []
theorem wipeD_len : ∀ (own : List Nat) (s : SD), (wipeD own s).length = s.length
  | [], _ => rfl
  | i :: is, s => by unfold wipeD; rw [List.length_set, wipeD_len is s]
theorem wipeF_len : ∀ (own : List Nat) (s : List (List Addr)), (wipeF own s).length = s.length
  | [], _ => rfl
  | i :: is, s => by unfold wipeF; rw [List.length_set, wipeF_len is s]
theorem wipeF_le : ∀ (own : List Nat) (Fs : List (List Addr)) (a : Addr), (wipeF own Fs).flatten.count a ≤ Fs.flatten.count a
  | [], _, _ => Nat.le_refl _
  | i :: is, Fs, a => by
    unfold wipeF
    have h1 := wipeF_le is Fs a
    by_cases hi : i < (wipeF is Fs).length
    · have h2 := flat_set (F := []) hi a
      simp at h2
      omega
    · rw [List.set_eq_of_length_le (by omega)]
      exact h1
theorem wipeD_none : ∀ (own : List Nat) (s : SD) (i : Nat) (x : D × Ow), (wipeD own s)[i]? = some (some x) → s[i]? = some (some x) ∧ i ∉ own
  | [], s, i, x, h => ⟨h, by simp⟩
  | j :: is, s, i, x, h => by
    unfold wipeD at h
    by_cases e : i = j
    · subst e
      by_cases hl : i < (wipeD is s).length
      · rw [List.getElem?_set_self hl] at h; cases h
      · rw [List.getElem?_eq_none (by rw [List.length_set]; omega)] at h; cases h
    · rw [List.getElem?_set_ne (Ne.symm e)] at h
      obtain ⟨h1, h2⟩ := wipeD_none is s i x h
      exact ⟨h1, by simp [e, h2]⟩
theorem wipeF_out : ∀ (own : List Nat) (Fs : List (List Addr)) (i : Nat), i ∉ own → (wipeF own Fs).getD i [] = Fs.getD i []
  | [], _, _, _ => rfl
  | j :: is, Fs, i, h => by
    unfold wipeF
    have h1 : i ≠ j := fun e => h (by simp [e])
    have h2 : i ∉ is := fun m => h (by simp [m])
    rw [List.getD_eq_getElem?_getD, List.getElem?_set_ne (Ne.symm h1), ← List.getD_eq_getElem?_getD]
    exact wipeF_out is Fs i h2
theorem wipe_out : ∀ (own : List Nat) (σ : L2.St) (i : Nat), i ∉ own → (wipe σ own)[i]? = σ[i]?
  | [], _, _, _ => rfl
  | j :: is, σ, i, h => by
    unfold wipe
    have h1 : i ≠ j := fun e => h (by simp [e])
    have h2 : i ∉ is := fun m => h (by simp [m])
    rw [List.getElem?_set_ne (Ne.symm h1)]
    exact wipe_out is σ i h2
theorem Rel.wipe (r : Rel K B H σ s Fs) (own : List Nat) : Rel K B H (L2.wipe σ own) (wipeD own s) (wipeF own Fs) := by
  refine ⟨r.ex, by rw [wipeD_len, wipe_length]; exact r.l1, by rw [wipeF_len, wipe_length]; exact r.l2, fun i d ow e => ?_, fun a => ?_, fun a ha => r.lv a ?_⟩
  · obtain ⟨h1, h2⟩ := wipeD_none own s i _ e
    obtain ⟨v, h3, h4⟩ := r.at_ i d ow h1
    exact ⟨v, by rw [wipe_out own σ i h2]; exact h3, by rw [wipeF_out own Fs i h2]; exact h4⟩
  · have h1 := wipeF_le own Fs a
    have h2 := r.wf a
    rw [← tot_flat]
    omega
  · have h1 := mem_count ha
    have h2 := wipeF_le own Fs a
    exact count_mem (by omega)
/-- behind the list: the names outside are as they were -/
theorem Rel.unwipe (r : Rel K B H (L2.wipe σ own) s Fs) (hs : wipeD own s = s) : Rel K B H σ s Fs := by
  refine ⟨r.ex, by rw [r.l1, wipe_length], by rw [r.l2, wipe_length], fun i d ow e => ?_, r.wt, r.lv⟩
  obtain ⟨v, h1, h2⟩ := r.at_ i d ow e
  exact ⟨v, (wipe_some h1).1, h2⟩
theorem wipeD_set (own : List Nat) (s : SD) (i : Nat) (h : i ∈ own) : (wipeD own s).set i none = wipeD own s := by
  induction own with
  | nil => cases h
  | cons j is ih =>
    unfold wipeD
    by_cases e : i = j
    · subst e
      rw [List.set_set]
    · have hm : i ∈ is := (List.mem_cons.mp h).resolve_left e
      rw [List.set_comm _ _ (Ne.symm e), ih hm]
theorem wipeD_idem : ∀ (own : List Nat) (s : SD), wipeD own (wipeD own s) = wipeD own s := by
  intro own
  have key : ∀ (l : List Nat) (s : SD), (∀ i ∈ l, i ∈ own) → wipeD l (wipeD own s) = wipeD own s := by
    intro l
    induction l with
    | nil => intro s _; rfl
    | cons j is ih =>
      intro s h
      show (wipeD is (wipeD own s)).set j none = wipeD own s
      rw [ih s fun i hi => h i (by simp [hi])]
      exact wipeD_set own s j (h j (by simp))
  exact fun s => key own s fun _ h => h
theorem Rel.mut (r : Rel K B H σ s Fs) {p : Addr} {xs ys : List V} (hB : B p = none) (hF : p ∉ Fs.flatten) (hp : H p = some (.lst xs)) : Rel K B (upd H p (.lst ys)) σ s Fs := by
  have tk : Tk H (upd H p (.lst ys)) := ⟨fun q zs h => by rw [upd_ne (ne_of h hp (fun z => nomatch z))]; exact h, fun q o u h => by rw [upd_ne (ne_of h hp (fun z => nomatch z))]; exact h⟩
  refine ⟨fun a o h => ?_, r.l1, r.l2, fun i d ow e => ?_, r.wt, fun a ha => ?_⟩
  · rw [upd_ne (fun q => by rw [q, hB] at h; cases h)]
    exact r.ex a o h
  · obtain ⟨v, h1, h2⟩ := r.at_ i d ow e
    refine ⟨v, h1, h2.mono (Ex.refl _) tk fun a ha => upd_ne fun q => hF ?_⟩
    subst q
    exact List.mem_flatten.mpr ⟨_, getD_mem ha, ha⟩
  · by_cases q : a = p
    · subst q; rw [upd_same]; exact fun z => nomatch z
    · rw [upd_ne q]; exact r.lv a ha
theorem ES.mutNew {L L' : List Addr} (x : ES B H L B' H' L') (bH : Ex B H) {p : Addr} {o : HO} (hp : H p = none) : ES B H L B' (upd H' p o) L' := by
  refine ⟨x.exB, x.exH.mut hp, x.wt, fun a u h => ?_⟩
  have hn : a ≠ p := fun q => by
    have := frz_le bH _ _ h
    rw [q, hp] at this
    cases this
  have h2 := x.vw _ _ h
  by_cases m : a ∈ L'
  · rw [frz_in m] at h2 ⊢
    rw [upd_ne hn]; exact h2
  · rw [frz_out m] at h2 ⊢
    exact h2
theorem goC_wiped {m : Bool} {tg : DT} {cond : DE Bool} {elt : DE (D × Ow)} : ∀ {items : List (D × Ow)} {acc : List D} {s : SD} {a : List D} {s' : SD}, wipeD own s = s → goC m tg cond elt own items acc s = some (.ok a s') → wipeD own s' = s'
  | [], acc, s, a, s', h, e => by
    cases e
    exact h
  | (d, ow) :: r, acc, s, a, s', h, e => by
    unfold goC at e
    split at e
    · cases e
    · split at e
      · exact goC_wiped (wipeD_idem own _) e
      · split at e
        · split at e
          · exact goC_wiped (wipeD_idem own _) e
          · cases e
        · cases e
      · cases e
theorem goC_ok {m : Bool} {tg : DT} {cond : DE Bool} {elt : DE (D × Ow)} : ∀ {items : List (D × Ow)} {acc : List D} {s : SD} {r : Er (List D)}, goC m tg cond elt own items acc s = some r → ∃ a s', r = .ok a s'
  | [], acc, s, r, e => by
    cases e
    exact ⟨_, _, rfl⟩
  | (d, ow) :: _, acc, s, r, e => by
    unfold goC at e
    split at e
    · cases e
    · split at e
      · exact goC_ok e
      · split at e
        · split at e
          · exact goC_ok e
          · cases e
        · cases e
      · cases e
end
abbrev W0 : WW := fun _ _ _ => False
section
variable {K : PySem.W.Frag} {g : TG} {tg : DT} {tt : TT} {cond : DE Bool} {te : TE} {elt : DE (D × Ow)} {own : List Nat} {items : List (D × Ow)} {B1 H1 : Hp} {σ : L2.St} {Fs1 : List (List Addr)} {R : Er (List D)} {Dp : Addr} {m : Bool}
/-- what holds between two turns -/
def CP (m : Bool) (K : PySem.W.Frag) (tg : DT) (cond : DE Bool) (elt : DE (D × Ow)) (own : List Nat) (items : List (D × Ow)) (B1 H1 : Hp) (σ : L2.St) (Fs1 : List (List Addr)) (R : Er (List D)) (Dp : Addr) (k : Nat) (H : Hp) : Prop :=
  ∃ B' Fs' s' vs acc F, Rel K B' H (wipe σ own) s' Fs' ∧ wipeD own s' = s' ∧ H Dp = some (.lst vs) ∧ rCL K B' H Fs' vs (acc, m) F ∧ (∀ a ∈ F, H a ≠ none) ∧ ES B1 H1 Fs1.flatten B' H ((Dp :: F) ++ Fs'.flatten) ∧ (∀ a, w B' a + ((Dp :: F) ++ Fs'.flatten).count a ≤ 1) ∧ goC m tg cond elt own (items.drop k) acc s' = some R
theorem wipe_in : ∀ (own : List Nat) (σ : L2.St) (i : Nat), i ∈ own → i < σ.length → (wipe σ own)[i]? = some none
  | j :: is, σ, i, h, hl => by
    unfold wipe
    by_cases e : i = j
    · subst e
      exact List.getElem?_set_self (by rw [wipe_length]; exact hl)
    · rw [List.getElem?_set_ne (Ne.symm e)]
      exact wipe_in is σ i ((List.mem_cons.mp h).resolve_left e) hl
theorem wipe_eq {σ τ : L2.St} {own : List Nat} (hl : σ.length = τ.length) (h : ∀ i, i ∉ own → σ[i]? = τ[i]?) : wipe σ own = wipe τ own := by
  refine List.ext_getElem? fun i => ?_
  by_cases m : i ∈ own
  · by_cases q : i < σ.length
    · rw [wipe_in own σ i m q, wipe_in own τ i m (by omega)]
    · rw [List.getElem?_eq_none (by rw [wipe_length]; omega), List.getElem?_eq_none (by rw [wipe_length]; omega)]
  · rw [wipe_out own σ i m, wipe_out own τ i m, h i m]
theorem wipe_wipe (σ : L2.St) (own : List Nat) : wipe (wipe σ own) own = wipe σ own := wipe_eq (wipe_length _ _) fun i hi => wipe_out own σ i hi
theorem ES.lose {B H B' H' : Hp} {L1 L M2 P : List Addr} (x : ES B H L1 B' H' (P ++ L)) (z : ∀ a, w B' a + (P ++ L).count a ≤ 1) (hl : ∀ a ∈ L, H' a ≠ none) (hb : Ex B' H') (le : ∀ a, M2.count a ≤ L.count a) :
    ∃ M, ES B H L1 (frz B' H' M) H' (P ++ M2) ∧ (∀ a, w (frz B' H' M) a + (P ++ M2).count a ≤ 1) ∧ (∀ a, w B' a + (M ++ M2).count a ≤ 1) := by
  refine ⟨L.filter fun a => decide (a ∉ M2), ?_⟩
  have cnt : ∀ a, L.count a = (L.filter fun a => decide (a ∉ M2)).count a + M2.count a := fun a => by
    have h1 := z a
    have h2 := le a
    rw [List.count_append] at h1
    by_cases m : a ∈ M2
    · have h3 := mem_count m
      have h4 : (L.filter fun a => decide (a ∉ M2)).count a = 0 := List.count_eq_zero.mpr fun q => by
        have := (List.mem_filter.mp q).2
        simp [m] at this
      omega
    · have h3 : M2.count a = 0 := List.count_eq_zero.mpr m
      rw [List.count_filter (by simp [m])]
      omega
  have y := x.let_go (L.filter fun a => decide (a ∉ M2)) (P ++ M2) (fun a ha => hl a (List.mem_filter.mp ha).1) (fun a => by rw [List.count_append, List.count_append, cnt a]; omega) hb
  refine ⟨y, fun a => ?_, fun a => ?_⟩
  · have h1 := frz_w B' H' (L.filter fun a => decide (a ∉ M2)) a
    have h2 := z a
    have h3 := cnt a
    rw [List.count_append] at h2 ⊢
    omega
  · have h2 := z a
    have h3 := cnt a
    rw [List.count_append] at h2 ⊢
    omega
theorem rCL.mono {vs : List V} {ds : List D} {b : Bool} {F : List Addr} {B H B' H' : Hp} {Fs Fs' : List (List Addr)} (q : rCL K B H Fs vs (ds, b) F) (e : Ex B B') (t : Tk H H') (k : ∀ a ∈ F, H' a = H a) : rCL K B' H' Fs' vs (ds, b) F := by
  cases b with
  | true => exact OwnL.mono t q k
  | false => exact ⟨q.1.mono e t, q.2⟩
theorem ex_keep {H H' : Hp} {F : List Addr} (e : Ex H H') (l : ∀ a ∈ F, H a ≠ none) : ∀ a ∈ F, H' a = H a := fun a ha => by
  cases q : H a with
  | none => exact absurd q (l a ha)
  | some y => exact e _ _ q
theorem comp_step (hg : JG K g tg own) (ht : JT K W0 tt cond) (he : JC K W0 te elt) (b1 : Ex B1 H1) (hD : H1 Dp = none) {k : Nat} {d : D} {ow : Ow} (hk : items[k]? = some (d, ow)) {v : V} {H : Hp} (P : CP m K tg cond elt own items B1 H1 σ Fs1 R Dp k H)
    (hv : ∀ B' H' L', ES B1 H1 Fs1.flatten B' H' L' → RS K B' H' v d ow []) :
    g v (wipe σ own) H fun σ2 H2 => wipe σ2 own = wipe σ own ∧ tt σ2 H2 fun b H3 =>
      if b = true then te σ2 H3 fun y H4 => ∃ acc, H4 Dp = some (.lst acc) ∧ acc.length < sizeLine ∧ CP m K tg cond elt own items B1 H1 σ Fs1 R Dp (k + 1) (upd H4 Dp (.lst (acc ++ [y]))) else CP m K tg cond elt own items B1 H1 σ Fs1 R Dp (k + 1) H3 := by
  obtain ⟨B', Fs', s', vs, acc, F, R1, hw1, hDl, oF, lF0, x1, z1, e⟩ := P
  have hd : items.drop k = (d, ow) :: items.drop (k + 1) := by
    obtain ⟨h1, h2⟩ := List.getElem?_eq_some_iff.mp hk
    rw [List.drop_eq_getElem_cons h1, h2]
  rw [hd] at e
  unfold goC at e
  have lF : ∀ x ∈ Dp :: F, H x ≠ none := fun x hx => by
    rcases List.mem_cons.mp hx with rfl | hx
    · rw [hDl]; exact fun z => nomatch z
    · exact lF0 x hx
  cases e1 : tg d ow s' with
  | none => rw [e1] at e; cases e
  | some s1 =>
    rw [e1] at e
    refine hg d ow s' s1 e1 B' H (wipe σ own) Fs' v [] R1 (hv _ _ _ x1) R1.val _ fun σ2 Fs2 R2 c2 u1 u2 => ?_
    have hwp : wipe σ2 own = wipe σ own := by
      rw [← wipe_wipe σ own]
      exact wipe_eq u1 u2
    refine ⟨hwp, ?_⟩
    have c2' : ∀ a, Fs2.flatten.count a ≤ Fs'.flatten.count a := fun a => by simpa using c2 a
    obtain ⟨M, x2, z2, z2'⟩ := x1.lose z1 R1.lv R1.ex c2'
    have R3 := R2.know z2'
    -- what holds behind a turn
    have back : ∀ {B3 H3 : Hp} {Fs3 : List (List Addr)} {s3 : SD} {acc3 : List D} {vs3 : List V} {F3 : List Addr}, Rel K B3 H3 σ2 s3 Fs3 → H3 Dp = some (.lst vs3) → rCL K B3 H3 Fs3 vs3 (acc3, m) F3 → (∀ a ∈ F3, H3 a ≠ none) → ES B1 H1 Fs1.flatten B3 H3 ((Dp :: F3) ++ Fs3.flatten) →
        (∀ a, w B3 a + ((Dp :: F3) ++ Fs3.flatten).count a ≤ 1) → goC m tg cond elt own (items.drop (k + 1)) acc3 (wipeD own s3) = some R → CP m K tg cond elt own items B1 H1 σ Fs1 R Dp (k + 1) H3 := by
      intro B3 H3 Fs3 s3 acc3 vs3 F3 r3 d3 o3 l3 x3 z3 e3
      obtain ⟨M3, y1, y2, y3⟩ := x3.lose z3 r3.lv r3.ex (wipeF_le own Fs3)
      have r4 := (r3.wipe own).know y3
      rw [hwp] at r4
      exact ⟨_, _, _, vs3, acc3, F3, r4, wipeD_idem own s3, d3, o3.mono (frz_ex r3.ex) (Tk.refl _) fun _ _ => rfl, l3, y1, y2, e3⟩
    cases ec : cond s1 with
    | none => simp only [ec] at e; cases e
    | some rc =>
      cases rc with
      | exc c s2 => simp only [ec] at e; cases e
      | ok b s2 =>
        refine J.pend ht ec R3 z2 lF (fun b' s2' er bv B4 H4 Fs4 G R4 x4 z4 l4 q4 => ?_) (fun c s2' er => nomatch er)
        cases er
        obtain ⟨rfl, rfl⟩ := q4
        have x4' := x2.trans x4
        have D4 : H4 Dp = some (.lst vs) := x4.exH _ _ hDl
        have l4' : ∀ a ∈ F, H4 a ≠ none := fun a ha => ex_ne x4.exH (lF0 a ha)
        have o4 : rCL K B4 H4 Fs4 vs (acc, m) F := (oF.mono (frz_ex R1.ex) (Tk.refl _) fun _ _ => rfl : rCL K (frz B' H M) H Fs2 vs (acc, m) F).mono x4.exB (Tk.of_ex x4.exH) (ex_keep x4.exH lF0)
        cases bv with
        | false =>
          show CP m K tg cond elt own items B1 H1 σ Fs1 R Dp (k + 1) H4
          exact back R4 D4 o4 l4' x4' z4 (by simpa only [ec] using e)
        | true =>
          show te σ2 H4 _
          cases ee : elt s2 with
          | none => simp only [ec, ee] at e; cases e
          | some re =>
            cases re with
            | exc c s3 => simp only [ec, ee] at e; cases e
            | ok q s3 =>
              obtain ⟨de, eo⟩ := q
              have e9 : (if (okE m de eo && decide (acc.length < 1000000)) = true then goC m tg cond elt own (items.drop (k + 1)) (acc ++ [de]) (wipeD own s3) else none) = some R := by simpa only [ec, ee] using e
              split at e9
              · rename_i hc
                have hc2 := Bool.and_eq_true_iff.mp hc
                have hf := hc2.1
                have hz := of_decide_eq_true hc2.2
                have lF4 : ∀ x ∈ Dp :: F, H4 x ≠ none := fun x hx => ex_ne x4.exH (lF x hx)
                refine J.pend he ee R4 z4 lF4 (fun q' s3' er ev B5 H5 Fs5 G5 R5 x5 z5 l5 q5 => ?_) (fun c s3' er => nomatch er)
                cases er
                have D5 : H5 Dp = some (.lst vs) := x5.exH _ _ D4
                have l5' : ∀ a ∈ F, H5 a ≠ none := fun a ha => ex_ne x5.exH (l4' a ha)
                have o5 : rCL K B5 H5 Fs5 vs (acc, m) F := o4.mono x5.exB (Tk.of_ex x5.exH) (ex_keep x5.exH l4')
                have len : vs.length = acc.length := (rCL_go (G := H5) o5 R5.ex fun _ _ => rfl).length
                refine ⟨vs, D5, by rw [len]; exact Nat.lt_of_lt_of_le hz (by decide), ?_⟩
                have x5' := x4'.trans x5
                have zD := z5 Dp
                have cD : (Dp :: F ++ (G5 ++ Fs5.flatten)).count Dp = 1 + (F ++ (G5 ++ Fs5.flatten)).count Dp := by
                  rw [List.cons_append, List.count_cons_self]; omega
                have hB5 : B5 Dp = none := w_zero (by omega)
                have nF : Dp ∉ F := fun mm => by have := mem_count mm; rw [cD, List.count_append] at zD; omega
                have nG : Dp ∉ G5 := fun mm => by have := mem_count mm; rw [cD, List.count_append, List.count_append] at zD; omega
                have nS : Dp ∉ Fs5.flatten := fun mm => by have := mem_count mm; rw [cD, List.count_append, List.count_append] at zD; omega
                have tk : Tk H5 (upd H5 Dp (.lst (vs ++ [ev]))) := ⟨fun q zs h => by rw [upd_ne (ne_of h D5 (fun z => nomatch z))]; exact h, fun q o u h => by rw [upd_ne (ne_of h D5 (fun z => nomatch z))]; exact h⟩
                have kF : ∀ a ∈ F, upd H5 Dp (.lst (vs ++ [ev])) a = H5 a := fun a ha => upd_ne fun q => nF (q ▸ ha)
                have lv2 : ∀ a, H5 a ≠ none → upd H5 Dp (.lst (vs ++ [ev])) a ≠ none := fun a ha => by
                  by_cases q : a = Dp
                  · subst q; rw [upd_same]; exact fun z => nomatch z
                  · rw [upd_ne q]; exact ha
                have R6 := R5.mut (ys := vs ++ [ev]) hB5 nS D5
                cases m with
                | true =>
                  have hf2 : eo = .full := of_decide_eq_true hf
                  subst hf2
                  have q5 : Own K H5 ev de G5 := q5
                  have oo : OwnL K (upd H5 Dp (.lst (vs ++ [ev]))) (vs ++ [ev]) (acc ++ [de]) (F ++ (G5 ++ [])) :=
                    OwnL.append (OwnL.mono tk o5 kF) (.cons (q5.mono tk fun a ha => upd_ne fun q => nG (q ▸ ha)) .nil)
                  have cc : ∀ a, (Dp :: F ++ (G5 ++ Fs5.flatten)).count a = (Dp :: (F ++ (G5 ++ [])) ++ Fs5.flatten).count a := fun a => by
                    rw [List.append_nil, List.cons_append, List.cons_append, List.append_assoc]
                  refine back R6 upd_same oo (fun a ha => ?_) ?_ (fun a => by rw [← cc a]; exact z5 a) e9
                  · rw [List.append_nil] at ha
                    exact lv2 a ((List.mem_append.mp ha).elim (l5' a) (l5 a))
                  · exact (x5'.mutNew b1 hD).cong (fun _ => rfl) cc
                | false =>
                  obtain ⟨o5, rfl⟩ := o5
                  have kn : Re K B5 H5 ev de ∧ G5 = [] ∨ imm de = true := by
                    rcases Bool.or_eq_true_iff.mp hf with h | h
                    · have := of_decide_eq_true h
                      subst this
                      exact .inl q5
                    · exact .inr h
                  -- what it owns is let go
                  have zz : ∀ a, w B5 a + (G5 ++ Fs5.flatten).count a ≤ 1 := fun a => by
                    have := z5 a
                    rw [List.count_append] at this
                    omega
                  have R7 := R5.know zz
                  have y7 := x5'.let_go G5 (Dp :: [] ++ Fs5.flatten) l5 (fun a => by
                    simp only [List.count_append]; omega) R5.ex
                  have hB7 : frz B5 H5 G5 Dp = none := by rw [frz_out nG]; exact hB5
                  have q7 : Re K (frz B5 H5 G5) H5 ev de := by
                    rcases kn with h | h
                    · exact h.1.mono (frz_ex R5.ex) (Tk.refl _)
                    · have q8 : RS K B5 H5 ev de eo G5 := q5
                      exact (q8.re R5.ex).any h
                  refine back (R7.mut (ys := vs ++ [ev]) hB7 nS D5) upd_same (F3 := []) ⟨ReL.mono (frz_ex R5.ex) tk o5 |>.append (.cons (q7.mono (Ex.refl _) tk) .nil), rfl⟩ (fun a ha => nomatch ha) (y7.mutNew b1 hD) (fun a => ?_) e9
                  have h1 := z5 a
                  have h2 := frz_w B5 H5 G5 a
                  rw [List.count_append, List.count_append] at h1
                  rw [List.count_append]
                  omega
              · cases e9
/-! the whole -/
def cComp (m : Bool) (tg : DT) (own : List Nat) (src : DE D) (cond : DE Bool) (elt : DE (D × Ow)) : DE (D × Ow) := fun s => match src s with
  | some (.ok d s1) => match itemsOf d with
    | some its => match goC m tg cond elt own (noIt its) [] (wipeD own (fzAll s1)) with
      | some (.ok es s2) => if m = true then some (.ok (.lst es, .full) s1) else some (.ok (.lst es, .top) s2)
      | _ => none
    | none => none
  | some (.exc x s1) => some (.exc x s1)
  | none => none
def cCompR (m : Bool) (tg : DT) (own : List Nat) (a : DE (List D)) (cond : DE Bool) (elt : DE (D × Ow)) : DE (D × Ow) := fun s => match a s with
  | some (.ok ds s1) =>
    let go := fun (its : List (D × Ow)) => match goC m tg cond elt own its [] (wipeD own (fzAll s1)) with
      | some (.ok es s2) => if m = true then some (.ok (.lst es, .full) s1) else some (.ok (.lst es, .top) s2)
      | _ => none
    match ds with
    | [.int j] => if -(2 ^ 62) ≤ j ∧ j < 2 ^ 62 then go (rngD 0 j.toNat) else none
    | [.int i, .int j] => if -(2 ^ 62) ≤ i ∧ i < 2 ^ 62 ∧ -(2 ^ 62) ≤ j ∧ j < 2 ^ 62 then go (rngD i (j - i).toNat) else none
    | _ => none
  | some (.exc x s1) => some (.exc x s1)
  | none => none
section
variable {W : WW} {s1 s2 : SD} {es : List D} {Fs : List (List Addr)} {B H : Hp}
/-- the start and the end of a comprehension -/
theorem comp_start (R0 : Rel K B1 H1 σ s1 Fs) (hD : H1 Dp = none) (e : goC m tg cond elt own items [] (wipeD own (fzAll s1)) = some R) :
    CP m K tg cond elt own items (frz B1 H1 Fs.flatten) H1 σ (Fs.map fun _ => []) R Dp 0 (upd H1 Dp (.lst [])) := by
  have R2 := R0.letAll.wipe own
  have hw : ∀ a, (wipeF own (Fs.map fun _ => ([] : List Addr))).flatten.count a = 0 := fun a => by
    have := wipeF_le own (Fs.map fun _ => ([] : List Addr)) a
    rw [flat_nil] at this
    simpa using this
  have ex : Ex H1 (upd H1 Dp (.lst [])) := Ex.new hD
  have nk : frz B1 H1 Fs.flatten Dp = none := by
    cases q : frz B1 H1 Fs.flatten Dp with
    | none => rfl
    | some o => have := frz_le R0.ex _ _ q; rw [hD] at this; cases this
  refine ⟨_, _, _, [], [], [], R2.ext ex, wipeD_idem own _, upd_same, ?_, (fun _ h => nomatch h), ?_, fun a => ?_, by rw [List.drop_zero]; exact e⟩
  · cases m with
    | true => exact OwnL.nil
    | false => exact ⟨.nil, rfl⟩
  · have h := ES.more (B := frz B1 H1 Fs.flatten) (L := []) (F := [Dp]) (frz_le R0.ex) ex (fun a ha => by rw [List.mem_singleton.mp ha]; exact hD)
    refine h.cong (fun a => by rw [flat_nil]) fun a => ?_
    rw [List.count_append, List.count_append, hw a]
    rfl
  · rw [List.count_append, hw a, List.count_cons]
    by_cases q : Dp = a
    · subst q; rw [w_none nk]; simp
    · have := w_le (B := frz B1 H1 Fs.flatten) (a := a)
      simp [q]; exact this
theorem comp_end (R0 : Rel K B1 H1 σ s1 Fs) (hD : H1 Dp = none) (e : goC m tg cond elt own items [] (wipeD own (fzAll s1)) = some (.ok es s2)) {H' : Hp}
    (P : CP m K tg cond elt own items (frz B1 H1 Fs.flatten) H1 σ (Fs.map fun _ => []) (.ok es s2) Dp items.length H') {Q : V → Hp → Prop} {B0 H0 : Hp} {L0 : List Addr} (y : ES B0 H0 L0 B1 H1 Fs.flatten)
    (p : Post (rC K) K W B0 H0 L0 σ Q (if m = true then .ok (.lst es, .full) s1 else .ok (.lst es, .top) s2)) : Q (.ref Dp) H' := by
  obtain ⟨B', Fs', s', vs, acc, F, R1, hw1, hDl, oF, lF, x1, z1, e1⟩ := P
  rw [List.drop_length] at e1
  cases e1
  rw [flat_nil] at x1
  have newF : ∀ a ∈ Dp :: F, H1 a = none := fun a ha => by
    by_cases h : H1 a = none
    · exact h
    · exfalso
      have h1 := x1.wt a h
      have h2 : 0 < ((Dp :: F) ++ Fs'.flatten).count a := mem_count (List.mem_append_left _ ha)
      have h3 := w_mono x1.exB a
      have h4 := z1 a
      simp only [List.count_nil] at h1
      omega
  cases m with
  | true =>
    rw [if_pos rfl] at p
    refine p _ B1 H' Fs (Dp :: F) (R0.ext x1.exH) (y.trans (ES.more R0.ex x1.exH newF)) (fun a => ?_) (fun a ha => ?_) (Own.lst hDl oF)
    · rw [List.count_append]
      by_cases ha : a ∈ Dp :: F
      · have hn := newF a ha
        have h1 : Fs.flatten.count a = 0 := List.count_eq_zero.mpr fun q => R0.lv a q hn
        have h2 : w B1 a = 0 := by
          cases q : B1 a with
          | none => exact w_none q
          | some u => rw [R0.ex _ _ q] at hn; cases hn
        have h3 := z1 a
        rw [List.count_append] at h3
        omega
      · have h1 : (Dp :: F).count a = 0 := List.count_eq_zero.mpr ha
        have h2 := R0.wf a
        omega
    · rcases List.mem_cons.mp ha with rfl | ha
      · rw [hDl]; exact fun z => nomatch z
      · exact lF a ha
  | false =>
    rw [if_neg Bool.false_ne_true] at p
    obtain ⟨oF, rfl⟩ := oF
    have hw2 := goC_wiped (wipeD_idem own _) e
    refine p _ B' H' Fs' [Dp] (R1.unwipe hw1) ((y.trans (ES.all R0.ex _)).trans x1) z1 (fun a ha => ?_) ⟨Dp, vs, es, rfl, rfl, hDl, oF, rfl⟩
    rw [List.mem_singleton.mp ha, hDl]; exact fun z => nomatch z
end
abbrev tCmp2 (wi : TI) (g : TG) (tt : TT) (te : TE) (own : List Nat) : TE := tLc wi g tt te own
section
variable {W : WW} {ts : TE} {src : DE D} {ta : TA} {da : DE (List D)}
theorem jcComp (hs : JB K W ts src) (hg : JG K g tg own) (ht : JT K W0 tt cond) (he : JC K W0 te elt) : JC K W (tLc (iSq K ts) g tt te own) (cComp m tg own src cond elt) := by
  intro s r e B H σ Fs R0 Q p
  unfold cComp at e
  cases e1 : src s with
  | none => rw [e1] at e; cases e
  | some r1 =>
    have hh := hs s r1 e1 B H σ Fs R0
    cases r1 with
    | exc x s1 =>
      simp only [e1] at e
      cases e
      exact .inl (hh _ fun B' H' Fs' x y => p B' H' Fs' x y)
    | ok d s1 =>
      simp only [e1] at e
      cases ei : itemsOf d with
      | none => simp only [ei] at e; cases e
      | some its =>
        simp only [ei] at e
        cases eg : goC m tg cond elt own (noIt its) [] (wipeD own (fzAll s1)) with
        | none => simp only [eg] at e; cases e
        | some rg =>
          obtain ⟨es, s2, rfl⟩ := goC_ok eg
          simp only [eg] at e
          have er : r = if m = true then .ok (.lst es, .full) s1 else .ok (.lst es, .top) s2 := by
            cases m <;> simpa using e.symm
          subst er
          cases d with
          | lst ds =>
            cases ei
            refine .inl (hh _ fun v B1 H1 Fs1 F R1 y z l q => ?_)
            obtain ⟨q, rfl⟩ := q
            cases q with
            | lst hp hr =>
              rename_i a vs
              have hp1 := frz_le R1.ex _ _ hp
              refine ⟨a, rfl, ⟨vs, sq_of hp1⟩, fun Dp hD => lc_list (xs := vs) (CP m K tg cond elt own (noIt its) (frz B1 H1 Fs1.flatten) H1 σ (Fs1.map fun _ => []) (.ok es s2) Dp) (comp_start R1 hD eg) (fun i H2 _ P => ?_) (fun i x H2 hx P => ?_) fun H2 P => ?_⟩
              · obtain ⟨B', Fs', s', vs', acc, F, _, _, _, _, _, x1, _, _⟩ := P
                exact sq_of (x1.exH _ _ hp1)
              · have hi := lt_of_get hx
                obtain ⟨it, hit⟩ : ∃ it, (noIt its)[i]? = some it := ⟨(noIt its)[i]'(by rw [List.length_map, ← hr.length]; exact hi), List.getElem?_eq_getElem _⟩
                obtain ⟨d, ow⟩ := it
                exact comp_step hg ht he (frz_le R1.ex) hD hit P fun B' H' L' x1 => noIt_ok hr x1.ss i x d ow hx hit
              · have hl : vs.length = (noIt its).length := by rw [hr.length, List.length_map]
                rw [hl] at P
                exact comp_end R1 hD eg P y p
          | sc ds =>
            cases ei
            refine .inl (hh _ fun v B1 H1 Fs1 F R1 y z l q => ?_)
            obtain ⟨q, rfl⟩ := q
            cases q with
            | sc hp hr =>
              rename_i a vs
              refine ⟨a, rfl, ⟨vs, hp.l⟩, fun Dp hD => lc_list (xs := vs) (CP m K tg cond elt own (noIt its) (frz B1 H1 Fs1.flatten) H1 σ (Fs1.map fun _ => []) (.ok es s2) Dp) (comp_start R1 hD eg) (fun i H2 _ P => ?_) (fun i x H2 hx P => ?_) fun H2 P => ?_⟩
              · obtain ⟨B', Fs', s', vs', acc, F, _, _, _, _, _, x1, _, _⟩ := P
                exact ((Tk.of_ex x1.exH).sf hp).l
              · have hi := lt_of_get hx
                obtain ⟨it, hit⟩ : ∃ it, (noIt its)[i]? = some it := ⟨(noIt its)[i]'(by rw [List.length_map, ← hr.length]; exact hi), List.getElem?_eq_getElem _⟩
                obtain ⟨d, ow⟩ := it
                exact comp_step hg ht he (frz_le R1.ex) hD hit P fun B' H' L' x1 => noIt_ok hr x1.ss i x d ow hx hit
              · have hl : vs.length = (noIt its).length := by rw [hr.length, List.length_map]
                rw [hl] at P
                exact comp_end R1 hD eg P y p
          | tup ds =>
            cases ei
            refine .inr (hh _ fun v B1 H1 Fs1 F R1 y z l q => ?_)
            obtain ⟨q, rfl⟩ := q
            cases q with
            | tup hp hr =>
              rename_i a vs
              refine ⟨a, rfl, ⟨vs, SqT.of hp⟩, fun Dp hD => lc_tup (xs := vs) (CP m K tg cond elt own (noIt its) (frz B1 H1 Fs1.flatten) H1 σ (Fs1.map fun _ => []) (.ok es s2) Dp) (comp_start R1 hD eg) (fun i H2 _ P => ?_) (fun i x H2 hx P => ?_) fun H2 P => ?_⟩
              · obtain ⟨B', Fs', s', vs', acc, F, _, _, _, _, _, x1, _, _⟩ := P
                exact (Tk.of_ex x1.exH).sq (SqT.of hp)
              · have hi := lt_of_get hx
                obtain ⟨it, hit⟩ : ∃ it, (noIt its)[i]? = some it := ⟨(noIt its)[i]'(by rw [List.length_map, ← hr.length]; exact hi), List.getElem?_eq_getElem _⟩
                obtain ⟨d, ow⟩ := it
                exact comp_step hg ht he (frz_le R1.ex) hD hit P fun B' H' L' x1 => noIt_ok hr x1.ss i x d ow hx hit
              · have hl : vs.length = (noIt its).length := by rw [hr.length, List.length_map]
                rw [hl] at P
                exact comp_end R1 hD eg P y p
          | _ => cases ei
end
end
end Dv

namespace Dv
open PySem L2 Evl

section
variable {K : PySem.W.Frag} {B H : Hp} {G : Hp}
/-! ### as the library's data -/
mutual
def D.py : D → Option PyData
  | .non => some .none
  | .bl b => some (.bool b)
  | .int i => some (.int i)
  | .str x => some (.str x)
  | .tup xs => (D.pyL xs).map .tuple
  | .lst xs => (D.pyL xs).map .list
  | .sc xs => (D.pyL xs).map .list
  | .dK _ => none
  | .dT _ => none
  | .dN _ => none
  | .ins _ _ => none
def D.pyL : List D → Option (List PyData)
  | [] => some []
  | x :: xs => match D.py x, D.pyL xs with
    | some a, some b => some (a :: b)
    | _, _ => none
end
mutual
theorem Re.dp {v : V} {d : D} {p : PyData} : Re K G H v d → Ex G H → d.py = some p → L2.Dp K H v p
  | .non, _, e => by cases e; exact .non
  | .bl b, _, e => by cases e; exact .bl b
  | .int i, _, e => by cases e; exact .int i
  | .str x, _, e => by cases e; exact .str x
  | .tup h r, g, e => by
    obtain ⟨q, h1, h2⟩ := Option.map_eq_some_iff.mp (show (D.pyL _).map PyData.tuple = some p from e)
    subst h2
    exact .tup (SqT.of h) (ReL.dp r g h1)
  | .lst h r, g, e => by
    obtain ⟨q, h1, h2⟩ := Option.map_eq_some_iff.mp (show (D.pyL _).map PyData.list = some p from e)
    subst h2
    exact .lst (sq_of (g _ _ h)) (ReL.dp r g h1)
  | .sc h r, g, e => by
    obtain ⟨q, h1, h2⟩ := Option.map_eq_some_iff.mp (show (D.pyL _).map PyData.list = some p from e)
    subst h2
    exact .lst h.l (ReL.dp r g h1)
theorem ReL.dp {vs : List V} {ds : List D} {ps : List PyData} : ReL K G H vs ds → Ex G H → D.pyL ds = some ps → L2.DpAll K H vs ps
  | .nil, _, e => by cases e; exact .nil
  | .cons (d := d) (ds := ds) a b, g, e => by
    have e : (match D.py d, D.pyL ds with
      | some a, some b => some (a :: b)
      | _, _ => none) = some ps := e
    cases h1 : D.py d with
    | none => rw [h1] at e; cases e
    | some x =>
      cases h2 : D.pyL ds with
      | none => rw [h1, h2] at e; cases e
      | some xs =>
        rw [h1, h2] at e
        cases e
        exact .cons (Re.dp a g h1) (ReL.dp b g h2)
end

/-! ### operations that give a thing without lists -/
def fEqB (x y : D) : Option Bool := match x.py, y.py with
  | some a, some b => if (SeqAt.shaped a && SeqAt.shaped b) = true then some (PyData.eqv a b) else none
  | _, _ => none
def fEq (x y : D) : Option D := (fEqB x y).map .bl
def fNe (x y : D) : Option D := (fEqB x y).map fun b => .bl (!b)
theorem fEqB_some {x y : D} {b : Bool} (e : fEqB x y = some b) : ∃ a c, x.py = some a ∧ y.py = some c ∧ SeqAt.shaped a = true ∧ SeqAt.shaped c = true ∧ b = PyData.eqv a c := by
  unfold fEqB at e
  split at e
  · rename_i a c h1 h2
    split at e
    · rename_i h3
      have h4 := Bool.and_eq_true_iff.mp h3
      exact ⟨a, c, h1, h2, h4.1, h4.2, (Option.some.inj e).symm⟩
    · cases e
  · cases e
theorem rvEq : RV K (rEqD K) fEq := by
  intro G H x y dx dy d g rx ry e Q q
  obtain ⟨b, e1, rfl⟩ := Option.map_eq_some_iff.mp e
  obtain ⟨a, c, h1, h2, h3, h4, rfl⟩ := fEqB_some e1
  exact ⟨a, c, rx.dp g h1, ry.dp g h2, h3, h4, q _ (.bl _)⟩
theorem rvNe : RV K (rNeD K) fNe := by
  intro G H x y dx dy d g rx ry e Q q
  obtain ⟨b, e1, rfl⟩ := Option.map_eq_some_iff.mp e
  obtain ⟨a, c, h1, h2, h3, h4, rfl⟩ := fEqB_some e1
  exact ⟨a, c, rx.dp g h1, ry.dp g h2, h3, h4, q _ (.bl _)⟩
/-- of two whole numbers -/
def fI (C : Int → Int → Bool) (g : Int → Int → D) : D → D → Option D
  | .int i, .int j => if C i j = true then some (g i j) else none
  | _, _ => none
def rOr (r u : R2) : R2 := fun x y H Q => r x y H Q ∨ u x y H Q
theorem or_ok {X : Cx} {f : Value → Value → Sem Value} {r u : R2} (h : OpR X f r) (h' : OpR X f u) : OpR X f (rOr r u) := h.or h'
theorem rvI0 {g : Int → Int → V} {g' : Int → Int → D} (h : ∀ G H i j, Re K G H (g i j) (g' i j)) : RV K (rI0 g) (fI (fun _ _ => true) g') := by
  intro G H x y dx dy d _ rx ry e Q q
  unfold fI at e
  split at e
  · cases rx
    cases ry
    rename_i i j
    have e : some (g' i j) = some d := e
    cases e
    exact ⟨i, j, rfl, rfl, q _ (h _ _ _ _)⟩
  · cases e
theorem rvI {C : Int → Int → Prop} {c : Int → Int → Bool} {g : Int → Int → V} {g' : Int → Int → D} (hc : ∀ i j, c i j = true → C i j) (h : ∀ G H i j, Re K G H (g i j) (g' i j)) : RV K (rI C g) (fI c g') := by
  intro G H x y dx dy d _ rx ry e Q q
  unfold fI at e
  split at e
  · cases rx
    cases ry
    rename_i i j
    split at e
    · rename_i hh
      cases e
      exact ⟨i, j, rfl, rfl, hc _ _ hh, q _ (h _ _ _ _)⟩
    · cases e
  · cases e
abbrev rLt : R2 := rI0 fun i j => .bl (decide (i < j))
abbrev rLe : R2 := rI0 fun i j => .bl (decide (i ≤ j))
abbrev rGt' : R2 := rI0 fun i j => .bl (decide (j < i))
abbrev rGe' : R2 := rI0 fun i j => .bl (decide (j ≤ i))
def fLt := fI (fun _ _ => true) fun i j => .bl (decide (i < j))
def fLe := fI (fun _ _ => true) fun i j => .bl (decide (i ≤ j))
def fGt := fI (fun _ _ => true) fun i j => .bl (decide (j < i))
def fGe := fI (fun _ _ => true) fun i j => .bl (decide (j ≤ i))
theorem rvLt : RV K rLt fLt := rvI0 fun _ _ _ _ => .bl _
theorem rvLe : RV K rLe fLe := rvI0 fun _ _ _ _ => .bl _
theorem rvGt : RV K rGt' fGt := rvI0 fun _ _ _ _ => .bl _
theorem rvGe : RV K rGe' fGe := rvI0 fun _ _ _ _ => .bl _
abbrev rSub : R2 := rI0 fun i j => .int (i - j)
def fSub := fI (fun _ _ => true) fun i j => .int (i - j)
theorem rvSub : RV K rSub fSub := rvI0 fun _ _ _ _ => .int _
abbrev rMod : R2 := rI (fun _ j => 0 < j) fun i j => .int (i % j)
def fMod := fI (fun _ j => decide (0 < j)) fun i j => .int (i % j)
theorem rvMod : RV K rMod fMod := rvI (fun _ _ h => of_decide_eq_true h) fun _ _ _ _ => .int _
abbrev rDiv : R2 := rI CDivW fun i j => .int (i / j)
def fDiv := fI (fun _ j => decide (0 < j) && decide (j.natAbs.log2 < 9000)) fun i j => .int (i / j)
theorem rvDiv : RV K rDiv fDiv := rvI (fun _ _ h => by
  have := Bool.and_eq_true_iff.mp h
  exact ⟨of_decide_eq_true this.1, of_decide_eq_true this.2⟩) fun _ _ _ _ => .int _
abbrev rPow : R2 := rI CPow fun i j => .int (i ^ j.toNat)
def fPow := fI (fun i j => decide (0 ≤ j ∧ j ≤ 1000 ∧ i.natAbs < 2 ^ 64)) fun i j => .int (i ^ j.toNat)
theorem rvPow : RV K rPow fPow := rvI (fun _ _ h => by
  have := of_decide_eq_true h
  exact ⟨this.1, by omega, this.2.2⟩) fun _ _ _ _ => .int _
/-- a product: one factor below 2^64, or both of few bits -/
def mulOk (i j : Int) : Bool := decide (i.natAbs < 2 ^ 64) || (decide (j.natAbs < 2 ^ 64) || decide (i.natAbs.log2 + j.natAbs.log2 < 1000000))
abbrev rMul : R2 := rOr (rI CMul fun i j => .int (i * j)) (rI CMulW fun i j => .int (i * j))
def fMul := fI mulOk fun i j => .int (i * j)
theorem rvMul : RV K rMul fMul := by
  intro G H x y dx dy d _ rx ry e Q q
  unfold fMul fI at e
  split at e
  · cases rx
    cases ry
    rename_i i j
    split at e
    · rename_i hh
      cases e
      rcases Bool.or_eq_true_iff.mp hh with h | h
      · have := of_decide_eq_true h
        exact .inl ⟨i, j, rfl, rfl, .inl ⟨by omega, by omega⟩, q _ (.int _)⟩
      · rcases Bool.or_eq_true_iff.mp h with h | h
        · have := of_decide_eq_true h
          exact .inl ⟨i, j, rfl, rfl, .inr ⟨by omega, by omega⟩, q _ (.int _)⟩
        · exact .inr ⟨i, j, rfl, rfl, of_decide_eq_true (p := i.natAbs.log2 + j.natAbs.log2 < 1000000) h, q _ (.int _)⟩
    · cases e
  · cases e
abbrev rNeg : V → Hp → VK → Prop := rU fun i => .int (-i)
def fNeg : D → Option D
  | .int i => some (.int (-i))
  | _ => none
theorem ruNeg : RU1 K rNeg fNeg := by
  intro G H x dx d _ rx e Q q
  cases rx <;> first
    | (cases e; exact ⟨_, rfl, q _ (.int _)⟩)
    | cases e
/-- is None -/
def isN : D → Bool
  | .non => true
  | _ => false
theorem isN_v {v : V} {d : D} (h : Re K G H v d) : decide (v = .non) = isN d := by
  cases h <;> simp [isN]
abbrev rIsNn : R2 := fun x y H Q => y = .non ∧ Q (.bl (decide (x = .non))) H
abbrev rNotNn : R2 := fun x y H Q => y = .non ∧ Q (.bl (!decide (x = .non))) H
def fIsN (x y : D) : Option D := match y with
  | .non => some (.bl (isN x))
  | _ => none
def fNotN (x y : D) : Option D := match y with
  | .non => some (.bl (!isN x))
  | _ => none
theorem rvIsN : RV K rIsNn fIsN := by
  intro G H x y dx dy d _ rx ry e Q q
  unfold fIsN at e
  split at e
  · cases ry
    cases e
    exact ⟨rfl, by rw [isN_v rx]; exact q _ (.bl _)⟩
  · cases e
theorem rvNotN : RV K rNotNn fNotN := by
  intro G H x y dx dy d _ rx ry e Q q
  unfold fNotN at e
  split at e
  · cases ry
    cases e
    exact ⟨rfl, by rw [isN_v rx]; exact q _ (.bl _)⟩
  · cases e
/-- is True, is False -/
abbrev rIsBl : R2 := fun x y H Q => ∃ a b, x = .bl a ∧ y = .bl b ∧ Q (.bl (decide (a = b))) H
abbrev rNotBl : R2 := fun x y H Q => ∃ a b, x = .bl a ∧ y = .bl b ∧ Q (.bl (!decide (a = b))) H
def fIsBl : D → D → Option D
  | .bl a, .bl b => some (.bl (decide (a = b)))
  | _, _ => none
def fNotBl : D → D → Option D
  | .bl a, .bl b => some (.bl (!decide (a = b)))
  | _, _ => none
theorem rvIsBl : RV K rIsBl fIsBl := by
  intro G H x y dx dy d _ rx ry e Q q
  unfold fIsBl at e
  split at e
  · cases rx
    cases ry
    cases e
    exact ⟨_, _, rfl, rfl, q _ (.bl _)⟩
  · cases e
theorem rvNotBl : RV K rNotBl fNotBl := by
  intro G H x y dx dy d _ rx ry e Q q
  unfold fNotBl at e
  split at e
  · cases rx
    cases ry
    cases e
    exact ⟨_, _, rfl, rfl, q _ (.bl _)⟩
  · cases e
/-- an item by its place -/
def fIx (x y : D) : Option D := match y with
  | .int i => match x with
    | .lst ds => atI ds i
    | .sc ds => atI ds i
    | .tup ds => atI ds i
    | .str z => if z.length ≤ 1000000 then (atI z.cps.toList i).map fun c => .str ⟨#[c]⟩ else none
    | _ => none
  | _ => none
theorem atI_re {vs : List V} {ds : List D} {i : Int} {d : D} (r : ReL K G H vs ds) (e : atI ds i = some d) : ∃ v, atI vs i = some v ∧ Re K G H v d := by
  unfold atI at e ⊢
  rw [r.length]
  cases h : ixN ds.length i with
  | none => rw [h] at e; cases e
  | some j =>
    rw [h] at e
    exact r.get e
theorem rvIx : RV K (rIx K) fIx := by
  intro G H x y dx dy d g rx ry e Q q
  unfold fIx at e
  split at e
  · cases ry
    rename_i i
    cases rx with
    | lst hp hr =>
      obtain ⟨v, h1, h2⟩ := atI_re hr e
      exact .inl ⟨_, _, i, v, rfl, rfl, sq_of (g _ _ hp), h1, q v h2⟩
    | sc hp hr =>
      obtain ⟨v, h1, h2⟩ := atI_re hr e
      exact .inl ⟨_, _, i, v, rfl, rfl, hp.l, h1, q v h2⟩
    | tup hp hr =>
      obtain ⟨v, h1, h2⟩ := atI_re hr e
      exact .inr (.inl ⟨_, _, i, v, rfl, rfl, SqT.of hp, h1, q v h2⟩)
    | str z =>
      have e : (if z.length ≤ 1000000 then (atI z.cps.toList i).map fun c => D.str ⟨#[c]⟩ else none) = some d := e
      split at e
      · rename_i hz
        obtain ⟨c, h1, rfl⟩ := Option.map_eq_some_iff.mp e
        exact .inr (.inr ⟨z, i, c, rfl, rfl, sz6 hz, h1, q _ (.str _)⟩)
      · cases e
    | _ => cases e
  · cases e
/-- a plain value among plain values -/
def flatD : D → Option V
  | .non => some .non
  | .bl b => some (.bl b)
  | .int i => some (.int i)
  | .str x => some (.str x)
  | _ => none
theorem flatD_v {v u : V} {d : D} (r : Re K G H v d) (e : flatD d = some u) : v = u ∧ flatV v = true := by
  cases r <;> first
    | (cases e; exact ⟨rfl, rfl⟩)
    | cases e
def flatL : List D → Option (List V)
  | [] => some []
  | d :: ds => match flatD d, flatL ds with
    | some v, some vs => some (v :: vs)
    | _, _ => none
theorem flatL_v : ∀ {vs us : List V} {ds : List D}, ReL K G H vs ds → flatL ds = some us → vs = us ∧ vs.all flatV = true
  | _, us, [], .nil, e => by cases e; exact ⟨rfl, rfl⟩
  | v :: vs, us, d :: ds, .cons a b, e => by
    have e : (match flatD d, flatL ds with
      | some v, some vs => some (v :: vs)
      | _, _ => none) = some us := e
    cases h1 : flatD d with
    | none => rw [h1] at e; cases e
    | some x =>
      cases h2 : flatL ds with
      | none => rw [h1, h2] at e; cases e
      | some xs =>
        rw [h1, h2] at e
        cases e
        obtain ⟨rfl, f1⟩ := flatD_v a h1
        obtain ⟨rfl, f2⟩ := flatL_v b h2
        exact ⟨rfl, by rw [List.all_cons, f1, f2]; rfl⟩
def fInB (x y : D) : Option Bool := match itemsL y with
  | some ds => match flatD x, flatL ds with
    | some v, some vs => some (inV v vs)
    | _, _ => none
  | none => none
where itemsL : D → Option (List D)
  | .lst ds => some ds
  | .tup ds => some ds
  | _ => none
def fIn (x y : D) : Option D := (fInB x y).map .bl
def fNotIn (x y : D) : Option D := (fInB x y).map fun b => .bl (!b)
theorem in_ok {x y : V} {dx dy : D} {b : Bool} (g : Ex G H) (rx : Re K G H x dx) (ry : Re K G H y dy) (e : fInB dx dy = some b) : ∃ p xs, y = .ref p ∧ (SqL K H p xs ∨ SqT K H p xs) ∧ flatV x = true ∧ xs.all flatV = true ∧ inV x xs = b := by
  unfold fInB at e
  split at e
  · rename_i ds hy
    split at e
    · rename_i v vs h1 h2
      cases e
      obtain ⟨rfl, f1⟩ := flatD_v rx h1
      cases ry with
      | lst hp hr =>
        cases hy
        obtain ⟨rfl, f2⟩ := flatL_v hr h2
        exact ⟨_, _, rfl, .inl (sq_of (g _ _ hp)), f1, f2, rfl⟩
      | tup hp hr =>
        cases hy
        obtain ⟨rfl, f2⟩ := flatL_v hr h2
        exact ⟨_, _, rfl, .inr (SqT.of hp), f1, f2, rfl⟩
      | _ => cases hy
    · cases e
  · cases e
theorem rvIn : RV K (rIn K false) fIn := by
  intro G H x y dx dy d g rx ry e Q q
  obtain ⟨b, e1, rfl⟩ := Option.map_eq_some_iff.mp e
  obtain ⟨p, xs, h1, h2, h3, h4, rfl⟩ := in_ok g rx ry e1
  exact ⟨p, xs, h1, h2, h3, h4, by simpa using q _ (.bl _)⟩
theorem rvNotIn : RV K (rIn K true) fNotIn := by
  intro G H x y dx dy d g rx ry e Q q
  obtain ⟨b, e1, rfl⟩ := Option.map_eq_some_iff.mp e
  obtain ⟨p, xs, h1, h2, h3, h4, rfl⟩ := in_ok g rx ry e1
  exact ⟨p, xs, h1, h2, h3, h4, by simpa using q _ (.bl _)⟩

/-! ### built-in functions -/
abbrev rcOr (r u : List V → Hp → VK → Prop) : List V → Hp → VK → Prop := fun xs H Q => r xs H Q ∨ u xs H Q
abbrev rLenSq (K : PySem.W.Frag) : List V → Hp → VK → Prop := fun xs H Q => ∃ p ys, xs = [.ref p] ∧ (SqL K H p ys ∨ SqT K H p ys) ∧ Q (.int ys.length) H
abbrev rLenStr : List V → Hp → VK → Prop := fun xs H Q => ∃ z, xs = [.str z] ∧ z.length ≤ sizeLine ∧ Q (.int z.length) H
abbrev rLenU (K : PySem.W.Frag) := rcOr (rLenSq K) rLenStr
theorem call_lenU {X : Cx} : CallR X (.builtin "len") (rLenU X.K) := call_len_seq.or call_len_str
def fLen : List D → Option D
  | [.lst ds] => some (.int ds.length)
  | [.sc ds] => some (.int ds.length)
  | [.tup ds] => some (.int ds.length)
  | [.str z] => if z.length ≤ 1000000 then some (.int z.length) else none
  | _ => none
theorem reL1c {vs : List V} {d : D} (h : ReL K G H vs [d]) : ∃ v, vs = [v] ∧ Re K G H v d := by
  cases h with
  | cons a b =>
    cases b
    exact ⟨_, rfl, a⟩
theorem reL2c {vs : List V} {d e : D} (h : ReL K G H vs [d, e]) : ∃ v u, vs = [v, u] ∧ Re K G H v d ∧ Re K G H u e := by
  cases h with
  | cons a b =>
    obtain ⟨u, rfl, c⟩ := reL1c b
    exact ⟨_, u, rfl, a, c⟩
theorem rclLen : RCL K (rLenU K) fLen := by
  intro G H xs ds d g r e Q q
  unfold fLen at e
  split at e
  · obtain ⟨v, rfl, h⟩ := reL1c r
    cases h with
    | lst hp hr =>
      cases e
      exact .inl ⟨_, _, rfl, .inl (sq_of (g _ _ hp)), by rw [hr.length]; exact q _ (.int _)⟩
  · obtain ⟨v, rfl, h⟩ := reL1c r
    cases h with
    | sc hp hr =>
      cases e
      exact .inl ⟨_, _, rfl, .inl hp.l, by rw [hr.length]; exact q _ (.int _)⟩
  · obtain ⟨v, rfl, h⟩ := reL1c r
    cases h with
    | tup hp hr =>
      cases e
      exact .inl ⟨_, _, rfl, .inr (SqT.of hp), by rw [hr.length]; exact q _ (.int _)⟩
  · split at e
    · rename_i hz
      obtain ⟨v, rfl, h⟩ := reL1c r
      cases h
      cases e
      exact .inr ⟨_, rfl, sz6 hz, q _ (.int _)⟩
    · cases e
  · cases e
abbrev rMax2 : List V → Hp → VK → Prop := fun xs H Q => ∃ i j, xs = [.int i, .int j] ∧ Q (.int (if j > i then j else i)) H
abbrev rMin2 : List V → Hp → VK → Prop := fun xs H Q => ∃ i j, xs = [.int i, .int j] ∧ Q (.int (if j < i then j else i)) H
def fMax2 : List D → Option D
  | [.int i, .int j] => some (.int (if j > i then j else i))
  | _ => none
def fMin2 : List D → Option D
  | [.int i, .int j] => some (.int (if j < i then j else i))
  | _ => none
theorem rclMax2 : RCL K rMax2 fMax2 := by
  intro G H xs ds d g r e Q q
  unfold fMax2 at e
  split at e
  · cases e
    exact ⟨_, _, reL2 r, q _ (.int _)⟩
  · cases e
theorem rclMin2 : RCL K rMin2 fMin2 := by
  intro G H xs ds d g r e Q q
  unfold fMin2 at e
  split at e
  · cases e
    exact ⟨_, _, reL2 r, q _ (.int _)⟩
  · cases e
abbrev rAbs : List V → Hp → VK → Prop := fun xs H Q => ∃ i, xs = [.int i] ∧ Q (.int (if i < 0 then -i else i)) H
def fAbs : List D → Option D
  | [.int i] => some (.int (if i < 0 then -i else i))
  | _ => none
theorem rclAbs : RCL K rAbs fAbs := by
  intro G H xs ds d g r e Q q
  unfold fAbs at e
  split at e
  · cases e
    exact ⟨_, reL1 r, q _ (.int _)⟩
  · cases e
abbrev rInt1 : List V → Hp → VK → Prop := fun xs H Q => (∃ i, xs = [.int i] ∧ Q (.int i) H) ∨ ∃ k, xs = [.bl k] ∧ Q (.int (if k then 1 else 0)) H
def fInt1 : List D → Option D
  | [.int i] => some (.int i)
  | [.bl k] => some (.int (if k then 1 else 0))
  | _ => none
theorem rclInt1 : RCL K rInt1 fInt1 := by
  intro G H xs ds d g r e Q q
  unfold fInt1 at e
  split at e
  · cases e
    exact .inl ⟨_, reL1 r, q _ (.int _)⟩
  · cases e
    obtain ⟨v, rfl, h⟩ := reL1c r
    cases h
    exact .inr ⟨_, rfl, q _ (.int _)⟩
  · cases e
/-- str(a whole number) -/
abbrev rStrI : List V → Hp → VK → Prop := fun xs H Q => ∃ i, xs = [.int i] ∧ i.natAbs.log2 < 1920 ∧ Q (.str (toString i)) H
def fStrI : List D → Option D
  | [.int i] => if i.natAbs.log2 < 1920 then some (.str (Str.ofString (toString i))) else none
  | _ => none
theorem rclStrI : RCL K rStrI fStrI := by
  intro G H xs ds d g r e Q q
  unfold fStrI at e
  split at e
  · split at e
    · rename_i h
      cases e
      exact ⟨_, reL1 r, h, q _ (.str _)⟩
    · cases e
  · cases e
/-! ### isinstance -/
def tyN : D → Option String
  | .non => some "NoneType"
  | .bl _ => some "bool"
  | .int _ => some "int"
  | .str _ => some "str"
  | .lst _ => some "list"
  | .sc _ => some "list"
  | .tup _ => some "tuple"
  | .dK _ => some "dict"
  | .dT _ => some "dict"
  | _ => none
theorem ty_ok {v : V} {d : D} {n : String} (g : Ex G H) (r : Re K G H v d) (e : tyN d = some n) : TyX K H v (.type n) := by
  cases r with
  | non => cases e; exact .base .non
  | bl b => cases e; exact .base (.bl _)
  | int i => cases e; exact .base (.int _)
  | str x => cases e; exact .base (.str _)
  | lst hp hr => cases e; exact .base (.lst (g _ _ hp))
  | dk hp _ _ => cases e; exact .base (.dK (g _ _ hp))
  | dt hp _ _ => cases e; exact .base (.dT (g _ _ hp))
  | dn hp _ _ _ => cases e
  | sc hp hr =>
    cases e
    rcases hp with ⟨o, h⟩ | ⟨o, its, m, h1, h2, _⟩
    · exact .base (.frz h)
    · exact .kList h1 h2
  | tup hp hr =>
    cases e
    exact .base (.tup hp)
def isTy (n t : String) : Option Bool := kitB n t
def dIsi (t : String) (a : DE D) : DE D := bnd a fun x s => match tyN x with
  | some n => (kitB n t).map fun b => .ok (.bl b) s
  | none => none
theorem jIsi {W : WW} {ta : TE} {da : DE D} {t : String} (ha : JB K W ta da) : JB K W (tCB (rIsi K) (tCons ta (tCons (tC (.ty t)) tNil))) (dIsi t da) := by
  refine J.one (k := fun x σ H Q => rIsi K [x, .ty t] H Q) ha zB fun x s r0 e vx B H σ Fs R0 q1 Q p => ?_
  cases en : tyN x with
  | none => rw [en] at e; cases e
  | some n =>
    rw [en] at e
    obtain ⟨b, h1, rfl⟩ := Option.map_eq_some_iff.mp (show (kitB n t).map (fun b => Er.ok (D.bl b) s) = some r0 from e)
    exact ⟨vx, .ty t, .type n, .type t, b, rfl, .ty _, ty_ok (frz_le R0.ex) q1.1 en, kit_ty h1, Post.here R0 ⟨.bl _, rfl⟩ p⟩
/-! ### truth of a value, chains -/
def truD : D → Option Bool
  | .non => some false
  | .bl b => some b
  | .int i => some (i != 0)
  | .lst ds => some (!ds.isEmpty)
  | .tup ds => some (!ds.isEmpty)
  | _ => none
abbrev tTruth (K : PySem.W.Frag) (ta : TE) : TT := fun σ H Q => ta σ H fun x H' => ∃ k, TruV K x H' k ∧ Q k H'
def dTruth (a : DE D) : DE Bool := bnd a fun x s => (truD x).map fun b => .ok b s
theorem jTruth {W : WW} {ta : TE} {da : DE D} (ha : JB K W ta da) : JT K W (tTruth K ta) (dTruth da) := by
  refine J.one (k := fun x σ H Q => ∃ k, TruV K x H k ∧ Q k H) ha zB fun x s r0 e vx B H σ Fs R0 q1 Q p => ?_
  obtain ⟨b, h1, rfl⟩ := Option.map_eq_some_iff.mp (show (truD x).map (fun b => Er.ok b s) = some r0 from e)
  refine ⟨b, ?_, Post.here R0 ⟨rfl, rfl⟩ p⟩
  cases q1.1 with
  | non => cases h1; exact rfl
  | bl b => cases h1; exact rfl
  | int i => cases h1; exact rfl
  | lst hp hr =>
    cases h1
    refine .inl ⟨_, sq_of (frz_le R0.ex _ _ hp), ?_⟩
    cases hr <;> rfl
  | tup hp hr =>
    cases h1
    refine .inr (.inl ⟨_, SqT.of hp, ?_⟩)
    cases hr <;> rfl
  | _ => cases h1
/-- a < b < c -/
def dChain (f g : D → D → Option D) (a b c : DE D) : DE D := bnd a fun x => bnd b fun y s => match f x y with
  | some (.bl true) => bnd c (fun z s => (g y z).map fun d => .ok d s) s
  | some (.bl false) => some (.ok (.bl false) s)
  | _ => none
theorem jChain {W : WW} {ta tb tc : TE} {da db dc : DE D} {r r' : R2} {f g : D → D → Option D} (hr : RV K r f) (hr' : RV K r' g) (ha : JB K W ta da) (hb : JB K W tb db) (hc : JB K W tc dc) : JB K W (tChain r r' ta tb tc) (dChain f g da db dc) := by
  refine J.two (k := fun x y σ H2 Q => r x y H2 fun z H3 => ∃ k, z = .bl k ∧ (if k = true then tc σ H3 fun w' H4 => r' y w' H4 Q else Q (.bl false) H3)) ha hb fun x y s r0 e vx vy B H σ Fs R0 q1 q2 Q p => ?_
  cases ef : f x y with
  | none => rw [ef] at e; cases e
  | some d =>
    rw [ef] at e
    refine hr _ H vx vy x y d (frz_le R0.ex) q1 q2 ef _ fun v h => ?_
    cases h with
    | bl b =>
      refine ⟨b, rfl, ?_⟩
      cases b with
      | false =>
        cases e
        exact Post.here R0 ⟨.bl _, rfl⟩ p
      | true =>
        have e : bnd dc (fun z s => (g y z).map fun d => .ok d s) s = some r0 := e
        unfold bnd at e
        show tc σ H _
        cases e3 : dc s with
        | none => rw [e3] at e; cases e
        | some r2 =>
          rw [e3] at e
          refine hc s r2 e3 B H σ Fs R0 _ ?_
          cases r2 with
          | exc c s2 =>
            cases e
            exact p
          | ok b s2 =>
            intro u B2 H2 Fs2 F2 R2 y2 z2 l2 q3
            obtain ⟨q3, rfl⟩ := q3
            obtain ⟨d, h1, rfl⟩ := Option.map_eq_some_iff.mp (show (g y b).map (fun d => Er.ok d s2) = some r0 from e)
            exact hr' _ H2 vy u y b d (frz_le R2.ex) (q2.mono y2.vw (Tk.of_ex y2.exH)) q3 h1 Q fun v h => Post.here R2 ⟨h, rfl⟩ (p.step y2)
    | _ => cases e
end
end Dv

namespace Dv
open PySem L2 Evl

section
variable {K : PySem.W.Frag} {W : WW} {B H H' : Hp} {σ : L2.St} {s : SD} {Fs : List (List Addr)} {p : Addr}
/-- a new list of things read -/
def mkL (ds : List D) (s : SD) : Er (D × Ow) := if immL ds = true then .ok (.lst ds, .full) s else .ok (.lst ds, .top) (fzAll s)
theorem newL {vs : List V} {ds : List D} (R0 : Rel K B H σ s Fs) (q : ReL K (frz B H Fs.flatten) H vs ds) (hp : H p = none) {Q : V → Hp → Prop} (P : Post (rC K) K W B H Fs.flatten σ Q (mkL ds s)) : Q (.ref p) (upd H p (.lst vs)) := by
  unfold mkL at P
  split at P
  · rename_i hi
    obtain ⟨a1, a2, a3, a4, a5⟩ := new_list (F := []) (b := true) R0 (fun x => R0.wf x) (fun _ z => nomatch z) (OwnL.imms q hi) hp
    exact P _ B _ Fs [p] a1 a2 a3 a4 a5
  · have R1 := R0.letAll
    have z : ∀ x, w (frz B H Fs.flatten) x + (([] : List Addr) ++ (Fs.map fun _ => ([] : List Addr)).flatten).count x ≤ 1 := fun x => by
      rw [flat_nil]
      exact w_le
    have q' : rCL K (frz B H Fs.flatten) H (Fs.map fun _ => []) vs (ds, false) [] := ⟨q, rfl⟩
    obtain ⟨a1, a2, a3, a4, a5⟩ := new_list (F := []) (b := false) R1 z (fun _ z => nomatch z) q' hp
    refine P _ _ _ _ [p] a1 ?_ a3 a4 a5
    rw [flat_nil] at a2 ⊢
    exact (ES.all R0.ex _).trans a2
def mkT (ds : List D) (s : SD) : Option (Er (D × Ow)) := if immL ds = true then some (.ok (.tup ds, .full) s) else none
theorem newT {vs : List V} {ds : List D} {r : Er (D × Ow)} (R0 : Rel K B H σ s Fs) (q : ReL K (frz B H Fs.flatten) H vs ds) (hp : H p = none) (e : mkT ds s = some r) {Q : V → Hp → Prop} (P : Post (rC K) K W B H Fs.flatten σ Q r) : Q (.ref p) (upd H p (.tup vs)) := by
  unfold mkT at e
  split at e
  · rename_i hi
    cases e
    have x : Ex H (upd H p (.tup vs)) := Ex.new hp
    refine P _ B _ Fs [] (R0.ext x) (ES.ext R0.ex x) R0.val (fun _ z => nomatch z) (Own.im (by simpa [imm] using hi) (Re.tup upd_same ?_))
    exact (q.any hi (G' := upd H p (.tup vs))).mono (Ex.refl _) (Tk.of_ex x)
  · cases e

/-! ### +, * -/
abbrev rAddStr : R2 := fun x y H Q => ∃ i j, x = .str i ∧ y = .str j ∧ i.length + j.length ≤ sizeLine ∧ Q (.str (i ++ j)) H
abbrev rAddU (K : PySem.W.Frag) : R2 := rOr (rI0 fun i j => .int (i + j)) (rOr rAddStr (rOr rCat (rCatA K)))
theorem op_addU {X : Cx} : OpR X (binaryOp .Add) (rAddU X.K) := or_ok op_add (or_ok op_add_str (or_ok op_cat op_catA))
def cAdd (a b : DE D) : DE (D × Ow) := bnd a fun x => bnd b fun y s => match x, y with
  | .int i, .int j => some (.ok (.int (i + j), .full) s)
  | .str i, .str j => if i.length + j.length ≤ 1000000 then some (.ok (.str (i ++ j), .full) s) else none
  | .lst xs, .lst ys => if xs.length + ys.length ≤ 1000000 then some (mkL (xs ++ ys) s) else none
  | .tup xs, .tup ys => if xs.length + ys.length ≤ 1000000 then match xs, ys with
    | [], ys => if immL ys = true then some (.ok (.tup ys, .full) s) else none
    | x :: xs, [] => if immL (x :: xs) = true then some (.ok (.tup (x :: xs), .full) s) else none
    | x :: xs, y :: ys => mkT (x :: xs ++ y :: ys) s
    else none
  | _, _ => none
theorem re_lst {G : Hp} {v : V} {ds : List D} (h : Re K G H v (.lst ds)) : ∃ p vs, v = .ref p ∧ G p = some (.lst vs) ∧ ReL K G H vs ds := by
  cases h with
  | lst a b => exact ⟨_, _, rfl, a, b⟩
theorem re_tup {G : Hp} {v : V} {ds : List D} (h : Re K G H v (.tup ds)) : ∃ p vs, v = .ref p ∧ H p = some (.tup vs) ∧ ReL K G H vs ds := by
  cases h with
  | tup a b => exact ⟨_, _, rfl, a, b⟩
theorem re_int {G : Hp} {v : V} {i : Int} (h : Re K G H v (.int i)) : v = .int i := by
  cases h
  rfl
theorem re_str {G : Hp} {v : V} {i : Str} (h : Re K G H v (.str i)) : v = .str i := by
  cases h
  rfl
variable {ta tb : TE} {da db : DE D}
theorem jcAdd (ha : JB K W ta da) (hb : JB K W tb db) : JC K W (tOp (rAddU K) ta tb) (cAdd da db) := by
  refine J.two (k := fun x y _ H Q => rAddU K x y H Q) ha hb fun x y s r0 e vx vy B H σ Fs R0 q1 q2 Q p => ?_
  split at e
  · cases e
    rw [re_int q1, re_int q2]
    exact .inl ⟨_, _, rfl, rfl, Post.here R0 (Own.im rfl (.int _)) p⟩
  · split at e
    · rename_i hz
      cases e
      rw [re_str q1, re_str q2]
      exact .inr (.inl ⟨_, _, rfl, rfl, sz6 hz, Post.here R0 (Own.im rfl (.str _)) p⟩)
    · cases e
  · split at e
    · rename_i xs ys hz
      cases e
      obtain ⟨a, vs, rfl, h1, h2⟩ := re_lst q1
      obtain ⟨b, us, rfl, h3, h4⟩ := re_lst q2
      refine .inr (.inr (.inl ⟨a, b, vs, us, rfl, rfl, frz_le R0.ex _ _ h1, frz_le R0.ex _ _ h3, by rw [h2.length, h4.length]; exact sz6 hz, fun c hc => ?_⟩))
      exact newL R0 (h2.append h4) hc p
    · cases e
  · rename_i xs ys
    obtain ⟨a, vs, rfl, h1, h2⟩ := re_tup q1
    obtain ⟨b, us, rfl, h3, h4⟩ := re_tup q2
    split at e
    · rename_i hz
      have hz2 : vs.length + us.length ≤ sizeLine := by rw [h2.length, h4.length]; exact sz6 hz
      split at e
      · split at e
        · rename_i hi
          cases e
          cases h2
          exact .inr (.inr (.inr ⟨a, b, [], us, rfl, rfl, SqT.of h1, SqT.of h3, hz2, fun _ => Post.here R0 (Own.im (by simpa [imm] using hi) (Re.tup h3 (h4.any hi))) p, fun z => absurd rfl z, fun z => absurd rfl z⟩))
        · cases e
      · split at e
        · rename_i hi
          cases e
          cases h4
          cases h2 with
          | cons c d => exact .inr (.inr (.inr ⟨a, b, _, [], rfl, rfl, SqT.of h1, SqT.of h3, hz2, (fun z => nomatch z), fun _ _ => Post.here R0 (Own.im (by simpa [imm] using hi) (Re.tup h1 ((ReL.cons c d).any hi))) p, fun _ z => absurd rfl z⟩))
        · cases e
      · have h5 := h2.append h4
        cases h2 with
        | cons c1 d1 =>
          cases h4 with
          | cons c2 d2 => exact .inr (.inr (.inr ⟨a, b, _, _, rfl, rfl, SqT.of h1, SqT.of h3, hz2, (fun z => nomatch z), (fun _ z => nomatch z), fun _ _ c hc => newT R0 h5 hc e p⟩))
    · cases e
  · cases e
abbrev rMulU (K : PySem.W.Frag) : R2 := rOr rMul rRep
theorem op_mulU {X : Cx} : OpR X (binaryOp .Mult) (rMulU X.K) := or_ok (or_ok op_mul op_mulW) op_rep
def cMul (a b : DE D) : DE (D × Ow) := bnd a fun x => bnd b fun y s => match x, y with
  | .int i, .int j => if mulOk i j = true then some (.ok (.int (i * j), .full) s) else none
  | .lst xs, .int k => if -(2 ^ 63) ≤ k ∧ k < 2 ^ 63 ∧ xs.length * k.toNat ≤ 1000000 then some (mkL (List.replicate k.toNat xs).flatten s) else none
  | _, _ => none
theorem reL_rep {G : Hp} {vs : List V} {ds : List D} (h : ReL K G H vs ds) : ∀ n : Nat, ReL K G H (List.replicate n vs).flatten (List.replicate n ds).flatten
  | 0 => .nil
  | n + 1 => by
    rw [List.replicate_succ, List.replicate_succ, List.flatten_cons, List.flatten_cons]
    exact h.append (reL_rep h n)
theorem jcMul (ha : JB K W ta da) (hb : JB K W tb db) : JC K W (tOp (rMulU K) ta tb) (cMul da db) := by
  refine J.two (k := fun x y _ H Q => rMulU K x y H Q) ha hb fun x y s r0 e vx vy B H σ Fs R0 q1 q2 Q p => ?_
  split at e
  · rename_i i j
    split at e
    · rename_i hm
      cases e
      refine .inl (rvMul _ H vx vy (.int i) (.int j) (.int (i * j)) (frz_le R0.ex) q1 q2 (by simp [fMul, fI, hm]) Q fun v h => ?_)
      exact Post.here R0 (Own.im rfl (h.any rfl)) p
    · cases e
  · split at e
    · rename_i xs k hz
      cases e
      obtain ⟨a, vs, rfl, h1, h2⟩ := re_lst q1
      rw [re_int q2]
      refine .inr ⟨a, k, vs, rfl, rfl, frz_le R0.ex _ _ h1, hz.1, hz.2.1, by rw [h2.length]; exact sz6 hz.2.2, fun c hc => ?_⟩
      exact newL R0 (reL_rep h2 _) hc p
    · cases e
  · cases e

/-! ### slices -/
abbrev DO := DE (Option Int)
abbrev rO : RelT (Option Int) (Option Int) := fun _ _ _ b c F => b = c ∧ F = []
abbrev JO (K : PySem.W.Frag) (W : WW) (to : TO) (d : DO) : Prop := J rO K W to d
def oNone : DO := fun s => some (.ok none s)
def oSome (a : DE D) : DO := bnd a fun x s => match x with
  | .int i => some (.ok (some i) s)
  | _ => none
theorem joNone : JO K W tNoPart oNone := by
  intro s r e B H σ Fs R0 Q p
  cases e
  exact Post.here R0 ⟨rfl, rfl⟩ p
theorem joSome (ha : JB K W ta da) : JO K W (tPart ta) (oSome da) := by
  refine J.one (k := fun x _ H Q => ∃ i, x = V.int i ∧ Q (some i) H) ha zB fun x s r0 e vx B H σ Fs R0 q1 Q p => ?_
  cases q1.1 with
  | int i =>
    cases e
    exact ⟨i, rfl, Post.here R0 ⟨rfl, rfl⟩ p⟩
  | _ => cases e
def cut {α : Type} (xs : List α) (lo hi : Option Int) : List α := (xs.drop (HT.sIx xs.length 0 lo)).take (HT.sIx xs.length xs.length hi - HT.sIx xs.length 0 lo)
theorem cut_v (xs : List V) (lo hi : Option Int) : cutV xs lo hi = cut xs lo hi := rfl
theorem cut_re {G : Hp} {vs : List V} {ds : List D} (h : ReL K G H vs ds) (lo hi : Option Int) : ReL K G H (cut vs lo hi) (cut ds lo hi) := by
  unfold cut
  rw [h.length]
  exact (h.drop _).take _
abbrev rSlU (K : PySem.W.Frag) : V → Option Int → Option Int → Hp → VK → Prop := fun x lo hi H Q => rSlL K x lo hi H Q ∨ rSlS x lo hi H Q
theorem sl_U {X : Cx} : SlR X (rSlU X.K) := sl_list.or sl_str
/-- three things read -/
theorem J.then {R R1 R2 α β γ : Type} {rel1 : RelT R1 α} {rel2 : RelT R2 β} {rel : RelT R γ} {te : TX R1} {tf : TX R2} {de : DE α} {df : DE β} (h : J rel1 K W te de) (h2 : J rel2 K W tf df) (z1 : ∀ B H L v a F, rel1 B H L v a F → F = [])
    (z2 : ∀ B H L v a F, rel2 B H L v a F → F = []) (keep : ∀ B H Fs v a B' H' Fs', rel1 B H Fs v a [] → ES B H Fs.flatten B' H' Fs'.flatten → rel1 B' H' Fs' v a [])
    {k : R1 → R2 → TX R} {dk : α → β → DE γ} (hk : ∀ x y s r, dk x y s = some r → ∀ vx vy B H σ Fs, Rel K B H σ s Fs → rel1 B H Fs vx x [] → rel2 B H Fs vy y [] → ∀ Q, Post rel K W B H Fs.flatten σ Q r → k vx vy σ H Q) :
    J rel K W (fun σ H Q => te σ H fun x H1 => tf σ H1 fun y H2 => k x y σ H2 Q) (bnd de fun x => bnd df fun y => dk x y) := by
  intro s r e B H σ Fs R0 Q p
  unfold bnd at e
  cases e1 : de s with
  | none => rw [e1] at e; cases e
  | some r1 =>
    rw [e1] at e
    refine h s r1 e1 B H σ Fs R0 _ ?_
    cases r1 with
    | exc c s1 =>
      have e2 : r = .exc c s1 := (Option.some.inj e).symm
      subst e2
      exact p
    | ok a s1 =>
      intro v B1 H1 Fs1 F R1 y1 w1 l1 q1
      obtain rfl := z1 _ _ _ _ _ _ q1
      have e : bnd df (fun y => dk a y) s1 = some r := e
      unfold bnd at e
      cases e3 : df s1 with
      | none => rw [e3] at e; cases e
      | some r2 =>
        rw [e3] at e
        refine h2 s1 r2 e3 B1 H1 σ Fs1 R1 _ ?_
        cases r2 with
        | exc c s2 =>
          have e2 : r = .exc c s2 := (Option.some.inj e).symm
          subst e2
          exact p.step y1
        | ok b s2 =>
          intro u B2 H2 Fs2 F2 R2 y2 w2 l2 q2
          obtain rfl := z2 _ _ _ _ _ _ q2
          exact hk a b s2 r e v u B2 H2 σ Fs2 R2 (keep _ _ _ _ _ _ _ _ q1 y2) q2 Q (p.step (y1.trans y2))
theorem kB (K : PySem.W.Frag) : ∀ B H Fs v a B' H' Fs', rB K B H Fs v a [] → ES B H Fs.flatten B' H' Fs'.flatten → rB K B' H' Fs' v a [] := fun _ _ _ _ _ _ _ _ q y => ⟨q.1.mono y.vw (Tk.of_ex y.exH), rfl⟩
theorem zO : ∀ B H L v a F, rO B H L v a F → F = [] := fun _ _ _ _ _ _ h => h.2
abbrev tPair (tl th : TO) : TX (Option Int × Option Int) := fun σ H Q => tl σ H fun l H1 => th σ H1 fun u H2 => Q (l, u) H2
def dPair (lo hi : DO) : DE (Option Int × Option Int) := bnd lo fun l => bnd hi fun h s => some (.ok (l, h) s)
abbrev rO2 : RelT (Option Int × Option Int) (Option Int × Option Int) := fun _ _ _ b c F => b = c ∧ F = []
theorem zO2 : ∀ B H L v a F, rO2 B H L v a F → F = [] := fun _ _ _ _ _ _ h => h.2
theorem joPair {tl th : TO} {dl dh : DO} (hl : JO K W tl dl) (hh : JO K W th dh) : J rO2 K W (tPair tl th) (dPair dl dh) := by
  refine J.then (k := fun l u _ H Q => Q (l, u) H) hl hh zO zO (fun _ _ _ _ _ _ _ _ q _ => ⟨q.1, rfl⟩) (dk := fun l h s => some (.ok (l, h) s)) fun x y s r e vx vy B H σ Fs R0 q1 q2 Q p => ?_
  cases e
  obtain ⟨rfl, -⟩ := q1
  obtain ⟨rfl, -⟩ := q2
  exact Post.here R0 ⟨rfl, rfl⟩ p
def cSlice (a : DE D) (lo hi : DO) : DE (D × Ow) := bnd a fun x => bnd (dPair lo hi) fun y s => match x with
  | .lst xs => some (mkL (cut xs y.1 y.2) s)
  | .sc xs => some (mkL (cut xs y.1 y.2) s)
  | .str z => if z.length ≤ 1000000 then some (.ok (.str (cutS z y.1 y.2), .full) s) else none
  | _ => none
theorem jcSlice {tl th : TO} {dl dh : DO} (ha : JB K W ta da) (hl : JO K W tl dl) (hh : JO K W th dh) : JC K W (tSl (rSlU K) ta tl th) (cSlice da dl dh) := by
  refine J.then (k := fun v y _ H Q => rSlU K v y.1 y.2 H Q) ha (joPair hl hh) zB zO2 (kB K) fun x y s r e vx vy B H σ Fs R0 q1 q2 Q p => ?_
  obtain ⟨rfl, -⟩ := q2
  obtain ⟨q1, -⟩ := q1
  split at e
  · cases e
    obtain ⟨a, vs, rfl, h1, h2⟩ := re_lst q1
    exact .inl ⟨a, vs, rfl, sq_of (frz_le R0.ex _ _ h1), fun c hc => newL R0 (cut_re h2 _ _) hc p⟩
  · cases e
    cases q1 with
    | sc h1 h2 => exact .inl ⟨_, _, rfl, h1.l, fun c hc => newL R0 (cut_re h2 _ _) hc p⟩
  · split at e
    · rename_i hz
      cases e
      rw [re_str q1]
      exact .inr ⟨_, rfl, sz6 hz, Post.here R0 (Own.im rfl (.str _)) p⟩
    · cases e
  · cases e

/-! ### list(..), tuple(..) -/
abbrev rListO (K : PySem.W.Frag) : List V → Hp → VK → Prop := fun xs H Q => ∃ p ys, xs = [.ref p] ∧ (SqL K H p ys ∨ SqT K H p ys) ∧ ∀ l, H l = none → Q (.ref l) (upd H l (.lst ys))
abbrev rTupO (K : PySem.W.Frag) : List V → Hp → VK → Prop := fun xs H Q => ∃ p ys, xs = [.ref p] ∧ ((SqL K H p ys ∧ ∀ l, H l = none → Q (.ref l) (upd H l (.tup ys))) ∨ (SqT K H p ys ∧ Q (.ref p) H))
def cListOf (a : DE (List D)) : DE (D × Ow) := bnd a fun xs s => match xs with
  | [.lst ds] => some (mkL ds s)
  | [.sc ds] => some (mkL ds s)
  | [.tup ds] => some (mkL ds s)
  | _ => none
def cTupOf (a : DE (List D)) : DE (D × Ow) := bnd a fun xs s => match xs with
  | [.lst ds] => mkT ds s
  | [.sc ds] => mkT ds s
  | [.tup ds] => if immL ds = true then some (.ok (.tup ds, .full) s) else none
  | _ => none
theorem jcListOf {tr : TA} {dr : DE (List D)} (h : JA K W tr dr) : JC K W (tCB (rListO K) tr) (cListOf dr) := by
  refine J.one (k := fun x _ H Q => rListO K x H Q) h zL fun x s r0 e vx B H σ Fs R0 q1 Q p => ?_
  obtain ⟨q1, -⟩ := q1
  split at e
  · cases e
    obtain ⟨v, rfl, q⟩ := reL1c q1
    obtain ⟨a, vs, rfl, h1, h2⟩ := re_lst q
    exact ⟨a, vs, rfl, .inl (sq_of (frz_le R0.ex _ _ h1)), fun c hc => newL R0 h2 hc p⟩
  · cases e
    obtain ⟨v, rfl, q⟩ := reL1c q1
    cases q with
    | sc h1 h2 => exact ⟨_, _, rfl, .inl h1.l, fun c hc => newL R0 h2 hc p⟩
  · cases e
    obtain ⟨v, rfl, q⟩ := reL1c q1
    obtain ⟨a, vs, rfl, h1, h2⟩ := re_tup q
    exact ⟨a, vs, rfl, .inr (SqT.of h1), fun c hc => newL R0 h2 hc p⟩
  · cases e
theorem jcTupOf {tr : TA} {dr : DE (List D)} (h : JA K W tr dr) : JC K W (tCB (rTupO K) tr) (cTupOf dr) := by
  refine J.one (k := fun x _ H Q => rTupO K x H Q) h zL fun x s r0 e vx B H σ Fs R0 q1 Q p => ?_
  obtain ⟨q1, -⟩ := q1
  split at e
  · obtain ⟨v, rfl, q⟩ := reL1c q1
    obtain ⟨a, vs, rfl, h1, h2⟩ := re_lst q
    exact ⟨a, vs, rfl, .inl ⟨sq_of (frz_le R0.ex _ _ h1), fun c hc => newT R0 h2 hc e p⟩⟩
  · obtain ⟨v, rfl, q⟩ := reL1c q1
    cases q with
    | sc h1 h2 => exact ⟨_, _, rfl, .inl ⟨h1.l, fun c hc => newT R0 h2 hc e p⟩⟩
  · split at e
    · rename_i hi
      cases e
      obtain ⟨v, rfl, q⟩ := reL1c q1
      obtain ⟨a, vs, rfl, h1, h2⟩ := re_tup q
      exact ⟨a, vs, rfl, .inr ⟨SqT.of h1, Post.here R0 (Own.im (by simpa [imm] using hi) (Re.tup h1 (h2.any hi))) p⟩⟩
    · cases e
  · cases e
/-! ### a comprehension over a range -/
variable {ta2 : TA} {da2 : DE (List D)} {g : TG} {tg : DT} {tt : TT} {cond : DE Bool} {te : TE} {elt : DE (D × Ow)} {own : List Nat} {m : Bool}
theorem compR {lo : Int} {n : Nat} {s1 s2 : SD} {es : List D} {B1 H1 : Hp} {Fs1 : List (List Addr)} (hg : JG K g tg own) (ht : JT K W0 tt cond) (he : JC K W0 te elt) (R1 : Rel K B1 H1 σ s1 Fs1)
    (eg : goC m tg cond elt own (rngD lo n) [] (wipeD own (fzAll s1)) = some (.ok es s2)) {Q : V → Hp → Prop} {B0 H0 : Hp} {L0 : List Addr} (y : ES B0 H0 L0 B1 H1 Fs1.flatten)
    (p : Post (rC K) K W B0 H0 L0 σ Q (if m = true then .ok (.lst es, .full) s1 else .ok (.lst es, .top) s2)) : ∀ Dp, H1 Dp = none → ∃ Wn : Nat → Nat → Hp → Prop, (∃ k, Wn 0 k (upd H1 Dp (.lst []))) ∧ ∀ i k H, Wn i k H →
      ((Itr lo n).stop i H ∧ Q (.ref Dp) H) ∨ ((Itr lo n).go i H ∧ ∃ Nx : Hp → Prop, (∀ H', Nx H' → ∃ k', k' < k ∧ Wn (i + 1) k' H') ∧ ∀ x H', (Itr lo n).yld i H x H' → g x (wipe σ own) H' fun σ2 H2 => wipe σ2 own = wipe σ own ∧ tt σ2 H2 fun b H3 =>
        if b = true then te σ2 H3 fun y H4 => ∃ acc, H4 Dp = some (.lst acc) ∧ acc.length < sizeLine ∧ Nx (upd H4 Dp (.lst (acc ++ [y]))) else Nx H3) := by
  intro Dp hD
  refine lc_range (CP m K tg cond elt own (rngD lo n) (frz B1 H1 Fs1.flatten) H1 σ (Fs1.map fun _ => []) (.ok es s2) Dp) (comp_start R1 hD eg) (fun i H2 hi P => ?_) fun H2 P => ?_
  · have hit : (rngD lo n)[i]? = some (D.int (lo + (i : Int)), Ow.full) := by
      unfold rngD
      rw [List.getElem?_map, List.getElem?_range hi]
      rfl
    exact comp_step hg ht he (frz_le R1.ex) hD hit P fun B' H' L' x1 => Own.im rfl (.int _)
  · have hl : n = (rngD lo n).length := by simp [rngD]
    have P2 : CP m K tg cond elt own (rngD lo n) (frz B1 H1 Fs1.flatten) H1 σ (Fs1.map fun _ => []) (.ok es s2) Dp (rngD lo n).length H2 := hl ▸ P
    exact comp_end R1 hD eg P2 y p
def cCmpR (m : Bool) (tg : DT) (own : List Nat) (a : DE (List D)) (cond : DE Bool) (elt : DE (D × Ow)) : DE (D × Ow) := fun s => match a s with
  | some (.ok [.int j] s1) => if -(2 ^ 62) ≤ j ∧ j < 2 ^ 62 then match goC m tg cond elt own (rngD 0 j.toNat) [] (wipeD own (fzAll s1)) with
      | some (.ok es s2) => if m = true then some (.ok (.lst es, .full) s1) else some (.ok (.lst es, .top) s2)
      | _ => none
    else none
  | some (.exc x s1) => some (.exc x s1)
  | _ => none
theorem jcCompR1 (ha : JA K W ta2 da2) (hg : JG K g tg own) (ht : JT K W0 tt cond) (he : JC K W0 te elt) : JC K W (tLc (iRng1 ta2) g tt te own) (cCmpR m tg own da2 cond elt) := by
  intro s r e B H σ Fs R0 Q p
  unfold cCmpR at e
  split at e
  · rename_i j s1 e1
    refine ha s _ e1 B H σ Fs R0 _ ?_
    intro vs B' H' Fs' F R1 y z l q
    obtain ⟨q, rfl⟩ := q
    split at e
    · rename_i hj
      split at e
      · rename_i es s2 eg
        have er : r = if m = true then .ok (.lst es, .full) s1 else .ok (.lst es, .top) s2 := by
          cases m <;> simpa using e.symm
        subst er
        exact ⟨j, reL1 q, hj.1, hj.2, by
          have := compR hg ht he R1 (lo := 0) (n := j.toNat) eg y p
          exact this⟩
      · cases e
    · cases e
  · rename_i x s1 e1
    cases e
    exact ha s _ e1 B H σ Fs R0 _ fun B' H' Fs' x y => p B' H' Fs' x y
  · cases e
def cCmpR2 (m : Bool) (tg : DT) (own : List Nat) (a : DE (List D)) (cond : DE Bool) (elt : DE (D × Ow)) : DE (D × Ow) := fun s => match a s with
  | some (.ok [.int i, .int j] s1) => if -(2 ^ 62) ≤ i ∧ i < 2 ^ 62 ∧ -(2 ^ 62) ≤ j ∧ j < 2 ^ 62 then match goC m tg cond elt own (rngD i (j - i).toNat) [] (wipeD own (fzAll s1)) with
      | some (.ok es s2) => if m = true then some (.ok (.lst es, .full) s1) else some (.ok (.lst es, .top) s2)
      | _ => none
    else none
  | some (.exc x s1) => some (.exc x s1)
  | _ => none
theorem jcCompR2 (ha : JA K W ta2 da2) (hg : JG K g tg own) (ht : JT K W0 tt cond) (he : JC K W0 te elt) : JC K W (tLc (iRng2 ta2) g tt te own) (cCmpR2 m tg own da2 cond elt) := by
  intro s r e B H σ Fs R0 Q p
  unfold cCmpR2 at e
  split at e
  · rename_i i j s1 e1
    refine ha s _ e1 B H σ Fs R0 _ ?_
    intro vs B' H' Fs' F R1 y z l q
    obtain ⟨q, rfl⟩ := q
    split at e
    · rename_i hj
      split at e
      · rename_i es s2 eg
        have er : r = if m = true then .ok (.lst es, .full) s1 else .ok (.lst es, .top) s2 := by
          cases m <;> simpa using e.symm
        subst er
        exact ⟨i, j, reL2 q, hj, compR hg ht he R1 (lo := i) (n := (j - i).toNat) eg y p⟩
      · cases e
    · cases e
  · rename_i x s1 e1
    cases e
    exact ha s _ e1 B H σ Fs R0 _ fun B' H' Fs' x y => p B' H' Fs' x y
  · cases e
end
end Dv

namespace Dv
open PySem L2 Evl

/-! ### a place within things -/
def getP : List Int → D → Option D
  | [], d => some d
  | k :: ks, .lst ds => (atI ds k).bind (getP ks)
  | k :: ks, .tup ds => (atI ds k).bind (getP ks)
  | _, _ => none
def setI (ds : List D) (k : Int) (d : D) : List D := match ixN ds.length k with
  | some j => ds.set j d
  | none => ds
def setP : List Int → D → D → D
  | [], _, n => n
  | k :: ks, .lst ds, n => match atI ds k with
    | some d => .lst (setI ds k (setP ks d n))
    | none => .lst ds
  | k :: ks, .tup ds, n => match atI ds k with
    | some d => .tup (setI ds k (setP ks d n))
    | none => .tup ds
  | _, d, _ => d
/-- the pointer found there -/
inductive WkP (H : Hp) : List Int → V → V → Prop
  | nil (v : V) : WkP H [] v v
  | lst {p : Addr} {vs : List V} {k : Int} {ks : List Int} {x u : V} : H p = some (.lst vs) → atI vs k = some x → WkP H ks x u → WkP H (k :: ks) (.ref p) u
  | tup {p : Addr} {vs : List V} {k : Int} {ks : List Int} {x u : V} : H p = some (.tup vs) → atI vs k = some x → WkP H ks x u → WkP H (k :: ks) (.ref p) u
theorem WkP.uniq {H : Hp} : ∀ {ks : List Int} {v u u' : V}, WkP H ks v u → WkP H ks v u' → u = u'
  | _, _, _, _, .nil _, .nil _ => rfl
  | _, _, _, _, .lst a b c, .lst a' b' c' => by
    rw [a] at a'; cases a'
    rw [b] at b'; cases b'
    exact WkP.uniq c c'
  | _, _, _, _, .tup a b c, .tup a' b' c' => by
    rw [a] at a'; cases a'
    rw [b] at b'; cases b'
    exact WkP.uniq c c'
  | _, _, _, _, .lst a b c, .tup a' b' c' => by
    rw [a] at a'; cases a'
  | _, _, _, _, .tup a b c, .lst a' b' c' => by
    rw [a] at a'; cases a'
theorem WkP.ex {H H' : Hp} (e : Ex H H') : ∀ {ks : List Int} {v u : V}, WkP H ks v u → WkP H' ks v u
  | _, _, _, .nil _ => .nil _
  | _, _, _, .lst a b c => .lst (e _ _ a) b (WkP.ex e c)
  | _, _, _, .tup a b c => .tup (e _ _ a) b (WkP.ex e c)
section
variable {K : PySem.W.Frag} {H : Hp}
theorem atI_some {α : Type} {xs : List α} {k : Int} {x : α} (h : atI xs k = some x) : ∃ j, ixN xs.length k = some j ∧ xs[j]? = some x := by
  unfold atI at h
  cases e : ixN xs.length k with
  | none => rw [e] at h; cases h
  | some j =>
    rw [e] at h
    exact ⟨j, rfl, h⟩
theorem atI_mk {α : Type} {xs : List α} {k : Int} {x : α} {j : Nat} (h1 : ixN xs.length k = some j) (h2 : xs[j]? = some x) : atI xs k = some x := by
  unfold atI
  rw [h1]
  exact h2
/-- one of several owned -/
theorem OwnL.at_ : ∀ {vs : List V} {ds : List D} {F : List Addr} {j : Nat} {d : D}, OwnL K H vs ds F → ds[j]? = some d →
    ∃ (v : V) (Fj R : List Addr), vs[j]? = some v ∧ Own K H v d Fj ∧ (∀ a, F.count a = Fj.count a + R.count a) ∧
      ∀ (H' : Hp) (d' : D) (F' : List Addr), Tk H H' → (∀ a ∈ R, H' a = H a) → Own K H' v d' F' → ∃ G : List Addr, OwnL K H' vs (ds.set j d') G ∧ ∀ a, G.count a = F'.count a + R.count a
  | _, _, _, _, _, .nil, e => by simp at e
  | _, _, _, 0, d, .cons (F := F1) (G := G1) x y, e => by
    simp at e
    subst e
    refine ⟨_, F1, G1, rfl, x, fun a => List.count_append, fun H' d' F' t k o => ⟨F' ++ G1, .cons o (y.mono t k), fun a => List.count_append⟩⟩
  | _, _, _, j + 1, d, .cons (F := F1) (G := G1) x y, e => by
    obtain ⟨v, Fj, R, h1, h2, h3, h4⟩ := OwnL.at_ (j := j) (d := d) y (by simpa using e)
    refine ⟨v, Fj, F1 ++ R, by simpa using h1, h2, fun a => ?_, fun H' d' F' t k o => ?_⟩
    · have := h3 a
      rw [List.count_append, List.count_append]
      omega
    · obtain ⟨G, g1, g2⟩ := h4 H' d' F' t (fun a ha => k a (List.mem_append_right _ ha)) o
      refine ⟨F1 ++ G, .cons (x.mono t fun a ha => k a (List.mem_append_left _ ha)) g1, fun a => ?_⟩
      have := g2 a
      rw [List.count_append, List.count_append]
      omega
theorem imm_getP : ∀ (ks : List Int) (d e : D), imm d = true → getP ks d = some e → imm e = true := by
  have memL : ∀ (ds : List D) (j : Nat) (d : D), immL ds = true → ds[j]? = some d → imm d = true := by
    intro ds
    induction ds with
    | nil => intro j d _ h; simp at h
    | cons x xs ih =>
      intro j d h1 h2
      have h3 : (imm x && immL xs) = true := by simpa only [immL] using h1
      have h4 := Bool.and_eq_true_iff.mp h3
      cases j with
      | zero => simp at h2; subst h2; exact h4.1
      | succ j => exact ih j d h4.2 (by simpa using h2)
  intro ks
  induction ks with
  | nil => intro d e h g; cases g; exact h
  | cons k ks ih =>
    intro d e h g
    cases d with
    | lst ds => simp [imm] at h
    | tup ds =>
      obtain ⟨x, g1, g2⟩ := Option.bind_eq_some_iff.mp (show (atI ds k).bind (getP ks) = some e from g)
      obtain ⟨j, _, g3⟩ := atI_some g1
      exact ih x e (memL ds j x (by simpa [imm] using h) g3) g2
    | _ => cases g
/-- a list within what is owned, put otherwise -/
theorem own_path : ∀ (ks : List Int) (d : D) (v : V) (F : List Addr) (ds : List D), Own K H v d F → getP ks d = some (.lst ds) →
    ∃ (p : Addr) (vs : List V) (F1 R : List Addr), WkP H ks v (.ref p) ∧ H p = some (.lst vs) ∧ OwnL K H vs ds F1 ∧ (∀ a, F.count a = (p :: F1).count a + R.count a) ∧
      ∀ (H' : Hp) (d' : D) (F' : List Addr), Tk H H' → (∀ a ∈ R, a ≠ p → H' a = H a) → (∀ a, F.count a ≤ 1) → Own K H' (.ref p) d' F' → ∃ G : List Addr, Own K H' v (setP ks d d') G ∧ ∀ a, G.count a = F'.count a + R.count a := by
  intro ks
  induction ks with
  | nil =>
    intro d v F ds o g
    cases g
    cases o with
    | im hi _ => simp [imm] at hi
    | lst hp r =>
      rename_i p vs F1
      exact ⟨p, vs, F1, [], .nil _, hp, r, fun a => by simp, fun H' d' F' t k n o' => ⟨F', o', fun a => by simp⟩⟩
  | cons k ks ih =>
    intro d v F ds o g
    have nim : imm d = false := by
      cases hi : imm d with
      | false => rfl
      | true => exact absurd (imm_getP _ _ _ hi g) (by simp [imm])
    cases o with
    | im hi _ => rw [nim] at hi; cases hi
    | dk _ _ _ => cases g
    | dt _ _ _ => cases g
    | dn _ _ _ _ => cases g
    | lst hp r =>
      rename_i p vs es F0
      obtain ⟨x, g1, g2⟩ := Option.bind_eq_some_iff.mp (show (atI es k).bind (getP ks) = some (.lst ds) from g)
      obtain ⟨j, g3, g4⟩ := atI_some g1
      obtain ⟨u, Fj, R, h1, h2, h3, h4⟩ := r.at_ g4
      obtain ⟨q, us, F1, R1, w1, w2, w3, w4, w5⟩ := ih x u Fj ds h2 g2
      have len : vs.length = es.length := (r.re (G := H) fun _ _ => rfl).length
      refine ⟨q, us, F1, p :: R ++ R1, .lst hp (atI_mk (by rw [len]; exact g3) h1) w1, w2, w3, fun a => ?_, fun H' d' F' t kp n o' => ?_⟩
      · have e1 := h3 a
        have e2 := w4 a
        simp only [List.count_cons, List.cons_append, List.count_append] at e1 e2 ⊢
        omega
      · have nq : ∀ a ∈ p :: R ++ R1, a ≠ q := fun a ha e => by
          subst e
          have e1 := h3 a
          have e2 := w4 a
          have e3 := n a
          have e4 := mem_count ha
          simp only [List.cons_append, List.count_cons, List.count_append, beq_self_eq_true, if_true] at e2 e3 e4
          omega
        have kk : ∀ a ∈ p :: R ++ R1, H' a = H a := fun a ha => kp a ha (nq a ha)
        obtain ⟨G1, z1, z2⟩ := w5 H' d' F' t (fun a ha _ => kk a (List.mem_append_right _ ha)) (fun a => by have e1 := h3 a; have e3 := n a; rw [List.count_cons] at e3; omega) o'
        obtain ⟨G, z3, z4⟩ := h4 H' (setP ks x d') G1 t (fun a ha => kk a (List.mem_append_left _ (List.mem_cons_of_mem _ ha))) z1
        have es' : setP (k :: ks) (.lst es) d' = .lst (es.set j (setP ks x d')) := by
          show (match atI es k with
            | some d => D.lst (setI es k (setP ks d d'))
            | none => .lst es) = _
          rw [g1]
          unfold setI
          simp only [g3]
        refine ⟨p :: G, by rw [es']; exact .lst ((kk p (by simp)).trans hp) z3, fun a => ?_⟩
        have e1 := z2 a
        have e2 := z4 a
        simp only [List.count_cons, List.cons_append, List.count_append] at e1 e2 ⊢
        omega
    | tup hp r =>
      rename_i p vs es
      obtain ⟨x, g1, g2⟩ := Option.bind_eq_some_iff.mp (show (atI es k).bind (getP ks) = some (.lst ds) from g)
      obtain ⟨j, g3, g4⟩ := atI_some g1
      obtain ⟨u, Fj, R, h1, h2, h3, h4⟩ := r.at_ g4
      obtain ⟨q, us, F1, R1, w1, w2, w3, w4, w5⟩ := ih x u Fj ds h2 g2
      have len : vs.length = es.length := (r.re (G := H) fun _ _ => rfl).length
      refine ⟨q, us, F1, R ++ R1, .tup hp (atI_mk (by rw [len]; exact g3) h1) w1, w2, w3, fun a => ?_, fun H' d' F' t kp n o' => ?_⟩
      · have e1 := h3 a
        have e2 := w4 a
        rw [List.count_append]
        omega
      · have nq : ∀ a ∈ R ++ R1, a ≠ q := fun a ha e => by
          subst e
          have e1 := h3 a
          have e2 := w4 a
          have e3 := n a
          have e4 := mem_count ha
          rw [List.count_append] at e4
          rw [List.count_cons_self] at e2
          omega
        have kk : ∀ a ∈ R ++ R1, H' a = H a := fun a ha => kp a ha (nq a ha)
        obtain ⟨G1, z1, z2⟩ := w5 H' d' F' t (fun a ha _ => kk a (List.mem_append_right _ ha)) (fun a => by have e1 := h3 a; have e3 := n a; omega) o'
        obtain ⟨G, z3, z4⟩ := h4 H' (setP ks x d') G1 t (fun a ha => kk a (List.mem_append_left _ ha)) z1
        have es' : setP (k :: ks) (.tup es) d' = .tup (es.set j (setP ks x d')) := by
          show (match atI es k with
            | some d => D.tup (setI es k (setP ks d d'))
            | none => .tup es) = _
          rw [g1]
          unfold setI
          simp only [g3]
        refine ⟨G, by rw [es']; exact .tup (t.t _ _ hp) z3, fun a => ?_⟩
        have e1 := z2 a
        have e2 := z4 a
        rw [List.count_append]
        omega
end
end Dv

namespace Dv
open PySem L2 Evl

section
variable {K : PySem.W.Frag} {W : WW} {B H H' : Hp} {σ : L2.St} {s : SD} {Fs : List (List Addr)} {i : Nat} {E : List Addr}
theorem tk_upd {H : Hp} {p : Addr} {vs ys : List V} (hp : H p = some (.lst vs)) : Tk H (upd H p (.lst ys)) :=
  ⟨fun q zs h => by rw [upd_ne (ne_of h hp (fun z => nomatch z))]; exact h, fun q o u h => by rw [upd_ne (ne_of h hp (fun z => nomatch z))]; exact h⟩
theorem live_upd {H : Hp} {p a : Addr} {o : HO} (h : H a ≠ none) : upd H p o a ≠ none := by
  by_cases q : a = p
  · subst q; rw [upd_same]; exact fun z => nomatch z
  · rw [upd_ne q]; exact h
/-- a list within a slot is put otherwise -/
theorem mut_slot {ks : List Int} {d : D} {ds : List D} (R0 : Rel K B H σ s Fs) (hs : s[i]? = some (some (d, .full))) (g : getP ks d = some (.lst ds)) (hv : ∀ a, w B a + (E ++ Fs.flatten).count a ≤ 1) :
    ∃ (v : V) (p : Addr) (vs : List V) (F1 : List Addr), σ[i]? = some (some v) ∧ WkP H ks v (.ref p) ∧ H p = some (.lst vs) ∧ OwnL K H vs ds F1 ∧ (∀ a ∈ F1, a ≠ p) ∧ (∀ a ∈ E, a ≠ p) ∧
      ∀ (vs' : List V) (ds' : List D) (F' : List Addr), OwnL K (upd H p (.lst vs')) vs' ds' F' → (∀ a, F'.count a ≤ F1.count a + E.count a) →
        ∃ G : List Addr, Rel K B (upd H p (.lst vs')) σ (s.set i (some (setP ks d (.lst ds'), .full))) (Fs.set i G) ∧ SS B H (E ++ Fs.flatten) B (upd H p (.lst vs')) (Fs.set i G).flatten := by
  obtain ⟨v, hσ, o⟩ := R0.at_ i d .full hs
  have o : Own K H v d (Fs.getD i []) := o
  obtain ⟨p, vs, F1, R, w1, w2, w3, w4, w5⟩ := own_path ks d v _ ds o g
  have hi := lt_of_get hs
  have hF : i < Fs.length := by rw [R0.l2, ← R0.l1]; exact hi
  have hp1 : ∀ a, (Fs.getD i []).count a + E.count a ≤ 1 := fun a => by
    have h1 := hv a
    have h2 := flat_get (Fs := Fs) (i := i) a
    rw [List.count_append] at h1
    omega
  have pS : 0 < Fs.flatten.count p := by
    have h1 := w4 p
    have h2 := flat_get (Fs := Fs) (i := i) p
    rw [List.count_cons_self] at h1
    omega
  have hBp : B p = none := by
    have h1 := R0.wf p
    exact w_zero (by omega)
  refine ⟨v, p, vs, F1, hσ, w1, w2, w3, fun a ha e => ?_, fun a ha e => ?_, fun vs' ds' F' o' c' => ?_⟩
  · subst e
    have h1 := w4 a
    have h2 := hp1 a
    have h3 := mem_count ha
    rw [List.count_cons_self] at h1
    omega
  · subst e
    have h1 := w4 a
    have h2 := hp1 a
    have h3 := mem_count ha
    rw [List.count_cons_self] at h1
    omega
  · have tk := tk_upd (ys := vs') w2
    obtain ⟨G, o2, cG⟩ := w5 (upd H p (.lst vs')) (.lst ds') (p :: F') tk (fun a _ hn => upd_ne hn) (fun a => by have := hp1 a; omega) (.lst upd_same o')
    have le : ∀ a, (Fs.set i G).flatten.count a ≤ (E ++ Fs.flatten).count a := fun a => by
      have h1 := flat_set (F := G) hF a
      have h2 := cG a
      have h3 := w4 a
      have h4 := c' a
      rw [List.count_append]
      rw [List.count_cons] at h2 h3
      omega
    have q : RS K B (upd H p (.lst vs')) v (setP ks d (.lst ds')) .full G := o2
    refine ⟨G, ⟨fun a x h => ?_, by rw [List.length_set]; exact R0.l1, by rw [List.length_set]; exact R0.l2, fun j d' ow' e => ?_, fun a => ?_, fun a ha => ?_⟩, ⟨Ex.refl _, tk, fun a ha z => ?_, fun a ha => live_upd ha, fun a ha => ?_⟩⟩
    · rw [upd_ne (fun q => by rw [q, hBp] at h; cases h)]
      exact R0.ex a x h
    · rw [getD_set hF]
      by_cases ej : j = i
      · subst ej
        rw [List.getElem?_set_self hi] at e
        rw [if_pos rfl]
        cases e
        exact ⟨v, hσ, q⟩
      · rw [List.getElem?_set_ne (Ne.symm ej)] at e
        rw [if_neg ej]
        obtain ⟨u, h1, h2⟩ := R0.at_ j d' ow' e
        refine ⟨u, h1, h2.mono (Ex.refl _) tk fun a ha => upd_ne fun q => ?_⟩
        subst q
        have h3 : 0 < (Fs.getD i []).count a := by
          have := w4 a
          rw [List.count_cons_self] at this
          omega
        have h4 := mem_count ha
        have h5 := R0.wt a
        have h6 := tot_get2 Fs j i a ej
        omega
    · rw [← tot_flat]
      have := le a
      have := hv a
      omega
    · rcases mem_set_flat ha with h | h
      · exact live_upd (R0.lv a h)
      · exact q.live a h
    · refine upd_ne fun q => ?_
      subst q
      rw [List.count_append] at z
      omega
    · have := le a
      omega
/-- the same of a slot that holds its top alone -/
theorem mut_top {ds : List D} (R0 : Rel K B H σ s Fs) (hs : s[i]? = some (some (.lst ds, .top))) :
    ∃ (p : Addr) (vs : List V), σ[i]? = some (some (.ref p)) ∧ H p = some (.lst vs) ∧ ReL K B H vs ds ∧ B p = none ∧
      ∀ (vs' : List V) (ds' : List D), ReL K B (upd H p (.lst vs')) vs' ds' → Rel K B (upd H p (.lst vs')) σ (s.set i (some (.lst ds', .top))) Fs ∧ SS B H Fs.flatten B (upd H p (.lst vs')) Fs.flatten := by
  obtain ⟨v, hσ, p, vs, ds0, rfl, e2, w2, w3, w4⟩ := R0.at_ i _ .top hs
  cases e2
  have hi := lt_of_get hs
  have hF : i < Fs.length := by rw [R0.l2, ← R0.l1]; exact hi
  have pS : 0 < (Fs.getD i []).count p := by rw [w4]; simp
  have hBp : B p = none := by
    have h1 := R0.wf p
    have h2 := flat_get (Fs := Fs) (i := i) p
    exact w_zero (by omega)
  refine ⟨p, vs, hσ, w2, w3, hBp, fun vs' ds' r' => ?_⟩
  have tk := tk_upd (ys := vs') w2
  refine ⟨⟨fun a x h => ?_, by rw [List.length_set]; exact R0.l1, R0.l2, fun j d' ow' e => ?_, R0.wt, fun a ha => live_upd (R0.lv a ha)⟩, ⟨Ex.refl _, tk, fun a ha z => ?_, fun a ha => live_upd ha, fun a ha => Nat.le_refl _⟩⟩
  · rw [upd_ne (fun q => by rw [q, hBp] at h; cases h)]
    exact R0.ex a x h
  · by_cases ej : j = i
    · subst ej
      rw [List.getElem?_set_self hi] at e
      cases e
      exact ⟨_, hσ, p, vs', ds', rfl, rfl, upd_same, r', w4⟩
    · rw [List.getElem?_set_ne (Ne.symm ej)] at e
      obtain ⟨u, h1, h2⟩ := R0.at_ j d' ow' e
      refine ⟨u, h1, h2.mono (Ex.refl _) tk fun a ha => upd_ne fun q => ?_⟩
      subst q
      have h4 := mem_count ha
      have h5 := R0.wt a
      have h6 := tot_get2 Fs j i a ej
      omega
  · refine upd_ne fun q => ?_
    subst q
    have h2 := flat_get (Fs := Fs) (i := i) a
    omega
theorem setP_nil (d n : D) : setP [] d n = n := rfl

/-! ### append -/
def sApp (i : Nat) (c : DE (D × Ow)) : DS := fun s => match s[i]? with
  | some (some (.lst _, ow0)) => if ow0 = .no then none else match c s with
    | some (.ok (e, eo) s1) => match s1[i]? with
      | some (some (.lst ds, .full)) => if eo = .full ∧ ds.length < 1000000 then some (.next (s1.set i (some (.lst (ds ++ [e]), .full)))) else none
      | some (some (.lst ds, .top)) => if ds.length < 1000000 then some (.next (s1.set i (some (.lst (ds ++ [e]), .top)))) else none
      | _ => none
    | some (.exc x s1) => some (.exc x s1)
    | none => none
  | _ => none
abbrev tApp (K : PySem.W.Frag) (to tc : TE) : TS := tDrop (tBM K "list" rAppend to (tCons tc tNil))
variable {tc : TE} {c : DE (D × Ow)}
theorem jsApp (hc : JC K W tc c) : JS K W (tApp K (tVar i) tc) (sApp i c) := by
  intro s o e B H σ Fs R0 En p
  unfold sApp at e
  split at e
  · rename_i ds0 ow0 h0
    split at e
    · cases e
    · rename_i hno
      -- the list's place
      have place : ∃ q vs, σ[i]? = some (some (.ref q)) ∧ H q = some (.lst vs) := by
        obtain ⟨v, hσ, r⟩ := R0.at_ i _ _ h0
        cases ow0 with
        | no => exact absurd rfl hno
        | top =>
          obtain ⟨q, vs, _, rfl, _, h, _⟩ := r
          exact ⟨q, vs, hσ, h⟩
        | full =>
          have r : Own K H v (.lst ds0) (Fs.getD i []) := r
          obtain ⟨F0, hF0⟩ : ∃ F0, F0 = Fs.getD i [] := ⟨_, rfl⟩
          rw [← hF0] at r
          cases r with
          | im hi _ => simp [imm] at hi
          | lst h _ => exact ⟨_, _, hσ, h⟩
      obtain ⟨q, vs0, hσ, hq⟩ := place
      refine ⟨.ref q, hσ, .inl ⟨rfl, vs0, sq_of hq⟩, ?_⟩
      cases e1 : c s with
      | none => rw [e1] at e; cases e
      | some r =>
        rw [e1] at e
        refine hc s r e1 B H σ Fs R0 _ ?_
        cases r with
        | exc x s1 =>
          cases e
          exact fun B' H' Fs' x y => p σ B' H' Fs' x y.ss
        | ok z s1 =>
          obtain ⟨d, eo⟩ := z
          intro v B' H' Fs' F R1 y zz l qv
          have qv : RS K B' H' v d eo F := qv
          simp only at e
          split at e
          · rename_i ds h1
            split at e
            · rename_i hh
              obtain ⟨hf, hz⟩ := hh
              subst hf
              cases e
              obtain ⟨v2, p2, vs2, F1, a1, a2, a3, a4, a5, a6, a7⟩ := mut_slot (ks := []) (ds := ds) (E := F) R1 h1 rfl zz
              rw [hσ] at a1
              cases a1
              cases a2
              refine ⟨_, vs2, v, rfl, rfl, a3, ?_, ?_⟩
              · rw [(a4.re (G := H') fun _ _ => rfl).length]
                exact Nat.lt_of_lt_of_le hz (by decide)
              · have tk := tk_upd (ys := vs2 ++ [v]) a3
                have o2 : OwnL K (upd H' q (.lst (vs2 ++ [v]))) (vs2 ++ [v]) (ds ++ [d]) (F1 ++ (F ++ [])) :=
                  (a4.mono tk fun a ha => upd_ne (a5 a ha)).append (.cons (Own.mono tk qv fun a ha => upd_ne (a6 a ha)) .nil)
                obtain ⟨G, b1, b2⟩ := a7 _ _ _ o2 fun a => by simp only [List.count_append, List.append_nil]; omega
                exact p σ _ _ _ b1 (y.ss.trans b2)
            · cases e
          · rename_i ds h1
            split at e
            · rename_i hz
              cases e
              -- what the new thing owns is let go
              have R2 := R1.know zz
              have y2 := y.let_go F Fs'.flatten l (fun a => List.count_append) R1.ex
              obtain ⟨p2, vs2, a1, a3, a4, a5, a7⟩ := mut_top R2 h1
              rw [hσ] at a1
              cases a1
              refine ⟨_, vs2, v, rfl, rfl, a3, ?_, ?_⟩
              · rw [a4.length]
                exact Nat.lt_of_lt_of_le hz (by decide)
              · have tk := tk_upd (ys := vs2 ++ [v]) a3
                obtain ⟨b1, b2⟩ := a7 (vs2 ++ [v]) (ds ++ [d]) ((a4.mono (Ex.refl _) tk).append (.cons ((qv.fz (frz_ex R1.ex) fun a ha => frz_in ha).mono (Ex.refl _) tk) .nil))
                exact p σ _ _ _ b1 (y2.ss.trans b2)
            · cases e
          · cases e
  · cases e
end
end Dv

namespace Dv
open PySem L2 Evl

/-! ### the text's reading and what it does, in one -/
structure QB (X : Cx) (K : PySem.W.Frag) (W : WW) (e : Expr) (t : TE) (d : DE D) : Prop where
  hk : X.K = K
  p : PE X e t
  j : JB K W t d
structure QC (X : Cx) (K : PySem.W.Frag) (W : WW) (e : Expr) (t : TE) (d : DE (D × Ow)) : Prop where
  hk : X.K = K
  p : PE X e t
  j : JC K W t d
structure QT (X : Cx) (K : PySem.W.Frag) (W : WW) (e : Expr) (t : TT) (d : DE Bool) : Prop where
  hk : X.K = K
  p : PT X e t
  j : JT K W t d
structure QW (X : Cx) (K : PySem.W.Frag) (W : WW) (e : Expr) (t : TT) (d : DE Bool) : Prop where
  hk : X.K = K
  p : PW X e t
  j : JT K W t d
structure QTs (X : Cx) (K : PySem.W.Frag) (W : WW) (es : List Expr) (t : TT) (d : DE Bool) : Prop where
  hk : X.K = K
  p : PTs X es t
  j : JT K W t d
structure QA (X : Cx) (K : PySem.W.Frag) (W : WW) (es : List Expr) (t : TA) (d : DE (List D)) : Prop where
  hk : X.K = K
  p : PA X es t
  j : JA K W t d
structure QL (X : Cx) (K : PySem.W.Frag) (W : WW) (es : List Expr) (t : TA) (d : DE (List D × Bool)) : Prop where
  hk : X.K = K
  p : PA X es t
  j : JCL K W t d
structure QO (X : Cx) (K : PySem.W.Frag) (W : WW) (e : Option Expr) (t : TO) (d : DO) : Prop where
  hk : X.K = K
  p : PO X e t
  j : JO K W t d
structure QG (X : Cx) (K : PySem.W.Frag) (e : Expr) (g : TG) (d : DT) (own : List Nat) : Prop where
  hk : X.K = K
  p : PG X e g
  j : JG K g d own
structure QGs (X : Cx) (K : PySem.W.Frag) (es : List Expr) (is : List Nat) : Prop where
  hk : X.K = K
  p : PGs X es (gNs is)
structure QS (X : Cx) (K : PySem.W.Frag) (W : WW) (st : Stmt) (t : TS) (d : DS) : Prop where
  hk : X.K = K
  p : PS X st t
  j : JS K W t d
structure QSs (X : Cx) (K : PySem.W.Frag) (W : WW) (st : List Stmt) (t : TS) (d : DS) : Prop where
  hk : X.K = K
  p : PSs X st t
  j : JS K W t d

section
variable {X : Cx} {K : PySem.W.Frag} {W : WW} {x y : Str} {i : Nat} {p p2 pos : Pos} {a b c e : Expr} {es : List Expr} {ta tb tc te : TE} {da db dc de : DE D} {ca cb : DE (D × Ow)} {tt tu : TT} {dt du : DE Bool} {t : TA} {dA : DE (List D)} {dL : DE (List D × Bool)}
theorem q_var (i : Nat) (hk : X.K = K := by rfl) (hN : X.N[i]? = some x := by rfl) (hv : Vis X.env.scope x := by first | exact Or.inl rfl | exact Or.inr (Or.inl rfl) | exact Or.inr (Or.inr rfl)) (hd : (x == ("__debug__" : Str)) = false := by decide) (hcd : (x == ("__classdict__" : Str)) = false := by decide) : QB X K W (.Name x p) (tVar i) (dVar i) := ⟨hk, pv i hN hv hd hcd, jVar⟩
theorem q_mv (i : Nat) (hk : X.K = K := by rfl) (hN : X.N[i]? = some x := by rfl) (hv : Vis X.env.scope x := by first | exact Or.inl rfl | exact Or.inr (Or.inl rfl) | exact Or.inr (Or.inr rfl)) (hd : (x == ("__debug__" : Str)) = false := by decide) (hcd : (x == ("__classdict__" : Str)) = false := by decide) : QC X K W (.Name x p) (tVar i) (cMove i) := ⟨hk, pv i hN hv hd hcd, jMove⟩
theorem q_al (i : Nat) (hk : X.K = K := by rfl) (hN : X.N[i]? = some x := by rfl) (hv : Vis X.env.scope x := by first | exact Or.inl rfl | exact Or.inr (Or.inl rfl) | exact Or.inr (Or.inr rfl)) (hd : (x == ("__debug__" : Str)) = false := by decide) (hcd : (x == ("__classdict__" : Str)) = false := by decide) : QC X K W (.Name x p) (tVar i) (cAlias i) := ⟨hk, pv i hN hv hd hcd, jAlias⟩
theorem q_int {n : Int} {jj} (hk : X.K = K := by rfl) : QB X K W (.Constant (.int n) jj p) (tC (.int n)) (dC (.int n)) := ⟨hk, pe_int, jInt⟩
theorem q_bl {n : Bool} {jj} (hk : X.K = K := by rfl) : QB X K W (.Constant (.bool n) jj p) (tC (.bl n)) (dC (.bl n)) := ⟨hk, pe_bl, jBl⟩
theorem q_non {jj} (hk : X.K = K := by rfl) : QB X K W (.Constant .none jj p) (tC .non) (dC .non) := ⟨hk, pe_non, jNon⟩
theorem q_str {n : Str} {jj} (hk : X.K = K := by rfl) : QB X K W (.Constant (.str n) jj p) (tC (.str n)) (dC (.str n)) := ⟨hk, pe_str, jStr⟩
theorem qToC (h : QB X K W e te de) : QC X K W e te (toC de) := ⟨h.hk, h.p, jToC h.j⟩
theorem qToB (h : QC X K W e te ca) : QB X K W e te (toB ca) := ⟨h.hk, h.p, jToB h.j⟩
theorem qSh (h : QB X K W e te de) : QC X K W e te (cShare de) := ⟨h.hk, h.p, jShare h.j⟩
/-! operators -/
theorem q_op {op : Operator} {r : PySem.W.Frag → R2} {f : D → D → Option D} (ho : OpR X (binaryOp op) (r X.K)) (hr : RV K (r K) f) (ha : QB X K W a ta da) (hb : QB X K W b tb db) : QB X K W (.BinOp a op b pos) (tOp (r K) ta tb) (dOp f da db) := by
  obtain ⟨rfl, pa, ja⟩ := ha
  exact ⟨rfl, pe_op ho pa hb.p, jOp hr ja hb.j⟩
theorem q_sub (ha : QB X K W a ta da) (hb : QB X K W b tb db) : QB X K W (.BinOp a .Sub b pos) (tOp rSub ta tb) (dOp fSub da db) := q_op (r := fun _ => rSub) op_sub rvSub ha hb
theorem q_mod (ha : QB X K W a ta da) (hb : QB X K W b tb db) : QB X K W (.BinOp a .Mod b pos) (tOp rMod ta tb) (dOp fMod da db) := q_op (r := fun _ => rMod) op_mod rvMod ha hb
theorem q_div (ha : QB X K W a ta da) (hb : QB X K W b tb db) : QB X K W (.BinOp a .FloorDiv b pos) (tOp rDiv ta tb) (dOp fDiv da db) := q_op (r := fun _ => rDiv) op_fdivW rvDiv ha hb
theorem q_pow (ha : QB X K W a ta da) (hb : QB X K W b tb db) : QB X K W (.BinOp a .Pow b pos) (tOp rPow ta tb) (dOp fPow da db) := q_op (r := fun _ => rPow) op_pow rvPow ha hb
theorem q_add (ha : QB X K W a ta da) (hb : QB X K W b tb db) : QC X K W (.BinOp a .Add b pos) (tOp (rAddU K) ta tb) (cAdd da db) := by
  obtain ⟨rfl, pa, ja⟩ := ha
  exact ⟨rfl, pe_op op_addU pa hb.p, jcAdd ja hb.j⟩
theorem q_mul (ha : QB X K W a ta da) (hb : QB X K W b tb db) : QC X K W (.BinOp a .Mult b pos) (tOp (rMulU K) ta tb) (cMul da db) := by
  obtain ⟨rfl, pa, ja⟩ := ha
  exact ⟨rfl, pe_op op_mulU pa hb.p, jcMul ja hb.j⟩
theorem q_neg (ha : QB X K W a ta da) : QB X K W (.UnaryOp .USub a pos) (tUn rNeg ta) (dUn fNeg da) := ⟨ha.hk, pe_un un_neg ha.p, jUn ruNeg ha.j⟩
/-! comparisons -/
theorem q_cmp {op : CmpOp} {r : PySem.W.Frag → R2} {f : D → D → Option D} (ho : OpR X (compareOp op) (r X.K)) (hr : RV K (r K) f) (hm : behindInMarks op b = false) (ha : QB X K W a ta da) (hb : QB X K W b tb db) : QB X K W (.Compare a [op] [b] pos) (tOp (r K) ta tb) (dOp f da db) := by
  obtain ⟨rfl, pa, ja⟩ := ha
  exact ⟨rfl, pe_cmpR ho pa hb.p hm, jOp hr ja hb.j⟩
theorem qt_cmp {op : CmpOp} {r : PySem.W.Frag → R2} {f : D → D → Option D} (ho : OpR X (compareOp op) (r X.K)) (hr : RV K (r K) f) (hm : behindInMarks op b = false) (ha : QB X K W a ta da) (hb : QB X K W b tb db) : QT X K W (.Compare a [op] [b] pos) (tTest (tOp (r K) ta tb)) (dTest (dOp f da db)) := by
  obtain ⟨rfl, pa, ja⟩ := ha
  exact ⟨rfl, pt_cmpR ho pa hb.p hm, jTest (jOp hr ja hb.j)⟩
theorem q_eq (hu : X.A.units + 64 < cLine) (ha : QB X K W a ta da) (hb : QB X K W b tb db) : QB X K W (.Compare a [.Eq] [b] pos) (tOp (rEqD K) ta tb) (dOp fEq da db) := q_cmp (r := rEqD) (op_eqD hu) rvEq (nomark _) ha hb
theorem qt_eq (hu : X.A.units + 64 < cLine) (ha : QB X K W a ta da) (hb : QB X K W b tb db) : QT X K W (.Compare a [.Eq] [b] pos) (tTest (tOp (rEqD K) ta tb)) (dTest (dOp fEq da db)) := qt_cmp (r := rEqD) (op_eqD hu) rvEq (nomark _) ha hb
theorem q_ne (hu : X.A.units + 64 < cLine) (ha : QB X K W a ta da) (hb : QB X K W b tb db) : QB X K W (.Compare a [.NotEq] [b] pos) (tOp (rNeD K) ta tb) (dOp fNe da db) := q_cmp (r := rNeD) (op_neD hu) rvNe (nomark _) ha hb
theorem qt_ne (hu : X.A.units + 64 < cLine) (ha : QB X K W a ta da) (hb : QB X K W b tb db) : QT X K W (.Compare a [.NotEq] [b] pos) (tTest (tOp (rNeD K) ta tb)) (dTest (dOp fNe da db)) := qt_cmp (r := rNeD) (op_neD hu) rvNe (nomark _) ha hb
theorem q_lt (ha : QB X K W a ta da) (hb : QB X K W b tb db) : QB X K W (.Compare a [.Lt] [b] pos) (tOp rLt ta tb) (dOp fLt da db) := q_cmp (r := fun _ => rLt) op_lt rvLt (nomark _) ha hb
theorem qt_lt (ha : QB X K W a ta da) (hb : QB X K W b tb db) : QT X K W (.Compare a [.Lt] [b] pos) (tTest (tOp rLt ta tb)) (dTest (dOp fLt da db)) := qt_cmp (r := fun _ => rLt) op_lt rvLt (nomark _) ha hb
theorem q_le (ha : QB X K W a ta da) (hb : QB X K W b tb db) : QB X K W (.Compare a [.LtE] [b] pos) (tOp rLe ta tb) (dOp fLe da db) := q_cmp (r := fun _ => rLe) op_le rvLe (nomark _) ha hb
theorem qt_le (ha : QB X K W a ta da) (hb : QB X K W b tb db) : QT X K W (.Compare a [.LtE] [b] pos) (tTest (tOp rLe ta tb)) (dTest (dOp fLe da db)) := qt_cmp (r := fun _ => rLe) op_le rvLe (nomark _) ha hb
theorem q_gt (ha : QB X K W a ta da) (hb : QB X K W b tb db) : QB X K W (.Compare a [.Gt] [b] pos) (tOp rGt' ta tb) (dOp fGt da db) := q_cmp (r := fun _ => rGt') op_gt rvGt (nomark _) ha hb
theorem qt_gt (ha : QB X K W a ta da) (hb : QB X K W b tb db) : QT X K W (.Compare a [.Gt] [b] pos) (tTest (tOp rGt' ta tb)) (dTest (dOp fGt da db)) := qt_cmp (r := fun _ => rGt') op_gt rvGt (nomark _) ha hb
theorem q_ge (ha : QB X K W a ta da) (hb : QB X K W b tb db) : QB X K W (.Compare a [.GtE] [b] pos) (tOp rGe' ta tb) (dOp fGe da db) := q_cmp (r := fun _ => rGe') op_ge rvGe (nomark _) ha hb
theorem qt_ge (ha : QB X K W a ta da) (hb : QB X K W b tb db) : QT X K W (.Compare a [.GtE] [b] pos) (tTest (tOp rGe' ta tb)) (dTest (dOp fGe da db)) := qt_cmp (r := fun _ => rGe') op_ge rvGe (nomark _) ha hb
theorem q_isN (ha : QB X K W a ta da) (hb : QB X K W b tb db) : QB X K W (.Compare a [.Is] [b] pos) (tOp rIsNn ta tb) (dOp fIsN da db) := q_cmp (r := fun _ => rIsNn) op_isN rvIsN (nomark _) ha hb
theorem qt_isN (ha : QB X K W a ta da) (hb : QB X K W b tb db) : QT X K W (.Compare a [.Is] [b] pos) (tTest (tOp rIsNn ta tb)) (dTest (dOp fIsN da db)) := qt_cmp (r := fun _ => rIsNn) op_isN rvIsN (nomark _) ha hb
theorem q_notN (ha : QB X K W a ta da) (hb : QB X K W b tb db) : QB X K W (.Compare a [.IsNot] [b] pos) (tOp rNotNn ta tb) (dOp fNotN da db) := q_cmp (r := fun _ => rNotNn) op_notN rvNotN (nomark _) ha hb
theorem qt_notN (ha : QB X K W a ta da) (hb : QB X K W b tb db) : QT X K W (.Compare a [.IsNot] [b] pos) (tTest (tOp rNotNn ta tb)) (dTest (dOp fNotN da db)) := qt_cmp (r := fun _ => rNotNn) op_notN rvNotN (nomark _) ha hb
theorem q_isbl (ha : QB X K W a ta da) (hb : QB X K W b tb db) : QB X K W (.Compare a [.Is] [b] pos) (tOp rIsBl ta tb) (dOp fIsBl da db) := q_cmp (r := fun _ => rIsBl) op_is_bl rvIsBl (nomark _) ha hb
theorem qt_isbl (ha : QB X K W a ta da) (hb : QB X K W b tb db) : QT X K W (.Compare a [.Is] [b] pos) (tTest (tOp rIsBl ta tb)) (dTest (dOp fIsBl da db)) := qt_cmp (r := fun _ => rIsBl) op_is_bl rvIsBl (nomark _) ha hb
theorem q_notbl (ha : QB X K W a ta da) (hb : QB X K W b tb db) : QB X K W (.Compare a [.IsNot] [b] pos) (tOp rNotBl ta tb) (dOp fNotBl da db) := q_cmp (r := fun _ => rNotBl) op_isnot_bl rvNotBl (nomark _) ha hb
theorem qt_notbl (ha : QB X K W a ta da) (hb : QB X K W b tb db) : QT X K W (.Compare a [.IsNot] [b] pos) (tTest (tOp rNotBl ta tb)) (dTest (dOp fNotBl da db)) := qt_cmp (r := fun _ => rNotBl) op_isnot_bl rvNotBl (nomark _) ha hb
theorem q_in (ha : QB X K W a ta da) (hb : QB X K W b tb db) (hm : behindInMarks .In b = false := by rfl) : QB X K W (.Compare a [.In] [b] pos) (tOp (rIn K false) ta tb) (dOp fIn da db) := q_cmp (r := fun K => rIn K false) op_in_seq rvIn hm ha hb
theorem qt_in (ha : QB X K W a ta da) (hb : QB X K W b tb db) (hm : behindInMarks .In b = false := by rfl) : QT X K W (.Compare a [.In] [b] pos) (tTest (tOp (rIn K false) ta tb)) (dTest (dOp fIn da db)) := qt_cmp (r := fun K => rIn K false) op_in_seq rvIn hm ha hb
theorem q_notin (ha : QB X K W a ta da) (hb : QB X K W b tb db) (hm : behindInMarks .NotIn b = false := by rfl) : QB X K W (.Compare a [.NotIn] [b] pos) (tOp (rIn K true) ta tb) (dOp fNotIn da db) := q_cmp (r := fun K => rIn K true) op_notIn_seq rvNotIn hm ha hb
theorem qt_notin (ha : QB X K W a ta da) (hb : QB X K W b tb db) (hm : behindInMarks .NotIn b = false := by rfl) : QT X K W (.Compare a [.NotIn] [b] pos) (tTest (tOp (rIn K true) ta tb)) (dTest (dOp fNotIn da db)) := qt_cmp (r := fun K => rIn K true) op_notIn_seq rvNotIn hm ha hb
theorem q_chain {op op' : CmpOp} {r r' : R2} {f g : D → D → Option D} (ho : OpR X (compareOp op) r) (ho' : OpR X (compareOp op') r') (hr : RV K r f) (hr' : RV K r' g) (ha : QB X K W a ta da) (hb : QB X K W b tb db) (hc : QB X K W c tc dc) (hm : lastMarks [op, op'] [b, c] = false := by rfl) : QB X K W (.Compare a [op, op'] [b, c] pos) (tChain r r' ta tb tc) (dChain f g da db dc) := ⟨ha.hk, pe_chain ho ho' ha.p hb.p hc.p hm, jChain hr hr' ha.j hb.j hc.j⟩
theorem qt_chain {op op' : CmpOp} {r r' : R2} {f g : D → D → Option D} (ho : OpR X (compareOp op) r) (ho' : OpR X (compareOp op') r') (hr : RV K r f) (hr' : RV K r' g) (ha : QB X K W a ta da) (hb : QB X K W b tb db) (hc : QB X K W c tc dc) (hm : lastMarks [op, op'] [b, c] = false := by rfl) : QT X K W (.Compare a [op, op'] [b, c] pos) (tTest (tChain r r' ta tb tc)) (dTest (dChain f g da db dc)) := ⟨ha.hk, pt_chain ho ho' ha.p hb.p hc.p hm, jTest (jChain hr hr' ha.j hb.j hc.j)⟩
/-! and, or, not -/
theorem qt_val (h : QB X K W e te de) (he : ∀ whole, isTrue e X.env whole = (do let v ← whole; standAt e.pos; holding [v] (truthy v)) := by intro _; rfl) : QT X K W e (tB te) (dTest de) := ⟨h.hk, pt_val h.p he, jTB h.j⟩
theorem qt_tru (h : QB X K W e te de) (he : ∀ whole, isTrue e X.env whole = (do let v ← whole; standAt e.pos; holding [v] (truthy v)) := by intro _; rfl) : QT X K W e (tTruth K te) (dTruth de) := by
  obtain ⟨rfl, pa, ja⟩ := h
  exact ⟨rfl, pt_truth pa he, jTruth ja⟩
theorem qw_pt (h : QW X K W e tt dt) : QT X K W e tt dt := ⟨h.hk, h.p.pt, h.j⟩
theorem qw_and1 (h : QT X K W a tt dt) : QW X K W (.BoolOp .And [a] pos) tt dt := ⟨h.hk, pw_and1 h.p, h.j⟩
theorem qw_or1 (h : QT X K W a tt dt) : QW X K W (.BoolOp .Or [a] pos) tt dt := ⟨h.hk, pw_or1 h.p, h.j⟩
theorem qw_and (h : QT X K W a tt dt) (g : QW X K W (.BoolOp .And (b :: es) pos) tu du) : QW X K W (.BoolOp .And (a :: b :: es) pos) (tAnd tt tu) (dAnd dt du) := ⟨h.hk, pw_and h.p g.p, jAnd h.j g.j⟩
theorem qw_or (h : QT X K W a tt dt) (g : QW X K W (.BoolOp .Or (b :: es) pos) tu du) : QW X K W (.BoolOp .Or (a :: b :: es) pos) (tOr tt tu) (dOr dt du) := ⟨h.hk, pw_or h.p g.p, jOr h.j g.j⟩
theorem qt_not (h : QT X K W a tt dt) : QT X K W (.UnaryOp .Not a pos) (tNot tt) (dNot dt) := ⟨h.hk, pt_not h.p, jNot h.j⟩
theorem q_one {op} (h : QB X K W a ta da) : QB X K W (.BoolOp op [a] pos) ta da := ⟨h.hk, pe_one h.p, h.j⟩
theorem q_and (h : QB X K W a ta da) (g : QB X K W (.BoolOp .And (b :: es) pos) tb db) : QB X K W (.BoolOp .And (a :: b :: es) pos) (tAndV ta tb) (dAndV da db) := ⟨h.hk, pe_and h.p g.p, jAndV h.j g.j⟩
theorem q_or (h : QB X K W a ta da) (g : QB X K W (.BoolOp .Or (b :: es) pos) tb db) : QB X K W (.BoolOp .Or (a :: b :: es) pos) (tOrV ta tb) (dOrV da db) := ⟨h.hk, pe_or h.p g.p, jOrV h.j g.j⟩
theorem q_not (h : QB X K W a ta da) : QB X K W (.UnaryOp .Not a pos) (tNotV ta) (dNotV da) := ⟨h.hk, pe_not h.p, jNotV h.j⟩
theorem q_ife (h : QT X K W c tt dt) (ha : QB X K W a ta da) (hb : QB X K W b tb db) : QB X K W (.IfExp c a b pos) (tIf tt ta tb) (dIf dt da db) := ⟨h.hk, pe_ifExp h.p ha.p hb.p, jIfE h.j ha.j hb.j⟩
theorem qc_ife (h : QT X K W c tt dt) (ha : QC X K W a ta ca) (hb : QC X K W b tb cb) : QC X K W (.IfExp c a b pos) (tIf tt ta tb) (dIf dt ca cb) := ⟨h.hk, pe_ifExp h.p ha.p hb.p, jIf h.j ha.j hb.j⟩
/-! places, slices -/
theorem q_ix (ha : QB X K W a ta da) (hb : QB X K W b tb db) (hs : PlainIx b := by exact fun _ _ => rfl) : QB X K W (.Subscript a b pos) (tOp (rIx K) ta tb) (dOp fIx da db) := by
  obtain ⟨rfl, pa, ja⟩ := ha
  exact ⟨rfl, pe_ix ix_seq pa hb.p hs, jOp rvIx ja hb.j⟩
variable {o1 o2 : Option Expr} {tl th : TO} {dl dh : DO}
theorem qo_none (hk : X.K = K := by rfl) : QO X K W none tNoPart oNone := ⟨hk, po_none, joNone⟩
theorem qo_some (h : QB X K W a ta da) : QO X K W (some a) (tPart ta) (oSome da) := ⟨h.hk, po_some h.p, joSome h.j⟩
theorem q_slice (ha : QB X K W a ta da) (hl : QO X K W o1 tl dl) (hh : QO X K W o2 th dh) : QC X K W (.Subscript a (.Slice o1 o2 none p) pos) (tSl (rSlU K) ta tl th) (cSlice da dl dh) := by
  obtain ⟨rfl, pa, ja⟩ := ha
  exact ⟨rfl, pe_slice sl_U pa hl.p hh.p, jcSlice ja hl.j hh.j⟩
/-! arguments, displays -/
theorem qa_nil (hk : X.K = K := by rfl) : QA X K W [] tNil dNil := ⟨hk, pa_nil, jNil⟩
theorem qa_cons (h : QB X K W a ta da) (r : QA X K W es t dA) (hs : starEach (a :: es) X.env = (false, eval a X.env) :: starEach es X.env := by rfl) : QA X K W (a :: es) (tCons ta t) (dCons da dA) := ⟨h.hk, pa_cons h.p r.p hs, jCons h.j r.j⟩
theorem ql_nil (hk : X.K = K := by rfl) : QL X K W [] tNil cNil := ⟨hk, pa_nil, jcNil⟩
theorem ql_cons (h : QC X K W a ta ca) (r : QL X K W es t dL) (hs : starEach (a :: es) X.env = (false, eval a X.env) :: starEach es X.env := by rfl) : QL X K W (a :: es) (tCons ta t) (cCons ca dL) := ⟨h.hk, pa_cons h.p r.p hs, jcCons h.j r.j⟩
theorem q_lst (h : QL X K W es t dL) : QC X K W (.List es pos) (tLst t) (cLst dL) := ⟨h.hk, pe_lst h.p, jcLst h.j⟩
theorem q_tup {x1} (h : QL X K W es t dL) : QC X K W (.Tuple es x1 pos) (tTup t) (cTup dL) := ⟨h.hk, pe_tup h.p, jcTup h.j⟩
/-! builtins -/
theorem q_cb {id : String} {r : PySem.W.Frag → List V → Hp → VK → Prop} {f : List D → Option D} (hc : CallR X (.builtin id) (r X.K)) (hf : RCL K (r K) f) (hv : bootBuiltins x = some (.builtin id)) (hg : Gl X x) (hm : X.mg x = none) (h : QA X K W (e :: es) t dA) (hn : x ≠ "__name__" := by decide) (hdb : (x == ("__debug__" : Str)) = false := by decide)
    (he : starEach (e :: es) X.env = (false, eval e X.env) :: starEach es X.env := by rfl) (hpl : (backTo pos (starEach es X.env)).any (·.1) = false := by rfl) : QB X K W (.Call (.Name x p) (e :: es) [] pos) (tCB (r K) t) (dCB f dA) := by
  obtain ⟨rfl, pa, ja⟩ := h
  exact ⟨rfl, pe_callB hc hg hm hv pa hn hdb he hpl, jCB hf ja⟩
theorem q_ty {T : String} {r : PySem.W.Frag → List V → Hp → VK → Prop} {f : List D → Option D} (hc : CallR X (.type T) (r X.K)) (hf : RCL K (r K) f) (hv : bootBuiltins x = some (.type T)) (hg : Gl X x) (hm : X.mg x = none) (h : QA X K W (e :: es) t dA) (hn : x ≠ "__name__" := by decide) (hdb : (x == ("__debug__" : Str)) = false := by decide)
    (he : starEach (e :: es) X.env = (false, eval e X.env) :: starEach es X.env := by rfl) (hpl : (backTo pos (starEach es X.env)).any (·.1) = false := by rfl) : QB X K W (.Call (.Name x p) (e :: es) [] pos) (tCB (r K) t) (dCB f dA) := by
  obtain ⟨rfl, pa, ja⟩ := h
  exact ⟨rfl, pe_callTy hc hg hm hv pa hn hdb he hpl, jCB hf ja⟩

abbrev cpLen : CallR X (.builtin "len") (rLenU X.K) := call_lenU
theorem q_len (hg : Gl X "len") (hm : X.mg "len" = none) (h : QA X K W (e :: es) t dA) (he : starEach (e :: es) X.env = (false, eval e X.env) :: starEach es X.env := by rfl) (hpl : (backTo pos (starEach es X.env)).any (·.1) = false := by rfl) : QB X K W (.Call (.Name "len" p) (e :: es) [] pos) (tCB (rLenU K) t) (dCB fLen dA) := q_cb (r := rLenU) call_lenU rclLen boot_len hg hm h (he := he) (hpl := hpl)
theorem q_abs (hg : Gl X "abs") (hm : X.mg "abs" = none) (h : QA X K W (e :: es) t dA) (he : starEach (e :: es) X.env = (false, eval e X.env) :: starEach es X.env := by rfl) (hpl : (backTo pos (starEach es X.env)).any (·.1) = false := by rfl) : QB X K W (.Call (.Name "abs" p) (e :: es) [] pos) (tCB rAbs t) (dCB fAbs dA) := q_cb (r := fun _ => rAbs) call_abs rclAbs (by rfl) hg hm h (he := he) (hpl := hpl)
theorem q_max2 (hc : X.calm = true) (hg : Gl X "max") (hm : X.mg "max" = none) (h : QA X K W (e :: es) t dA) (he : starEach (e :: es) X.env = (false, eval e X.env) :: starEach es X.env := by rfl) (hpl : (backTo pos (starEach es X.env)).any (·.1) = false := by rfl) : QB X K W (.Call (.Name "max" p) (e :: es) [] pos) (tCB rMax2 t) (dCB fMax2 dA) := q_cb (r := fun _ => rMax2) (call_max2 hc) rclMax2 (by rfl) hg hm h (he := he) (hpl := hpl)
theorem q_min2 (hc : X.calm = true) (hg : Gl X "min") (hm : X.mg "min" = none) (h : QA X K W (e :: es) t dA) (he : starEach (e :: es) X.env = (false, eval e X.env) :: starEach es X.env := by rfl) (hpl : (backTo pos (starEach es X.env)).any (·.1) = false := by rfl) : QB X K W (.Call (.Name "min" p) (e :: es) [] pos) (tCB rMin2 t) (dCB fMin2 dA) := q_cb (r := fun _ => rMin2) (call_min2 hc) rclMin2 (by rfl) hg hm h (he := he) (hpl := hpl)
theorem q_int1 (hg : Gl X "int") (hm : X.mg "int" = none) (h : QA X K W (e :: es) t dA) (he : starEach (e :: es) X.env = (false, eval e X.env) :: starEach es X.env := by rfl) (hpl : (backTo pos (starEach es X.env)).any (·.1) = false := by rfl) : QB X K W (.Call (.Name "int" p) (e :: es) [] pos) (tCB rInt1 t) (dCB fInt1 dA) := q_ty (r := fun _ => rInt1) call_int1 rclInt1 (by rfl) hg hm h (he := he) (hpl := hpl)
theorem q_strI (hg : Gl X "str") (hm : X.mg "str" = none) (h : QA X K W (e :: es) t dA) (he : starEach (e :: es) X.env = (false, eval e X.env) :: starEach es X.env := by rfl) (hpl : (backTo pos (starEach es X.env)).any (·.1) = false := by rfl) : QB X K W (.Call (.Name "str" p) (e :: es) [] pos) (tCB rStrI t) (dCB fStrI dA) := q_ty (r := fun _ => rStrI) call_str_int rclStrI (by rfl) hg hm h (he := he) (hpl := hpl)
theorem q_list (hg : Gl X "list") (hm : X.mg "list" = none) (h : QA X K W (e :: es) t dA) (he : starEach (e :: es) X.env = (false, eval e X.env) :: starEach es X.env := by rfl) (hpl : (backTo pos (starEach es X.env)).any (·.1) = false := by rfl) : QC X K W (.Call (.Name "list" p) (e :: es) [] pos) (tCB (rListO K) t) (cListOf dA) := by
  obtain ⟨rfl, pa, ja⟩ := h
  exact ⟨rfl, pe_callTy call_list_of hg hm (by rfl) pa (by decide) (by decide) he hpl, jcListOf ja⟩
theorem q_tuple (hg : Gl X "tuple") (hm : X.mg "tuple" = none) (h : QA X K W (e :: es) t dA) (he : starEach (e :: es) X.env = (false, eval e X.env) :: starEach es X.env := by rfl) (hpl : (backTo pos (starEach es X.env)).any (·.1) = false := by rfl) : QC X K W (.Call (.Name "tuple" p) (e :: es) [] pos) (tCB (rTupO K) t) (cTupOf dA) := by
  obtain ⟨rfl, pa, ja⟩ := h
  exact ⟨rfl, pe_callTy call_tuple_of hg hm (by rfl) pa (by decide) (by decide) he hpl, jcTupOf ja⟩
theorem q_isi {T : Str} {s : String} (hg : Gl X "isinstance") (hm : X.mg "isinstance" = none) (hgT : Gl X T) (hmT : X.mg T = none) (hv : bootBuiltins T = some (.type s)) (ha : QB X K W a ta da) (hn : T ≠ "__name__" := by decide) (hdb : (T == ("__debug__" : Str)) = false := by decide)
    (hs : starEach [a, .Name T p2] X.env = (false, eval a X.env) :: starEach [.Name T p2] X.env := by rfl) (hpl : (backTo pos (starEach [.Name T p2] X.env)).any (·.1) = false := by rfl) : QB X K W (.Call (.Name "isinstance" p) [a, .Name T p2] [] pos) (tCB (rIsi K) (tCons ta (tCons (tC (.ty s)) tNil))) (dIsi s da) := by
  obtain ⟨rfl, pa, ja⟩ := ha
  exact ⟨rfl, pe_callB call_isi hg hm (by rfl) (pa_cons pa (pa_cons (pe_bltn hgT hmT hv rfl hn hdb) pa_nil (by rfl)) hs) (by decide) (by decide) hs hpl, jIsi ja⟩
/-! own calls -/
theorem q_call {cl : Str → Value} {Wx : WX} {k n : Nat} {f : Addr} {fd : FuncData} {ps : List Str} {df : DF} (tk : Takes X Wx) (F : FnOk X.prog X.w X.K X.mg X.base (L2.CX X.prog X.w) k f fd ps (spD K cl n df)) (hr : Room k X.A) (hm : X.mg x = some (.ref f)) (kp : PySem.W.keepIn X.K (.ref f) = true) (hb : Binds X.K fd ps [])
    (hn : ∀ ds, df ds ≠ none → ds.length = n) (hg : Gl X x) (h : QA X K (wOf cl Wx) (e :: es) t dA) (hdb : (x == ("__debug__" : Str)) = false := by decide) (he : starEach (e :: es) X.env = (false, eval e X.env) :: starEach es X.env := by rfl) (hpl : (backTo pos (starEach es X.env)).any (·.1) = false := by rfl) :
    QC X K (wOf cl Wx) (.Call (.Name x p) (e :: es) [] pos) (tCallS (spD K cl n df) (WE Wx) t) (cCall df dA) := by
  obtain ⟨rfl, pa, ja⟩ := h
  exact ⟨rfl, pe_callS F hr hg hm kp hb (fun σ => passAt tk σ) pa hdb he hpl, jcCall hn ja⟩
/-! targets -/
theorem qg_name (i : Nat) (hk : X.K = K := by rfl) (hN : X.N.Nodup) (hi : X.N[i]? = some x := by rfl) (hx : Loc X.env.scope x := by first | exact Or.inl rfl | exact Or.inr rfl) (hf : X.fn x = true ∨ X.env.scope.names.lookup x = some .local := by first | exact .inl rfl | exact .inr rfl) : QG X K (.Name x pos) (gName i) (tgN i) [i] := ⟨hk, pg_name hN hi hx hf, jgN⟩
theorem qgs_nil (hk : X.K = K := by rfl) : QGs X K [] [] := ⟨hk, pgs_nil⟩
theorem qgs_cons (i : Nat) {is : List Nat} (hN : X.N.Nodup) (r : QGs X K es is) (hi : X.N[i]? = some x := by rfl) (hx : Loc X.env.scope x := by first | exact Or.inl rfl | exact Or.inr rfl) (hf : X.fn x = true ∨ X.env.scope.names.lookup x = some .local := by first | exact .inl rfl | exact .inr rfl) : QGs X K (.Name x pos :: es) (i :: is) := ⟨r.hk, pgs_cons (pg_name hN hi hx hf) r.p⟩
end
end Dv

namespace Dv
open PySem L2 Evl

section
variable {X : Cx} {K : PySem.W.Frag} {W : WW} {x y : Str} {i : Nat} {p p2 pos spos : Pos} {a b c e elt tg src : Expr} {es ifs : List Expr} {ta tb tc te : TE} {da db dc de : DE D} {ca cb : DE (D × Ow)} {tt tu : TT} {dt du : DE Bool} {t : TA} {dA : DE (List D)} {dL : DE (List D × Bool)} {g : TG} {tgd : DT} {ow : List Nat}
theorem qg_tup {k n : Nat} {is : List Nat} (hc : X.calm = true) (h : QGs X K es is) (hn : is.length = n := by rfl) (h1 : (assignEach es X.env).length = n := by rfl) (h2 : List.findIdx? (fun x => x.fst) (assignEach es X.env) = none := by rfl) : QG X K (.Tuple es k pos) (gTup K n (gNs is)) (tgT is) is := by
  obtain ⟨rfl, pg⟩ := h
  exact ⟨rfl, pg_tup hc pg h1 h2, jgT hn⟩
theorem qts_nil (hk : X.K = K := by rfl) : QTs X K W [] tYes (fun s => some (.ok true s)) := ⟨hk, pts_nil, by
  intro s r e B H σ Fs R0 Q p
  cases e
  exact Post.here R0 ⟨rfl, rfl⟩ p⟩
theorem qts_one (h : QT X K W c tt dt) : QTs X K W [c] tt dt := ⟨h.hk, pts_one h.p, h.j⟩
/-! comprehensions -/
abbrev blkX (X : Cx) (scope : Scope) (s : Shared) (H : Hp) (C : Addr) (cl : List (Str × Addr)) (fp : List Addr) : Cx := X.blk s H scope (compEnvC scope cl C X.env) fp
section
variable {scope : Scope} {own : List (Str × Nat)}
theorem q_lc (m : Bool) (hc : X.calm = true) (hN : X.N.Nodup) (hs : QB X K W src ta da) (ok : BlkOk X.N X.env.scope scope own) (hg : ∀ s H C cl fp, QG (blkX X scope s H C cl fp) K tg g tgd (own.map (·.2))) (ht : ∀ s H C cl fp, QTs (blkX X scope s H C cl fp) K W0 ifs tt dt) (he : ∀ s H C cl fp, QC (blkX X scope s H C cl fp) K W0 elt te ca)
    (hf : ∀ x, foldedSetIterable src X.env x = pure x := by intro _; rfl) : QC X K W (.ListComp elt [⟨tg, src, ifs, 0⟩] scope pos) (tLc (iSq K ta) g tt te (own.map (·.2))) (cComp m tgd (own.map (·.2)) da dt ca) := by
  obtain ⟨rfl, ps, js⟩ := hs
  exact ⟨rfl, pe_lc hc hN (pi_or2 (pi_list ps) (pi_tup ps)) ok (fun s H C cl fp => (hg s H C cl fp).p) (fun s H C cl fp => (ht s H C cl fp).p) (fun s H C cl fp => (he s H C cl fp).p) hf,
    jcComp js (hg X.s_0 X.H_0 0 [] []).j (ht X.s_0 X.H_0 0 [] []).j (he X.s_0 X.H_0 0 [] []).j⟩
theorem q_lc1 (m : Bool) (hc : X.calm = true) (hN : X.N.Nodup) (hg0 : Gl X "range") (hm : X.mg "range" = none) (hs : QA X K W [a] t dA) (ok : BlkOk X.N X.env.scope scope own) (hg : ∀ s H C cl fp, QG (blkX X scope s H C cl fp) K tg g tgd (own.map (·.2))) (ht : ∀ s H C cl fp, QTs (blkX X scope s H C cl fp) K W0 ifs tt dt) (he : ∀ s H C cl fp, QC (blkX X scope s H C cl fp) K W0 elt te ca)
    (h1 : starEach [a] X.env = [(false, eval a X.env)] := by rfl) (hf : ∀ x, foldedSetIterable (.Call (.Name "range" p) [a] [] p2) X.env x = pure x := by intro _; rfl) : QC X K W (.ListComp elt [⟨tg, .Call (.Name "range" p) [a] [] p2, ifs, 0⟩] scope pos) (tLc (iRng1 t) g tt te (own.map (·.2))) (cCmpR m tgd (own.map (·.2)) dA dt ca) :=
  ⟨hs.hk, pe_lc hc hN (pi_range1 hg0 hm hs.p h1) ok (fun s H C cl fp => (hg s H C cl fp).p) (fun s H C cl fp => (ht s H C cl fp).p) (fun s H C cl fp => (he s H C cl fp).p) hf,
    jcCompR1 hs.j (hg X.s_0 X.H_0 0 [] []).j (ht X.s_0 X.H_0 0 [] []).j (he X.s_0 X.H_0 0 [] []).j⟩
theorem q_lc2 (m : Bool) (hc : X.calm = true) (hN : X.N.Nodup) (hg0 : Gl X "range") (hm : X.mg "range" = none) (hs : QA X K W [a, b] t dA) (ok : BlkOk X.N X.env.scope scope own) (hg : ∀ s H C cl fp, QG (blkX X scope s H C cl fp) K tg g tgd (own.map (·.2))) (ht : ∀ s H C cl fp, QTs (blkX X scope s H C cl fp) K W0 ifs tt dt) (he : ∀ s H C cl fp, QC (blkX X scope s H C cl fp) K W0 elt te ca)
    (h1 : starEach [a, b] X.env = [(false, eval a X.env), (false, eval b X.env)] := by rfl) (h2 : starEach [b] X.env = [(false, eval b X.env)] := by rfl) (hf : ∀ x, foldedSetIterable (.Call (.Name "range" p) [a, b] [] p2) X.env x = pure x := by intro _; rfl) : QC X K W (.ListComp elt [⟨tg, .Call (.Name "range" p) [a, b] [] p2, ifs, 0⟩] scope pos) (tLc (iRng2 t) g tt te (own.map (·.2))) (cCmpR2 m tgd (own.map (·.2)) dA dt ca) :=
  ⟨hs.hk, pe_lc hc hN (pi_range2 hg0 hm hs.p h1 h2) ok (fun s H C cl fp => (hg s H C cl fp).p) (fun s H C cl fp => (ht s H C cl fp).p) (fun s H C cl fp => (he s H C cl fp).p) hf,
    jcCompR2 hs.j (hg X.s_0 X.H_0 0 [] []).j (ht X.s_0 X.H_0 0 [] []).j (he X.s_0 X.H_0 0 [] []).j⟩
/-! a comprehension stored on one line -/
theorem qs_lc (m : Bool) (i : Nat) (hc : X.calm = true) (hN : X.N.Nodup) (hs : QB X K W src ta da) (ok : BlkOk X.N X.env.scope scope own) (hg : ∀ s H C cl fp, QG (blkX X scope s H C cl fp) K tg g tgd (own.map (·.2))) (ht : ∀ s H C cl fp, QTs (blkX X scope s H C cl fp) K W0 ifs tt dt) (he : ∀ s H C cl fp, QC (blkX X scope s H C cl fp) K W0 elt te ca)
    (hy : X.N[i]? = some y := by rfl) (hyl : X.env.scope.names.lookup y = some .local := by rfl) (hsw : swapsWith (.ListComp elt [⟨tg, src, ifs, 0⟩] scope pos) (some (.Name y p)) spos.line X.env = pure true := by rfl) (hf : ∀ x, foldedSetIterable src X.env x = pure x := by intro _; rfl) :
    QS X K W (.Assign [.Name y p] (.ListComp elt [⟨tg, src, ifs, 0⟩] scope pos) spos) (tAsg (tLc (iSq K ta) g tt te (own.map (·.2))) (gName i)) (sSet i (cComp m tgd (own.map (·.2)) da dt ca)) := by
  obtain ⟨rfl, ps, js⟩ := hs
  exact ⟨rfl, ps_setLc hc hN hy hyl hsw (pi_or2 (pi_list ps) (pi_tup ps)) ok (fun s H C cl fp => (hg s H C cl fp).p) (fun s H C cl fp => (ht s H C cl fp).p) (fun s H C cl fp => (he s H C cl fp).p) hf,
    jsSet (jcComp js (hg X.s_0 X.H_0 0 [] []).j (ht X.s_0 X.H_0 0 [] []).j (he X.s_0 X.H_0 0 [] []).j)⟩
theorem qs_lc1 (m : Bool) (i : Nat) (hc : X.calm = true) (hN : X.N.Nodup) (hg0 : Gl X "range") (hm : X.mg "range" = none) (hs : QA X K W [a] t dA) (ok : BlkOk X.N X.env.scope scope own) (hg : ∀ s H C cl fp, QG (blkX X scope s H C cl fp) K tg g tgd (own.map (·.2))) (ht : ∀ s H C cl fp, QTs (blkX X scope s H C cl fp) K W0 ifs tt dt) (he : ∀ s H C cl fp, QC (blkX X scope s H C cl fp) K W0 elt te ca)
    (hy : X.N[i]? = some y := by rfl) (hyl : X.env.scope.names.lookup y = some .local := by rfl) (hsw : swapsWith (.ListComp elt [⟨tg, .Call (.Name "range" p2) [a] [] pos2, ifs, 0⟩] scope pos) (some (.Name y p)) spos.line X.env = pure true := by rfl) (h1 : starEach [a] X.env = [(false, eval a X.env)] := by rfl) (hf : ∀ x, foldedSetIterable (.Call (.Name "range" p2) [a] [] pos2) X.env x = pure x := by intro _; rfl) :
    QS X K W (.Assign [.Name y p] (.ListComp elt [⟨tg, .Call (.Name "range" p2) [a] [] pos2, ifs, 0⟩] scope pos) spos) (tAsg (tLc (iRng1 t) g tt te (own.map (·.2))) (gName i)) (sSet i (cCmpR m tgd (own.map (·.2)) dA dt ca)) :=
  ⟨hs.hk, ps_setLc hc hN hy hyl hsw (pi_range1 hg0 hm hs.p h1) ok (fun s H C cl fp => (hg s H C cl fp).p) (fun s H C cl fp => (ht s H C cl fp).p) (fun s H C cl fp => (he s H C cl fp).p) hf,
    jsSet (jcCompR1 hs.j (hg X.s_0 X.H_0 0 [] []).j (ht X.s_0 X.H_0 0 [] []).j (he X.s_0 X.H_0 0 [] []).j)⟩
theorem qs_lc2 (m : Bool) (i : Nat) (hc : X.calm = true) (hN : X.N.Nodup) (hg0 : Gl X "range") (hm : X.mg "range" = none) (hs : QA X K W [a, b] t dA) (ok : BlkOk X.N X.env.scope scope own) (hg : ∀ s H C cl fp, QG (blkX X scope s H C cl fp) K tg g tgd (own.map (·.2))) (ht : ∀ s H C cl fp, QTs (blkX X scope s H C cl fp) K W0 ifs tt dt) (he : ∀ s H C cl fp, QC (blkX X scope s H C cl fp) K W0 elt te ca)
    (hy : X.N[i]? = some y := by rfl) (hyl : X.env.scope.names.lookup y = some .local := by rfl) (hsw : swapsWith (.ListComp elt [⟨tg, .Call (.Name "range" p2) [a, b] [] pos2, ifs, 0⟩] scope pos) (some (.Name y p)) spos.line X.env = pure true := by rfl) (h1 : starEach [a, b] X.env = [(false, eval a X.env), (false, eval b X.env)] := by rfl) (h2 : starEach [b] X.env = [(false, eval b X.env)] := by rfl) (hf : ∀ x, foldedSetIterable (.Call (.Name "range" p2) [a, b] [] pos2) X.env x = pure x := by intro _; rfl) :
    QS X K W (.Assign [.Name y p] (.ListComp elt [⟨tg, .Call (.Name "range" p2) [a, b] [] pos2, ifs, 0⟩] scope pos) spos) (tAsg (tLc (iRng2 t) g tt te (own.map (·.2))) (gName i)) (sSet i (cCmpR2 m tgd (own.map (·.2)) dA dt ca)) :=
  ⟨hs.hk, ps_setLc hc hN hy hyl hsw (pi_range2 hg0 hm hs.p h1 h2) ok (fun s H C cl fp => (hg s H C cl fp).p) (fun s H C cl fp => (ht s H C cl fp).p) (fun s H C cl fp => (he s H C cl fp).p) hf,
    jsSet (jcCompR2 hs.j (hg X.s_0 X.H_0 0 [] []).j (ht X.s_0 X.H_0 0 [] []).j (he X.s_0 X.H_0 0 [] []).j)⟩
end
/-! statements -/
variable {st : Stmt} {body orelse rest : List Stmt} {t1 t2 : TS} {d1 d2 : DS}
theorem qss_nil (hk : X.K = K := by rfl) : QSs X K W [] tNext sNext := ⟨hk, pss_nil, jsNext⟩
theorem qss_one (h : QS X K W st t1 d1) : QSs X K W [st] t1 d1 := ⟨h.hk, pss_one h.p, h.j⟩
theorem qss_cons (h : QS X K W st t1 d1) (r : QSs X K W rest t2 d2) : QSs X K W (st :: rest) (tSeq t1 t2) (sSeq d1 d2) := ⟨h.hk, pss_cons h.p r.p, jsSeq h.j r.j⟩
theorem qs_set (i : Nat) (hN : X.N.Nodup) (he : QC X K W e te ca) (hi : X.N[i]? = some x := by rfl) (hx : Loc X.env.scope x := by first | exact Or.inl rfl | exact Or.inr rfl) (hs : swapsWith e (some (.Name x p)) pos.line X.env = pure false := by rfl) (hf : X.fn x = true ∨ X.env.scope.names.lookup x = some .local := by first | exact .inl rfl | exact .inr rfl) :
    QS X K W (.Assign [.Name x p] e pos) (tAsg te (gName i)) (sSet i ca) := ⟨he.hk, ps_set hN hi hx he.p hs hf, jsSet he.j⟩
theorem qs_asg (he : QC X K W e te ca) (hg : QG X K tg g tgd ow) (hs : swapsWithSole [tg] e pos.line X.env = pure false := by rfl) (hw : swappedStores [tg] e X.env = pure none := by rfl) (h1 : List.map (fun x => x.snd) (assignEach [tg] X.env) = [assign tg X.env] := by rfl) : QS X K W (.Assign [tg] e pos) (tAsg te g) (sAsg tgd ca) := ⟨he.hk, ps_asg he.p hg.p hs hw h1, jsAsg he.j hg.j⟩
theorem qs_ret (he : QC X K W e te ca) : QS X K W (.Return (some e) pos) (tRet te) (sRet ca) := ⟨he.hk, ps_ret he.p, jsRet he.j⟩
theorem qs_retN (hk : X.K = K := by rfl) : QS X K W (.Return none pos) tRetN sRetN := ⟨hk, ps_retN, jsRetN⟩
theorem qs_expr (he : QB X K W e te de) (hs : swapsWith e none pos.line X.env = pure false := by rfl) : QS X K W (.Expr e pos) (tDrop te) (sDrop de) := ⟨he.hk, ps_expr he.p hs, jsDrop he.j⟩
theorem qs_if (h : QT X K W c tt dt) (ha : QSs X K W body t1 d1) (hb : QSs X K W orelse t2 d2) : QS X K W (.If c body orelse pos) (tIfS tt t1 t2) (sIf dt d1 d2) := ⟨h.hk, ps_if h.p ha.p hb.p, jsIf h.j ha.j hb.j⟩
theorem qs_brk (hk : X.K = K := by rfl) : QS X K W (.Break pos) tBreak sBrk := ⟨hk, ps_break, jsBrk⟩
theorem qs_cont (hk : X.K = K := by rfl) : QS X K W (.Continue pos) tCont sCont := ⟨hk, ps_continue, jsCont⟩
theorem qs_never (hk : X.K = K := by rfl) : QS X K W st tNever sNever := ⟨hk, ps_never, jsNever⟩
theorem qs_while (hp : PassesOwn (model X.prog X.w) X.A X.env X.xe) (h : QT X K W c tt dt) (hb : QSs X K W body t1 d1) : QS X K W (.While c body [] pos) (tWhile tt t1) (sWhile dt d1) := ⟨h.hk, ps_while hp h.p hb.p, jsWhile h.j hb.j⟩
theorem qs_for (hp : PassesOwn (model X.prog X.w) X.A X.env X.xe) (hc : X.calm = true) (hs : QC X K W src te ca) (hg : QG X K tg g tgd ow) (hb : QSs X K W body t1 d1) (hf : ∀ x, foldedSetIterable src X.env x = pure x := by intro _; rfl) : QS X K W (.For tg src body [] pos) (tFor (iSq K te) g t1) (sForC tgd ca d1) := by
  obtain ⟨rfl, ps, js⟩ := hs
  exact ⟨rfl, ps_for hp hc (pi_or2 (pi_list ps) (pi_tup ps)) hg.p hb.p hf, jsForC js hg.j hb.j⟩
theorem len_cons {ta : TE} {da : DE D} {l : DE (List D)} {s s1 : SD} {ds : List D} (e : dCons da l s = some (.ok ds s1)) {n : Nat} (h : ∀ s ds s1, l s = some (.ok ds s1) → ds.length = n) : ds.length = n + 1 := by
  unfold dCons bnd at e
  split at e
  · dsimp only at e
    split at e
    · rename_i e2
      cases e
      exact congrArg (· + 1) (h _ _ _ e2)
    · cases e
    · cases e
  · cases e
  · cases e
theorem len_nil {s s1 : SD} {ds : List D} (e : dNil s = some (.ok ds s1)) : ds.length = 0 := by
  cases e
  rfl
theorem qs_for1 (hp : PassesOwn (model X.prog X.w) X.A X.env X.xe) (hc : X.calm = true) (hg0 : Gl X "range") (hm : X.mg "range" = none) (hs : QB X K W a ta da) (hg : QG X K tg g tgd ow) (hb : QSs X K W body t1 d1) (h0 : starEach [a] X.env = [(false, eval a X.env)] := by rfl) : QS X K W (.For tg (.Call (.Name "range" p) [a] [] p2) body [] pos) (tFor (iRng1 (tCons ta tNil)) g t1) (sForR tgd (dCons da dNil) d1) :=
  ⟨hs.hk, ps_for hp hc (pi_range1 hg0 hm (pa_cons hs.p pa_nil h0) h0) hg.p hb.p, jsForR1 (jCons hs.j jNil) hg.j hb.j fun s ds s1 e => len_cons (ta := ta) e fun _ _ _ => len_nil⟩
theorem qs_for2 (hp : PassesOwn (model X.prog X.w) X.A X.env X.xe) (hc : X.calm = true) (hg0 : Gl X "range") (hm : X.mg "range" = none) (hs : QB X K W a ta da) (hs2 : QB X K W b tb db) (hg : QG X K tg g tgd ow) (hb : QSs X K W body t1 d1) (h0 : starEach [a, b] X.env = [(false, eval a X.env), (false, eval b X.env)] := by rfl) (h1 : starEach [b] X.env = [(false, eval b X.env)] := by rfl) :
    QS X K W (.For tg (.Call (.Name "range" p) [a, b] [] p2) body [] pos) (tFor (iRng2 (tCons ta (tCons tb tNil))) g t1) (sForR tgd (dCons da (dCons db dNil)) d1) :=
  ⟨hs.hk, ps_for hp hc (pi_range2 hg0 hm (pa_cons hs.p (pa_cons hs2.p pa_nil h1) (by rw [h0, h1])) h0 h1) hg.p hb.p, jsForR2 (jCons hs.j (jCons hs2.j jNil)) hg.j hb.j fun s ds s1 e => len_cons (ta := ta) e fun _ _ _ e => len_cons (ta := tb) e fun _ _ _ => len_nil⟩
end
/-! a def -/
def dFn (n N : Nat) (body : DS) : DF := fun ds => if ds.length = n then dDef N body ds else none
theorem dFn_len {n N : Nat} {body : DS} : ∀ ds, dFn n N body ds ≠ none → ds.length = n := fun ds h => by
  unfold dFn at h
  split at h
  · assumption
  · exact absurd rfl h
section
variable {P : Program} {w : World} {K : PySem.W.Frag} {mg : Str → Option Value} {base : Heap} {f : Addr} {fd : FuncData}
theorem q_def {cl : Str → Value} {x qual : Str} {pr : Arguments} {st : List Stmt} {scope : Scope} {N ps : List Str} {k : Nat} {d : DS} (F : FunD K x qual pr st scope [] [] f fd) (S : FnScope N ps scope) (hl : ps.length ≤ N.length)
    (h : ∀ (cdv : Value) (A : Around) (outer : List Env) (s : Shared) (H : Hp) (E : XK) (X : Cx), X = cxOf (L2.CX P w) P w K mg base N qual scope f cdv A outer s H E → Room k X.A → Takes X (fun cls d _ H => E cls d H) → PassesOwn (model X.prog X.w) X.A X.env X.xe → ∃ t, QSs X K (wOf cl fun cls d _ H => E cls d H) st t d) :
    FnOk P w K mg base (L2.CX P w) (k + 1) f fd ps (spD K cl ps.length (dFn ps.length N.length d)) := by
  refine F.ok S (fun vs H Q E h => spD_len h) (fun cdv A outer s H vs Q E hr sp => ?_)
  obtain ⟨t, q⟩ := h cdv A outer s H E _ rfl hr (takes_of rfl rfl rfl rfl) (passes_of rfl)
  refine ⟨t, q.p, def_ok hl q.j ?_⟩
  obtain ⟨B, ds, o, eB, r, el, ed, post⟩ := sp
  unfold dFn at ed
  rw [if_pos el] at ed
  exact ⟨B, ds, o, eB, r, el, ed, post⟩
end
end Dv

namespace Dv
open PySem L2 Evl

def blkB (N : List Str) (sc scope : Scope) (own : List (Str × Nat)) : Bool :=
  decide (scope.kind = .function) && (scope.names.all fun y => decide (scope.names.lookup y.1 = some y.2)) && (own.all fun p => decide (N[p.2]? = some p.1)) &&
    (scope.names.all fun y => decide (y.2 = .free → sc.names.lookup y.1 = some .cell ∨ sc.names.lookup y.1 = some .free)) &&
    scope.names.all fun y => decide (y.2 = .local ∨ y.2 = .cell → y.1 ∈ own.map (·.1) ∨ y.1 ∉ N)
theorem blkOk {N : List Str} {sc scope : Scope} {own : List (Str × Nat)} (h : blkB N sc scope own = true) : BlkOk N sc scope own := by
  unfold blkB at h
  simp only [Bool.and_eq_true, List.all_eq_true, decide_eq_true_eq] at h
  obtain ⟨⟨⟨⟨h1, h2⟩, h3⟩, h4⟩, h5⟩ := h
  exact ⟨h1, h2, h3, h4, h5⟩
/-- a def of the module that keeps its promise -/
structure Cal (P : Program) (w : World) (K : PySem.W.Frag) (mg : Str → Option Value) (base : Heap) (cl : Str → Value) (x : Str) (k n : Nat) (df : DF) : Prop where
  ex : ∃ (f : Addr) (fd : FuncData) (ps : List Str), FnOk P w K mg base (L2.CX P w) k f fd ps (spD K cl n df) ∧ mg x = some (.ref f) ∧ PySem.W.keepIn K (.ref f) = true ∧ Binds K fd ps []
def upOw (d : D) (ow : Ow) : Ow := match ow with
  | .top => match d with
    | .lst ds => if immL ds = true then .full else .top
    | _ => .top
  | o => o
def cUp (c : DE (D × Ow)) : DE (D × Ow) := fun s => match c s with
  | some (.ok (d, ow) s1) => some (.ok (d, upOw d ow) s1)
  | some (.exc x s1) => some (.exc x s1)
  | none => none
theorem RS.up {K : PySem.W.Frag} {B H : Hp} {v : V} {d : D} {ow : Ow} {F : List Addr} (q : RS K B H v d ow F) : RS K B H v d (upOw d ow) F := by
  cases ow with
  | full => exact q
  | no => exact q
  | top =>
    have q0 := q
    obtain ⟨p, vs, ds, rfl, rfl, h, r, rfl⟩ := q
    by_cases hi : immL ds = true
    · have e : upOw (.lst ds) .top = .full := if_pos hi
      rw [e]
      exact Own.lst h (OwnL.imms r hi)
    · have e : upOw (.lst ds) .top = .top := if_neg hi
      rw [e]
      exact q0
theorem jUp {K : PySem.W.Frag} {W : WW} {te : TE} {c : DE (D × Ow)} (h : JC K W te c) : JC K W te (cUp c) := by
  intro s r e B H σ Fs R0 Q p
  unfold cUp at e
  cases e1 : c s with
  | none => rw [e1] at e; cases e
  | some r1 =>
    rw [e1] at e
    refine h s r1 e1 B H σ Fs R0 Q ?_
    cases r1 with
    | exc x s1 => cases e; exact p
    | ok z s1 =>
      obtain ⟨d, ow⟩ := z
      cases e
      exact fun v B' H' Fs' F x y z l q => p v B' H' Fs' F x y z l (RS.up q)
section
variable {X : Cx} {K : PySem.W.Frag} {x : Str} {i : Nat} {p p2 pos cpos apos : Pos} {a b c e : Expr} {es : List Expr} {ta tb tc te : TE} {da db dc de : DE D} {ca cb : DE (D × Ow)} {t : TA} {dA : DE (List D)} {W : WW}
theorem q_callC {cl : Str → Value} {Wx : WX} {k j n : Nat} {df : DF} (tk : Takes X Wx) (hr : Room j X.A) (C : Cal X.prog X.w X.K X.mg X.base cl x k n df) (hkj : k ≤ j) (hn : ∀ ds, df ds ≠ none → ds.length = n) (hg : Gl X x) (h : QA X K (wOf cl Wx) (e :: es) t dA)
    (hdb : (x == ("__debug__" : Str)) = false := by decide) (he : starEach (e :: es) X.env = (false, eval e X.env) :: starEach es X.env := by rfl) (hpl : (backTo pos (starEach es X.env)).any (·.1) = false := by rfl) :
    QC X K (wOf cl Wx) (.Call (.Name x p) (e :: es) [] pos) (tCallS (spD K cl n df) (WE Wx) t) (cCall df dA) := by
  have hk := h.hk
  subst hk
  obtain ⟨f, fd, ps, F, hm, kp, hb⟩ := C.ex
  exact q_call tk F (hr.mono hkj) hm kp hb hn hg h hdb he hpl
theorem qUp (h : QC X K W e te ca) : QC X K W e te (cUp ca) := ⟨h.hk, h.p, jUp h.j⟩
/-- within a comprehension nothing is raised -/
theorem q_callC0 {cl : Str → Value} {k j n : Nat} {df : DF} (hr : Room j X.A) (C : Cal X.prog X.w X.K X.mg X.base cl x k n df) (hkj : k ≤ j) (hn : ∀ ds, df ds ≠ none → ds.length = n) (hg : Gl X x) (h : QA X K W0 (e :: es) t dA)
    (hdb : (x == ("__debug__" : Str)) = false := by decide) (he : starEach (e :: es) X.env = (false, eval e X.env) :: starEach es X.env := by rfl) (hpl : (backTo pos (starEach es X.env)).any (·.1) = false := by rfl) :
    QC X K W0 (.Call (.Name x p) (e :: es) [] pos) (tCallS (spD K cl n df) (WE fun _ _ _ _ => False) t) (cCall df dA) :=
  q_callC (Wx := fun _ _ _ _ => False) L2.takes0 hr C hkj hn hg h hdb he hpl
theorem qs_app (i : Nat) (ho : QB X K W a (tVar i) (dVar i)) (he : QC X K W e te ca) (h1 : attributeBase a "append" X.env (eval a X.env) = eval a X.env := by rfl)
    (h2 : (((List.all (backTo cpos (starEach [e] X.env)) fun x => !Prod.fst x) && List.all (backToKw cpos (keywordEach [] X.env)) fun x => Option.isSome (Prod.fst x)) && decide ((List.length [e] + List.length ([] : List Keyword) + if List.isEmpty ([] : List Keyword) = true then 0 else 1) < 30)) = true := by rfl)
    (h3 : (apos.endLine == cpos.line) = true := by rfl) (h4 : starEach [e] X.env = (false, eval e X.env) :: starEach [] X.env := by rfl) (hs : swapsWith (.Call (.Attribute a "append" apos) [e] [] cpos) none pos.line X.env = pure false := by rfl) :
    QS X K W (.Expr (.Call (.Attribute a "append" apos) [e] [] cpos) pos) (tApp K (tVar i) te) (sApp i ca) := by
  obtain ⟨rfl, pa, ja⟩ := ho
  exact ⟨rfl, ps_expr (pe_bm PySem.F.plainAttrs_list PySem.F.slot_list_append PySem.F.type_list_append mt_append pa (pa_cons he.p pa_nil h4) h1 h2 h3 h4 (by rfl)) hs, jsApp he.j⟩
end
section
variable {P : Program} {w : World} {K : PySem.W.Frag} {mg : Str → Option Value} {base : Heap} {f : Addr} {fd : FuncData}
theorem Cal.def_ {cl : Str → Value} {x qual : Str} {pr : Arguments} {st : List Stmt} {scope : Scope} {N ps : List Str} {k : Nat} {d : DS} (F : FunD K x qual pr st scope [] [] f fd) (hm : mg x = some (.ref f)) (S : FnScope N ps scope) (hl : ps.length ≤ N.length)
    (hb : ∀ (kV doc pm : Value) (an : Option Addr) (cdv ct : Value) (us : List Value), us.length = ps.length → bindArgs (PySem.W.fnOf x qual pr st scope .none kV doc pm an cdv ct) ⟨us, []⟩ = pure (ps.zip us))
    (h : ∀ (cdv : Value) (A : Around) (outer : List Env) (s : Shared) (H : Hp) (E : XK) (X : Cx), X = cxOf (L2.CX P w) P w K mg base N qual scope f cdv A outer s H E → Room k X.A → Takes X (fun cls d _ H => E cls d H) → PassesOwn (model X.prog X.w) X.A X.env X.xe → ∃ t, QSs X K (wOf cl fun cls d _ H => E cls d H) st t d) :
    Cal P w K mg base cl x (k + 1) ps.length (dFn ps.length N.length d) :=
  ⟨f, fd, ps, q_def F S hl h, hm, F.kp, F.bindsN hb⟩
theorem cx_no {H : Hp} {s : Shared} {e : Value} {s' : Shared} (h : L2.CX P w [] H s (fun _ _ _ => False) e s') : False := by
  obtain ⟨_, _, _, _, _, _, _, _, _, _, _, _, z⟩ := h
  exact z
/-- the script as it comes -/
theorem sc_re {H : Hp} {a : Addr} {ns : List Int} (hO : L2.Only H) (hS : SqL K H a (ns.map V.int)) (B : Hp) : ReL K B H [.ref a] [.sc (ns.map D.int)] := by
  have hI : ReL K B H (ns.map V.int) (ns.map D.int) := by
    clear hS
    induction ns with
    | nil => exact .nil
    | cons n ns ih => exact .cons (.int n) ih
  refine .cons (.sc ?_ hI) .nil
  rcases hS with h | h
  · rcases h with h | h
    · rcases hO a with e | ⟨o, xs, e⟩
      · rw [e] at h; cases h
      · rw [e] at h; cases h
    · exact .inl h
  · exact .inr h
theorem law_sp {cl : Str → Value} {H : Hp} {a : Addr} {ns : List Int} {df : DF} {ow : Ow} (hO : L2.Only H) (hS : SqL K H a (ns.map V.int)) (e : df [.sc (ns.map D.int)] = some (.ret (.bl true) ow)) :
    spD K cl 1 df [.ref a] H (fun v _ => v = .bl true) fun _ _ _ => False := by
  refine ⟨fun _ => none, [.sc (ns.map D.int)], _, (fun a o z => (nomatch z)), sc_re hO hS _, rfl, e, fun v B' H' F _ e1 _ _ _ q => ?_⟩
  have r : Re K (frz B' H' F) H' v (.bl true) := q.fz (frz_ex e1) fun a ha => frz_in ha
  cases r
  rfl
end
section
open PySem.Spec PyProof.Rows
/-- the law's end: what the law's def gives by plain data is True -/
theorem walk_D {row : PySem.W.OpenLaw} {n k : Nat} {q : Program} {loose : List Str} {XP : (Str → Option Value) → Heap → Prop} {YP : World → Heap → Prop} {d : DefRec} {x : Str} {df : DF} (hn : row.most = some n) (hz : n ≤ sizeLine) (hdf : d.params.defaults = []) (hr : Room k callerA)
    (F : ∀ (w : World) (mg : Str → Option Value) (fa : Addr) (h : Heap), YP w h → h.Ns mainGlobals mg → mg d.name = some (.ref fa) → ∃ (K : PySem.W.Frag) (fd : FuncData) (cl : Str → Value), K.In h ∧ (∀ (s : Shared) (u : Value), BindsTo s fd ⟨[u], []⟩ [(x, u)]) ∧ ∀ base : Heap, K.In base → base.Ns mainGlobals mg → FnOk row.prog w K mg base (L2.CX row.prog w) k fa fd [x] (spD K cl 1 df))
    (T : ∀ ns : List Int, ns.length ≤ n → (∀ z ∈ ns, Builtin.Int.intBits z ≤ 1048576) → ∃ ow, df [.sc (ns.map D.int)] = some (.ret (.bl true) ow)) :
    PySem.W.WalkO q loose XP YP row.row.toRowW d [] (fun f vs => PySem.call f vs) := by
  refine Att.attach_callB hn hdf ?_
  intro w t0 t1 mg mb fa o pm cd doc a vs ns gr y ho hd hcd hmg hobj hi hl hb hg
  obtain ⟨K, fd, cl, hK, bnd, ok⟩ := F w mg fa _ y gr.T.g hmg
  refine law_call hK gr.T.g gr.T.b gr.T.builtins gr.T.nolimit hg hobj hi (Nat.le_trans hl hz) hr ok bnd ?_ ?_
  · intro H hO hS
    obtain ⟨ow, e⟩ := T ns hl hb
    exact law_sp hO hS e
  · exact fun H e s' z => cx_no z
end
end Dv

namespace Dv
open PySem L2 Evl

/-! ### a path of places, read -/
section
variable {K : PySem.W.Frag} {W : WW} {H : Hp}
theorem own_walk : ∀ (ks : List Int) (d : D) (v : V) (F : List Addr) (e : D), Own K H v d F → getP ks d = some e → imm e = false → ∃ (u : V) (Fe : List Addr), WkP H ks v u ∧ Own K H u e Fe := by
  intro ks
  induction ks with
  | nil =>
    intro d v F e o g _
    cases g
    exact ⟨v, F, .nil _, o⟩
  | cons k ks ih =>
    intro d v F e o g hi
    have nim : imm d = false := by
      cases h : imm d with
      | false => rfl
      | true => rw [imm_getP _ _ _ h g] at hi; cases hi
    cases o with
    | im h _ => rw [nim] at h; cases h
    | dk _ _ _ => cases g
    | dt _ _ _ => cases g
    | dn _ _ _ _ => cases g
    | lst hp r =>
      rename_i p vs es F0
      obtain ⟨x, g1, g2⟩ := Option.bind_eq_some_iff.mp (show (atI es k).bind (getP ks) = some e from g)
      obtain ⟨j, g3, g4⟩ := atI_some g1
      obtain ⟨u, Fj, R, h1, h2, h3, h4⟩ := r.at_ g4
      obtain ⟨u2, Fe, w1, w2⟩ := ih x u Fj e h2 g2 hi
      have len : vs.length = es.length := (r.re (G := H) fun _ _ => rfl).length
      exact ⟨u2, Fe, .lst hp (atI_mk (by rw [len]; exact g3) h1) w1, w2⟩
    | tup hp r =>
      rename_i p vs es
      obtain ⟨x, g1, g2⟩ := Option.bind_eq_some_iff.mp (show (atI es k).bind (getP ks) = some e from g)
      obtain ⟨j, g3, g4⟩ := atI_some g1
      obtain ⟨u, Fj, R, h1, h2, h3, h4⟩ := r.at_ g4
      obtain ⟨u2, Fe, w1, w2⟩ := ih x u Fj e h2 g2 hi
      have len : vs.length = es.length := (r.re (G := H) fun _ _ => rfl).length
      exact ⟨u2, Fe, .tup hp (atI_mk (by rw [len]; exact g3) h1) w1, w2⟩
theorem WkP.snoc : ∀ {acc : List Int} {k : Int} {v0 u : V}, WkP H (acc ++ [k]) v0 u → ∃ v, WkP H acc v0 v ∧ ((∃ p vs, v = .ref p ∧ H p = some (.lst vs) ∧ atI vs k = some u) ∨ ∃ p vs, v = .ref p ∧ H p = some (.tup vs) ∧ atI vs k = some u)
  | [], k, v0, u, h => by
    cases h with
    | lst hp ha r => cases r; exact ⟨_, .nil _, .inl ⟨_, _, rfl, hp, ha⟩⟩
    | tup hp ha r => cases r; exact ⟨_, .nil _, .inr ⟨_, _, rfl, hp, ha⟩⟩
  | a :: acc, k, v0, u, h => by
    cases h with
    | lst hp ha r =>
      obtain ⟨v, h1, h2⟩ := WkP.snoc r
      exact ⟨v, .lst hp ha h1, h2⟩
    | tup hp ha r =>
      obtain ⟨v, h1, h2⟩ := WkP.snoc r
      exact ⟨v, .tup hp ha h1, h2⟩
/-- the text's reading: x[..][..] -/
def tP (K : PySem.W.Frag) : TE → List TE → TE
  | to, [] => to
  | to, tk :: r => tP K (tOp (rIx K) to tk) r
def tPK (K : PySem.W.Frag) : List TE → V → TE
  | [], v => fun _ H Q => Q v H
  | tk :: r, v => fun σ H Q => tk σ H fun y H1 => rIx K v y H1 fun u H2 => tPK K r u σ H2 Q
theorem tP_eq : ∀ (r : List TE) (to : TE) (σ : L2.St) (H : Hp) (Q : VK), tP K to r σ H Q = to σ H fun v H1 => tPK K r v σ H1 Q
  | [], to, σ, H, Q => rfl
  | tk :: r, to, σ, H, Q => by
    show tP K (tOp (rIx K) to tk) r σ H Q = _
    rw [tP_eq r]
    rfl
def dPA (i : Nat) : List Int → List (DE D) → DE (List Int)
  | acc, [], s => some (.ok acc s)
  | acc, dk :: r, s => match dk s with
    | some (.ok (.int k) s1) => match s1[i]? with
      | some (some (d, .full)) => match getP (acc ++ [k]) d with
        | some e => if imm e = false then dPA i (acc ++ [k]) r s1 else none
        | none => none
      | _ => none
    | some (.exc c s1) => some (.exc c s1)
    | _ => none
inductive JBs (K : PySem.W.Frag) (W : WW) : List TE → List (DE D) → Prop
  | nil : JBs K W [] []
  | cons {t : TE} {d : DE D} {ts : List TE} {ds : List (DE D)} : JB K W t d → JBs K W ts ds → JBs K W (t :: ts) (d :: ds)
abbrev rW (v0 : V) : RelT V (List Int) := fun _ H _ v ks F => WkP H ks v0 v ∧ F = []
theorem ex_of {B H B' H' : Hp} {L L' : List Addr} (y : ES B H L B' H' L') : Ex H H' := y.exH
theorem path_ok {σ : L2.St} {i : Nat} {v0 : V} (hσ : σ[i]? = some (some v0)) : ∀ {tks : List TE} {dks : List (DE D)}, JBs K W tks dks → ∀ (acc : List Int) (s : SD) (r : Er (List Int)) (v : V) (B H : Hp) (Fs : List (List Addr)),
    dPA i acc dks s = some r → Rel K B H σ s Fs → WkP H acc v0 v → ∀ Q, Post (rW v0) K W B H Fs.flatten σ Q r → tPK K tks v σ H Q := by
  intro tks dks h
  induction h with
  | nil =>
    intro acc s r v B H Fs e R0 hw Q p
    cases e
    exact Post.here R0 ⟨hw, rfl⟩ p
  | cons h1 h2 ih =>
    rename_i t dk ts ds
    intro acc s r v B H Fs e R0 hw Q p
    unfold dPA at e
    cases e1 : dk s with
    | none => rw [e1] at e; cases e
    | some r1 =>
      rw [e1] at e
      refine h1 s r1 e1 B H σ Fs R0 _ ?_
      cases r1 with
      | exc c s1 =>
        cases e
        exact p
      | ok x s1 =>
        intro y B1 H1 Fs1 F R1 y1 z1 l1 q1
        obtain ⟨q1, rfl⟩ := q1
        cases x with
        | int k =>
          cases q1
          simp only at e
          split at e
          · rename_i d hs
            split at e
            · rename_i ee hg
              split at e
              · rename_i hi
                obtain ⟨w0, hw0, o⟩ := R1.at_ i d .full hs
                rw [hσ] at hw0
                cases hw0
                have o : Own K H1 v0 d (Fs1.getD i []) := o
                obtain ⟨u, Fe, w1, w2⟩ := own_walk _ _ _ _ _ o hg hi
                obtain ⟨v', a1, a2⟩ := w1.snoc
                obtain rfl := WkP.uniq a1 (hw.ex (ex_of y1))
                have fin : tPK K ts u σ H1 Q := ih _ _ _ u B1 H1 Fs1 e R1 w1 Q (p.step y1)
                rcases a2 with ⟨q, vs, rfl, hp, ha⟩ | ⟨q, vs, rfl, hp, ha⟩
                · exact .inl ⟨q, vs, k, u, rfl, rfl, sq_of hp, ha, fin⟩
                · exact .inr (.inl ⟨q, vs, k, u, rfl, rfl, SqT.of hp, ha, fin⟩)
              · cases e
            · cases e
          · cases e
        | _ => cases e
end

/-! ### x[..][k] = c -/
def setD (ks : List Int) (d : D) (k : Int) (e : D) : Option D := match getP ks d with
  | some (.lst ds) => match ixN ds.length k with
    | some j => some (setP ks d (.lst (ds.set j e)))
    | none => none
  | _ => none
def sSetP (i : Nat) (dks : List (DE D)) (dk : DE D) (c : DE (D × Ow)) : DS := fun s => match c s with
  | some (.ok (e, eo) s1) => match (if (s1[i]?).join.isSome = true then dPA i [] dks s1 else none) with
    | some (.ok ks s2) => match dk s2 with
      | some (.ok (.int k) s3) => match s3[i]? with
        | some (some (d, .full)) => if eo = .full then (setD ks d k e).map fun d' => .next (s3.set i (some (d', .full))) else none
        | some (some (.lst ds, .top)) => if ks = [] then (ixN ds.length k).map fun j => .next (s3.set i (some (.lst (ds.set j e), .top))) else none
        | _ => none
      | some (.exc x s3) => some (.exc x s3)
      | _ => none
    | some (.exc x s2) => some (.exc x s2)
    | none => none
  | some (.exc x s1) => some (.exc x s1)
  | none => none
section
variable {K : PySem.W.Frag} {W : WW} {i : Nat} {tks : List TE} {dks : List (DE D)} {tk tc : TE} {dk : DE D} {c : DE (D × Ow)}
theorem OwnL.put {H H' : Hp} (t : Tk H H') {v : V} {e : D} {F : List Addr} (q : Own K H' v e F) : ∀ {vs : List V} {ds : List D} {F1 : List Addr} {j : Nat}, OwnL K H vs ds F1 → j < ds.length → (∀ a ∈ F1, H' a = H a) → ∃ G, OwnL K H' (vs.set j v) (ds.set j e) G ∧ ∀ a, G.count a ≤ F1.count a + F.count a
  | _, _, _, _, .nil, hj, _ => by simp at hj
  | _, _, _, 0, .cons (F := F2) (G := G2) a b, hj, k1 => by
    refine ⟨F ++ G2, .cons q (b.mono t fun a ha => k1 a (List.mem_append_right _ ha)), fun a => ?_⟩
    simp only [List.count_append]
    omega
  | _, _, _, j + 1, .cons (F := F2) (G := G2) a b, hj, k1 => by
    obtain ⟨G, g1, g2⟩ := OwnL.put t q b (by simpa using hj) fun a ha => k1 a (List.mem_append_right _ ha)
    refine ⟨F2 ++ G, .cons (a.mono t fun a ha => k1 a (List.mem_append_left _ ha)) g1, fun a => ?_⟩
    have := g2 a
    simp only [List.count_append]
    omega
theorem ReL.put {G H : Hp} {vs : List V} {ds : List D} (r : ReL K G H vs ds) {v : V} {e : D} (q : Re K G H v e) : ∀ (j : Nat), ReL K G H (vs.set j v) (ds.set j e) := by
  have : ∀ (vs : List V) (ds : List D), ReL K G H vs ds → ∀ j, ReL K G H (vs.set j v) (ds.set j e) := by
    intro vs
    induction vs with
    | nil => intro ds h j; cases h; exact .nil
    | cons x xs ih =>
      intro ds h j
      cases h with
      | cons a b =>
        cases j with
        | zero => exact .cons q b
        | succ j => exact .cons a (ih _ b j)
  exact fun j => this _ _ r j
theorem ixN_lt {n : Nat} {k : Int} {j : Nat} (h : ixN n k = some j) : j < n := (ixN_seq h).2.1
theorem jsSetP (hc : JC K W tc c) (hp : JBs K W tks dks) (hk : JB K W tk dk) : JS K W (tAsg tc (gSub (tP K (tVar i) tks) tk rSetL)) (sSetP i dks dk c) := by
  intro s o e B H σ Fs R0 En p
  unfold sSetP at e
  cases e1 : c s with
  | none => rw [e1] at e; cases e
  | some r1 =>
    rw [e1] at e
    refine hc s r1 e1 B H σ Fs R0 _ ?_
    cases r1 with
    | exc x s1 =>
      cases e
      exact fun B' H' Fs' x y => p σ B' H' Fs' x y.ss
    | ok z s1 =>
      obtain ⟨ed, eo⟩ := z
      intro v B1 H1 Fs1 F R1 y1 z1 l1 qv
      have qv : RS K B1 H1 v ed eo F := qv
      simp only at e
      by_cases hj0 : (s1[i]?).join.isSome = true
      case neg =>
        rw [if_neg hj0] at e
        cases e
      rw [if_pos hj0] at e
      cases e2 : dPA i [] dks s1 with
      | none => rw [e2] at e; cases e
      | some r2 =>
        rw [e2] at e
        show tP K (tVar i) tks σ H1 _
        rw [tP_eq]
        -- what is read with the value pending
        have main : ∀ v0, σ[i]? = some (some v0) → tPK K tks v0 σ H1 fun o H2 => tk σ H2 fun y H3 => rSetL o y v H3 fun H4 => En.nx σ H4 := by
          intro v0 hσ
          have P2 : J (rW v0) K W (fun τ H Q => τ = σ → WkP H [] v0 v0 → tPK K tks v0 τ H Q) (dPA i [] dks) := by
            intro s' r' e' B' H' τ Fs' R0' Q' p' hτ hw'
            rw [hτ] at R0' p' ⊢
            exact path_ok hσ hp [] s' r' v0 B' H' Fs' e' R0' hw' Q' p'
          refine J.pend (F := F) P2 e2 R1 z1 l1 (Q := fun o H2 => tk σ H2 fun y H3 => rSetL o y v H3 fun H4 => En.nx σ H4) ?_ ?_ rfl (.nil _)
          · intro ks s2 er u B2 H2 Fs2 G R2 y2 z2 l2 q2
            obtain ⟨w2, rfl⟩ := q2
            cases er
            simp only at e
            cases e3 : dk s2 with
            | none => rw [e3] at e; cases e
            | some r3 =>
              rw [e3] at e
              have z2' : ∀ x, w B2 x + (F ++ Fs2.flatten).count x ≤ 1 := fun x => by simpa using z2 x
              have l2' : ∀ x ∈ F, H2 x ≠ none := fun x hx => by
                cases q : H1 x with
                | none => exact absurd q (l1 x hx)
                | some o => rw [y2.exH _ _ q]; exact fun z => nomatch z
              refine hk.pend (F := F) e3 R2 z2' l2' ?_ ?_
              · intro kd s3 er3 yv B3 H3 Fs3 G3 R3 y3 z3 l3 q3
                obtain ⟨q3, rfl⟩ := q3
                cases er3
                have z3' : ∀ x, w B3 x + (F ++ Fs3.flatten).count x ≤ 1 := fun x => by simpa using z3 x
                have l3' : ∀ x ∈ F, H3 x ≠ none := fun x hx => by
                  cases q : H2 x with
                  | none => exact absurd q (l2' x hx)
                  | some o => rw [y3.exH _ _ q]; exact fun z => nomatch z
                have y2' : ES B1 H1 (F ++ Fs1.flatten) B2 H2 (F ++ Fs2.flatten) := by simpa using y2
                have y3' : ES B2 H2 (F ++ Fs2.flatten) B3 H3 (F ++ Fs3.flatten) := by simpa using y3
                have yy : ES B H Fs.flatten B3 H3 (F ++ Fs3.flatten) := (y1.trans y2').trans y3'
                have ex13 : Ex H1 H3 := y2.exH.trans y3.exH
                have keepF : ∀ a ∈ F, H3 a = H1 a := ex_keep ex13 l1
                have bex : Ex B1 B3 := y2'.exB.trans y3'.exB
                have qv3 : RS K B3 H3 v ed eo F := qv.mono bex (Tk.of_ex ex13) keepF
                cases kd with
                | int k =>
                  cases q3
                  simp only at e
                  split at e
                  · rename_i d hs
                    split at e
                    · rename_i hf
                      subst hf
                      cases e4 : setD ks d k ed with
                      | none => rw [e4] at e; cases e
                      | some d' =>
                        rw [e4] at e
                        cases e
                        unfold setD at e4
                        split at e4
                        · rename_i ds hg
                          split at e4
                          · rename_i j hj
                            cases e4
                            obtain ⟨v1, q, vs, F1, a1, a2, a3, a4, a5, a6, a7⟩ := mut_slot (ks := ks) (ds := ds) (E := F) R3 hs hg z3'
                            rw [hσ] at a1
                            cases a1
                            obtain rfl := WkP.uniq a2 (w2.ex y3.exH)
                            have len : vs.length = ds.length := (a4.re (G := H3) fun _ _ => rfl).length
                            refine ⟨q, vs, k, j, rfl, rfl, a3, by rw [len]; exact hj, ?_⟩
                            have tk := tk_upd (ys := vs.set j v) a3
                            obtain ⟨G, g1, g2⟩ := OwnL.put tk (Own.mono tk (show Own K H3 v ed F from qv3) fun a ha => upd_ne (a6 a ha)) a4 (ixN_lt hj) fun a ha => upd_ne (a5 a ha)
                            obtain ⟨G2, b1, b2⟩ := a7 _ _ G g1 g2
                            exact p σ _ _ _ b1 (yy.ss.trans b2)
                          · cases e4
                        · cases e4
                    · cases e
                  · rename_i ds hs
                    split at e
                    · rename_i hks
                      subst hks
                      cases e4 : ixN ds.length k with
                      | none => rw [e4] at e; cases e
                      | some j =>
                        rw [e4] at e
                        cases e
                        have R4 := R3.know z3'
                        have y4 := yy.let_go F Fs3.flatten l3' (fun a => List.count_append) R3.ex
                        obtain ⟨q, vs, a1, a3, a4, a5, a7⟩ := mut_top R4 hs
                        rw [hσ] at a1
                        cases a1
                        cases w2
                        refine ⟨q, vs, k, j, rfl, rfl, a3, by rw [a4.length]; exact e4, ?_⟩
                        have tk := tk_upd (ys := vs.set j v) a3
                        obtain ⟨b1, b2⟩ := a7 (vs.set j v) (ds.set j ed) ((a4.mono (Ex.refl _) tk).put ((qv3.fz (frz_ex R3.ex) fun a ha => frz_in ha).mono (Ex.refl _) tk) j)
                        exact p σ _ _ _ b1 (y4.ss.trans b2)
                    · cases e
                  · cases e
                | _ => cases e
              · intro x s3 er3 B3 H3 Fs3 R3 y3 z3
                cases er3
                cases e
                have y2' : ES B1 H1 (F ++ Fs1.flatten) B2 H2 (F ++ Fs2.flatten) := by simpa using y2
                have l3' : ∀ x ∈ F, H3 x ≠ none := fun x hx => by
                  cases q : H2 x with
                  | none => exact absurd q (l2' x hx)
                  | some o => rw [y3.exH _ _ q]; exact fun z => nomatch z
                exact p σ _ H3 Fs3 (R3.know z3) (((y1.trans y2').trans y3).let_go F Fs3.flatten l3' (fun a => List.count_append) R3.ex).ss
          · intro x s2 er B2 H2 Fs2 R2 y2 z2
            cases er
            cases e
            have l2' : ∀ x ∈ F, H2 x ≠ none := fun x hx => by
              cases q : H1 x with
              | none => exact absurd q (l1 x hx)
              | some o => rw [y2.exH _ _ q]; exact fun z => nomatch z
            exact p σ _ H2 Fs2 (R2.know z2) ((y1.trans y2).let_go F Fs2.flatten l2' (fun a => List.count_append) R2.ex).ss
        -- the name stands
        cases hs1 : s1[i]? with
        | none => rw [hs1] at hj0; simp at hj0
        | some sl =>
          cases sl with
          | none => rw [hs1] at hj0; simp at hj0
          | some z =>
            obtain ⟨d0, ow0⟩ := z
            obtain ⟨v0, hσ, _⟩ := R1.at_ i d0 ow0 hs1
            exact ⟨v0, hσ, main v0 hσ⟩
/-! ### x[..].append(c) -/
def sAppP (i : Nat) (dks : List (DE D)) (c : DE (D × Ow)) : DS := fun s => match (if (s[i]?).join.isSome = true then dPA i [] dks s else none) with
  | some (.ok ks s1) => match s1[i]? with
    | some (some (d, .full)) => match getP ks d with
      | some (.lst _) => match c s1 with
        | some (.ok (e, eo) s2) => match s2[i]? with
          | some (some (d2, .full)) => match getP ks d2 with
            | some (.lst ds) => if eo = .full ∧ ds.length < 1000000 then some (.next (s2.set i (some (setP ks d2 (.lst (ds ++ [e])), .full)))) else none
            | _ => none
          | _ => none
        | some (.exc x s2) => some (.exc x s2)
        | none => none
      | _ => none
    | _ => none
  | some (.exc x s1) => some (.exc x s1)
  | none => none
theorem jsAppP (hp : JBs K W tks dks) (hc : JC K W tc c) : JS K W (tApp K (tP K (tVar i) tks) tc) (sAppP i dks c) := by
  intro s o e B H σ Fs R0 En p
  unfold sAppP at e
  by_cases hj0 : (s[i]?).join.isSome = true
  case neg =>
    rw [if_neg hj0] at e
    cases e
  rw [if_pos hj0] at e
  have st : ∃ v0, σ[i]? = some (some v0) := by
    cases hs1 : s[i]? with
    | none => rw [hs1] at hj0; simp at hj0
    | some sl =>
      cases sl with
      | none => rw [hs1] at hj0; simp at hj0
      | some z =>
        obtain ⟨d0, ow0⟩ := z
        obtain ⟨v0, hσ, _⟩ := R0.at_ i d0 ow0 hs1
        exact ⟨v0, hσ⟩
  obtain ⟨v0, hσ⟩ := st
  cases e2 : dPA i [] dks s with
  | none => rw [e2] at e; cases e
  | some r2 =>
    rw [e2] at e
    show tP K (tVar i) tks σ H _
    rw [tP_eq]
    refine ⟨v0, hσ, path_ok hσ hp [] s r2 v0 B H Fs e2 R0 (.nil _) _ ?_⟩
    cases r2 with
    | exc x s1 =>
      cases e
      exact fun B' H' Fs' x y => p σ B' H' Fs' x y.ss
    | ok ks s1 =>
      intro u B1 H1 Fs1 F R1 y1 z1 l1 q1
      obtain ⟨w1, rfl⟩ := q1
      simp only at e
      split at e
      · rename_i d hs
        split at e
        · rename_i ds0 hg
          obtain ⟨w0, hw0, o1⟩ := R1.at_ i d .full hs
          rw [hσ] at hw0
          cases hw0
          obtain ⟨q, vs0, F1, RR, a1, a2, _⟩ := own_path _ _ _ _ _ (show Own K H1 v0 d (Fs1.getD i []) from o1) hg
          obtain rfl := WkP.uniq a1 w1
          refine ⟨.inl ⟨rfl, vs0, sq_of a2⟩, ?_⟩
          cases e3 : c s1 with
          | none => rw [e3] at e; cases e
          | some r3 =>
            rw [e3] at e
            refine hc s1 r3 e3 B1 H1 σ Fs1 R1 _ ?_
            cases r3 with
            | exc x s2 =>
              cases e
              exact fun B' H' Fs' x y => p σ B' H' Fs' x (y1.trans y).ss
            | ok zz s2 =>
              obtain ⟨ed, eo⟩ := zz
              intro v B2 H2 Fs2 F2 R2 y2 z2 l2 qv
              have qv : RS K B2 H2 v ed eo F2 := qv
              simp only at e
              split at e
              · rename_i d2 hs2
                split at e
                · rename_i ds hg2
                  split at e
                  · rename_i hh
                    obtain ⟨hf, hz⟩ := hh
                    subst hf
                    cases e
                    obtain ⟨v1, q2, vs, F3, b1, b2, b3, b4, b5, b6, b7⟩ := mut_slot (ks := ks) (ds := ds) (E := F2) R2 hs2 hg2 z2
                    rw [hσ] at b1
                    cases b1
                    cases WkP.uniq b2 (a1.ex y2.exH)
                    refine ⟨_, vs, v, rfl, rfl, b3, ?_, ?_⟩
                    · rw [(b4.re (G := H2) fun _ _ => rfl).length]
                      exact Nat.lt_of_lt_of_le hz (by decide)
                    · have tk := tk_upd (ys := vs ++ [v]) b3
                      have o2 : OwnL K (upd H2 q (.lst (vs ++ [v]))) (vs ++ [v]) (ds ++ [ed]) (F3 ++ (F2 ++ [])) :=
                        (b4.mono tk fun a ha => upd_ne (b5 a ha)).append (.cons (Own.mono tk qv fun a ha => upd_ne (b6 a ha)) .nil)
                      obtain ⟨G, c1, c2⟩ := b7 _ _ _ o2 fun a => by simp only [List.count_append, List.append_nil]; omega
                      refine p σ _ _ _ c1 (SS.trans ?_ c2)
                      have := (y1.trans (by simpa using y2)).ss
                      exact this
                  · cases e
                · cases e
              · cases e
        · cases e
      · cases e
end

/-! ### the text's reading with it -/
section
variable {X : Cx} {K : PySem.W.Frag} {W : WW} {x : Str} {i : Nat} {p pos cpos apos spos : Pos} {a b e : Expr} {ta tb te tk : TE} {da db de dk : DE D} {ca : DE (D × Ow)} {tks : List TE} {dks : List (DE D)}
/-- x[a][b], the path alone -/
structure QP (X : Cx) (K : PySem.W.Frag) (W : WW) (e : Expr) (i : Nat) (tks : List TE) (dks : List (DE D)) : Prop where
  hk : X.K = K
  p : PE X e (tP K (tVar i) tks)
  j : JBs K W tks dks
theorem tP_snoc : ∀ (r : List TE) (to t : TE), tP K to (r ++ [t]) = tOp (rIx K) (tP K to r) t
  | [], to, t => rfl
  | a :: r, to, t => tP_snoc r (tOp (rIx K) to a) t
theorem JBs.snoc : ∀ {tks : List TE} {dks : List (DE D)}, JBs K W tks dks → JB K W ta da → JBs K W (tks ++ [ta]) (dks ++ [da])
  | _, _, .nil, h => .cons h .nil
  | _, _, .cons a b, h => .cons a (JBs.snoc b h)
theorem qp_nil (i : Nat) (hk : X.K = K := by rfl) (hN : X.N[i]? = some x := by rfl) (hv : Vis X.env.scope x := by first | exact Or.inl rfl | exact Or.inr (Or.inl rfl) | exact Or.inr (Or.inr rfl)) (hd : (x == ("__debug__" : Str)) = false := by decide) (hcd : (x == ("__classdict__" : Str)) = false := by decide) : QP X K W (.Name x p) i [] [] := ⟨hk, pv i hN hv hd hcd, .nil⟩
theorem qp_ix (h : QP X K W a i tks dks) (hb : QB X K W b tb db) (hs : PlainIx b := by exact fun _ _ => rfl) : QP X K W (.Subscript a b pos) i (tks ++ [tb]) (dks ++ [db]) := by
  obtain ⟨rfl, pa, ja⟩ := h
  exact ⟨rfl, by rw [tP_snoc]; exact pe_ix ix_seq pa hb.p hs, ja.snoc hb.j⟩
theorem qs_setP (hc : QC X K W e te ca) (h : QP X K W a i tks dks) (hk : QB X K W b tk dk) (hs : swapsWithSole [.Subscript a b pos] e spos.line X.env = pure false := by rfl) (hw : swappedStores [.Subscript a b pos] e X.env = pure none := by rfl) (h1 : List.map (fun x => x.snd) (assignEach [.Subscript a b pos] X.env) = [assign (.Subscript a b pos) X.env] := by rfl)
    (ha : ∀ v, assign (.Subscript a b pos) X.env v = (do
      let ov ← holding [v] (eval a X.env)
      let iv ← holding [v, ov] (eval b X.env)
      standAt pos
      holding [v, ov, iv] (setItem ov iv v)
      release [v, ov, iv] []) := by intro _; rfl) : QS X K W (.Assign [.Subscript a b pos] e spos) (tAsg te (gSub (tP K (tVar i) tks) tk rSetL)) (sSetP i dks dk ca) :=
  ⟨hc.hk, ps_asg hc.p (pg_sub h.p hk.p set_list ha) hs hw h1, jsSetP hc.j h.j hk.j⟩
theorem qs_appP (h : QP X K W a i tks dks) (he : QC X K W e te ca) (h1 : attributeBase a "append" X.env (eval a X.env) = eval a X.env := by rfl)
    (h2 : (((List.all (backTo cpos (starEach [e] X.env)) fun x => !Prod.fst x) && List.all (backToKw cpos (keywordEach [] X.env)) fun x => Option.isSome (Prod.fst x)) && decide ((List.length [e] + List.length ([] : List Keyword) + if List.isEmpty ([] : List Keyword) = true then 0 else 1) < 30)) = true := by rfl)
    (h3 : (apos.endLine == cpos.line) = true := by rfl) (h4 : starEach [e] X.env = (false, eval e X.env) :: starEach [] X.env := by rfl) (hs : swapsWith (.Call (.Attribute a "append" apos) [e] [] cpos) none pos.line X.env = pure false := by rfl) :
    QS X K W (.Expr (.Call (.Attribute a "append" apos) [e] [] cpos) pos) (tApp K (tP K (tVar i) tks) te) (sAppP i dks ca) := by
  obtain ⟨rfl, pa, ja⟩ := h
  exact ⟨rfl, ps_expr (pe_bm PySem.F.plainAttrs_list PySem.F.slot_list_append PySem.F.type_list_append mt_append pa (pa_cons he.p pa_nil h4) h1 h2 h3 h4 (by rfl)) hs, jsAppP ja he.j⟩
/-- a whole number of the module -/
theorem q_gint {n : Int} (h : ∃ t, X.mg x = some (.int n t)) (hg : Gl X x) (hk : X.K = K := by rfl) (hd : (x == ("__debug__" : Str)) = false := by decide) : QB X K W (.Name x p) (tC (.int n)) (dC (.int n)) := by
  obtain ⟨t, h⟩ := h
  exact ⟨hk, pe_glob hg h ⟨t, rfl⟩ hd, jInt⟩
end
end Dv

namespace Dv
open PySem L2 Evl

/-! ### an item of what is made on the spot: it is taken, the rest is let go -/
def lsOf : D → Option (List D)
  | .lst ds => some ds
  | .tup ds => some ds
  | _ => none
def itOw (e : D) (ow : Ow) : Ow := match ow with
  | .full => .full
  | _ => if imm e = true then .full else .no
def cItem (c : DE (D × Ow)) (di : DE D) : DE (D × Ow) := fun s => match c s with
  | some (.ok (d, ow) s1) => match di s1 with
    | some (.ok (.int k) s2) => match lsOf d with
      | some ds => (atI ds k).map fun e => .ok (e, itOw e ow) s2
      | none => none
    | some (.exc x s2) => some (.exc x s2)
    | _ => none
  | some (.exc x s1) => some (.exc x s1)
  | none => none
section
variable {K : PySem.W.Frag} {W : WW} {H : Hp} {v : V} {d e : D} {F : List Addr} {ds : List D} {k : Int}
theorem immL_at : ∀ {ds : List D} {j : Nat} {e : D}, immL ds = true → ds[j]? = some e → imm e = true
  | [], _, _, _, h => by simp at h
  | x :: xs, 0, e, h, h2 => by
    have h3 : (imm x && immL xs) = true := by simpa only [immL] using h
    have h4 := Bool.and_eq_true_iff.mp h3
    simp at h2
    subst h2
    exact h4.1
  | x :: xs, j + 1, e, h, h2 => by
    have h3 : (imm x && immL xs) = true := by simpa only [immL] using h
    have h4 := Bool.and_eq_true_iff.mp h3
    exact immL_at h4.2 (by simpa using h2)
theorem own_item (o : Own K H v d F) (hd : lsOf d = some ds) (he : atI ds k = some e) :
    ∃ (p : Addr) (xs : List V) (u : V) (Fe R : List Addr), v = .ref p ∧ (SqL K H p xs ∨ SqT K H p xs) ∧ atI xs k = some u ∧ Own K H u e Fe ∧ ∀ a, F.count a = Fe.count a + R.count a := by
  obtain ⟨j, g1, g2⟩ := atI_some he
  cases o with
  | im hi r =>
    cases d with
    | lst xs => simp [imm] at hi
    | tup es =>
      cases hd
      obtain ⟨p, vs, rfl, h1, h2⟩ := re_tup r
      obtain ⟨u, h3, h4⟩ := h2.get g2
      have hi2 : imm e = true := immL_at (by simpa [imm] using hi) g2
      exact ⟨p, vs, u, [], [], rfl, .inr (SqT.of h1), atI_mk (by rw [h2.length]; exact g1) h3, .im hi2 h4, fun a => by simp⟩
    | _ => cases hd
  | dk _ _ _ => cases hd
  | dt _ _ _ => cases hd
  | dn _ _ _ _ => cases hd
  | lst hp r =>
    rename_i p vs es F1
    have hd : some es = some ds := hd
    injection hd with hd
    subst hd
    obtain ⟨u, Fj, R, h1, h2, h3, _⟩ := r.at_ g2
    have len : vs.length = es.length := (r.re (G := H) fun _ _ => rfl).length
    refine ⟨p, vs, u, Fj, p :: R, rfl, .inl (sq_of hp), atI_mk (by rw [len]; exact g1) h1, h2, fun a => ?_⟩
    have := h3 a
    simp only [List.count_cons]
    omega
  | tup hp r =>
    rename_i p vs es
    have hd : some es = some ds := hd
    injection hd with hd
    subst hd
    obtain ⟨u, Fj, R, h1, h2, h3, _⟩ := r.at_ g2
    have len : vs.length = es.length := (r.re (G := H) fun _ _ => rfl).length
    exact ⟨p, vs, u, Fj, R, rfl, .inr (SqT.of hp), atI_mk (by rw [len]; exact g1) h1, h2, h3⟩
theorem re_item {G : Hp} (r : Re K G H v d) (gx : Ex G H) (hd : lsOf d = some ds) (he : atI ds k = some e) :
    ∃ (p : Addr) (xs : List V) (u : V), v = .ref p ∧ (SqL K H p xs ∨ SqT K H p xs) ∧ atI xs k = some u ∧ Re K G H u e := by
  obtain ⟨j, g1, g2⟩ := atI_some he
  cases r with
  | lst hp r =>
    cases hd
    obtain ⟨u, h3, h4⟩ := r.get g2
    exact ⟨_, _, u, rfl, .inl (sq_of (gx _ _ hp)), atI_mk (by rw [r.length]; exact g1) h3, h4⟩
  | tup hp r =>
    cases hd
    obtain ⟨u, h3, h4⟩ := r.get g2
    exact ⟨_, _, u, rfl, .inr (SqT.of hp), atI_mk (by rw [r.length]; exact g1) h3, h4⟩
  | _ => cases hd
variable {te ti : TE} {c : DE (D × Ow)} {di : DE D}
theorem jcItem (hc : JC K W te c) (hi : JB K W ti di) : JC K W (tOp (rIx K) te ti) (cItem c di) := by
  intro s r e0 B H σ Fs R0 Q p
  unfold cItem at e0
  cases e1 : c s with
  | none => rw [e1] at e0; cases e0
  | some r1 =>
    rw [e1] at e0
    refine hc s r1 e1 B H σ Fs R0 _ ?_
    cases r1 with
    | exc x s1 => cases e0; exact p
    | ok z s1 =>
      obtain ⟨d, ow⟩ := z
      intro v B1 H1 Fs1 F R1 y1 z1 l1 qv
      have qv : RS K B1 H1 v d ow F := qv
      simp only at e0
      cases e2 : di s1 with
      | none => rw [e2] at e0; cases e0
      | some r2 =>
        rw [e2] at e0
        refine hi.pend (F := F) e2 R1 z1 l1 ?_ ?_
        · intro x s2 er y B2 H2 Fs2 G R2 y2 z2 l2 q2
          obtain ⟨q2, rfl⟩ := q2
          cases er
          have z2' : ∀ x, w B2 x + (F ++ Fs2.flatten).count x ≤ 1 := fun x => by simpa using z2 x
          have l2' : ∀ x ∈ F, H2 x ≠ none := fun x hx => by
            cases q : H1 x with
            | none => exact absurd q (l1 x hx)
            | some o => rw [y2.exH _ _ q]; exact fun z => nomatch z
          have y2' : ES B1 H1 (F ++ Fs1.flatten) B2 H2 (F ++ Fs2.flatten) := by simpa using y2
          have yy : ES B H Fs.flatten B2 H2 (F ++ Fs2.flatten) := y1.trans y2'
          have qv2 : RS K B2 H2 v d ow F := qv.mono y2'.exB (Tk.of_ex y2.exH) (ex_keep y2.exH l1)
          cases x with
          | int k =>
            cases q2
            simp only at e0
            cases e3 : lsOf d with
            | none => rw [e3] at e0; cases e0
            | some ds =>
              rw [e3] at e0
              simp only at e0
              cases e4 : atI ds k with
              | none => rw [e4] at e0; cases e0
              | some e =>
                rw [e4] at e0
                cases e0
                have fin : ∀ (pp : Addr) (xs : List V) (u : V), (SqL K H2 pp xs ∨ SqT K H2 pp xs) → atI xs k = some u → Q u H2 → rIx K (.ref pp) (.int k) H2 Q := fun pp xs u h1 h2 h3 => by
                  rcases h1 with h | h
                  · exact .inl ⟨pp, xs, k, u, rfl, rfl, h, h2, h3⟩
                  · exact .inr (.inl ⟨pp, xs, k, u, rfl, rfl, h, h2, h3⟩)
                cases ow with
                | full =>
                  obtain ⟨pp, xs, u, Fe, R, rfl, h1, h2, h3, h4⟩ := own_item (show Own K H2 v d F from qv2) e3 e4
                  refine fin pp xs u h1 h2 ?_
                  have cnt : ∀ a, (F ++ Fs2.flatten).count a = R.count a + (Fe ++ Fs2.flatten).count a := fun a => by
                    have := h4 a
                    simp only [List.count_append]
                    omega
                  have lR : ∀ a ∈ R, H2 a ≠ none := fun a ha => l2' a (by
                    have := h4 a
                    have := mem_count ha
                    exact List.count_pos_iff.mp (by omega))
                  have lE : ∀ a ∈ Fe, H2 a ≠ none := fun a ha => l2' a (by
                    have := h4 a
                    have := mem_count ha
                    exact List.count_pos_iff.mp (by omega))
                  refine p u (frz B2 H2 R) H2 Fs2 Fe (R2.know fun a => ?_) (yy.let_go R (Fe ++ Fs2.flatten) lR cnt R2.ex) (fun a => ?_) lE h3
                  · have := cnt a
                    have := z2' a
                    simp only [List.count_append] at *
                    omega
                  · have h5 := frz_w B2 H2 R a
                    have := cnt a
                    have := z2' a
                    omega
                | top =>
                  obtain ⟨pp, vs, ds0, rfl, rfl, hp, hr, rfl⟩ := qv2
                  cases e3
                  obtain ⟨j, g1, g2⟩ := atI_some e4
                  obtain ⟨u, h3, h4⟩ := hr.get g2
                  refine fin pp vs u (.inl (sq_of hp)) (atI_mk (by rw [hr.length]; exact g1) h3) ?_
                  refine p u (frz B2 H2 [pp]) H2 Fs2 [] (R2.know z2') (yy.let_go [pp] Fs2.flatten l2' (fun a => List.count_append) R2.ex) (fun a => ?_) (fun _ z => nomatch z) ?_
                  · have h5 := frz_w B2 H2 [pp] a
                    have := z2' a
                    simp only [List.count_append, List.nil_append] at *
                    omega
                  · show RS K _ H2 u e (itOw e .top) []
                    have rr : Re K (frz B2 H2 [pp]) H2 u e := h4.mono (frz_ex R2.ex) (Tk.refl _)
                    unfold itOw
                    by_cases hm : imm e = true
                    · simp only [hm, if_true]
                      exact Own.im hm (rr.any hm)
                    · simp only [hm, if_false]
                      exact ⟨rr, rfl⟩
                | no =>
                  obtain ⟨qr, rfl⟩ := qv2
                  obtain ⟨pp, xs, u, rfl, h1, h2, h3⟩ := re_item qr R2.ex e3 e4
                  refine fin pp xs u h1 h2 ?_
                  refine p u B2 H2 Fs2 [] R2 yy (fun a => by simpa using z2' a) (fun _ z => nomatch z) ?_
                  show RS K _ H2 u e (itOw e .no) []
                  unfold itOw
                  by_cases hm : imm e = true
                  · simp only [hm, if_true]
                    exact Own.im hm (h3.any hm)
                  · simp only [hm, if_false]
                    exact ⟨h3, rfl⟩
          | _ => cases e0
        · intro x s2 er B2 H2 Fs2 R2 y2 z2
          cases er
          cases e0
          have l2' : ∀ x ∈ F, H2 x ≠ none := fun x hx => by
            cases q : H1 x with
            | none => exact absurd q (l1 x hx)
            | some o => rw [y2.exH _ _ q]; exact fun z => nomatch z
          exact p _ H2 Fs2 (R2.know z2) ((y1.trans y2).let_go F Fs2.flatten l2' (fun a => List.count_append) R2.ex)
end
section
variable {X : Cx} {K : PySem.W.Frag} {W : WW} {pos : Pos} {a b : Expr} {ta tb : TE} {db : DE D} {ca : DE (D × Ow)}
theorem q_item (ha : QC X K W a ta ca) (hb : QB X K W b tb db) (hs : PlainIx b := by exact fun _ _ => rfl) : QC X K W (.Subscript a b pos) (tOp (rIx K) ta tb) (cItem ca db) := by
  obtain ⟨rfl, pa, ja⟩ := ha
  exact ⟨rfl, pe_ix ix_seq pa hb.p hs, jcItem ja hb.j⟩
end
end Dv

namespace Dv
open PySem L2 Evl

/-! ### the classes of refusals: each directly below ProbeError, that below ValueError -/
def isaB (c x : Str) : Bool := decide (c = x) || decide (x = ("ProbeError" : Str))
abbrev clK (K : PySem.W.Frag) (c : Str) : Value := .ref (He.ga K c)
/-- what is known of the class c -/
structure ExF (K : PySem.W.Frag) (mg : Str → Option Value) (xs : List Str) (c : Str) : Prop where
  gC : mg c = some (.ref (He.ga K c))
  ex : PySem.W.excIn K (He.ga K c) He.veBase "ValueError.__new__" = true
  kp : PySem.W.keepIn K (.ref (He.ga K c)) = true
  su : PySem.W.subIn K (.ref (He.ga K c)) (.type "BaseException") = some true
  ty : PySem.W.typeIn K (.ref (He.ga K c)) = some (.type "type")
  ec : ExcC K (He.ga K c)
  exm : PySem.W.exmOne K (.ref (He.ga K c)) (.ref (He.ga K "ProbeError")) = some true
  kit : ∀ x ∈ xs, PySem.W.kitOne K (.ref (He.ga K c)) (.ref (He.ga K x)) = some (isaB c x)
  kitV : PySem.W.kitOne K (.ref (He.ga K c)) (.type "ValueError") = some true
structure ExAll (K : PySem.W.Frag) (mg : Str → Option Value) (xs : List Str) : Prop where
  all : ∀ c ∈ xs, ExF K mg xs c
  pe : ("ProbeError" : Str) ∈ xs
/-! ### raise C('..') -/
def sRaise (c : Str) : DS := fun s => some (.exc c s)
def tRaiseC (Wx : WX) (C : Addr) : TS := fun _ σ H => Wx (.ref C) none σ H
section
variable {X : Cx} {K : PySem.W.Frag} {Wx : WX} {c : Str} {xs : List Str} {m : Str} {j : Nat} {p p2 p3 pos : Pos}
theorem qs_raise (hc : X.calm = true) (tk : Takes X Wx) (F : ExAll K X.mg xs) (hx : c ∈ xs) (hg : Gl X c) (hk : X.K = K := by rfl) (hdb : (c == ("__debug__" : Str)) = false := by decide) :
    QS X K (wOf (clK K) Wx) (.Raise (some (.Call (.Name c p) [.Constant (.str m) j p2] [] p3)) none pos) (tRaiseC Wx (He.ga K c)) (sRaise c) := by
  subst hk
  have f := F.all c hx
  refine ⟨rfl, ps_raise hc tk (pmk_own PySem.F.excBase_ValueError f.ex f.gC f.kp (raises_own f.su f.ty) hg hdb), ?_⟩
  intro s o e B H σ Fs R0 En p
  cases e
  exact p σ B H Fs R0 (SS.refl _ _ _)
end
/-! ### a suite that asks of the caught one alone -/
structure QHB (X : Cx) (i : Nat) (a : Addr) (e : Expr) (t : TE) (b : Bool) : Prop where
  p : PE X e t
  j : ∀ (σ : L2.St) (H : Hp) (Q : VK), σ[i]? = some (some (.ref a)) → Q (.bl b) H → t σ H Q
structure QHT (X : Cx) (i : Nat) (a : Addr) (e : Expr) (t : TT) (b : Bool) : Prop where
  p : PT X e t
  j : ∀ (σ : L2.St) (H : Hp) (Q : Bool → Hp → Prop), σ[i]? = some (some (.ref a)) → Q b H → t σ H Q
structure QHW (X : Cx) (i : Nat) (a : Addr) (e : Expr) (t : TT) (b : Bool) : Prop where
  p : PW X e t
  j : ∀ (σ : L2.St) (H : Hp) (Q : Bool → Hp → Prop), σ[i]? = some (some (.ref a)) → Q b H → t σ H Q
def nxH (o o2 : Option Bool) : Option Bool := match o with
  | some b => some b
  | none => o2
def endH (En : Ends) (σ : L2.St) (H : Hp) : Option Bool → Prop
  | some b => En.rt (.bl b) H
  | none => En.nx σ H
structure QHS (X : Cx) (i : Nat) (a : Addr) (st : Stmt) (t : TS) (o : Option Bool) : Prop where
  p : PS X st t
  j : ∀ (σ : L2.St) (H : Hp) (En : Ends), σ[i]? = some (some (.ref a)) → endH En σ H o → t En σ H
structure QHSs (X : Cx) (i : Nat) (a : Addr) (st : List Stmt) (t : TS) (o : Option Bool) : Prop where
  p : PSs X st t
  j : ∀ (σ : L2.St) (H : Hp) (En : Ends), σ[i]? = some (some (.ref a)) → endH En σ H o → t En σ H
section
variable {X : Cx} {i : Nat} {a : Addr} {e e1 e2 : Expr} {es : List Expr} {t u : TE} {tt tu : TT} {b c : Bool} {pos p p2 p3 : Pos} {st : Stmt} {sts s1 s2 : List Stmt} {ts us : TS} {o o2 : Option Bool} {x : Str}
theorem qh_bl {jj} : QHB X i a (.Constant (.bool b) jj pos) (tC (.bl b)) b := ⟨pe_bl, fun _ _ _ _ q => q⟩
theorem qh_one {op} (h : QHB X i a e t b) : QHB X i a (.BoolOp op [e] pos) t b := ⟨pe_one h.p, h.j⟩
theorem qh_and (h : QHB X i a e1 t b) (g : QHB X i a (.BoolOp .And (e2 :: es) pos) u c) : QHB X i a (.BoolOp .And (e1 :: e2 :: es) pos) (tAndV t u) (b && c) := by
  refine ⟨pe_and h.p g.p, fun σ H Q hs q => h.j σ H _ hs ⟨b, rfl, ?_⟩⟩
  cases b with
  | true => exact g.j σ H Q hs q
  | false => exact q
theorem qh_or (h : QHB X i a e1 t b) (g : QHB X i a (.BoolOp .Or (e2 :: es) pos) u c) : QHB X i a (.BoolOp .Or (e1 :: e2 :: es) pos) (tOrV t u) (b || c) := by
  refine ⟨pe_or h.p g.p, fun σ H Q hs q => h.j σ H _ hs ⟨b, rfl, ?_⟩⟩
  cases b with
  | false => exact g.j σ H Q hs q
  | true => exact q
theorem qh_not (h : QHB X i a e t b) : QHB X i a (.UnaryOp .Not e pos) (tNotV t) (!b) := ⟨pe_not h.p, fun σ H Q hs q => h.j σ H _ hs ⟨b, rfl, q⟩⟩
theorem qht_val (h : QHB X i a e t b) (he : ∀ whole, isTrue e X.env whole = (do let v ← whole; standAt e.pos; holding [v] (truthy v)) := by intro _; rfl) : QHT X i a e (tB t) b := ⟨pt_val h.p he, fun σ H Q hs q => h.j σ H _ hs ⟨b, rfl, q⟩⟩
theorem qht_not (h : QHT X i a e tt b) : QHT X i a (.UnaryOp .Not e pos) (tNot tt) (!b) := ⟨pt_not h.p, fun σ H Q hs q => h.j σ H _ hs q⟩
theorem qhw_pt (h : QHW X i a e tt b) : QHT X i a e tt b := ⟨h.p.pt, h.j⟩
theorem qhw_and1 (h : QHT X i a e tt b) : QHW X i a (.BoolOp .And [e] pos) tt b := ⟨pw_and1 h.p, h.j⟩
theorem qhw_or1 (h : QHT X i a e tt b) : QHW X i a (.BoolOp .Or [e] pos) tt b := ⟨pw_or1 h.p, h.j⟩
theorem qhw_and (h : QHT X i a e1 tt b) (g : QHW X i a (.BoolOp .And (e2 :: es) pos) tu c) : QHW X i a (.BoolOp .And (e1 :: e2 :: es) pos) (tAnd tt tu) (b && c) := by
  refine ⟨pw_and h.p g.p, fun σ H Q hs q => h.j σ H _ hs ?_⟩
  cases b with
  | true => exact g.j σ H Q hs q
  | false => exact q
theorem qhw_or (h : QHT X i a e1 tt b) (g : QHW X i a (.BoolOp .Or (e2 :: es) pos) tu c) : QHW X i a (.BoolOp .Or (e1 :: e2 :: es) pos) (tOr tt tu) (b || c) := by
  refine ⟨pw_or h.p g.p, fun σ H Q hs q => h.j σ H _ hs ?_⟩
  cases b with
  | false => exact g.j σ H Q hs q
  | true => exact q
theorem qhs_ret (h : QHB X i a e t b) : QHS X i a (.Return (some e) pos) (tRet t) (some b) := ⟨ps_ret h.p, fun σ H En hs q => h.j σ H _ hs q⟩
theorem qhs_if (h : QHT X i a e tt b) (g1 : QHSs X i a s1 ts o) (g2 : QHSs X i a s2 us o2) : QHS X i a (.If e s1 s2 pos) (tIfS tt ts us) (if b then o else o2) := by
  refine ⟨ps_if h.p g1.p g2.p, fun σ H En hs q => h.j σ H _ hs ?_⟩
  cases b with
  | true => exact g1.j σ H En hs q
  | false => exact g2.j σ H En hs q
theorem qhss_nil : QHSs X i a [] tNext none := ⟨pss_nil, fun _ _ _ _ q => q⟩
theorem qhss_one (h : QHS X i a st ts o) : QHSs X i a [st] ts o := ⟨pss_one h.p, h.j⟩
theorem qhss_cons (h : QHS X i a st ts o) (g : QHSs X i a sts us o2) : QHSs X i a (st :: sts) (tSeq ts us) (nxH o o2) := by
  refine ⟨pss_cons h.p g.p, fun σ H En hs q => h.j σ H _ hs ?_⟩
  cases o with
  | some b => exact q
  | none => exact g.j σ H En hs q
/-- isinstance(e, C) -/
theorem qh_is {K : PySem.W.Frag} {oe : Obj} {pn : List (Addr × Obj)} {xs : List Str} {k n : Str} (F : ExAll K X.mg xs) (hk : k ∈ xs) (hx : x ∈ xs) (hz : Zc (.ref (He.ga K k)) none oe) (hf : ∃ vs, oe.data = .fields vs) (hK : X.K = K) (hN : (X.suite a ((a, oe) :: pn)).N[i]? = some n) (hv : Vis X.env.scope n)
    (hg : Gl X "isinstance") (hm : X.mg "isinstance" = none) (hgx : Gl X x) (hn : (n == ("__debug__" : Str)) = false := by decide) (hn2 : (n == ("__classdict__" : Str)) = false := by decide) (hdb : (x == ("__debug__" : Str)) = false := by decide) :
    QHB (X.suite a ((a, oe) :: pn)) i a (.Call (.Name "isinstance" p) [.Name n p2, .Name x p3] [] pos) (tCB (rIsE K (He.ga K k) a) (tCons (tVar i) (tCons (tC (.ref (He.ga K x))) tNil))) (isaB k x) := by
  subst hK
  have f := F.all k hk
  have g := F.all x hx
  refine ⟨pe_callB (X := X.suite a ((a, oe) :: pn)) (call_isE f.ec hz hf) hg hm (by rfl) (pa_cons (pv i hN hv hn hn2) (pa_cons (pe_glob hgx g.gC rfl hdb) pa_nil (by rfl)) (by rfl)) (by decide) (by decide) (by rfl) (by rfl), ?_⟩
  intro σ H Q hs q
  exact ⟨_, hs, .ref (He.ga X.K x), .ref (He.ga X.K x), isaB k x, rfl, fun u h => h, f.kit x hx, q⟩
/-- isinstance(e, ValueError) -/
theorem qh_isV {K : PySem.W.Frag} {oe : Obj} {pn : List (Addr × Obj)} {xs : List Str} {k n : Str} (F : ExAll K X.mg xs) (hk : k ∈ xs) (hz : Zc (.ref (He.ga K k)) none oe) (hf : ∃ vs, oe.data = .fields vs) (hK : X.K = K) (hN : (X.suite a ((a, oe) :: pn)).N[i]? = some n) (hv : Vis X.env.scope n)
    (hg : Gl X "isinstance") (hm : X.mg "isinstance" = none) (hgx : Gl X "ValueError") (hmx : X.mg "ValueError" = none) (hn : (n == ("__debug__" : Str)) = false := by decide) (hn2 : (n == ("__classdict__" : Str)) = false := by decide) :
    QHB (X.suite a ((a, oe) :: pn)) i a (.Call (.Name "isinstance" p) [.Name n p2, .Name "ValueError" p3] [] pos) (tCB (rIsE K (He.ga K k) a) (tCons (tVar i) (tCons (tC (.ty "ValueError")) tNil))) true := by
  subst hK
  have f := F.all k hk
  refine ⟨pe_callB (X := X.suite a ((a, oe) :: pn)) (call_isE f.ec hz hf) hg hm (by rfl) (pa_cons (pv i hN hv hn hn2) (pa_cons (pe_bltn hgx hmx (by rfl) rfl (by decide) (by decide)) pa_nil (by rfl)) (by rfl)) (by decide) (by decide) (by rfl) (by rfl), ?_⟩
  intro σ H Q hs q
  exact ⟨_, hs, .ty "ValueError", .type "ValueError", true, rfl, fun u h => h, f.kitV, q⟩
end
/-! ### try: .. except ProbeError as n: .. -/
def sTry (xs : List Str) (i : Nat) (hd : Str → Option Bool) (body : DS) : DS := fun s => match body s with
  | some (.exc c s1) => if c ∈ xs ∧ i < s1.length then match hd c with
      | some b => some (.ret (.bl b) .full)
      | none => some (.next (s1.set i none))
    else none
  | r => r
section
variable {X : Cx} {K : PySem.W.Frag} {Wx : WX} {xs : List Str} {i : Nat} {n : Str} {hd : Str → Option Bool} {body suite : List Stmt} {b0 : Stmt} {np p pos pos' : Pos} {tb : WX → TS} {d : DS} {tk : Addr → Str → TS}
theorem inv_xe {pn pins : List (Addr × Obj)} {xe xe' : Value → Shared → Prop} {σ : L2.St} {H : Hp} {s : Shared} (I : Inv (X.tr pn xe) pins σ H s) : Inv (X.tr pn xe') pins σ H s :=
  ⟨⟨I.ok.mod, I.ok.kind, I.ok.glob, I.ok.blt, I.ok.above, I.ok.inj, I.ok.has, I.ok.cab, I.ok.hd, I.ok.frames, I.ok.stk, I.ok.exf, I.ok.bs, I.ok.bsz, I.ok.noex, I.ok.exfs, I.ok.funs, I.ok.frf⟩, I.os, I.bare, I.base, I.loc, I.cell, I.free, I.freeC, I.pin, I.hok, I.len⟩
/-- a context that takes whatever W asks for -/
theorem takes_any (pn : List (Addr × Obj)) (W : WX) : Takes (X.tr pn fun u s' => XE (X.tr pn fun _ _ => False) W u s') W := by
  rintro u s' ⟨a, B, sI, pins, σ, H, cls, d, e, I, r⟩
  exact ⟨a, B, sI, pins, σ, H, cls, d, e, inv_xe I, r⟩
/-- the suite's reading, whatever class is caught -/
def tSuite (K : PySem.W.Frag) (xs : List Str) (tk : Addr → Str → TS) (a : Addr) (cls : Value) (dd : Option Addr) : TS := fun En σ H => ∃ k, k ∈ xs ∧ cls = .ref (He.ga K k) ∧ dd = none ∧ tk a k En σ H
theorem qs_try (hN : X.N.Nodup) (tkx : Takes X Wx) (F : ExAll K X.mg xs) (hgP : Gl X "ProbeError")
    (hb : ∀ (W : WX) (pn : List (Addr × Obj)) (xe : Value → Shared → Prop), Takes (X.tr pn xe) W → QSs (X.tr pn xe) K (wOf (clK K) W) body (tb W) d)
    (hsu : ∀ (a : Addr) (oe : Obj) (pn : List (Addr × Obj)) (k : Str), k ∈ xs → Zc (.ref (He.ga K k)) none oe → (∃ vs, oe.data = .fields vs) → QHSs (X.suite a ((a, oe) :: pn)) i a (b0 :: suite) (tk a k) (hd k)) (hs : X.stack = X.env :: X.outer := by rfl) (hf : X.env.frame = some X.env.locals := by rfl) (hi : X.N[i]? = some n := by rfl) (hln : X.env.kindOf n = some .local := by rfl) (hk : X.K = K := by rfl) (hl : i < X.N.length := by decide) :
    QS X K (wOf (clK K) Wx) (.Try body [.ExceptHandler (some (.Name "ProbeError" np)) (some n) (b0 :: suite) pos'] [] [] pos) (fun En σ H => tb (wAs X.K (clK K "ProbeError") i (tSuite K xs tk) Wx En) En σ H) (sTry xs i hd d) := by
  subst hk
  refine ⟨rfl, ?_, ?_⟩
  · refine ps_try_as hs hf hN hi hln ⟨hgP, by decide, .inl (F.all _ F.pe).gC⟩ tkx (fun W pn xe t q => (hb W pn xe t).p) fun a oe cls dd pn hz hfl => ?_
    refine ⟨fun pins s σ H En I h => ?_⟩
    obtain ⟨k, hk, rfl, rfl, h⟩ := h
    exact (hsu a oe pn k hk hz hfl).p.run pins s σ H En I h
  · intro s o e B H σ Fs R0 En p
    have js := (hb (wAs X.K (clK X.K "ProbeError") i (tSuite X.K xs tk) Wx En) [] _ (takes_any [] _)).j
    unfold sTry at e
    cases e1 : d s with
    | none => rw [e1] at e; cases e
    | some r =>
      rw [e1] at e
      refine js s r e1 B H σ Fs R0 En ?_
      cases r with
      | next s1 => cases e; exact p
      | brk s1 => cases e; exact p
      | cont s1 => cases e; exact p
      | ret dd ow => cases e; exact p
      | exc c s1 =>
        simp only at e
        split at e
        · rename_i hc
          obtain ⟨hc, hl1⟩ := hc
          intro σ' B' H' Fs' R1 y1
          have f := F.all c hc
          have hlen : i < σ'.length := by
            rw [← R1.l1]
            exact hl1
          refine ⟨true, f.exm, fun _ a ha => ⟨c, hc, rfl, rfl, ?_⟩, fun z => nomatch z⟩
          have hs0 : (σ'.set i (some (.ref a)))[i]? = some (some (.ref a)) := List.getElem?_set_self hlen
          refine (hsu a { cls := .ref (He.ga X.K c), dict := none, data := .fields #[], slots := #[] } [] c hc ⟨rfl, rfl⟩ ⟨_, rfl⟩).j _ H' _ hs0 ?_
          cases eh : hd c with
          | some b =>
            rw [eh] at e
            cases e
            exact p (.bl b) B' H' [] R1.ex (y1.le fun a => Nat.zero_le _) (fun a => w_le) (Own.im rfl (.bl b))
          | none =>
            rw [eh] at e
            cases e
            show En.nx ((σ'.set i (some (.ref a))).set i none) H'
            rw [List.set_set]
            exact p (L2.wipe σ' [i]) B' H' (wipeF [i] Fs') (R1.wipe [i]) (y1.le (wipeF_le [i] Fs'))
        · cases e
end
end Dv

namespace Dv
open PySem L2 PySem.Spec PyProof.Rows

/-! ### the classes, as the head tells them -/
def ecB (K : PySem.W.Frag) (C : Addr) : Bool :=
  decide (PySem.W.findIn K (.ref C) "__getattribute__" = some (some (.builtin "BaseException.__getattribute__"))) && (decide (PySem.W.findIn K (.ref C) "__getattr__" = some none) && (decide (PySem.W.subIn K (.ref C) (.type "BaseException") = some true) &&
    (PySem.W.hasDictIn K C && (decide (PySem.W.findIn K (.ref C) "__class__" = some (some (.builtin "object.__class__"))) && (decide (PySem.W.specialIn K (.builtin "object.__class__") "__get__" = some (some (.builtin "getset_descriptor.__get__"))) &&
      (decide (PySem.W.takesIn K (.builtin "object.__class__") = some true) && decide (PySem.W.mroIn K C (.type "object") = some true)))))))
theorem ecB_ok {K : PySem.W.Frag} {C : Addr} (h : ecB K C = true) : ExcC K C := by
  unfold ecB at h
  simp only [Bool.and_eq_true, decide_eq_true_eq] at h
  obtain ⟨h1, h2, h3, h4, h5, h6, h7, h8⟩ := h
  exact ⟨h1, h2, h3, h4, h5, h6, h7, h8⟩
def exB1 (xs : List Str) (K : PySem.W.Frag) (c : Str) : Bool :=
  ecB K (He.ga K c) && (decide (PySem.W.exmOne K (.ref (He.ga K c)) (.ref (He.ga K "ProbeError")) = some true) && ((xs.all fun x => decide (PySem.W.kitOne K (.ref (He.ga K c)) (.ref (He.ga K x)) = some (isaB c x))) && decide (PySem.W.kitOne K (.ref (He.ga K c)) (.type "ValueError") = some true)))
def exOk (xs : List Str) (K : PySem.W.Frag) : Bool := xs.all (exB1 xs K)
theorem exAll_of {K : PySem.W.Frag} {h : Heap} {mg : Str → Option Value} {fa : List He.Fa} {fn : List He.DefD} {xs : List Str} {w : World} {ts : List He.Tab} {tf : List He.Defn} (X : K.In h) (G : h.Ns mainGlobals mg) (c : He.SaysX fa fn ts tf (exOk xs) w h K)
    (hg : ∀ x ∈ xs, He.Fa.glo x ∈ fa) (he : ∀ x ∈ xs, He.Fa.exc x ∈ fa) (hp : ("ProbeError" : Str) ∈ xs) : ExAll K mg xs := by
  refine ⟨fun x hx => ?_, hp⟩
  have m := List.all_eq_true.mp c.more x hx
  unfold exB1 at m
  simp only [Bool.and_eq_true, decide_eq_true_eq, List.all_eq_true] at m
  obtain ⟨m1, m2, m3, m4⟩ := m
  obtain ⟨e1, e2, e3, e4⟩ := He.exc_ok (c.t.d.facts (he x hx))
  exact ⟨He.glo_ok X G (c.t.d.facts (hg x hx)), e1, e2, e3, e4, ecB_ok m1, m2, m3, m4⟩
end Dv

namespace Dv
open PySem L2 Evl

/-! ### dicts -/
def cDNewK : DE (D × Ow) := fun s => some (.ok (.dK [], .full) s)
def cDNewT : DE (D × Ow) := fun s => some (.ok (.dT [], .full) s)
section
variable {K : PySem.W.Frag} {W : WW}
theorem jcDNewK : JC K W tDNewK cDNewK := by
  intro s r e B H σ Fs R0 Q P
  cases e
  intro p hp
  have x : Ex H (upd H p (.dK [])) := Ex.new hp
  refine P (.ref p) B (upd H p (.dK [])) Fs [p] (R0.ext x) (ES.more R0.ex x fun a ha => by rw [List.mem_singleton.mp ha]; exact hp) (val_new R0.ex hp (fun x => R0.wf x) R0.lv) (fun a ha => by rw [List.mem_singleton.mp ha, upd_same]; exact fun z => nomatch z) ?_
  exact Own.dk (ks := []) (kd := []) (F := []) upd_same rfl .nil
theorem jcDNewT : JC K W tDNewT cDNewT := by
  intro s r e B H σ Fs R0 Q P
  cases e
  intro p hp
  have x : Ex H (upd H p (.dT [])) := Ex.new hp
  refine P (.ref p) B (upd H p (.dT [])) Fs [p] (R0.ext x) (ES.more R0.ex x fun a ha => by rw [List.mem_singleton.mp ha]; exact hp) (val_new R0.ex hp (fun x => R0.wf x) R0.lv) (fun a ha => by rw [List.mem_singleton.mp ha, upd_same]; exact fun z => nomatch z) ?_
  exact Own.dt (ks := []) (kd := []) (F := []) upd_same rfl .nil
end
section
variable {X : Cx} {K : PySem.W.Frag} {W : WW} {pos : Pos}
theorem q_dnewK (hk : X.K = K := by rfl) : QC X K W (.Dict [] [] pos) tDNewK cDNewK := ⟨hk, pe_dnewK, jcDNewK⟩
theorem q_dnewT (hk : X.K = K := by rfl) : QC X K W (.Dict [] [] pos) tDNewT cDNewT := ⟨hk, pe_dnewT, jcDNewT⟩
end
end Dv

namespace Dv
open PySem L2

/-! ### what a run by plain data does, as a wish -/
def E1 {α : Type} (de : DE α) (s : SD) (Q : Er α → Prop) : Prop := ∃ r, de s = some r ∧ Q r
def S1 (ds : DS) (s : SD) (Q : Out → Prop) : Prop := ∃ o, ds s = some o ∧ Q o
def F1 (df : DF) (a : List D) (Q : Fo → Prop) : Prop := ∃ o, df a = some o ∧ Q o
def O1 {α : Type} (o : Option α) (Q : α → Prop) : Prop := ∃ d, o = some d ∧ Q d
/-- on -/
def onE {α β : Type} (k : α → SD → Prop) (Q : Er β → Prop) : Er α → Prop
  | .ok a s => k a s
  | .exc c s => Q (.exc c s)
def onB (P : Prop) (P' : Prop) (c : Bool) : Prop := (c = true → P) ∧ (c = false → P')
section
variable {α β : Type} {s : SD} {Q : Er α → Prop} {QD : Er D → Prop} {QC : Er (D × Ow) → Prop} {QL : Er (List D) → Prop} {QB : Er Bool → Prop}
@[simp] theorem onE_ok {k : α → SD → Prop} {Q : Er β → Prop} {a : α} : onE k Q (.ok a s) = k a s := rfl
@[simp] theorem onE_exc {k : α → SD → Prop} {Q : Er β → Prop} {c : Str} : onE k Q (.exc c s) = Q (.exc c s) := rfl
@[simp] theorem O1_some {o : α} {Q : α → Prop} : O1 (some o) Q = Q o := by simp [O1]
@[simp] theorem O1_none {Q : α → Prop} : O1 none Q = False := by simp [O1]
theorem O1_ite {p : Prop} [Decidable p] {o o' : Option α} {Q : α → Prop} : O1 (if p then o else o') Q = ((p → O1 o Q) ∧ (¬p → O1 o' Q)) := by
  by_cases h : p <;> simp [h]
theorem O1_guard {p : Prop} [Decidable p] {o : Option α} {Q : α → Prop} : O1 (if p then o else none) Q = (p ∧ O1 o Q) := by
  by_cases h : p <;> simp [h]
theorem E1_def {de : DE α} : E1 de s Q = O1 (de s) Q := rfl
theorem S1_def {d : DS} {Q : Out → Prop} : S1 d s Q = O1 (d s) Q := rfl
theorem E1_bnd {da : DE α} {k : α → DE β} {Q : Er β → Prop} : E1 (bnd da k) s Q = E1 da s (onE (fun a s1 => E1 (k a) s1 Q) Q) := by
  unfold E1 bnd
  cases e : da s with
  | none => simp
  | some r => cases r <;> simp
@[simp] theorem E1_dC {d : D} : E1 (dC d) s QD = QD (.ok d s) := by simp [E1, dC]
theorem E1_pure {a : α} : E1 (fun s => some (.ok a s)) s Q = Q (.ok a s) := by simp [E1]
def atV (k : D → Ow → Prop) : Option Sl → Prop
  | some (some (d, ow)) => k d ow
  | _ => False
@[simp] theorem atV_some {k : D → Ow → Prop} {d : D} {ow : Ow} : atV k (some (some (d, ow))) = k d ow := rfl
theorem E1_dVar {i : Nat} : E1 (dVar i) s QD = atV (fun d _ => QD (.ok d s)) s[i]? := by
  unfold E1 dVar atV
  cases s[i]? with
  | none => simp
  | some x => cases x <;> simp
theorem E1_dOp {f : D → D → Option D} {a b : DE D} : E1 (dOp f a b) s QD = E1 a s (onE (fun x s1 => E1 b s1 (onE (fun y s2 => O1 (f x y) fun d => QD (.ok d s2)) QD)) QD) := by
  unfold dOp
  rw [E1_bnd]
  congr 1
  funext r
  cases r with
  | exc => rfl
  | ok x s1 =>
    show E1 (bnd b _) s1 QD = _
    rw [E1_bnd]
    congr 1
    funext r
    cases r with
    | exc => rfl
    | ok y s2 =>
      show E1 (fun s => (f x y).map _) s2 QD = _
      cases e : f x y <;> simp [E1, e, O1]
theorem E1_dUn {f : D → Option D} {a : DE D} : E1 (dUn f a) s QD = E1 a s (onE (fun x s1 => O1 (f x) fun d => QD (.ok d s1)) QD) := by
  unfold dUn
  rw [E1_bnd]
  congr 1
  funext r
  cases r with
  | exc => rfl
  | ok x s1 =>
    show E1 (fun s => (f x).map _) s1 QD = _
    cases e : f x <;> simp [E1, e, O1]
theorem E1_dCB {f : List D → Option D} {a : DE (List D)} : E1 (dCB f a) s QD = E1 a s (onE (fun x s1 => O1 (f x) fun d => QD (.ok d s1)) QD) := by
  unfold dCB
  rw [E1_bnd]
  congr 1
  funext r
  cases r with
  | exc => rfl
  | ok x s1 =>
    show E1 (fun s => (f x).map _) s1 QD = _
    cases e : f x <;> simp [E1, e, O1]
@[simp] theorem E1_dNil : E1 dNil s QL = QL (.ok [] s) := by simp [E1, dNil]
theorem E1_dCons {a : DE D} {l : DE (List D)} : E1 (dCons a l) s QL = E1 a s (onE (fun x s1 => E1 l s1 (onE (fun xs s2 => QL (.ok (x :: xs) s2)) QL)) QL) := by
  unfold dCons
  rw [E1_bnd]
  congr 1
  funext r
  cases r with
  | exc => rfl
  | ok x s1 =>
    show E1 (bnd l _) s1 QL = _
    rw [E1_bnd]
    congr 1
    funext r
    cases r with
    | exc => rfl
    | ok y s2 => simp [E1]
/-! tests -/
def isBl (P : Bool → Prop) : D → Prop
  | .bl b => P b
  | _ => False
@[simp] theorem isBl_bl {P : Bool → Prop} {b : Bool} : isBl P (.bl b) = P b := rfl
theorem E1_dTest {a : DE D} : E1 (dTest a) s QB = E1 a s (onE (fun x s1 => isBl (fun b => QB (.ok b s1)) x) QB) := by
  unfold dTest
  rw [E1_bnd]
  congr 1
  funext r
  cases r with
  | exc => rfl
  | ok x s1 => cases x <;> simp [E1, isBl]
theorem E1_dTruth {a : DE D} : E1 (dTruth a) s QB = E1 a s (onE (fun x s1 => O1 (truD x) fun b => QB (.ok b s1)) QB) := by
  unfold dTruth
  rw [E1_bnd]
  congr 1
  funext r
  cases r with
  | exc => rfl
  | ok x s1 =>
    simp only [onE_ok, E1_def]
    cases truD x with
    | none => simp
    | some b => simp only [Option.map_some, O1_some]
theorem E1_dAnd {a b : DE Bool} : E1 (dAnd a b) s QB = E1 a s (onE (fun c s1 => onB (E1 b s1 QB) (QB (.ok false s1)) c) QB) := by
  unfold dAnd
  rw [E1_bnd]
  congr 1
  funext r
  cases r with
  | exc => rfl
  | ok x s1 => cases x <;> simp [E1, onB]
theorem E1_dOr {a b : DE Bool} : E1 (dOr a b) s QB = E1 a s (onE (fun c s1 => onB (QB (.ok true s1)) (E1 b s1 QB) c) QB) := by
  unfold dOr
  rw [E1_bnd]
  congr 1
  funext r
  cases r with
  | exc => rfl
  | ok x s1 => cases x <;> simp [E1, onB]
theorem E1_dNot {a : DE Bool} : E1 (dNot a) s QB = E1 a s (onE (fun c s1 => QB (.ok (!c) s1)) QB) := by
  unfold dNot
  rw [E1_bnd]
  congr 1
  funext r
  cases r <;> simp [E1]
theorem E1_dAndV {a b : DE D} : E1 (dAndV a b) s QD = E1 a s (onE (fun x s1 => isBl (fun c => onB (E1 b s1 QD) (QD (.ok (.bl false) s1)) c) x) QD) := by
  unfold dAndV
  rw [E1_bnd]
  congr 1
  funext r
  cases r with
  | exc => rfl
  | ok x s1 => cases x with
    | bl c => cases c <;> simp [E1, onB]
    | _ => simp [E1, isBl]
theorem E1_dOrV {a b : DE D} : E1 (dOrV a b) s QD = E1 a s (onE (fun x s1 => isBl (fun c => onB (QD (.ok (.bl true) s1)) (E1 b s1 QD) c) x) QD) := by
  unfold dOrV
  rw [E1_bnd]
  congr 1
  funext r
  cases r with
  | exc => rfl
  | ok x s1 => cases x with
    | bl c => cases c <;> simp [E1, onB]
    | _ => simp [E1, isBl]
theorem E1_dNotV {a : DE D} : E1 (dNotV a) s QD = E1 a s (onE (fun x s1 => isBl (fun c => QD (.ok (.bl (!c)) s1)) x) QD) := by
  unfold dNotV
  rw [E1_bnd]
  congr 1
  funext r
  cases r with
  | exc => rfl
  | ok x s1 => cases x <;> simp [E1, isBl]
theorem E1_dIf {c : DE Bool} {a b : DE α} : E1 (dIf c a b) s Q = E1 c s (onE (fun c s1 => onB (E1 a s1 Q) (E1 b s1 Q) c) Q) := by
  unfold dIf
  rw [E1_bnd]
  congr 1
  funext r
  cases r with
  | exc => rfl
  | ok x s1 => cases x <;> simp [onB]
theorem E1_dIsi {t : String} {a : DE D} : E1 (dIsi t a) s QD = E1 a s (onE (fun x s1 => O1 ((tyN x).bind fun n => kitB n t) fun b => QD (.ok (.bl b) s1)) QD) := by
  unfold dIsi
  rw [E1_bnd]
  congr 1
  funext r
  cases r with
  | exc => rfl
  | ok x s1 =>
    simp only [onE_ok, E1_def]
    cases tyN x with
    | none => simp
    | some n =>
      simp only [Option.bind_some]
      cases kitB n t <;> simp
theorem E1_dChain {f g : D → D → Option D} {a b c : DE D} : E1 (dChain f g a b c) s QD = E1 a s (onE (fun x s1 => E1 b s1 (onE (fun y s2 => O1 (f x y) (isBl fun k => onB (E1 c s2 (onE (fun z s3 => O1 (g y z) fun d => QD (.ok d s3)) QD)) (QD (.ok (.bl false) s2)) k)) QD)) QD) := by
  unfold dChain
  rw [E1_bnd]
  congr 1
  funext r
  cases r with
  | exc => rfl
  | ok x s1 =>
    show E1 (bnd b _) s1 QD = _
    rw [E1_bnd]
    congr 1
    funext r
    cases r with
    | exc => rfl
    | ok y s2 =>
      simp only [onE_ok]
      cases e : f x y with
      | none => simp [E1, e]
      | some d =>
        cases d with
        | bl k =>
          cases k with
          | false => simp [E1, e, onB]
          | true =>
            simp only [O1_some, isBl_bl, onB, e]
            have h : E1 (fun s => match (some (D.bl true) : Option D) with
              | some (.bl true) => bnd c (fun z s => (g y z).map fun d => .ok d s) s
              | some (.bl false) => some (.ok (.bl false) s)
              | _ => none) s2 QD = E1 (bnd c fun z s => (g y z).map fun d => .ok d s) s2 QD := rfl
            rw [h, E1_bnd]
            have h2 : (onE (fun z s1 => E1 (fun s => (g y z).map fun d => Er.ok d s) s1 QD) QD) = onE (fun z s3 => O1 (g y z) fun d => QD (.ok d s3)) QD := by
              funext r
              cases r with
              | exc => rfl
              | ok z s3 => cases e : g y z <;> simp [E1, e, O1]
            rw [h2]
            simp
        | _ => simp [E1, e, isBl]
/-! held things -/
theorem mv_full {d : D} : mvOw d .full = .full := rfl
theorem mv_top {d : D} : mvOw d .top = .top := rfl
theorem mv_no {d : D} : mvOw d .no = if imm d = true then .full else .no := rfl
theorem up_full {d : D} : upOw d .full = .full := rfl
theorem up_no {d : D} : upOw d .no = .no := rfl
theorem up_top {ds : List D} : upOw (.lst ds) .top = if immL ds = true then .full else .top := rfl
theorem E1_toB {a : DE (D × Ow)} : E1 (toB a) s QD = E1 a s (onE (fun x s1 => QD (.ok x.1 s1)) QD) := by
  unfold E1 toB
  cases e : a s with
  | none => simp
  | some r => cases r <;> simp
theorem E1_toC {a : DE D} : E1 (toC a) s QC = E1 a s (onE (fun d s1 => imm d = true ∧ QC (.ok (d, .full) s1)) QC) := by
  unfold E1 toC
  cases e : a s with
  | none => simp
  | some r =>
    cases r with
    | exc => simp
    | ok d s1 =>
      by_cases h : imm d = true <;> simp [h]
theorem E1_cMove {i : Nat} : E1 (cMove i) s QC = atV (fun d ow => QC (.ok (d, mvOw d ow) (s.set i none))) s[i]? := by
  unfold E1 cMove atV
  cases s[i]? with
  | none => simp
  | some x => cases x <;> simp
theorem E1_cAlias {i : Nat} : E1 (cAlias i) s QC = atV (fun d _ => (imm d = true → QC (.ok (d, .full) s)) ∧ (imm d = false → QC (.ok (d, .no) (s.set i (some (d, .no)))))) s[i]? := by
  unfold E1 cAlias atV
  cases s[i]? with
  | none => simp
  | some x =>
    cases x with
    | none => simp
    | some y =>
      obtain ⟨d, ow⟩ := y
      cases h : imm d <;> simp [h]
theorem E1_cShare {a : DE D} : E1 (cShare a) s QC = E1 a s (onE (fun d s1 => (imm d = true → QC (.ok (d, .full) s1)) ∧ (imm d = false → QC (.ok (d, .no) (fzAll s1)))) QC) := by
  unfold E1 cShare
  cases e : a s with
  | none => simp
  | some r =>
    cases r with
    | exc => simp
    | ok d s1 => cases h : imm d <;> simp [h]
theorem E1_cUp {a : DE (D × Ow)} : E1 (cUp a) s QC = E1 a s (onE (fun x s1 => QC (.ok (x.1, upOw x.1 x.2) s1)) QC) := by
  unfold E1 cUp
  cases e : a s with
  | none => simp
  | some r => cases r <;> simp
variable {QK : Er (List D × Bool) → Prop}
@[simp] theorem E1_cNil : E1 cNil s QK = QK (.ok ([], true) s) := by simp [E1, cNil]
theorem E1_cCons {a : DE (D × Ow)} {l : DE (List D × Bool)} : E1 (cCons a l) s QK = E1 a s (onE (fun x s1 => E1 l s1 (onE (fun y s2 => QK (.ok (x.1 :: y.1, decide (x.2 = .full) && y.2) s2)) QK)) QK) := by
  unfold cCons
  rw [E1_bnd]
  congr 1
  funext r
  cases r with
  | exc => rfl
  | ok x s1 =>
    show E1 (bnd l _) s1 QK = _
    rw [E1_bnd]
    congr 1
    funext r
    cases r <;> simp [E1]
theorem E1_cLst {l : DE (List D × Bool)} : E1 (cLst l) s QC = E1 l s (onE (fun y s1 => y.1.length ≤ 1000000 ∧ QC (.ok (.lst y.1, if y.2 then .full else .top) s1)) QC) := by
  unfold cLst
  rw [E1_bnd]
  congr 1
  funext r
  cases r with
  | exc => rfl
  | ok y s1 => by_cases h : y.1.length ≤ 1000000 <;> simp [E1, h]
theorem E1_cTup {l : DE (List D × Bool)} : E1 (cTup l) s QC = E1 l s (onE (fun y s1 => y.1.length ≤ 1000000 ∧ QC (.ok (.tup y.1, if y.2 then .full else .no) s1)) QC) := by
  unfold cTup
  rw [E1_bnd]
  congr 1
  funext r
  cases r with
  | exc => rfl
  | ok y s1 => by_cases h : y.1.length ≤ 1000000 <;> simp [E1, h]
def onF (QC : Er (D × Ow) → Prop) (s : SD) : Fo → Prop
  | .ret d ow => (imm d = true ∨ ow = .full → QC (.ok (d, .full) s)) ∧ (imm d = false ∧ ow ≠ .full → QC (.ok (d, ow) (fzAll s)))
  | .exc c => QC (.exc c s)
theorem E1_cCall {df : DF} {a : DE (List D)} : E1 (cCall df a) s QC = E1 a s (onE (fun ds s1 => O1 (df ds) (onF QC s1)) QC) := by
  unfold cCall
  rw [E1_bnd]
  congr 1
  funext r
  cases r with
  | exc => rfl
  | ok ds s1 =>
    simp only [onE_ok, E1_def]
    cases e : df ds with
    | none => simp
    | some o =>
      cases o with
      | exc c => simp [onF]
      | ret d ow => cases h : imm d <;> by_cases h2 : ow = .full <;> simp [onF, h, h2]
/-! statements -/
variable {a b : DS} {QS : Out → Prop}
def onN (k : SD → Prop) (Q : Out → Prop) : Out → Prop
  | .next s => k s
  | o => Q o
@[simp] theorem onN_next {k : SD → Prop} : onN k QS (.next s) = k s := rfl
@[simp] theorem onN_brk {k : SD → Prop} : onN k QS (.brk s) = QS (.brk s) := rfl
@[simp] theorem onN_cont {k : SD → Prop} : onN k QS (.cont s) = QS (.cont s) := rfl
@[simp] theorem onN_ret {k : SD → Prop} {d : D} {ow : Ow} : onN k QS (.ret d ow) = QS (.ret d ow) := rfl
@[simp] theorem onN_exc {k : SD → Prop} {c : Str} : onN k QS (.exc c s) = QS (.exc c s) := rfl
theorem S1_seq : S1 (sSeq a b) s QS = S1 a s (onN (fun s1 => S1 b s1 QS) QS) := by
  unfold S1 sSeq
  cases e : a s with
  | none => simp
  | some r => cases r <;> simp
@[simp] theorem S1_next : S1 sNext s QS = QS (.next s) := by simp [S1, sNext]
@[simp] theorem S1_brk : S1 sBrk s QS = QS (.brk s) := by simp [S1, sBrk]
@[simp] theorem S1_cont : S1 sCont s QS = QS (.cont s) := by simp [S1, sCont]
@[simp] theorem S1_never : S1 sNever s QS = False := by simp [S1, sNever]
def onS {α : Type} (k : α → SD → Prop) (Q : Out → Prop) : Er α → Prop
  | .ok a s => k a s
  | .exc c s => Q (.exc c s)
@[simp] theorem onS_ok {k : α → SD → Prop} {a : α} : onS k QS (.ok a s) = k a s := rfl
@[simp] theorem onS_exc {k : α → SD → Prop} {c : Str} : onS k QS (.exc c s) = QS (.exc c s) := rfl
theorem S1_set {i : Nat} {c : DE (D × Ow)} : S1 (sSet i c) s QS = E1 c s (onS (fun x s1 => i < s1.length ∧ QS (.next (s1.set i (some x)))) QS) := by
  unfold S1 E1 sSet
  cases e : c s with
  | none => simp
  | some r =>
    cases r with
    | exc => simp
    | ok x s1 => by_cases h : i < s1.length <;> simp [h]
theorem S1_drop {c : DE D} : S1 (sDrop c) s QS = E1 c s (onS (fun _ s1 => QS (.next s1)) QS) := by
  unfold S1 E1 sDrop
  cases e : c s with
  | none => simp
  | some r => cases r <;> simp
theorem S1_ret {c : DE (D × Ow)} : S1 (sRet c) s QS = E1 c s (onS (fun x _ => QS (.ret x.1 x.2)) QS) := by
  unfold S1 E1 sRet
  cases e : c s with
  | none => simp
  | some r => cases r <;> simp
@[simp] theorem S1_retN : S1 sRetN s QS = QS (.ret .non .full) := by simp [S1, sRetN]
theorem S1_if {c : DE Bool} : S1 (sIf c a b) s QS = E1 c s (onS (fun k s1 => onB (S1 a s1 QS) (S1 b s1 QS) k) QS) := by
  unfold S1 E1 sIf
  cases e : c s with
  | none => simp
  | some r =>
    cases r with
    | exc => simp
    | ok k s1 => cases k <;> simp [onB]
theorem S1_asg {tg : DT} {c : DE (D × Ow)} : S1 (sAsg tg c) s QS = E1 c s (onS (fun x s1 => O1 (tg x.1 x.2 s1) fun s2 => QS (.next s2)) QS) := by
  unfold S1 E1 sAsg
  cases e : c s with
  | none => simp
  | some r =>
    cases r with
    | exc => simp
    | ok x s1 => cases e2 : tg x.1 x.2 s1 <;> simp [O1, e2]
theorem S1_forR {tg : DT} {da : DE (List D)} {body : DS} : S1 (sForR tg da body) s QS = E1 da s (onS (fun ds s1 => match ds with
    | [.int j] => (-(2 ^ 62) ≤ j ∧ j < 2 ^ 62) ∧ S1 (goFor tg body (rngD 0 j.toNat)) s1 QS
    | [.int i, .int j] => (-(2 ^ 62) ≤ i ∧ i < 2 ^ 62 ∧ -(2 ^ 62) ≤ j ∧ j < 2 ^ 62) ∧ S1 (goFor tg body (rngD i (j - i).toNat)) s1 QS
    | _ => False) QS) := by
  unfold E1 sForR
  simp only [S1_def]
  cases e : da s with
  | none => simp
  | some r =>
    cases r with
    | exc => simp
    | ok ds s1 =>
      simp only [Option.some.injEq, exists_eq_left', onS_ok, S1_def]
      split
      · rw [O1_guard]
      · rw [O1_guard]
      · simp
theorem S1_forC {tg : DT} {c : DE (D × Ow)} {body : DS} : S1 (sForC tg c body) s QS = E1 c s (onS (fun x s1 => O1 (itemsOf x.1) fun its => S1 (goFor tg body (noIt its)) s1 QS) QS) := by
  unfold S1 E1 sForC
  cases e : c s with
  | none => simp
  | some r =>
    cases r with
    | exc => simp
    | ok x s1 => cases e2 : itemsOf x.1 <;> simp [O1, e2]
/-- a for loop, by what holds before each item -/
theorem S1_for {tg : DT} {body : DS} {items : List (D × Ow)} (P : Nat → SD → Prop) (h0 : P 0 s)
    (hs : ∀ k d ow s, items[k]? = some (d, ow) → P k s → O1 (tg d ow s) fun s1 => S1 body s1 fun o => match o with
      | .next s2 => P (k + 1) s2
      | .cont s2 => P (k + 1) s2
      | .brk s2 => QS (.next s2)
      | o => QS o) (hn : ∀ s, P items.length s → QS (.next s)) : S1 (goFor tg body items) s QS := by
  induction items generalizing s P with
  | nil => exact ⟨_, rfl, hn s h0⟩
  | cons it r ih =>
    obtain ⟨d, ow⟩ := it
    obtain ⟨s1, e1, o, e2, q⟩ := hs 0 d ow s rfl h0
    have key : ∀ s2, P 1 s2 → S1 (goFor tg body r) s2 QS := fun s2 h2 => ih (fun k => P (k + 1)) h2 (fun k d ow s hk hp => hs (k + 1) d ow s (by simpa using hk) hp) (fun s hp => hn s (by simpa using hp))
    show ∃ o, goFor tg body ((d, ow) :: r) s = some o ∧ QS o
    unfold goFor
    simp only [e1, e2]
    cases o with
    | next s2 => exact key s2 q
    | cont s2 => exact key s2 q
    | brk s2 => exact ⟨_, rfl, q⟩
    | ret d ow => exact ⟨_, rfl, q⟩
    | exc c s2 => exact ⟨_, rfl, q⟩
theorem rng_get {lo : Int} {n k : Nat} {x : D × Ow} (h : (rngD lo n)[k]? = some x) : k < n ∧ x = (.int (lo + k), .full) := by
  unfold rngD at h
  rw [List.getElem?_map] at h
  by_cases hk : k < n
  · rw [List.getElem?_range hk] at h
    cases h
    exact ⟨hk, rfl⟩
  · rw [List.getElem?_eq_none (by simpa using hk)] at h
    cases h
theorem rng_len {lo : Int} {n : Nat} : (rngD lo n).length = n := by simp [rngD]
theorem noIt_get {ds : List D} {k : Nat} {x : D × Ow} (h : (noIt ds)[k]? = some x) : ∃ d, ds[k]? = some d ∧ x = itm d .no := by
  rw [List.getElem?_map] at h
  cases e : ds[k]? with
  | none => rw [e] at h; cases h
  | some d => rw [e] at h; cases h; exact ⟨d, rfl, rfl⟩
theorem noIt_len {ds : List D} : (noIt ds).length = ds.length := by simp [noIt]
theorem S1.mono {d : DS} {Q Q' : Out → Prop} (h : S1 d s Q) (k : ∀ o, Q o → Q' o) : S1 d s Q' := by
  obtain ⟨o, e, q⟩ := h
  exact ⟨o, e, k o q⟩
theorem E1.mono {d : DE α} {Q Q' : Er α → Prop} (h : E1 d s Q) (k : ∀ o, Q o → Q' o) : E1 d s Q' := by
  obtain ⟨o, e, q⟩ := h
  exact ⟨o, e, k o q⟩
/-- a def, by its body's wish -/
theorem of_body {n N : Nat} {body : DS} {ds : List D} {o : Fo} (hl : ds.length = n) (h : S1 body (stD ds N) fun r => outF (some r) = some o) : dFn n N body ds = some o := by
  unfold dFn
  rw [if_pos hl]
  obtain ⟨r, e, q⟩ := h
  unfold dDef
  rw [e, q]
theorem of_bodyX {n N : Nat} {body : DS} {ds : List D} {Q : Fo → Prop} (hl : ds.length = n) (h : S1 body (stD ds N) fun r => O1 (outF (some r)) Q) : O1 (dFn n N body ds) Q := by
  unfold dFn
  rw [if_pos hl]
  obtain ⟨r, e, o, q, z⟩ := h
  unfold dDef
  exact ⟨o, by rw [e, q], z⟩
end
end Dv

namespace Dv
open PySem L2

/-- what stands in between -/
theorem S1_cut {a b : DS} {s : SD} {Q : Out → Prop} (P : SD → Prop) (h : S1 a s fun o => ∃ s1, o = .next s1 ∧ P s1) (k : ∀ s1, P s1 → S1 b s1 Q) : S1 (sSeq a b) s Q := by
  rw [S1_seq]
  refine h.mono ?_
  rintro o ⟨s1, rfl, hp⟩
  exact k s1 hp
/-! ### equality -/
mutual
def nice : Nat → D → Bool
  | _, .non => true
  | _, .bl _ => true
  | _, .int _ => true
  | _, .str x => PyData.canLay0 (.str x)
  | n + 1, .tup xs => niceL n xs
  | n + 1, .lst xs => niceL n xs
  | n + 1, .sc xs => niceL n xs
  | _, _ => false
def niceL : Nat → List D → Bool
  | _, [] => true
  | n, x :: xs => nice n x && niceL n xs
end
mutual
def eqD : D → D → Bool
  | .non, y => match y with
    | .non => true
    | _ => false
  | .bl a, y => match y with
    | .bl b => a == b
    | .int j => (if a then 1 else 0) == j
    | _ => false
  | .int i, y => match y with
    | .bl b => i == (if b then 1 else 0)
    | .int j => i == j
    | _ => false
  | .str a, y => match y with
    | .str b => a == b
    | _ => false
  | .lst xs, y => match y with
    | .lst ys => eqDL xs ys
    | .sc ys => eqDL xs ys
    | _ => false
  | .sc xs, y => match y with
    | .lst ys => eqDL xs ys
    | .sc ys => eqDL xs ys
    | _ => false
  | .tup xs, y => match y with
    | .tup ys => eqDL xs ys
    | _ => false
  | .dK _, _ => false
  | .dT _, _ => false
  | .dN _, _ => false
  | .ins _ _, _ => false
def eqDL : List D → List D → Bool
  | [], ys => match ys with
    | [] => true
    | _ => false
  | x :: xs, ys => match ys with
    | [] => false
    | y :: ys => eqD x y && eqDL xs ys
end
mutual
theorem nice_py : ∀ {n : Nat} {d : D}, nice n d = true → ∃ p, d.py = some p ∧ p.canLay0 = true ∧ p.depth ≤ n
  | n, .non, _ => ⟨_, rfl, by simp [PyData.canLay0], by simp [PyData.depth]⟩
  | n, .bl _, _ => ⟨_, rfl, by simp [PyData.canLay0], by simp [PyData.depth]⟩
  | n, .int _, _ => ⟨_, rfl, by simp [PyData.canLay0], by simp [PyData.depth]⟩
  | n, .str x, h => ⟨_, rfl, by simpa [nice] using h, by simp [PyData.depth]⟩
  | n + 1, .tup xs, h => by
    obtain ⟨ps, e, c, dd⟩ := niceL_py (n := n) (ds := xs) (by simpa [nice] using h)
    exact ⟨.tuple ps, by simp [D.py, e], by simpa [PyData.canLay0] using c, by simp only [PyData.depth]; omega⟩
  | n + 1, .lst xs, h => by
    obtain ⟨ps, e, c, dd⟩ := niceL_py (n := n) (ds := xs) (by simpa [nice] using h)
    exact ⟨.list ps, by simp [D.py, e], by simpa [PyData.canLay0] using c, by simp only [PyData.depth]; omega⟩
  | n + 1, .sc xs, h => by
    obtain ⟨ps, e, c, dd⟩ := niceL_py (n := n) (ds := xs) (by simpa [nice] using h)
    exact ⟨.list ps, by simp [D.py, e], by simpa [PyData.canLay0] using c, by simp only [PyData.depth]; omega⟩
  | 0, .tup _, h => by simp [nice] at h
  | 0, .lst _, h => by simp [nice] at h
  | 0, .sc _, h => by simp [nice] at h
  | _, .dK _, h => by simp [nice] at h
  | _, .dT _, h => by simp [nice] at h
  | _, .dN _, h => by simp [nice] at h
  | _, .ins _ _, h => by simp [nice] at h
theorem niceL_py : ∀ {n : Nat} {ds : List D}, niceL n ds = true → ∃ ps, D.pyL ds = some ps ∧ PyData.canLayAll0 ps = true ∧ PyData.depthAll ps ≤ n
  | n, [], _ => ⟨[], rfl, rfl, by simp [PyData.depthAll]⟩
  | n, d :: ds, h => by
    simp only [niceL, Bool.and_eq_true] at h
    obtain ⟨p, e1, c1, d1⟩ := nice_py h.1
    obtain ⟨ps, e2, c2, d2⟩ := niceL_py h.2
    refine ⟨p :: ps, by simp [D.pyL, e1, e2], by simp [PyData.canLayAll0, c1, c2], ?_⟩
    simp only [PyData.depthAll]
    omega
end
mutual
theorem eqv_D : ∀ {x y : D} {p q : PyData}, x.py = some p → y.py = some q → PyData.eqv p q = eqD x y
  | .non, y, p, q, h1, h2 => by
    cases h1
    cases y <;> simp [D.py] at h2 <;> first | (obtain ⟨_, _, rfl⟩ := h2; simp [PyData.eqv, eqD]) | (subst h2; simp [PyData.eqv, eqD])
  | .bl b, y, p, q, h1, h2 => by
    cases h1
    cases y <;> simp [D.py] at h2 <;> first | (obtain ⟨_, _, rfl⟩ := h2; simp [PyData.eqv, eqD]) | (subst h2; simp [PyData.eqv, eqD])
  | .int b, y, p, q, h1, h2 => by
    cases h1
    cases y <;> simp [D.py] at h2 <;> first | (obtain ⟨_, _, rfl⟩ := h2; simp [PyData.eqv, eqD]) | (subst h2; simp [PyData.eqv, eqD])
  | .str b, y, p, q, h1, h2 => by
    cases h1
    cases y <;> simp [D.py] at h2 <;> first | (obtain ⟨_, _, rfl⟩ := h2; simp [PyData.eqv, eqD]) | (subst h2; simp [PyData.eqv, eqD])
  | .tup xs, y, p, q, h1, h2 => by
    simp only [D.py, Option.map_eq_some_iff] at h1
    obtain ⟨ps, h1, rfl⟩ := h1
    cases y with
    | tup ys =>
      simp only [D.py, Option.map_eq_some_iff] at h2
      obtain ⟨qs, h2, rfl⟩ := h2
      simpa [PyData.eqv, eqD] using eqvL_D h1 h2
    | _ => simp [D.py] at h2 <;> first | (obtain ⟨_, _, rfl⟩ := h2; simp [PyData.eqv, eqD]) | (subst h2; simp [PyData.eqv, eqD])
  | .lst xs, y, p, q, h1, h2 => by
    simp only [D.py, Option.map_eq_some_iff] at h1
    obtain ⟨ps, h1, rfl⟩ := h1
    cases y with
    | lst ys =>
      simp only [D.py, Option.map_eq_some_iff] at h2
      obtain ⟨qs, h2, rfl⟩ := h2
      simpa [PyData.eqv, eqD] using eqvL_D h1 h2
    | sc ys =>
      simp only [D.py, Option.map_eq_some_iff] at h2
      obtain ⟨qs, h2, rfl⟩ := h2
      simpa [PyData.eqv, eqD] using eqvL_D h1 h2
    | _ => simp [D.py] at h2 <;> first | (obtain ⟨_, _, rfl⟩ := h2; simp [PyData.eqv, eqD]) | (subst h2; simp [PyData.eqv, eqD])
  | .sc xs, y, p, q, h1, h2 => by
    simp only [D.py, Option.map_eq_some_iff] at h1
    obtain ⟨ps, h1, rfl⟩ := h1
    cases y with
    | lst ys =>
      simp only [D.py, Option.map_eq_some_iff] at h2
      obtain ⟨qs, h2, rfl⟩ := h2
      simpa [PyData.eqv, eqD] using eqvL_D h1 h2
    | sc ys =>
      simp only [D.py, Option.map_eq_some_iff] at h2
      obtain ⟨qs, h2, rfl⟩ := h2
      simpa [PyData.eqv, eqD] using eqvL_D h1 h2
    | _ => simp [D.py] at h2 <;> first | (obtain ⟨_, _, rfl⟩ := h2; simp [PyData.eqv, eqD]) | (subst h2; simp [PyData.eqv, eqD])
  | .dK _, _, _, _, h1, _ => by simp [D.py] at h1
  | .dT _, _, _, _, h1, _ => by simp [D.py] at h1
  | .dN _, _, _, _, h1, _ => by simp [D.py] at h1
  | .ins _ _, _, _, _, h1, _ => by simp [D.py] at h1
theorem eqvL_D : ∀ {xs ys : List D} {ps qs : List PyData}, D.pyL xs = some ps → D.pyL ys = some qs → PyData.eqvAll ps qs = eqDL xs ys
  | [], [], ps, qs, h1, h2 => by cases h1; cases h2; rfl
  | [], y :: ys, ps, qs, h1, h2 => by
    cases h1
    simp only [D.pyL] at h2
    split at h2
    · cases h2; rfl
    · cases h2
  | x :: xs, [], ps, qs, h1, h2 => by
    cases h2
    simp only [D.pyL] at h1
    split at h1
    · cases h1; rfl
    · cases h1
  | x :: xs, y :: ys, ps, qs, h1, h2 => by
    simp only [D.pyL] at h1 h2
    split at h1
    · rename_i a b e1 e2
      cases h1
      split at h2
      · rename_i a' b' e3 e4
        cases h2
        simp only [PyData.eqvAll, eqDL, eqv_D e1 e3, eqvL_D e2 e4]
      · cases h2
    · cases h1
end
theorem fEqB_nice {x y : D} (hx : nice 64 x = true) (hy : nice 64 y = true) : fEqB x y = some (eqD x y) := by
  obtain ⟨p, e1, c1, d1⟩ := nice_py hx
  obtain ⟨q, e2, c2, d2⟩ := nice_py hy
  unfold fEqB
  simp only [e1, e2, SeqAt.shaped, c1, c2, d1, d2, decide_true, Bool.and_self, if_true, eqv_D e1 e2]
section
variable {Q : D → Prop} {x y : D}
theorem O1_fEq (hx : nice 64 x = true) (hy : nice 64 y = true) : O1 (fEq x y) Q = Q (.bl (eqD x y)) := by simp [fEq, fEqB_nice hx hy]
theorem O1_fNe (hx : nice 64 x = true) (hy : nice 64 y = true) : O1 (fNe x y) Q = Q (.bl (!eqD x y)) := by simp [fNe, fEqB_nice hx hy]
theorem eq_ints {l m : List Int} : eqDL (l.map D.int) (m.map D.int) = decide (l = m) := by
  induction l generalizing m with
  | nil => cases m <;> simp [eqDL]
  | cons a l ih =>
    cases m with
    | nil => simp [eqDL]
    | cons b m => by_cases h : a = b <;> simp [eqDL, eqD, ih, h]
theorem nice_ints {n : Nat} {l : List Int} : niceL n (l.map D.int) = true := by
  induction l with
  | nil => simp [niceL]
  | cons a l ih => simp [niceL, nice, ih]
mutual
theorem eqD_self : ∀ {n : Nat} {d : D}, nice n d = true → eqD d d = true
  | _, .non, _ => by simp [eqD]
  | _, .bl _, _ => by simp [eqD]
  | _, .int _, _ => by simp [eqD]
  | _, .str _, _ => by simp [eqD]
  | n + 1, .tup xs, h => by simpa [eqD] using eqDL_self (n := n) (ds := xs) (by simpa [nice] using h)
  | n + 1, .lst xs, h => by simpa [eqD] using eqDL_self (n := n) (ds := xs) (by simpa [nice] using h)
  | n + 1, .sc xs, h => by simpa [eqD] using eqDL_self (n := n) (ds := xs) (by simpa [nice] using h)
  | 0, .tup _, h => by simp [nice] at h
  | 0, .lst _, h => by simp [nice] at h
  | 0, .sc _, h => by simp [nice] at h
  | _, .dK _, h => by simp [nice] at h
  | _, .dT _, h => by simp [nice] at h
  | _, .dN _, h => by simp [nice] at h
  | _, .ins _ _, h => by simp [nice] at h
theorem eqDL_self : ∀ {n : Nat} {ds : List D}, niceL n ds = true → eqDL ds ds = true
  | _, [], _ => by simp [eqDL]
  | n, d :: ds, h => by
    simp only [niceL, Bool.and_eq_true] at h
    simp [eqDL, eqD_self h.1, eqDL_self h.2]
end
/-! ### operations -/
variable {i j : Int}
theorem O1_fSub : O1 (fSub (.int i) (.int j)) Q = Q (.int (i - j)) := by simp [fSub, fI]
theorem O1_fMod : O1 (fMod (.int i) (.int j)) Q = (0 < j ∧ Q (.int (i % j))) := by simp [fMod, fI, O1_guard]
theorem O1_fDiv : O1 (fDiv (.int i) (.int j)) Q = ((0 < j ∧ j.natAbs.log2 < 9000) ∧ Q (.int (i / j))) := by simp [fDiv, fI, O1_guard]
theorem O1_fPow : O1 (fPow (.int i) (.int j)) Q = ((0 ≤ j ∧ j ≤ 1000 ∧ i.natAbs < 2 ^ 64) ∧ Q (.int (i ^ j.toNat))) := by simp [fPow, fI, O1_guard]
theorem O1_fLt : O1 (fLt (.int i) (.int j)) Q = Q (.bl (decide (i < j))) := by simp [fLt, fI]
theorem O1_fLe : O1 (fLe (.int i) (.int j)) Q = Q (.bl (decide (i ≤ j))) := by simp [fLe, fI]
theorem O1_fGt : O1 (fGt (.int i) (.int j)) Q = Q (.bl (decide (j < i))) := by simp [fGt, fI]
theorem O1_fGe : O1 (fGe (.int i) (.int j)) Q = Q (.bl (decide (j ≤ i))) := by simp [fGe, fI]
theorem O1_fNeg : O1 (fNeg (.int i)) Q = Q (.int (-i)) := by simp [fNeg]
theorem O1_fIsN : O1 (fIsN x .non) Q = Q (.bl (isN x)) := by simp [fIsN]
theorem O1_fNotN : O1 (fNotN x .non) Q = Q (.bl (!isN x)) := by simp [fNotN]
theorem O1_fIsBl {a b : Bool} : O1 (fIsBl (.bl a) (.bl b)) Q = Q (.bl (decide (a = b))) := by simp [fIsBl]
theorem O1_fNotBl {a b : Bool} : O1 (fNotBl (.bl a) (.bl b)) Q = Q (.bl (!decide (a = b))) := by simp [fNotBl]
theorem O1_lenL {ds : List D} : O1 (fLen [.lst ds]) Q = Q (.int ds.length) := by simp [fLen]
theorem O1_lenS {ds : List D} : O1 (fLen [.sc ds]) Q = Q (.int ds.length) := by simp [fLen]
theorem O1_lenT {ds : List D} : O1 (fLen [.tup ds]) Q = Q (.int ds.length) := by simp [fLen]
theorem O1_max2 : O1 (fMax2 [.int i, .int j]) Q = Q (.int (if j > i then j else i)) := by simp [fMax2]
theorem O1_min2 : O1 (fMin2 [.int i, .int j]) Q = Q (.int (if j < i then j else i)) := by simp [fMin2]
theorem O1_abs : O1 (fAbs [.int i]) Q = Q (.int (if i < 0 then -i else i)) := by simp [fAbs]
theorem O1_int1B {b : Bool} : O1 (fInt1 [.bl b]) Q = Q (.int (if b = true then 1 else 0)) := by simp [fInt1]
theorem O1_int1 : O1 (fInt1 [.int i]) Q = Q (.int i) := by simp [fInt1]
theorem O1_fEqI : O1 (fEq (.int i) (.int j)) Q = Q (.bl (decide (i = j))) := by rw [O1_fEq (by simp [nice]) (by simp [nice])]; simp [eqD, Bool.beq_eq_decide_eq]
theorem O1_fNeI : O1 (fNe (.int i) (.int j)) Q = Q (.bl (!decide (i = j))) := by rw [O1_fNe (by simp [nice]) (by simp [nice])]; simp [eqD, Bool.beq_eq_decide_eq]
theorem O1_fEqB {a b : Bool} : O1 (fEq (.bl a) (.bl b)) Q = Q (.bl (decide (a = b))) := by rw [O1_fEq (by simp [nice]) (by simp [nice])]; simp [eqD, Bool.beq_eq_decide_eq]
theorem O1_fNeB {a b : Bool} : O1 (fNe (.bl a) (.bl b)) Q = Q (.bl (!decide (a = b))) := by rw [O1_fNe (by simp [nice]) (by simp [nice])]; simp [eqD, Bool.beq_eq_decide_eq]
/-- the item at a place -/
theorem at_nat {α : Type} {ds : List α} {k : Nat} {d : α} (h : ds[k]? = some d) : atI ds (k : Int) = some d := by
  have hk := (List.getElem?_eq_some_iff.mp h).1
  unfold atI ixN
  rw [if_pos (by omega), if_pos (by omega)]
  simpa using h
theorem at_int {α : Type} {ds : List α} {i : Int} {d : α} (h0 : 0 ≤ i) (h : ds[i.toNat]? = some d) : atI ds i = some d := by
  have := at_nat h
  rwa [Int.toNat_of_nonneg h0] at this
/-- from behind -/
theorem at_neg {α : Type} {ds : List α} {i : Int} {d : α} (h0 : i < 0) (h1 : -(ds.length : Int) ≤ i) (h : ds[(i + ds.length).toNat]? = some d) : atI ds i = some d := by
  unfold atI ixN
  rw [if_neg (by omega), if_pos h1]
  simpa using h
theorem O1_ixL {ds : List D} : O1 (fIx (.lst ds) (.int i)) Q = O1 (atI ds i) Q := by simp [fIx]
theorem O1_ixS {ds : List D} : O1 (fIx (.sc ds) (.int i)) Q = O1 (atI ds i) Q := by simp [fIx]
theorem O1_ixT {ds : List D} : O1 (fIx (.tup ds) (.int i)) Q = O1 (atI ds i) Q := by simp [fIx]
theorem O1_at {ds : List D} {d : D} (h0 : 0 ≤ i) (h : ds[i.toNat]? = some d) : O1 (atI ds i) Q = Q d := by rw [at_int h0 h, O1_some]
theorem O1_at0 {α : Type} {Q : α → Prop} {ds : List α} {d : α} : O1 (atI (d :: ds) 0) Q = Q d := by rw [at_int (d := d) (Int.le_refl _) rfl, O1_some]
theorem O1_at1 {α : Type} {Q : α → Prop} {ds : List α} {d e : α} : O1 (atI (d :: e :: ds) 1) Q = Q e := by rw [at_int (d := e) (by decide) rfl, O1_some]
theorem O1_at2 {α : Type} {Q : α → Prop} {ds : List α} {d e f : α} : O1 (atI (d :: e :: f :: ds) 2) Q = Q f := by rw [at_int (d := f) (by decide) rfl, O1_some]
theorem at_map {α β : Type} {f : α → β} {l : List α} : atI (l.map f) i = (atI l i).map f := by
  unfold atI
  rw [List.length_map]
  cases ixN l.length i with
  | none => rfl
  | some k => simp
theorem O1_map {α β : Type} {f : α → β} {o : Option α} {Q : β → Prop} : O1 (o.map f) Q = O1 o fun z => Q (f z) := by cases o <;> simp
theorem O1_atM {β : Type} {f : β → D} {l : List β} : O1 (atI (l.map f) i) Q = O1 (atI l i) fun z => Q (f z) := by rw [at_map, O1_map]
theorem O1_atR {α : Type} {l : List α} {Q : α → Prop} (h0 : 0 ≤ i) (h1 : i < l.length) : O1 (atI l i) Q = Q (l[i.toNat]'(by omega)) := by
  rw [at_int h0 (List.getElem?_eq_getElem (by omega)), O1_some]
theorem O1_atP {α : Type} {l : List α} {Q : α → Prop} (h0 : 0 ≤ i) (h1 : i < l.length) (h : ∀ z ∈ l, Q z) : O1 (atI l i) Q := by
  rw [O1_atR h0 h1]
  exact h _ (List.getElem_mem _)
/-! ### +, * -/
variable {s : SD} {QC : Er (D × Ow) → Prop}
def addF (x y : D) (s : SD) : Option (Er (D × Ow)) := match x, y with
  | .int i, .int j => some (.ok (.int (i + j), .full) s)
  | .str i, .str j => if i.length + j.length ≤ 1000000 then some (.ok (.str (i ++ j), .full) s) else none
  | .lst xs, .lst ys => if xs.length + ys.length ≤ 1000000 then some (mkL (xs ++ ys) s) else none
  | x, y => cAdd (dC x) (dC y) s
theorem E1_cAdd {a b : DE D} : E1 (cAdd a b) s QC = E1 a s (onE (fun x s1 => E1 b s1 (onE (fun y s2 => O1 (addF x y s2) QC) QC)) QC) := by
  unfold cAdd
  rw [E1_bnd]
  congr 1
  funext r
  cases r with
  | exc => rfl
  | ok x s1 =>
    show E1 (bnd b _) s1 QC = _
    rw [E1_bnd]
    congr 1
    funext r
    cases r with
    | exc => rfl
    | ok y s2 =>
      show O1 _ QC = O1 (addF x y s2) QC
      congr 1
      cases x <;> cases y <;> simp [addF, cAdd, bnd, dC]
def mulF (x y : D) (s : SD) : Option (Er (D × Ow)) := match x, y with
  | .int i, .int j => if mulOk i j = true then some (.ok (.int (i * j), .full) s) else none
  | .lst xs, .int k => if -(2 ^ 63) ≤ k ∧ k < 2 ^ 63 ∧ xs.length * k.toNat ≤ 1000000 then some (mkL (List.replicate k.toNat xs).flatten s) else none
  | _, _ => none
theorem E1_cMul {a b : DE D} : E1 (cMul a b) s QC = E1 a s (onE (fun x s1 => E1 b s1 (onE (fun y s2 => O1 (mulF x y s2) QC) QC)) QC) := by
  unfold cMul
  rw [E1_bnd]
  congr 1
  funext r
  cases r with
  | exc => rfl
  | ok x s1 =>
    show E1 (bnd b _) s1 QC = _
    rw [E1_bnd]
    rfl
theorem O1_addI : O1 (addF (.int i) (.int j) s) QC = QC (.ok (.int (i + j), .full) s) := by simp [addF]
theorem O1_addL {xs ys : List D} : O1 (addF (.lst xs) (.lst ys) s) QC = (xs.length + ys.length ≤ 1000000 ∧ QC (mkL (xs ++ ys) s)) := by simp [addF, O1_guard]
theorem O1_mulI : O1 (mulF (.int i) (.int j) s) QC = (mulOk i j = true ∧ QC (.ok (.int (i * j), .full) s)) := by simp [mulF, O1_guard]
theorem mkL_imm {ds : List D} (h : immL ds = true) : mkL ds s = .ok (.lst ds, .full) s := if_pos h
theorem imm_ints {l : List Int} : immL (l.map D.int) = true := by
  induction l with
  | nil => rfl
  | cons a l ih => simpa [immL, imm] using ih
theorem mulOk_l (h : i.natAbs < 2 ^ 64) : mulOk i j = true := by simp [mulOk, h]
theorem mulOk_r (h : j.natAbs < 2 ^ 64) : mulOk i j = true := by simp [mulOk, h]
def listF (xs : List D) (s : SD) : Option (Er (D × Ow)) := match xs with
  | [.lst ds] => some (mkL ds s)
  | [.sc ds] => some (mkL ds s)
  | [.tup ds] => some (mkL ds s)
  | _ => none
theorem E1_cListOf {a : DE (List D)} : E1 (cListOf a) s QC = E1 a s (onE (fun xs s1 => O1 (listF xs s1) QC) QC) := by
  unfold cListOf
  rw [E1_bnd]
  rfl
theorem O1_listL {ds : List D} : O1 (listF [.lst ds] s) QC = QC (mkL ds s) := by simp [listF]
theorem O1_listS {ds : List D} : O1 (listF [.sc ds] s) QC = QC (mkL ds s) := by simp [listF]
theorem O1_listT {ds : List D} : O1 (listF [.tup ds] s) QC = QC (mkL ds s) := by simp [listF]
/-! ### comprehensions -/
variable {α : Type} {m : Bool} {tg : DT} {cond : DE Bool} {elt : DE (D × Ow)} {own : List Nat} {items : List (D × Ow)} {QL : Er (List D) → Prop}
theorem E1_goC (P : Nat → List D → SD → Prop) {acc : List D} (h0 : P 0 acc s)
    (hs : ∀ k d ow a s, items[k]? = some (d, ow) → P k a s → O1 (tg d ow s) fun s1 => E1 cond s1 (onE (fun b s2 => onB (E1 elt s2 fun r => ∃ e eo s3, r = .ok (e, eo) s3 ∧ okE m e eo = true ∧ a.length < 1000000 ∧ P (k + 1) (a ++ [e]) (wipeD own s3)) (P (k + 1) a (wipeD own s2)) b) fun _ : Er Bool => False))
    (hn : ∀ a s, P items.length a s → QL (.ok a s)) : E1 (goC m tg cond elt own items acc) s QL := by
  induction items generalizing s P acc with
  | nil => exact ⟨_, rfl, hn acc s h0⟩
  | cons it r ih =>
    obtain ⟨d, ow⟩ := it
    obtain ⟨s1, e1, b, e2, q⟩ := hs 0 d ow acc s rfl h0
    have key : ∀ a s2, P 1 a s2 → E1 (goC m tg cond elt own r a) s2 QL := fun a s2 h2 => ih (fun k => P (k + 1)) h2 (fun k d ow a s hk hp => hs (k + 1) d ow a s (by simpa using hk) hp) (fun a s hp => hn a s (by simpa using hp))
    show ∃ o, goC m tg cond elt own ((d, ow) :: r) acc s = some o ∧ QL o
    unfold goC
    cases b with
    | exc => exact q.elim
    | ok b s2 =>
      have q : onB _ _ b := q
      cases b with
      | false =>
        simp only [e1, e2]
        exact key _ _ (q.2 rfl)
      | true =>
        obtain ⟨r3, e3, e, eo, s3, rfl, h1, h2, h3⟩ := q.1 rfl
        simp only [e1, e2, e3, h1, h2, decide_true, Bool.and_self, if_true]
        exact key _ _ h3
def yesD : DE Bool := fun s => some (.ok true s)
/-- each item makes one, held in full; the slots stay -/
theorem goC_map {i : Nat} {s : SD} (R : Nat → D → Prop) (hi : s[i]? = some none) (hz : items.length ≤ 1000000)
    (h : ∀ k d ow, items[k]? = some (d, ow) → E1 elt (s.set i (some (d, ow))) fun r => ∃ e s3, r = .ok (e, .full) s3 ∧ s3.set i none = s ∧ R k e)
    (hn : ∀ vs, vs.length = items.length → (∀ k e, vs[k]? = some e → R k e) → QL (.ok vs s)) : E1 (goC true (tgN i) (fun s => some (.ok true s)) elt [i] items []) s QL := by
  refine E1_goC (fun k a s' => s' = s ∧ a.length = k ∧ k ≤ items.length ∧ ∀ j e, a[j]? = some e → R j e) ⟨rfl, rfl, Nat.zero_le _, by simp⟩ ?_ ?_
  · rintro k d ow a s' hk ⟨rfl, hl, hle, ha⟩
    have hkl := (List.getElem?_eq_some_iff.mp hk).1
    have hil := (List.getElem?_eq_some_iff.mp hi).1
    refine ⟨s'.set i (some (d, ow)), by simp [tgN, hil], _, rfl, ?_⟩
    refine ⟨fun _ => (h k d ow hk).mono ?_, fun z => nomatch z⟩
    rintro r ⟨e, s3, rfl, h3, hR⟩
    refine ⟨e, .full, s3, rfl, by simp [okE], by omega, by simpa [wipeD] using h3, by simp [hl], by omega, fun j e' hj => ?_⟩
    by_cases hjk : j < a.length
    · rw [List.getElem?_append_left hjk] at hj
      exact ha j e' hj
    · rw [List.getElem?_append_right (by omega)] at hj
      have : j - a.length = 0 := by
        rcases Nat.eq_zero_or_pos (j - a.length) with z | z
        · exact z
        · rw [List.getElem?_eq_none (by simp only [List.length_singleton]; omega)] at hj; cases hj
      rw [this] at hj
      cases hj
      have : j = k := by omega
      subst this
      exact hR
  · rintro a s' ⟨rfl, hl, _, ha⟩
    exact hn a hl ha
theorem E1_cmpR {da : DE (List D)} {QC : Er (D × Ow) → Prop} : E1 (cCmpR true tg own da cond elt) s QC = E1 da s (onE (fun ds s1 => match ds with
    | [.int j] => (-(2 ^ 62) ≤ j ∧ j < 2 ^ 62) ∧ E1 (goC true tg cond elt own (rngD 0 j.toNat) []) (wipeD own (fzAll s1)) (onE (fun es _ => QC (.ok (.lst es, .full) s1)) fun _ : Er Unit => False)
    | _ => False) QC) := by
  unfold cCmpR
  simp only [E1_def]
  cases e : da s with
  | none => simp
  | some r =>
    cases r with
    | exc => simp
    | ok ds s1 =>
      simp only [O1_some, onE_ok]
      split
      · rename_i j s1' heq
        cases heq
        rw [O1_guard]
        congr 1
        cases goC true tg cond elt own (rngD 0 j.toNat) [] (wipeD own (fzAll s1)) with
        | none => simp
        | some r => cases r <;> simp
      · rename_i heq; cases heq
      · rename_i h1 h2
        split
        · rename_i j
          exact absurd rfl (h1 j s1)
        · simp
theorem E1_cmpRM {i : Nat} {da : DE (List D)} {QC : Er (D × Ow) → Prop} {n : Int} {s1 : SD} (R : Nat → D → Prop) (hd : da s = some (.ok [.int n] s1)) (hn : n ≤ 1000000) (hn0 : -1000000 ≤ n) (hi : i < s1.length)
    (h : ∀ k : Nat, (k : Int) < n → E1 elt ((fzAll s1).set i (some (.int k, .full))) fun r => ∃ e s3, r = .ok (e, .full) s3 ∧ s3.set i none = (fzAll s1).set i none ∧ R k e)
    (hq : ∀ vs, vs.length = n.toNat → (∀ k e, vs[k]? = some e → R k e) → QC (.ok (.lst vs, .full) s1)) : E1 (cCmpR true (tgN i) [i] da (fun s => some (.ok true s)) elt) s QC := by
  rw [E1_cmpR, E1_def, hd, O1_some, onE_ok]
  refine ⟨⟨by omega, by omega⟩, ?_⟩
  have hfl : (fzAll s1).length = s1.length := by simp [fzAll]
  refine goC_map R (by simp [wipeD, hfl, hi]) (by rw [rng_len]; omega) (fun k d ow hk => ?_) fun vs hl hv => ?_
  · obtain ⟨h1, h2⟩ := rng_get hk
    cases h2
    have := h k (by omega)
    simpa [wipeD] using this
  · exact hq vs (by rw [hl, rng_len]) hv
end
end Dv

namespace Dv
open PySem L2

section
variable {α β : Type} {s : SD} {QC : Er (D × Ow) → Prop} {QD : Er D → Prop} {QO : Er (Option Int) → Prop} {QS : Out → Prop} {i j : Int} {Q' : D → Prop}
def isI (P : Int → Prop) : D → Prop
  | .int i => P i
  | _ => False
@[simp] theorem isI_int {P : Int → Prop} : isI P (.int i) = P i := rfl
theorem E1_oNone : E1 oNone s QO = QO (.ok none s) := by simp [E1, oNone]
theorem E1_oSome {a : DE D} : E1 (oSome a) s QO = E1 a s (onE (fun x s1 => isI (fun i => QO (.ok (some i) s1)) x) QO) := by
  unfold oSome
  rw [E1_bnd]
  congr 1
  funext r
  cases r with
  | exc => rfl
  | ok x s1 => cases x <;> simp [E1, isI]
def slF (x : D) (lo hi : Option Int) (s : SD) : Option (Er (D × Ow)) := match x with
  | .lst xs => some (mkL (cut xs lo hi) s)
  | .sc xs => some (mkL (cut xs lo hi) s)
  | .str z => if z.length ≤ 1000000 then some (.ok (.str (L2.cutS z lo hi), .full) s) else none
  | _ => none
theorem E1_cSlice {a : DE D} {lo hi : DO} : E1 (cSlice a lo hi) s QC = E1 a s (onE (fun x s1 => E1 lo s1 (onE (fun l s2 => E1 hi s2 (onE (fun h s3 => O1 (slF x l h s3) QC) QC)) QC)) QC) := by
  unfold cSlice dPair
  rw [E1_bnd]
  congr 1
  funext r
  cases r with
  | exc => rfl
  | ok x s1 =>
    show E1 (bnd (bnd lo _) _) s1 QC = _
    rw [E1_bnd, E1_bnd]
    congr 1
    funext r
    cases r with
    | exc => rfl
    | ok l s2 =>
      show E1 (bnd hi _) s2 _ = _
      rw [E1_bnd]
      congr 1
      funext r
      cases r with
      | exc => rfl
      | ok h s3 =>
        show E1 (fun s => some (.ok (l, h) s)) s3 _ = _
        rw [E1_pure]
        rfl
theorem O1_slL {xs : List D} {lo hi : Option Int} : O1 (slF (.lst xs) lo hi s) QC = QC (mkL (cut xs lo hi) s) := by simp [slF]
theorem O1_slS {xs : List D} {lo hi : Option Int} : O1 (slF (.sc xs) lo hi s) QC = QC (mkL (cut xs lo hi) s) := by simp [slF]
theorem cut_map {f : α → β} {l : List α} {lo hi : Option Int} : cut (l.map f) lo hi = (cut l lo hi).map f := by
  unfold cut
  simp
/-- [:n] -/
theorem cut_to {l : List α} (h : 0 ≤ i) : cut l none (some i) = l.take i.toNat := by
  simp only [cut, HT.sIx]
  rw [if_neg (by omega)]
  simp only [List.drop_zero, Nat.sub_zero]
  rcases Nat.le_total i.toNat l.length with q | q
  · rw [Nat.min_eq_left q]
  · rw [Nat.min_eq_right q, List.take_length, List.take_of_length_le q]
/-- [n:] -/
theorem cut_from {l : List α} (h : 0 ≤ i) : cut l (some i) none = l.drop i.toNat := by
  simp only [cut, HT.sIx]
  rw [if_neg (by omega)]
  rcases Nat.le_total i.toNat l.length with q | q
  · rw [Nat.min_eq_left q, List.take_of_length_le (by rw [List.length_drop]; omega)]
  · rw [Nat.min_eq_right q, List.drop_length, List.drop_of_length_le q]
    simp
theorem cut_fromto {l : List α} (h : 0 ≤ i) (h2 : 0 ≤ j) : cut l (some i) (some j) = (l.drop i.toNat).take (j.toNat - i.toNat) := by
  simp only [cut, HT.sIx]
  rw [if_neg (by omega), if_neg (by omega)]
  rcases Nat.le_total i.toNat l.length with q | q
  · rw [Nat.min_eq_left q]
    rcases Nat.le_total j.toNat l.length with q2 | q2
    · rw [Nat.min_eq_left q2]
    · rw [Nat.min_eq_right q2, List.take_of_length_le (by rw [List.length_drop]; omega), List.take_of_length_le (by rw [List.length_drop]; omega)]
  · rw [Nat.min_eq_right q, List.drop_length, List.drop_of_length_le q]
    simp
/-- [:-n] -/
theorem cut_toNeg {l : List α} (h : i < 0) : cut l none (some i) = l.take (i + l.length).toNat := by
  simp only [cut, HT.sIx]
  rw [if_pos h]
  simp
theorem cut_fromNeg {l : List α} (h : i < 0) (h1 : -(l.length : Int) ≤ i) : cut l (some i) none = l.drop (i + l.length).toNat := by
  simp only [cut, HT.sIx]
  rw [if_pos h]
  exact List.take_of_length_le (by rw [List.length_drop]; omega)
theorem O1_fEqLI {l m : List Int} : O1 (fEq (.lst (l.map D.int)) (.lst (m.map D.int))) Q' = Q' (.bl (decide (l = m))) := by
  rw [O1_fEq (by simp [nice, nice_ints]) (by simp [nice, nice_ints])]
  simp [eqD, eq_ints]
theorem O1_fNeLI {l m : List Int} : O1 (fNe (.lst (l.map D.int)) (.lst (m.map D.int))) Q' = Q' (.bl (!decide (l = m))) := by
  rw [O1_fNe (by simp [nice, nice_ints]) (by simp [nice, nice_ints])]
  simp [eqD, eq_ints]
theorem O1_fEqLn {l : List Int} : O1 (fEq (.lst (l.map D.int)) (.lst [])) Q' = Q' (.bl (decide (l = []))) := O1_fEqLI (m := [])
theorem isintI {Q : Bool → Prop} {i : Int} : O1 ((tyN (.int i)).bind fun n => L2.kitB n "int") Q = Q true := by
  have : L2.kitB "int" "int" = some true := by decide
  simp [tyN, this]
theorem isboolI {Q : Bool → Prop} {i : Int} : O1 ((tyN (.int i)).bind fun n => L2.kitB n "bool") Q = Q false := by
  have : L2.kitB "int" "bool" = some false := by decide
  simp [tyN, this]
theorem isboolB {Q : Bool → Prop} {b : Bool} : O1 ((tyN (.bl b)).bind fun n => L2.kitB n "bool") Q = Q true := by
  have : L2.kitB "bool" "bool" = some true := by decide
  simp [tyN, this]
theorem isintB {Q : Bool → Prop} {b : Bool} : O1 ((tyN (.bl b)).bind fun n => L2.kitB n "int") Q = Q true := by
  have : L2.kitB "bool" "int" = some true := by decide
  simp [tyN, this]
theorem islistL {Q : Bool → Prop} {ds : List D} : O1 ((tyN (.lst ds)).bind fun n => L2.kitB n "list") Q = Q true := by
  have : L2.kitB "list" "list" = some true := by decide
  simp [tyN, this]
theorem istupT {Q : Bool → Prop} {ds : List D} : O1 ((tyN (.tup ds)).bind fun n => L2.kitB n "tuple") Q = Q true := by
  have : L2.kitB "tuple" "tuple" = some true := by decide
  simp [tyN, this]
/-! ### lists put otherwise -/
def isLs (k : List D → Ow → Prop) : Option Sl → Prop
  | some (some (.lst ds, ow)) => k ds ow
  | _ => False
@[simp] theorem isLs_lst {k : List D → Ow → Prop} {ds : List D} {ow : Ow} : isLs k (some (some (.lst ds, ow))) = k ds ow := rfl
def appK (ds : List D) (ow : Ow) (x : D × Ow) (s1 : SD) (i : Nat) (QS : Out → Prop) : Prop := match ow with
  | .full => (x.2 = .full ∧ ds.length < 1000000) ∧ QS (.next (s1.set i (some (.lst (ds ++ [x.1]), .full))))
  | .top => ds.length < 1000000 ∧ QS (.next (s1.set i (some (.lst (ds ++ [x.1]), .top))))
  | .no => False
theorem appK_full {ds : List D} {x : D × Ow} {s1 : SD} {i : Nat} : appK ds .full x s1 i QS = ((x.2 = .full ∧ ds.length < 1000000) ∧ QS (.next (s1.set i (some (.lst (ds ++ [x.1]), .full))))) := rfl
theorem appK_top {ds : List D} {x : D × Ow} {s1 : SD} {i : Nat} : appK ds .top x s1 i QS = (ds.length < 1000000 ∧ QS (.next (s1.set i (some (.lst (ds ++ [x.1]), .top))))) := rfl
/-- x.append(c), x held -/
theorem S1_app {i : Nat} {c : DE (D × Ow)} : S1 (sApp i c) s QS = isLs (fun _ ow0 => ow0 ≠ .no ∧ E1 c s (onS (fun x s1 => isLs (fun ds ow => appK ds ow x s1 i QS) s1[i]?) QS)) s[i]? := by
  unfold sApp
  simp only [S1_def, E1_def]
  cases h0 : s[i]? with
  | none => simp [isLs]
  | some sl0 =>
    cases sl0 with
    | none => simp [isLs]
    | some y0 =>
      obtain ⟨d0, ow0⟩ := y0
      cases d0 with
      | lst ds0 =>
        by_cases ho : ow0 = .no
        · simp [ho]
        simp only [if_neg ho, isLs_lst, ne_eq, ho, not_false_eq_true, true_and]
        cases e : c s with
        | none => simp
        | some r =>
          cases r with
          | exc => simp
          | ok x s1 =>
            simp only [O1_some, onS_ok]
            cases h : s1[i]? with
            | none => simp [isLs]
            | some sl =>
              cases sl with
              | none => simp [isLs]
              | some y =>
                obtain ⟨d, ow⟩ := y
                cases d <;> cases ow <;> simp [isLs, appK, O1_guard]
      | _ => simp [isLs]
theorem E1_dPA {i : Nat} {QW : Er (List Int) → Prop} {acc : List Int} : E1 (dPA i acc []) s QW = QW (.ok acc s) := by simp [E1, dPA]
theorem E1_dPAc {i : Nat} {QW : Er (List Int) → Prop} {acc : List Int} {dk : DE D} {r : List (DE D)} : E1 (dPA i acc (dk :: r)) s QW = E1 dk s (onE (fun x s1 => isI (fun k => atV (fun d ow => ow = .full ∧ O1 (getP (acc ++ [k]) d) fun e => imm e = false ∧ E1 (dPA i (acc ++ [k]) r) s1 QW) s1[i]?) x) QW) := by
  simp only [E1_def, dPA]
  cases e : dk s with
  | none => simp
  | some r0 =>
    cases r0 with
    | exc => simp
    | ok x s1 =>
      cases x with
      | int k =>
        simp only [O1_some, onE_ok, isI_int]
        cases h : s1[i]? with
        | none => simp [atV]
        | some sl =>
          cases sl with
          | none => simp [atV]
          | some y =>
            obtain ⟨d, ow⟩ := y
            cases ow with
            | full =>
              simp only [atV_some, true_and]
              cases h2 : getP (acc ++ [k]) d with
              | none => simp
              | some e => simp only [O1_some, O1_guard]
            | _ => simp
      | _ => simp [isI]
theorem S1_setP {i : Nat} {dks : List (DE D)} {dk : DE D} {c : DE (D × Ow)} : S1 (sSetP i dks dk c) s QS = E1 c s (onS (fun x s1 => (s1[i]?).join.isSome = true ∧ E1 (dPA i [] dks) s1 (onS (fun ks s2 => E1 dk s2 (onS (fun y s3 => isI (fun k => atV (fun d ow => match ow with
    | .full => x.2 = .full ∧ O1 (setD ks d k x.1) fun d' => QS (.next (s3.set i (some (d', .full))))
    | .top => match d with
      | .lst ds => ks = [] ∧ O1 (L2.ixN ds.length k) fun j => QS (.next (s3.set i (some (.lst (ds.set j x.1), .top))))
      | _ => False
    | .no => False) s3[i]?) y) QS)) QS)) QS) := by
  unfold sSetP
  simp only [S1_def, E1_def]
  cases e : c s with
  | none => simp
  | some r =>
    cases r with
    | exc => simp
    | ok x s1 =>
      simp only [O1_some, onS_ok]
      by_cases h0 : (s1[i]?).join.isSome = true
      case neg => simp [h0]
      rw [if_pos h0]
      simp only [h0, true_and]
      cases e2 : dPA i [] dks s1 with
      | none => simp
      | some r2 =>
        cases r2 with
        | exc => simp
        | ok ks s2 =>
          simp only [O1_some, onS_ok]
          cases e3 : dk s2 with
          | none => simp
          | some r3 =>
            cases r3 with
            | exc => simp
            | ok y s3 =>
              cases y with
              | int k =>
                simp only [O1_some, onS_ok, isI_int]
                cases h : s3[i]? with
                | none => simp [atV]
                | some sl =>
                  cases sl with
                  | none => simp [atV]
                  | some z =>
                    obtain ⟨d, ow⟩ := z
                    cases ow with
                    | full => simp only [atV_some, O1_guard, O1_map]
                    | top => cases d <;> simp only [atV_some, O1_guard, O1_map, O1_none]
                    | no => simp
              | _ => simp [isI]
theorem setD_nil {ds : List D} {k : Int} {e : D} {QD : D → Prop} : O1 (setD [] (.lst ds) k e) QD = O1 (L2.ixN ds.length k) fun j => QD (.lst (ds.set j e)) := by
  simp only [setD, getP]
  cases L2.ixN ds.length k <;> simp [setP]
theorem ixN_nat {n : Nat} (h0 : 0 ≤ i) (h1 : i < n) : L2.ixN n i = some i.toNat := by
  unfold L2.ixN
  rw [if_pos h0, if_pos h1]
theorem O1_ixN {n : Nat} {Q : Nat → Prop} (h0 : 0 ≤ i) (h1 : i < n) : O1 (L2.ixN n i) Q = Q i.toNat := by rw [ixN_nat h0 h1, O1_some]
end
/-- what stands in between, where a may also end the body -/
theorem S1_cutR {a b : DS} {s : SD} {Q : Out → Prop} (P : SD → Prop) (h : S1 a s (onN P Q)) (k : ∀ s1, P s1 → S1 b s1 Q) : S1 (sSeq a b) s Q := by
  rw [S1_seq]
  refine h.mono fun o q => ?_
  cases o with
  | next s1 => exact k s1 q
  | brk s1 => exact q
  | cont s1 => exact q
  | ret d ow => exact q
  | exc c s1 => exact q
/-- whole numbers all -/
theorem ints_of {vs : List D} (h : ∀ (k : Nat) (e : D), vs[k]? = some e → ∃ z : Int, e = D.int z) : ∃ l : List Int, vs = l.map D.int := by
  induction vs with
  | nil => exact ⟨[], rfl⟩
  | cons v vs ih =>
    obtain ⟨l, rfl⟩ := ih fun k e he => h (k + 1) e (by simpa using he)
    obtain ⟨z, rfl⟩ := h 0 v rfl
    exact ⟨z :: l, rfl⟩
/-- whole numbers all, of some kind -/
theorem ints_ofP {vs : List D} (P : Int → Prop) (h : ∀ (k : Nat) (e : D), vs[k]? = some e → ∃ z : Int, e = D.int z ∧ P z) : ∃ l : List Int, vs = l.map D.int ∧ ∀ z ∈ l, P z := by
  induction vs with
  | nil => exact ⟨[], rfl, by simp⟩
  | cons v vs ih =>
    obtain ⟨l, rfl, hl⟩ := ih fun k e he => h (k + 1) e (by simpa using he)
    obtain ⟨z, rfl, hz⟩ := h 0 v rfl
    exact ⟨z :: l, rfl, by simpa [hz] using hl⟩
end Dv

namespace Dv
open PySem L2

section
variable {α β : Type} {s : SD} {QC : Er (D × Ow) → Prop} {QD : Er D → Prop} {QS : Out → Prop} {i j : Int}
theorem E1_cComp {m : Bool} {tg : DT} {own : List Nat} {src : DE D} {cond : DE Bool} {elt : DE (D × Ow)} : E1 (cComp m tg own src cond elt) s QC = E1 src s (onE (fun d s1 => O1 (itemsOf d) fun its => E1 (goC m tg cond elt own (noIt its) []) (wipeD own (fzAll s1)) (onE (fun es s2 => if m = true then QC (.ok (.lst es, .full) s1) else QC (.ok (.lst es, .top) s2)) fun _ : Er Unit => False)) QC) := by
  unfold cComp
  simp only [E1_def]
  cases e : src s with
  | none => simp
  | some r =>
    cases r with
    | exc => simp
    | ok d s1 =>
      simp only [O1_some, onE_ok]
      cases itemsOf d with
      | none => simp
      | some its =>
        simp only [O1_some]
        cases goC m tg cond elt own (noIt its) [] (wipeD own (fzAll s1)) with
        | none => simp
        | some r => cases r <;> cases m <;> simp
/-- each item makes one, held in full; the slots stay -/
theorem E1_compM {i : Nat} {src : DE D} {elt : DE (D × Ow)} {d : D} {ds : List D} {s1 : SD} (R : Nat → D → Prop) (hd : src s = some (.ok d s1)) (hi : itemsOf d = some ds) (hz : ds.length ≤ 1000000) (hl : i < s1.length)
    (h : ∀ (k : Nat) (x : D), ds[k]? = some x → E1 elt ((fzAll s1).set i (some (itm x .no))) fun r => ∃ e s3, r = .ok (e, .full) s3 ∧ s3.set i none = (fzAll s1).set i none ∧ R k e)
    (hq : ∀ vs, vs.length = ds.length → (∀ k e, vs[k]? = some e → R k e) → QC (.ok (.lst vs, .full) s1)) : E1 (cComp true (tgN i) [i] src (fun s => some (.ok true s)) elt) s QC := by
  rw [E1_cComp, E1_def, hd, O1_some, onE_ok, hi, O1_some]
  have hfl : (fzAll s1).length = s1.length := by simp [fzAll]
  refine goC_map R (by simp [wipeD, hfl, hl]) (by rw [noIt_len]; exact hz) (fun k d ow hk => ?_) fun vs hl hv => ?_
  · obtain ⟨x, h1, h2⟩ := noIt_get hk
    have := h k x h1
    rw [← h2] at this
    simpa [wipeD] using this
  · simp only [onE_ok, if_true]
    exact hq vs (by rw [hl, noIt_len]) hv
/-- any target, any element -/
theorem goC_mapG {m : Bool} {tg : DT} {own : List Nat} {elt : DE (D × Ow)} {items : List (D × Ow)} {s0 : SD} {QL : Er (List D) → Prop} (R : Nat → D → Prop) (hz : items.length ≤ 1000000)
    (h : ∀ k d ow, items[k]? = some (d, ow) → O1 (tg d ow s0) fun s1 => E1 elt s1 fun r => ∃ e eo s3, r = .ok (e, eo) s3 ∧ okE m e eo = true ∧ wipeD own s3 = s0 ∧ R k e)
    (hn : ∀ vs, vs.length = items.length → (∀ k e, vs[k]? = some e → R k e) → QL (.ok vs s0)) : E1 (goC m tg (fun s => some (.ok true s)) elt own items []) s0 QL := by
  refine E1_goC (fun k a s' => s' = s0 ∧ a.length = k ∧ k ≤ items.length ∧ ∀ j e, a[j]? = some e → R j e) ⟨rfl, rfl, Nat.zero_le _, by simp⟩ ?_ ?_
  · rintro k d ow a s' hk ⟨rfl, hl, hle, ha⟩
    have hkl := (List.getElem?_eq_some_iff.mp hk).1
    obtain ⟨s1, e1, q⟩ := h k d ow hk
    refine ⟨s1, e1, _, rfl, ?_⟩
    refine ⟨fun _ => q.mono ?_, fun z => nomatch z⟩
    rintro r ⟨e, eo, s3, rfl, ho, h3, hR⟩
    refine ⟨e, eo, s3, rfl, ho, by omega, h3, by simp [hl], by omega, fun j e' hj => ?_⟩
    by_cases hjk : j < a.length
    · rw [List.getElem?_append_left hjk] at hj
      exact ha j e' hj
    · rw [List.getElem?_append_right (by omega)] at hj
      have : j - a.length = 0 := by
        rcases Nat.eq_zero_or_pos (j - a.length) with z | z
        · exact z
        · rw [List.getElem?_eq_none (by simp only [List.length_singleton]; omega)] at hj; cases hj
      rw [this] at hj
      cases hj
      have : j = k := by omega
      subst this
      exact hR
  · rintro a s' ⟨rfl, hl, _, ha⟩
    exact hn a hl ha
theorem E1_compG {m : Bool} {tg : DT} {own : List Nat} {src : DE D} {elt : DE (D × Ow)} {d : D} {ds : List D} {s1 : SD} (R : Nat → D → Prop) (hd : src s = some (.ok d s1)) (hi : itemsOf d = some ds) (hz : ds.length ≤ 1000000)
    (h : ∀ (k : Nat) (x : D), ds[k]? = some x → O1 (tg (itm x .no).1 (itm x .no).2 (wipeD own (fzAll s1))) fun s2 => E1 elt s2 fun r => ∃ e eo s3, r = .ok (e, eo) s3 ∧ okE m e eo = true ∧ wipeD own s3 = wipeD own (fzAll s1) ∧ R k e)
    (hq : ∀ vs, vs.length = ds.length → (∀ k e, vs[k]? = some e → R k e) → if m = true then QC (.ok (.lst vs, .full) s1) else QC (.ok (.lst vs, .top) (wipeD own (fzAll s1)))) : E1 (cComp m tg own src (fun s => some (.ok true s)) elt) s QC := by
  rw [E1_cComp, E1_def, hd, O1_some, onE_ok, hi, O1_some]
  refine goC_mapG R (by rw [noIt_len]; exact hz) (fun k d ow hk => ?_) fun vs hl hv => ?_
  · obtain ⟨x, h1, h2⟩ := noIt_get hk
    have := h k x h1
    rw [← h2] at this
    exact this
  · exact hq vs (by rw [hl, noIt_len]) hv
theorem O1_mulL {xs : List D} : O1 (mulF (.lst xs) (.int j) s) QC = ((-(2 ^ 63) ≤ j ∧ j < 2 ^ 63 ∧ xs.length * j.toNat ≤ 1000000) ∧ QC (mkL (List.replicate j.toNat xs).flatten s)) := by
  show O1 (if _ then some _ else none) QC = _
  rw [O1_guard, O1_some]
theorem rep_ints {l : List Int} : ∀ n, (List.replicate n (l.map D.int)).flatten = ((List.replicate n l).flatten).map D.int
  | 0 => rfl
  | n + 1 => by rw [List.replicate_succ, List.flatten_cons, rep_ints n, ← List.map_append, List.replicate_succ, List.flatten_cons]
def getL (P : List D → Prop) : Option D → Prop
  | some (.lst ds) => P ds
  | _ => False
@[simp] theorem getL_lst {P : List D → Prop} {ds : List D} : getL P (some (.lst ds)) = P ds := rfl
def isFull (P : Prop) : Ow → Prop
  | .full => P
  | _ => False
@[simp] theorem isFull_full {P : Prop} : isFull P .full = P := rfl
theorem S1_appP {i : Nat} {dks : List (DE D)} {c : DE (D × Ow)} : S1 (sAppP i dks c) s QS = ((s[i]?).join.isSome = true ∧ E1 (dPA i [] dks) s (onS (fun ks s1 => atV (fun d ow => isFull (getL (fun _ => E1 c s1 (onS (fun x s2 => atV (fun d2 ow2 => isFull (getL (fun ds => (x.2 = .full ∧ ds.length < 1000000) ∧ QS (.next (s2.set i (some (setP ks d2 (.lst (ds ++ [x.1])), .full))))) (getP ks d2)) ow2) s2[i]?) QS)) (getP ks d)) ow) s1[i]?) QS)) := by
  unfold sAppP
  simp only [S1_def, E1_def]
  by_cases h0 : (s[i]?).join.isSome = true
  case neg => simp [h0]
  rw [if_pos h0]
  simp only [h0, true_and]
  cases e : dPA i [] dks s with
  | none => simp
  | some r =>
    cases r with
    | exc => simp
    | ok ks s1 =>
      simp only [O1_some, onS_ok]
      cases h1 : s1[i]? with
      | none => simp [atV]
      | some sl =>
        cases sl with
        | none => simp [atV]
        | some y =>
          obtain ⟨d, ow⟩ := y
          cases ow with
          | full =>
            simp only [atV_some, isFull_full]
            cases h2 : getP ks d with
            | none => simp [getL]
            | some g =>
              cases g with
              | lst ds0 =>
                simp only [getL_lst]
                cases e3 : c s1 with
                | none => simp
                | some r3 =>
                  cases r3 with
                  | exc => simp
                  | ok x s2 =>
                    simp only [O1_some, onS_ok]
                    cases h4 : s2[i]? with
                    | none => simp [atV]
                    | some sl2 =>
                      cases sl2 with
                      | none => simp [atV]
                      | some y2 =>
                        obtain ⟨d2, ow2⟩ := y2
                        cases ow2 with
                        | full =>
                          simp only [atV_some, isFull_full]
                          cases h5 : getP ks d2 with
                          | none => simp [getL]
                          | some g2 => cases g2 <;> simp [getL, O1_guard]
                        | _ => simp [isFull]
              | _ => simp [getL]
          | _ => simp [isFull]
theorem E1_cItem {c : DE (D × Ow)} {di : DE D} : E1 (cItem c di) s QC = E1 c s (onE (fun x s1 => E1 di s1 (onE (fun y s2 => isI (fun k => O1 (lsOf x.1) fun ds => O1 (L2.atI ds k) fun e => QC (.ok (e, itOw e x.2) s2)) y) QC)) QC) := by
  unfold cItem
  simp only [E1_def]
  cases e : c s with
  | none => simp
  | some r =>
    cases r with
    | exc => simp
    | ok x s1 =>
      simp only [O1_some, onE_ok]
      cases e2 : di s1 with
      | none => simp
      | some r2 =>
        cases r2 with
        | exc => simp
        | ok y s2 =>
          cases y with
          | int k =>
            simp only [O1_some, onE_ok, isI_int]
            cases e3 : lsOf x.1 with
            | none => simp
            | some ds => simp only [O1_some, O1_map]
          | _ => simp [isI]
theorem lsOf_lst {ds : List D} : lsOf (.lst ds) = some ds := rfl
theorem lsOf_tup {ds : List D} : lsOf (.tup ds) = some ds := rfl
theorem itOw_full {e : D} : itOw e .full = .full := rfl
theorem itOw_no {e : D} : itOw e .no = if imm e = true then .full else .no := rfl
theorem itOw_top {e : D} : itOw e .top = if imm e = true then .full else .no := rfl
theorem S1_raise {c : Str} : S1 (sRaise c) s QS = QS (.exc c s) := by simp [S1, sRaise]
def hdK (P : Bool → Prop) (N : Prop) : Option Bool → Prop
  | some b => P b
  | none => N
theorem hdK_some {P : Bool → Prop} {N : Prop} {b : Bool} : hdK P N (some b) = P b := rfl
theorem hdK_none {P : Bool → Prop} {N : Prop} : hdK P N none = N := rfl
def onX (k : Str → SD → Prop) (Q : Out → Prop) : Out → Prop
  | .exc c s => k c s
  | o => Q o
theorem onX_exc {k : Str → SD → Prop} {c : Str} : onX k QS (.exc c s) = k c s := rfl
theorem onX_next {k : Str → SD → Prop} : onX k QS (.next s) = QS (.next s) := rfl
theorem onX_ret {k : Str → SD → Prop} {d : D} {ow : Ow} : onX k QS (.ret d ow) = QS (.ret d ow) := rfl
theorem S1_try {xs : List Str} {i : Nat} {hd : Str → Option Bool} {b : DS} : S1 (sTry xs i hd b) s QS = S1 b s (onX (fun c s1 => (c ∈ xs ∧ i < s1.length) ∧ hdK (fun v => QS (.ret (.bl v) .full)) (QS (.next (s1.set i none))) (hd c)) QS) := by
  unfold sTry
  simp only [S1_def]
  cases e : b s with
  | none => simp
  | some r =>
    cases r with
    | exc c s1 =>
      simp only [O1_some, onX_exc, O1_guard]
      cases hd c <;> simp [hdK]
    | _ => simp [onX]
theorem E1_dnewK : E1 cDNewK s QC = QC (.ok (.dK [], .full) s) := by simp [E1, cDNewK]
theorem E1_dnewT : E1 cDNewT s QC = QC (.ok (.dT [], .full) s) := by simp [E1, cDNewT]
def tupF (xs : List D) (s : SD) : Option (Er (D × Ow)) := match xs with
  | [.lst ds] => mkT ds s
  | [.sc ds] => mkT ds s
  | [.tup ds] => if immL ds = true then some (.ok (.tup ds, .full) s) else none
  | _ => none
theorem E1_cTupOf {a : DE (List D)} : E1 (cTupOf a) s QC = E1 a s (onE (fun xs s1 => O1 (tupF xs s1) QC) QC) := by
  unfold cTupOf
  rw [E1_bnd]
  rfl
theorem O1_tupL {ds : List D} : O1 (tupF [.lst ds] s) QC = O1 (mkT ds s) QC := rfl
theorem O1_tupS {ds : List D} : O1 (tupF [.sc ds] s) QC = O1 (mkT ds s) QC := rfl
theorem getP_nil {d : D} : getP [] d = some d := rfl
theorem getP_lst {ds : List D} {k : Int} {ks : List Int} : getP (k :: ks) (.lst ds) = (L2.atI ds k).bind (getP ks) := rfl
theorem getP_tup {ds : List D} {k : Int} {ks : List Int} : getP (k :: ks) (.tup ds) = (L2.atI ds k).bind (getP ks) := rfl
end
end Dv

namespace Dv
open PySem PySem.SeqAt Ob
open PySem.AutoSeq1 (wpAny_loadPart')
open PySem.MeetsSeq PySem.MeetsSeq2 PySem.MeetsSeq3 PySem.SeqRoads2

theorem lsLoop_lt (p q : Addr) (xs ys : Array Value) (m m2 : Nat) (d1 d2 : Option Addr) (z1 z2 : Array (Option Value)) (e r : Nat → Bool) : ∀ (k i : Nat), min xs.size ys.size - i = k →
    Meets (Builtin.«list.__eq__.loop» ⟨[.ref p, .ref q, rawInt i, rawInt 0], []⟩) fun A R s =>
      (s.heap.get? p = some ⟨.type "list", d1, .seq xs m, z1⟩ ∧ s.heap.get? q = some ⟨.type "list", d2, .seq ys m2, z2⟩) ∧ (∀ j (h1 : j < xs.size) (h2 : j < ys.size), EqAt A.in1 s xs[j] ys[j] (e j)) ∧
      (∀ j (h1 : j < xs.size) (h2 : j < ys.size), e j = false → Ob.RcOp .Lt A.in1 s xs[j] ys[j] (r j)) ∧ R (.ok (.ret (.bool (lexAt e r (decide (xs.size < ys.size)) i (min xs.size ys.size - i))))) s
  | 0, i, hk => fun prog w A R s h => by
    obtain ⟨hp, g, d, tk, os⟩ := s
    obtain ⟨⟨hl, hb⟩, he, hr, h⟩ := h
    rw [hk, lexAt_zero] at h
    wp_walk using wpAny_loadPart' hl, wpAny_loadPart' hb
    by_cases c : xs.size ≤ i
    · rw [show xs[((i : Nat) : Int).toNat]? = none by simp; omega]
      wp_walk using wpAny_loadPart' hl, wpAny_loadPart' hb
      exact h
    · have ci : i < xs.size := by omega
      rw [show xs[((i : Nat) : Int).toNat]? = some xs[i] by simp [ci], show ys[((i : Nat) : Int).toNat]? = none by simp; omega]
      wp_walk using wpAny_loadPart' hl, wpAny_loadPart' hb
      exact h
  | k + 1, i, hk => fun prog w A R s h => by
    obtain ⟨hp, g, d, tk, os⟩ := s
    obtain ⟨⟨hl, hb⟩, he, hr, h⟩ := h
    wp_walk using wpAny_loadPart' hl, wpAny_loadPart' hb
    have c1 : i < xs.size := by omega
    have c2 : i < ys.size := by omega
    have g1 : xs[((i : Nat) : Int).toNat]? = some xs[i] := by simp [c1]
    have g2 : ys[((i : Nat) : Int).toNat]? = some ys[i] := by simp [c2]
    have hn : (i : Int) + 1 = ((i + 1 : Nat) : Int) := by omega
    rw [hk, lexAt_succ] at h
    rw [g1, g2]
    refine wpAny_bind (he i c1 c2 prog w _ _ ?_)
    cases eb : e i with
    | true =>
      rw [eb, if_pos rfl] at h
      wp_walk
      rw [hn]
      exact ⟨plainId_quiet plain_eq_loop _, codeAny_builtin entry_eq_loop (by
        have := lsLoop_lt p q xs ys m m2 d1 d2 z1 z2 e r k (i + 1) (by omega) prog w A R _ ⟨⟨hl, hb⟩, he, hr, by rwa [show min xs.size ys.size - (i + 1) = k by omega]⟩
        rwa [Around.under_plainId plain_eq_loop _])⟩
    | false =>
      rw [eb, if_neg Bool.false_ne_true] at h
      wp_walk using wpAny_loadPart' hl, wpAny_loadPart' hb
      rw [g1, g2]
      have hh := hr i c1 c2 eb prog w
      wp_walk using hh
      exact h
theorem lsAt_lt (p q : Addr) (xs ys : Array Value) (m m2 : Nat) (d1 d2 : Option Addr) (z1 z2 : Array (Option Value)) (e r : Nat → Bool) :
    Meets (Builtin.«list.__lt__» ⟨[.ref p, .ref q], []⟩) fun A R s =>
      (s.heap.get? p = some ⟨.type "list", d1, .seq xs m, z1⟩ ∧ s.heap.get? q = some ⟨.type "list", d2, .seq ys m2, z2⟩) ∧ (∀ j (h1 : j < xs.size) (h2 : j < ys.size), EqAt A.in1 s xs[j] ys[j] (e j)) ∧
      (∀ j (h1 : j < xs.size) (h2 : j < ys.size), e j = false → Ob.RcOp .Lt A.in1 s xs[j] ys[j] (r j)) ∧ R (.ok (.ret (.bool (lexAt e r (decide (xs.size < ys.size)) 0 (min xs.size ys.size))))) s := fun prog w A R s h => by
  obtain ⟨hp, g, d, tk, os⟩ := s
  obtain ⟨⟨hl, hb⟩, he, hr, h⟩ := h
  have sub := AutoSeq1.sub_list_list
  wp_walk using wpAny_loadPart' hl, wpAny_loadPart' hb
  exact ⟨plainId_quiet plain_eq_loop _, codeAny_builtin entry_eq_loop (by
    have := lsLoop_lt p q xs ys m m2 d1 d2 z1 z2 e r _ 0 rfl prog w A R _ ⟨⟨hl, hb⟩, he, hr, by simpa using h⟩
    rwa [Around.under_plainId plain_eq_loop _])⟩
theorem lists_lt {A : Around} {s : Shared} {p q : Addr} {xs ys : Array Value} {e r : Nat → Bool} (hl : s.heap.IsList p xs) (hb : s.heap.IsList q ys) (hu : A.units < cLine) (he : ∀ j (h1 : j < xs.size) (h2 : j < ys.size), EqAt A.in1 s xs[j] ys[j] (e j))
    (hr : ∀ j (h1 : j < xs.size) (h2 : j < ys.size), e j = false → Ob.RcOp .Lt A.in1 s xs[j] ys[j] (r j)) : Ob.RcOp .Lt A s (.ref p) (.ref q) (lexAt e r (decide (xs.size < ys.size)) 0 (min xs.size ys.size)) := fun prog w E Q h => by
  obtain ⟨⟨k1, d1, t1, z1⟩, o1, y1, m, w1⟩ := id hl
  obtain ⟨⟨k2, d2, t2, z2⟩, o2, y2, m2, w2⟩ := id hb
  simp only at y1 w1 y2 w2
  subst y1 w1 y2 w2
  exact richCompare_meets_room (op := .Lt) ⟨_, o1, rfl⟩ ⟨_, o2, rfl⟩ F.slot_list_lt F.entry_list_lt (F.args_list_lt_2 _ _) (lsAt_lt p q xs ys m m2 d1 d2 z1 z2 e r) ⟨⟨o1, o2⟩, he, hr, ⟨(fun x => nomatch x), h⟩⟩ hu

theorem lsLoop_le (p q : Addr) (xs ys : Array Value) (m m2 : Nat) (d1 d2 : Option Addr) (z1 z2 : Array (Option Value)) (e r : Nat → Bool) : ∀ (k i : Nat), min xs.size ys.size - i = k →
    Meets (Builtin.«list.__eq__.loop» ⟨[.ref p, .ref q, rawInt i, rawInt 1], []⟩) fun A R s =>
      (s.heap.get? p = some ⟨.type "list", d1, .seq xs m, z1⟩ ∧ s.heap.get? q = some ⟨.type "list", d2, .seq ys m2, z2⟩) ∧ (∀ j (h1 : j < xs.size) (h2 : j < ys.size), EqAt A.in1 s xs[j] ys[j] (e j)) ∧
      (∀ j (h1 : j < xs.size) (h2 : j < ys.size), e j = false → Ob.RcOp .LtE A.in1 s xs[j] ys[j] (r j)) ∧ R (.ok (.ret (.bool (lexAt e r (decide (xs.size ≤ ys.size)) i (min xs.size ys.size - i))))) s
  | 0, i, hk => fun prog w A R s h => by
    obtain ⟨hp, g, d, tk, os⟩ := s
    obtain ⟨⟨hl, hb⟩, he, hr, h⟩ := h
    rw [hk, lexAt_zero] at h
    wp_walk using wpAny_loadPart' hl, wpAny_loadPart' hb
    by_cases c : xs.size ≤ i
    · rw [show xs[((i : Nat) : Int).toNat]? = none by simp; omega]
      wp_walk using wpAny_loadPart' hl, wpAny_loadPart' hb
      exact h
    · have ci : i < xs.size := by omega
      rw [show xs[((i : Nat) : Int).toNat]? = some xs[i] by simp [ci], show ys[((i : Nat) : Int).toNat]? = none by simp; omega]
      wp_walk using wpAny_loadPart' hl, wpAny_loadPart' hb
      exact h
  | k + 1, i, hk => fun prog w A R s h => by
    obtain ⟨hp, g, d, tk, os⟩ := s
    obtain ⟨⟨hl, hb⟩, he, hr, h⟩ := h
    wp_walk using wpAny_loadPart' hl, wpAny_loadPart' hb
    have c1 : i < xs.size := by omega
    have c2 : i < ys.size := by omega
    have g1 : xs[((i : Nat) : Int).toNat]? = some xs[i] := by simp [c1]
    have g2 : ys[((i : Nat) : Int).toNat]? = some ys[i] := by simp [c2]
    have hn : (i : Int) + 1 = ((i + 1 : Nat) : Int) := by omega
    rw [hk, lexAt_succ] at h
    rw [g1, g2]
    refine wpAny_bind (he i c1 c2 prog w _ _ ?_)
    cases eb : e i with
    | true =>
      rw [eb, if_pos rfl] at h
      wp_walk
      rw [hn]
      exact ⟨plainId_quiet plain_eq_loop _, codeAny_builtin entry_eq_loop (by
        have := lsLoop_le p q xs ys m m2 d1 d2 z1 z2 e r k (i + 1) (by omega) prog w A R _ ⟨⟨hl, hb⟩, he, hr, by rwa [show min xs.size ys.size - (i + 1) = k by omega]⟩
        rwa [Around.under_plainId plain_eq_loop _])⟩
    | false =>
      rw [eb, if_neg Bool.false_ne_true] at h
      wp_walk using wpAny_loadPart' hl, wpAny_loadPart' hb
      rw [g1, g2]
      have hh := hr i c1 c2 eb prog w
      wp_walk using hh
      exact h
theorem lsAt_le (p q : Addr) (xs ys : Array Value) (m m2 : Nat) (d1 d2 : Option Addr) (z1 z2 : Array (Option Value)) (e r : Nat → Bool) :
    Meets (Builtin.«list.__le__» ⟨[.ref p, .ref q], []⟩) fun A R s =>
      (s.heap.get? p = some ⟨.type "list", d1, .seq xs m, z1⟩ ∧ s.heap.get? q = some ⟨.type "list", d2, .seq ys m2, z2⟩) ∧ (∀ j (h1 : j < xs.size) (h2 : j < ys.size), EqAt A.in1 s xs[j] ys[j] (e j)) ∧
      (∀ j (h1 : j < xs.size) (h2 : j < ys.size), e j = false → Ob.RcOp .LtE A.in1 s xs[j] ys[j] (r j)) ∧ R (.ok (.ret (.bool (lexAt e r (decide (xs.size ≤ ys.size)) 0 (min xs.size ys.size))))) s := fun prog w A R s h => by
  obtain ⟨hp, g, d, tk, os⟩ := s
  obtain ⟨⟨hl, hb⟩, he, hr, h⟩ := h
  have sub := AutoSeq1.sub_list_list
  wp_walk using wpAny_loadPart' hl, wpAny_loadPart' hb
  exact ⟨plainId_quiet plain_eq_loop _, codeAny_builtin entry_eq_loop (by
    have := lsLoop_le p q xs ys m m2 d1 d2 z1 z2 e r _ 0 rfl prog w A R _ ⟨⟨hl, hb⟩, he, hr, by simpa using h⟩
    rwa [Around.under_plainId plain_eq_loop _])⟩
theorem lists_le {A : Around} {s : Shared} {p q : Addr} {xs ys : Array Value} {e r : Nat → Bool} (hl : s.heap.IsList p xs) (hb : s.heap.IsList q ys) (hu : A.units < cLine) (he : ∀ j (h1 : j < xs.size) (h2 : j < ys.size), EqAt A.in1 s xs[j] ys[j] (e j))
    (hr : ∀ j (h1 : j < xs.size) (h2 : j < ys.size), e j = false → Ob.RcOp .LtE A.in1 s xs[j] ys[j] (r j)) : Ob.RcOp .LtE A s (.ref p) (.ref q) (lexAt e r (decide (xs.size ≤ ys.size)) 0 (min xs.size ys.size)) := fun prog w E Q h => by
  obtain ⟨⟨k1, d1, t1, z1⟩, o1, y1, m, w1⟩ := id hl
  obtain ⟨⟨k2, d2, t2, z2⟩, o2, y2, m2, w2⟩ := id hb
  simp only at y1 w1 y2 w2
  subst y1 w1 y2 w2
  exact richCompare_meets_room (op := .LtE) ⟨_, o1, rfl⟩ ⟨_, o2, rfl⟩ F.slot_list_le F.entry_list_le (F.args_list_le_2 _ _) (lsAt_le p q xs ys m m2 d1 d2 z1 z2 e r) ⟨⟨o1, o2⟩, he, hr, ⟨(fun x => nomatch x), h⟩⟩ hu

theorem lsLoop_gt (p q : Addr) (xs ys : Array Value) (m m2 : Nat) (d1 d2 : Option Addr) (z1 z2 : Array (Option Value)) (e r : Nat → Bool) : ∀ (k i : Nat), min xs.size ys.size - i = k →
    Meets (Builtin.«list.__eq__.loop» ⟨[.ref p, .ref q, rawInt i, rawInt 4], []⟩) fun A R s =>
      (s.heap.get? p = some ⟨.type "list", d1, .seq xs m, z1⟩ ∧ s.heap.get? q = some ⟨.type "list", d2, .seq ys m2, z2⟩) ∧ (∀ j (h1 : j < xs.size) (h2 : j < ys.size), EqAt A.in1 s xs[j] ys[j] (e j)) ∧
      (∀ j (h1 : j < xs.size) (h2 : j < ys.size), e j = false → Ob.RcOp .Gt A.in1 s xs[j] ys[j] (r j)) ∧ R (.ok (.ret (.bool (lexAt e r (decide (xs.size > ys.size)) i (min xs.size ys.size - i))))) s
  | 0, i, hk => fun prog w A R s h => by
    obtain ⟨hp, g, d, tk, os⟩ := s
    obtain ⟨⟨hl, hb⟩, he, hr, h⟩ := h
    rw [hk, lexAt_zero] at h
    wp_walk using wpAny_loadPart' hl, wpAny_loadPart' hb
    by_cases c : xs.size ≤ i
    · rw [show xs[((i : Nat) : Int).toNat]? = none by simp; omega]
      wp_walk using wpAny_loadPart' hl, wpAny_loadPart' hb
      exact h
    · have ci : i < xs.size := by omega
      rw [show xs[((i : Nat) : Int).toNat]? = some xs[i] by simp [ci], show ys[((i : Nat) : Int).toNat]? = none by simp; omega]
      wp_walk using wpAny_loadPart' hl, wpAny_loadPart' hb
      exact h
  | k + 1, i, hk => fun prog w A R s h => by
    obtain ⟨hp, g, d, tk, os⟩ := s
    obtain ⟨⟨hl, hb⟩, he, hr, h⟩ := h
    wp_walk using wpAny_loadPart' hl, wpAny_loadPart' hb
    have c1 : i < xs.size := by omega
    have c2 : i < ys.size := by omega
    have g1 : xs[((i : Nat) : Int).toNat]? = some xs[i] := by simp [c1]
    have g2 : ys[((i : Nat) : Int).toNat]? = some ys[i] := by simp [c2]
    have hn : (i : Int) + 1 = ((i + 1 : Nat) : Int) := by omega
    rw [hk, lexAt_succ] at h
    rw [g1, g2]
    refine wpAny_bind (he i c1 c2 prog w _ _ ?_)
    cases eb : e i with
    | true =>
      rw [eb, if_pos rfl] at h
      wp_walk
      rw [hn]
      exact ⟨plainId_quiet plain_eq_loop _, codeAny_builtin entry_eq_loop (by
        have := lsLoop_gt p q xs ys m m2 d1 d2 z1 z2 e r k (i + 1) (by omega) prog w A R _ ⟨⟨hl, hb⟩, he, hr, by rwa [show min xs.size ys.size - (i + 1) = k by omega]⟩
        rwa [Around.under_plainId plain_eq_loop _])⟩
    | false =>
      rw [eb, if_neg Bool.false_ne_true] at h
      wp_walk using wpAny_loadPart' hl, wpAny_loadPart' hb
      rw [g1, g2]
      have hh := hr i c1 c2 eb prog w
      wp_walk using hh
      exact h
theorem lsAt_gt (p q : Addr) (xs ys : Array Value) (m m2 : Nat) (d1 d2 : Option Addr) (z1 z2 : Array (Option Value)) (e r : Nat → Bool) :
    Meets (Builtin.«list.__gt__» ⟨[.ref p, .ref q], []⟩) fun A R s =>
      (s.heap.get? p = some ⟨.type "list", d1, .seq xs m, z1⟩ ∧ s.heap.get? q = some ⟨.type "list", d2, .seq ys m2, z2⟩) ∧ (∀ j (h1 : j < xs.size) (h2 : j < ys.size), EqAt A.in1 s xs[j] ys[j] (e j)) ∧
      (∀ j (h1 : j < xs.size) (h2 : j < ys.size), e j = false → Ob.RcOp .Gt A.in1 s xs[j] ys[j] (r j)) ∧ R (.ok (.ret (.bool (lexAt e r (decide (xs.size > ys.size)) 0 (min xs.size ys.size))))) s := fun prog w A R s h => by
  obtain ⟨hp, g, d, tk, os⟩ := s
  obtain ⟨⟨hl, hb⟩, he, hr, h⟩ := h
  have sub := AutoSeq1.sub_list_list
  wp_walk using wpAny_loadPart' hl, wpAny_loadPart' hb
  exact ⟨plainId_quiet plain_eq_loop _, codeAny_builtin entry_eq_loop (by
    have := lsLoop_gt p q xs ys m m2 d1 d2 z1 z2 e r _ 0 rfl prog w A R _ ⟨⟨hl, hb⟩, he, hr, by simpa using h⟩
    rwa [Around.under_plainId plain_eq_loop _])⟩
theorem lists_gt {A : Around} {s : Shared} {p q : Addr} {xs ys : Array Value} {e r : Nat → Bool} (hl : s.heap.IsList p xs) (hb : s.heap.IsList q ys) (hu : A.units < cLine) (he : ∀ j (h1 : j < xs.size) (h2 : j < ys.size), EqAt A.in1 s xs[j] ys[j] (e j))
    (hr : ∀ j (h1 : j < xs.size) (h2 : j < ys.size), e j = false → Ob.RcOp .Gt A.in1 s xs[j] ys[j] (r j)) : Ob.RcOp .Gt A s (.ref p) (.ref q) (lexAt e r (decide (xs.size > ys.size)) 0 (min xs.size ys.size)) := fun prog w E Q h => by
  obtain ⟨⟨k1, d1, t1, z1⟩, o1, y1, m, w1⟩ := id hl
  obtain ⟨⟨k2, d2, t2, z2⟩, o2, y2, m2, w2⟩ := id hb
  simp only at y1 w1 y2 w2
  subst y1 w1 y2 w2
  exact richCompare_meets_room (op := .Gt) ⟨_, o1, rfl⟩ ⟨_, o2, rfl⟩ F.slot_list_gt F.entry_list_gt (F.args_list_gt_2 _ _) (lsAt_gt p q xs ys m m2 d1 d2 z1 z2 e r) ⟨⟨o1, o2⟩, he, hr, ⟨(fun x => nomatch x), h⟩⟩ hu

end Dv

namespace Dv
open PySem PySem.Spec PyProof.Rows L2 Evl

/-- the order of lists of whole numbers -/
def ltL : List Int → List Int → Bool
  | [], [] => false
  | [], _ :: _ => true
  | _ :: _, [] => false
  | x :: p, y :: q => decide (x < y) || (decide (x = y) && ltL p q)
def leL : List Int → List Int → Bool
  | [], _ => true
  | _ :: _, [] => false
  | x :: p, y :: q => decide (x < y) || (decide (x = y) && leL p q)
theorem lexAt_shift {e r : Nat → Bool} {z : Bool} : ∀ (k i : Nat), Ob.lexAt e r z (i + 1) k = Ob.lexAt (fun j => e (j + 1)) (fun j => r (j + 1)) z i k
  | 0, _ => rfl
  | k + 1, i => by rw [Ob.lexAt_succ, Ob.lexAt_succ, lexAt_shift k (i + 1)]
theorem lex_lt : ∀ ns ms : List Int, Ob.lexAt (fun j => decide (ns.getD j 0 = ms.getD j 0)) (fun j => decide (ns.getD j 0 < ms.getD j 0)) (decide (ns.length < ms.length)) 0 (min ns.length ms.length) = ltL ns ms
  | [], [] => by simp [Ob.lexAt, ltL]
  | [], _ :: _ => by simp [Ob.lexAt, ltL]
  | _ :: _, [] => by simp [Ob.lexAt, ltL]
  | x :: p, y :: q => by
    have ih := lex_lt p q
    rw [List.length_cons, List.length_cons, Nat.succ_min_succ, Ob.lexAt_succ, lexAt_shift]
    simp only [List.getD_cons_zero, List.getD_cons_succ, ltL, Nat.add_lt_add_iff_right]
    rw [ih]
    by_cases h : x = y
    · subst h; simp
    · simp [h]
theorem lex_le : ∀ ns ms : List Int, Ob.lexAt (fun j => decide (ns.getD j 0 = ms.getD j 0)) (fun j => decide (ns.getD j 0 ≤ ms.getD j 0)) (decide (ns.length ≤ ms.length)) 0 (min ns.length ms.length) = leL ns ms
  | [], [] => by simp [Ob.lexAt, leL]
  | [], _ :: _ => by simp [Ob.lexAt, leL]
  | _ :: _, [] => by simp [Ob.lexAt, leL]
  | x :: p, y :: q => by
    have ih := lex_le p q
    rw [List.length_cons, List.length_cons, Nat.succ_min_succ, Ob.lexAt_succ, lexAt_shift]
    simp only [List.getD_cons_zero, List.getD_cons_succ, leL, Nat.add_le_add_iff_right]
    rw [ih]
    by_cases h : x = y
    · subst h; simp
    · simp only [h, decide_false, Bool.false_eq_true, if_false, Bool.false_and, Bool.or_false]
      congr 1
      exact propext ⟨fun z => by omega, fun z => by omega⟩
theorem lex_gt (ns ms : List Int) : Ob.lexAt (fun j => decide (ns.getD j 0 = ms.getD j 0)) (fun j => decide (ms.getD j 0 < ns.getD j 0)) (decide (ns.length > ms.length)) 0 (min ns.length ms.length) = ltL ms ns := by
  rw [← lex_lt ms ns, Nat.min_comm]
  congr 1
  funext j
  exact decide_eq_decide.mpr ⟨Eq.symm, Eq.symm⟩
/-- two lists of whole numbers compared -/
def rLsC (f : List Int → List Int → Bool) (K : PySem.W.Frag) : R2 := fun x y H Q => ∃ (a b : Addr) (ns ms : List Int), x = .ref a ∧ y = .ref b ∧ SqL K H a (ns.map V.int) ∧ SqL K H b (ms.map V.int) ∧ Q (.bl (f ns ms)) H
theorem ls_of {X : Cx} {pins : List (Addr × Obj)} {σ : L2.St} {H : Hp} {s : Shared} {a : Addr} {ns : List Int} (I : Inv X pins σ H s) (h : SqL X.K H a (ns.map V.int)) : ∃ its : Array Value, s.heap.IsList a its ∧ its.size = ns.length ∧ ∀ j (hj : j < its.size), ∃ t, its[j] = .int (ns.getD j 0) t := by
  obtain ⟨its, r1, ⟨o, n, e, c, d, g⟩, _⟩ := I.list h
  have i1 : IntsAre its ns := Vals.ints r1
  exact ⟨its.toArray, ⟨o, e, c, n, g⟩, by rw [List.size_toArray]; exact i1.length, fun j hj => PyProof.Rows.IntsAre.int_at i1 _ _ (by simp at hj; simp [hj])⟩
theorem eq_int {A : Around} {s : Shared} (x y : Int) (t u : Tok) : SeqAt.EqAt A s (.int x t) (.int y u) (decide (x = y)) := by
  have z : (x == y) = decide (x = y) := by
    by_cases q : x = y
    · rw [decide_eq_true q]; exact beq_iff_eq.mpr q
    · rw [decide_eq_false q]; exact beq_eq_false_iff_ne.mpr q
  rw [← z]
  exact SeqAt.EqAt.int_int _ _ _ _
theorem opL {X : Cx} {op : CmpOp} {f : List Int → List Int → Bool} (h : ∀ (s : Shared) (a b : Addr) (ns ms : List Int) (u v : Array Value), s.heap.IsList a u → s.heap.IsList b v → u.size = ns.length → v.size = ms.length → (∀ j (hj : j < u.size), ∃ t, u[j] = .int (ns.getD j 0) t) → (∀ j (hj : j < v.size), ∃ t, v[j] = .int (ms.getD j 0) t) → Ob.RcOp op X.A s (.ref a) (.ref b) (f ns ms))
    (hc : ∀ x y, compareOp op x y = richCompare op x y) : OpR X (compareOp op) (rLsC f X.K) := by
  intro pins s σ H x y v u Q I rx ry h0
  obtain ⟨a, b, ns, ms, rfl, rfl, ha, hb, q⟩ := h0
  cases rx
  cases ry
  obtain ⟨i1, l1, s1, a1⟩ := ls_of I ha
  obtain ⟨i2, l2, s2, a2⟩ := ls_of I hb
  rw [hc]
  exact h s a b ns ms i1 i2 l1 l2 s1 s2 a1 a2 X.prog X.w X.xe (EP X pins σ Q) ⟨.bl _, H, I, rfl, q⟩
theorem op_gtL {X : Cx} (hu : X.A.units + 64 < cLine) : OpR X (compareOp .Gt) (rLsC (fun a b => ltL b a) X.K) :=
  opL (fun s a b ns ms u v l1 l2 s1 s2 a1 a2 => by
    have := lists_gt (A := X.A) (e := fun j => decide (ns.getD j 0 = ms.getD j 0)) (r := fun j => decide (ms.getD j 0 < ns.getD j 0)) l1 l2 (by omega) (fun j h1 h2 => by
      obtain ⟨t, et⟩ := a1 j h1
      obtain ⟨t', et'⟩ := a2 j h2
      rw [et, et']
      exact eq_int _ _ _ _) fun j h1 h2 _ => by
      obtain ⟨t, et⟩ := a1 j h1
      obtain ⟨t', et'⟩ := a2 j h2
      rw [et, et']
      exact Ob.RcOp.gt_int _ _ _ _
    rw [s1, s2, lex_gt] at this
    exact this) fun _ _ => rfl
theorem op_ltL {X : Cx} (hu : X.A.units + 64 < cLine) : OpR X (compareOp .Lt) (rLsC ltL X.K) :=
  opL (fun s a b ns ms u v l1 l2 s1 s2 a1 a2 => by
    have := lists_lt (A := X.A) (e := fun j => decide (ns.getD j 0 = ms.getD j 0)) (r := fun j => decide (ns.getD j 0 < ms.getD j 0)) l1 l2 (by omega) (fun j h1 h2 => by
      obtain ⟨t, et⟩ := a1 j h1
      obtain ⟨t', et'⟩ := a2 j h2
      rw [et, et']
      exact eq_int _ _ _ _) fun j h1 h2 _ => by
      obtain ⟨t, et⟩ := a1 j h1
      obtain ⟨t', et'⟩ := a2 j h2
      rw [et, et']
      exact Ob.RcOp.lt_int _ _ _ _
    rw [s1, s2, lex_lt] at this
    exact this) fun _ _ => rfl
theorem op_leL {X : Cx} (hu : X.A.units + 64 < cLine) : OpR X (compareOp .LtE) (rLsC leL X.K) :=
  opL (fun s a b ns ms u v l1 l2 s1 s2 a1 a2 => by
    have := lists_le (A := X.A) (e := fun j => decide (ns.getD j 0 = ms.getD j 0)) (r := fun j => decide (ns.getD j 0 ≤ ms.getD j 0)) l1 l2 (by omega) (fun j h1 h2 => by
      obtain ⟨t, et⟩ := a1 j h1
      obtain ⟨t', et'⟩ := a2 j h2
      rw [et, et']
      exact eq_int _ _ _ _) fun j h1 h2 _ => by
      obtain ⟨t, et⟩ := a1 j h1
      obtain ⟨t', et'⟩ := a2 j h2
      rw [et, et']
      exact Ob.RcOp.le_int _ _ _ _
    rw [s1, s2, lex_le] at this
    exact this) fun _ _ => rfl
/-! by data -/
def intsOf : List D → Option (List Int)
  | [] => some []
  | .int i :: r => (intsOf r).map (i :: ·)
  | _ :: _ => none
def lsD : D → Option (List Int)
  | .lst ds => intsOf ds
  | .sc ds => intsOf ds
  | _ => none
def fLsC (f : List Int → List Int → Bool) (x y : D) : Option D := match lsD x, lsD y with
  | some a, some b => some (.bl (f a b))
  | _, _ => none
def fGtL := fLsC fun a b => ltL b a
def fLtL := fLsC ltL
def fLeL := fLsC leL
theorem ints_re {K : PySem.W.Frag} {G H : Hp} : ∀ {vs : List V} {ds : List D} {ns : List Int}, ReL K G H vs ds → intsOf ds = some ns → vs = ns.map V.int
  | _, _, _, .nil, e => by cases e; rfl
  | _, _, _, .cons (d := .int i) (ds := r) a b, e => by
    cases a
    unfold intsOf at e
    cases e2 : intsOf r with
    | none => rw [e2] at e; cases e
    | some ns => rw [e2] at e; cases e; rw [ints_re b e2]; rfl
  | _, _, _, .cons (d := .non) _ _, e => by cases e
  | _, _, _, .cons (d := .bl _) _ _, e => by cases e
  | _, _, _, .cons (d := .str _) _ _, e => by cases e
  | _, _, _, .cons (d := .tup _) _ _, e => by cases e
  | _, _, _, .cons (d := .lst _) _ _, e => by cases e
  | _, _, _, .cons (d := .sc _) _ _, e => by cases e
  | _, _, _, .cons (d := .dK _) _ _, e => by cases e
  | _, _, _, .cons (d := .dT _) _ _, e => by cases e
  | _, _, _, .cons (d := .dN _) _ _, e => by cases e
  | _, _, _, .cons (d := .ins _ _) _ _, e => by cases e
theorem ls_re {K : PySem.W.Frag} {G H : Hp} {v : V} {d : D} {ns : List Int} (g : Ex G H) (h : Re K G H v d) (e : lsD d = some ns) : ∃ a, v = .ref a ∧ SqL K H a (ns.map V.int) := by
  cases h with
  | lst hp hr =>
    have := ints_re hr e
    subst this
    exact ⟨_, rfl, sq_of (g _ _ hp)⟩
  | sc hp hr =>
    have := ints_re hr e
    subst this
    exact ⟨_, rfl, hp.l⟩
  | _ => cases e
theorem rvLsC {K : PySem.W.Frag} {f : List Int → List Int → Bool} : RV K (rLsC f K) (fLsC f) := by
  intro G H x y dx dy d g rx ry e Q q
  unfold fLsC at e
  cases e1 : lsD dx with
  | none => rw [e1] at e; cases e
  | some ns =>
    cases e2 : lsD dy with
    | none => rw [e1, e2] at e; cases e
    | some ms =>
      rw [e1, e2] at e
      cases e
      obtain ⟨a, rfl, ha⟩ := ls_re g rx e1
      obtain ⟨b, rfl, hb⟩ := ls_re g ry e2
      exact ⟨a, b, ns, ms, rfl, rfl, ha, hb, q _ (.bl _)⟩
section
variable {X : Cx} {K : PySem.W.Frag} {W : WW} {a b : Expr} {ta tb : TE} {da db : DE D} {pos : Pos}
theorem q_gtL (hu : X.A.units + 64 < cLine) (ha : QB X K W a ta da) (hb : QB X K W b tb db) : QB X K W (.Compare a [.Gt] [b] pos) (tOp (rLsC (fun a b => ltL b a) K) ta tb) (dOp fGtL da db) := q_cmp (r := rLsC fun a b => ltL b a) (op_gtL hu) rvLsC (nomark _) ha hb
theorem qt_gtL (hu : X.A.units + 64 < cLine) (ha : QB X K W a ta da) (hb : QB X K W b tb db) : QT X K W (.Compare a [.Gt] [b] pos) (tTest (tOp (rLsC (fun a b => ltL b a) K) ta tb)) (dTest (dOp fGtL da db)) := qt_cmp (r := rLsC fun a b => ltL b a) (op_gtL hu) rvLsC (nomark _) ha hb
theorem q_ltL (hu : X.A.units + 64 < cLine) (ha : QB X K W a ta da) (hb : QB X K W b tb db) : QB X K W (.Compare a [.Lt] [b] pos) (tOp (rLsC ltL K) ta tb) (dOp fLtL da db) := q_cmp (r := rLsC ltL) (op_ltL hu) rvLsC (nomark _) ha hb
theorem qt_ltL (hu : X.A.units + 64 < cLine) (ha : QB X K W a ta da) (hb : QB X K W b tb db) : QT X K W (.Compare a [.Lt] [b] pos) (tTest (tOp (rLsC ltL K) ta tb)) (dTest (dOp fLtL da db)) := qt_cmp (r := rLsC ltL) (op_ltL hu) rvLsC (nomark _) ha hb
theorem q_leL (hu : X.A.units + 64 < cLine) (ha : QB X K W a ta da) (hb : QB X K W b tb db) : QB X K W (.Compare a [.LtE] [b] pos) (tOp (rLsC leL K) ta tb) (dOp fLeL da db) := q_cmp (r := rLsC leL) (op_leL hu) rvLsC (nomark _) ha hb
theorem qt_leL (hu : X.A.units + 64 < cLine) (ha : QB X K W a ta da) (hb : QB X K W b tb db) : QT X K W (.Compare a [.LtE] [b] pos) (tTest (tOp (rLsC leL K) ta tb)) (dTest (dOp fLeL da db)) := qt_cmp (r := rLsC leL) (op_leL hu) rvLsC (nomark _) ha hb
end
end Dv

namespace Dv
open PySem L2

/-! ### what a def does, as a plain function: an answer, a refusal, or nothing said -/
inductive R (α : Type) where
  | ok (a : α) | exc (c : Str) | bad
def R.bind {α β : Type} (x : R α) (k : α → R β) : R β := match x with
  | .ok a => k a
  | .exc c => .exc c
  | .bad => .bad
section
variable {α β γ : Type}
@[simp] theorem ok_bind (a : α) (k : α → R β) : R.bind (.ok a) k = k a := rfl
@[simp] theorem exc_bind (c : Str) (k : α → R β) : R.bind (.exc c) k = .exc c := rfl
@[simp] theorem bad_bind (k : α → R β) : R.bind .bad k = .bad := rfl
theorem bind_bind (x : R α) (k : α → R β) (l : β → R γ) : R.bind (R.bind x k) l = R.bind x fun a => R.bind (k a) l := by
  cases x <;> rfl
theorem bind_ok (x : R α) : R.bind x R.ok = x := by cases x <;> rfl
end
/-- where it answers, the answer is so; it refuses nothing -/
def Ho {α : Type} (x : R α) (P : α → Prop) : Prop := match x with
  | .ok w => P w
  | .exc _ => False
  | .bad => True
theorem Ho.of {α : Type} {x : R α} {P : α → Prop} {a : α} (h : Ho x P) (e : x = .ok a) : P a := by subst e; exact h
/-- it answers, and the answer is so -/
def Ok {α : Type} (x : R α) (Q : α → Prop) : Prop := ∃ a, x = .ok a ∧ Q a

/-! ### plain values as data -/
class Enc (α : Type) where
  enc : α → D
open Enc (enc)
structure Sc where
  ns : List Int
structure T3 (α β γ : Type) where
  a : α
  b : β
  c : γ
  deriving DecidableEq
structure T4 (α β γ δ : Type) where
  a : α
  b : β
  c : γ
  d : δ
  deriving DecidableEq
section
variable {α β γ δ : Type} [Enc α] [Enc β] [Enc γ] [Enc δ]
instance : Enc D := ⟨id⟩
instance : Enc Int := ⟨D.int⟩
instance : Enc Bool := ⟨D.bl⟩
instance : Enc Str := ⟨D.str⟩
instance : Enc Unit := ⟨fun _ => .non⟩
instance : Enc Sc := ⟨fun x => .sc (x.ns.map D.int)⟩
instance : Enc (List α) := ⟨fun l => .lst (l.map enc)⟩
instance : Enc (Option α) := ⟨fun o => match o with
  | none => .non
  | some a => enc a⟩
instance : Enc (α × β) := ⟨fun p => .tup [enc p.1, enc p.2]⟩
instance : Enc (T3 α β γ) := ⟨fun p => .tup [enc p.a, enc p.b, enc p.c]⟩
instance : Enc (T4 α β γ δ) := ⟨fun p => .tup [enc p.a, enc p.b, enc p.c, enc p.d]⟩
end
/-- no lists within -/
class Imm (α : Type) [Enc α] : Prop where
  im : ∀ a : α, imm (enc a) = true
section
variable {α β γ δ : Type} [Enc α] [Enc β] [Enc γ] [Enc δ]
instance : Imm Int := ⟨fun _ => rfl⟩
instance : Imm Bool := ⟨fun _ => rfl⟩
instance : Imm Str := ⟨fun _ => rfl⟩
instance : Imm Unit := ⟨fun _ => rfl⟩
instance [Imm α] [Imm β] : Imm (α × β) := ⟨fun p => by simp [enc, imm, immL, Imm.im]⟩
instance [Imm α] [Imm β] [Imm γ] : Imm (T3 α β γ) := ⟨fun p => by simp [enc, imm, immL, Imm.im]⟩
instance [Imm α] [Imm β] [Imm γ] [Imm δ] : Imm (T4 α β γ δ) := ⟨fun p => by simp [enc, imm, immL, Imm.im]⟩
instance [Imm α] : Imm (Option α) := ⟨fun p => by cases p with
  | none => rfl
  | some a => exact Imm.im a⟩
theorem immL_map [Imm α] : ∀ l : List α, immL (l.map enc) = true
  | [] => rfl
  | a :: l => by simp [immL, Imm.im, immL_map l]
end

/-! ### how a thing is held, at least -/
inductive Oc where
  | f | t | o | n
def Oc.ok : Oc → D → Ow → Prop
  | .f, _, ow => ow = .full
  | .t, _, ow => ow = .top
  | .o, d, ow => ow = .no ∨ (imm d = true ∧ ow = .full)
  | .n, _, _ => True
/-- what is known of a slot -/
inductive Pt where
  | x | h (c : Oc) (d : D)
def Pt.val : Pt → Option D
  | .x => none
  | .h _ d => some d
def Pt.ok : Pt → Sl → Prop
  | .x, _ => True
  | .h c d, sl => ∃ ow, sl = some (d, ow) ∧ c.ok d ow
def Ms : List Pt → SD → Prop
  | [], [] => True
  | p :: ps, sl :: s => p.ok sl ∧ Ms ps s
  | _, _ => False
theorem Ms.len : ∀ {ps : List Pt} {s : SD}, Ms ps s → s.length = ps.length
  | [], [], _ => rfl
  | _ :: ps, _ :: s, h => by simp [Ms.len h.2]
  | [], _ :: _, h => h.elim
  | _ :: _, [], h => h.elim
theorem Ms.get : ∀ {ps : List Pt} {s : SD} {i : Nat} {c : Oc} {d : D}, Ms ps s → ps.getD i .x = .h c d → ∃ ow, s[i]? = some (some (d, ow)) ∧ c.ok d ow
  | [], [], _, _, _, _, e => by simp at e
  | [], _ :: _, _, _, _, h, _ => h.elim
  | _ :: _, [], _, _, _, h, _ => h.elim
  | p :: ps, sl :: s, 0, c, d, h, e => by
    have e : p = .h c d := by simpa using e
    subst e
    obtain ⟨ow, rfl, q⟩ := h.1
    exact ⟨ow, rfl, q⟩
  | p :: ps, sl :: s, i + 1, c, d, h, e => by
    obtain ⟨ow, q⟩ := Ms.get (i := i) (c := c) (d := d) h.2 (by simpa using e)
    exact ⟨ow, by simpa using q⟩
theorem Ms.set : ∀ {ps : List Pt} {s : SD} {p : Pt} {sl : Sl} (i : Nat), Ms ps s → p.ok sl → Ms (ps.set i p) (s.set i sl)
  | [], [], _, _, _, _, _ => trivial
  | [], _ :: _, _, _, _, h, _ => h.elim
  | _ :: _, [], _, _, _, h, _ => h.elim
  | _ :: _, _ :: _, _, _, 0, h, q => ⟨q, h.2⟩
  | _ :: _, _ :: _, _, _, i + 1, h, q => ⟨h.1, Ms.set i h.2 q⟩
theorem Ms.x {ps : List Pt} {s : SD} (i : Nat) (h : Ms ps s) {sl : Sl} : Ms (ps.set i .x) (s.set i sl) := h.set i trivial
/-- the slots left as they are, one known less of -/
theorem Ms.forget : ∀ {ps : List Pt} {s : SD} (i : Nat), Ms ps s → Ms (ps.set i .x) s
  | [], [], _, _ => trivial
  | [], _ :: _, _, h => h.elim
  | _ :: _, [], _, h => h.elim
  | _ :: _, _ :: _, 0, h => ⟨trivial, h.2⟩
  | _ :: _, _ :: _, i + 1, h => ⟨h.1, Ms.forget i h.2⟩
def Pt.fz : Pt → Pt
  | .x => .x
  | .h .o d => .h .o d
  | .h _ d => .h .n d
def fzP : List Pt → List Pt
  | [] => []
  | p :: ps => p.fz :: fzP ps
theorem fzP_len : ∀ ps : List Pt, (fzP ps).length = ps.length
  | [] => rfl
  | _ :: ps => by simp [fzP, fzP_len ps]
theorem Pt.fz_no {p : Pt} {sl : Sl} (h : p.ok sl) : p.fz.ok (sl.map fun q => (q.1, Ow.no)) := by
  cases p with
  | x => trivial
  | h c d =>
    obtain ⟨ow, rfl, q⟩ := h
    cases c <;> exact ⟨.no, rfl, by first | exact .inl rfl | trivial⟩
theorem Pt.fz_le {p : Pt} {sl : Sl} (h : p.ok sl) : p.fz.ok sl := by
  cases p with
  | x => trivial
  | h c d =>
    obtain ⟨ow, rfl, q⟩ := h
    cases c <;> exact ⟨ow, rfl, by first | exact q | trivial⟩
theorem Ms.fz : ∀ {ps : List Pt} {s : SD}, Ms ps s → Ms (fzP ps) (fzAll s)
  | [], [], _ => trivial
  | [], _ :: _, h => h.elim
  | _ :: _, [], h => h.elim
  | _ :: _, _ :: _, h => ⟨Pt.fz_no h.1, Ms.fz h.2⟩
theorem Ms.fzle : ∀ {ps : List Pt} {s : SD}, Ms ps s → Ms (fzP ps) s
  | [], [], _ => trivial
  | [], _ :: _, h => h.elim
  | _ :: _, [], h => h.elim
  | _ :: _, _ :: _, h => ⟨Pt.fz_le h.1, Ms.fzle h.2⟩
theorem fzAll_len (s : SD) : (fzAll s).length = s.length := by simp [fzAll]
def wipeP : List Nat → List Pt → List Pt
  | [], ps => ps
  | i :: is, ps => (wipeP is ps).set i .x
theorem Ms.wipe : ∀ (own : List Nat) {ps : List Pt} {s : SD}, Ms ps s → Ms (wipeP own ps) (wipeD own s)
  | [], _, _, h => h
  | i :: is, _, _, h => (Ms.wipe is h).x i
theorem wipe_len : ∀ (own : List Nat) (s : SD), (wipeD own s).length = s.length
  | [], s => rfl
  | i :: is, s => by simp [wipeD, wipe_len is s]
/-- less is known -/
inductive Wk : List Pt → List Pt → Prop
  | nil : Wk [] []
  | x {p : Pt} {ps qs : List Pt} : Wk ps qs → Wk (p :: ps) (.x :: qs)
  | n {c : Oc} {d : D} {ps qs : List Pt} : Wk ps qs → Wk (.h c d :: ps) (.h .n d :: qs)
  | e {c : Oc} {d : D} {ps qs : List Pt} : Wk ps qs → Wk (.h c d :: ps) (.h c d :: qs)
  | i {d : D} {ps qs : List Pt} (hi : imm d = true) : Wk ps qs → Wk (.h .f d :: ps) (.h .o d :: qs)
theorem Ms.wk : ∀ {ps qs : List Pt} {s : SD}, Ms ps s → Wk ps qs → Ms qs s
  | _, _, [], h, .nil => trivial
  | _, _, _ :: _, h, .nil => h.elim
  | _, _, [], h, .x _ => h.elim
  | _, _, _ :: _, h, .x r => ⟨trivial, Ms.wk h.2 r⟩
  | _, _, [], h, .n _ => h.elim
  | _, _, _ :: _, h, .n r => ⟨let ⟨ow, e, _⟩ := h.1; ⟨ow, e, trivial⟩, Ms.wk h.2 r⟩
  | _, _, [], h, .e _ => h.elim
  | _, _, _ :: _, h, .e r => ⟨h.1, Ms.wk h.2 r⟩
  | _, _, [], h, .i _ _ => h.elim
  | _, _, _ :: _, h, .i hi r => ⟨let ⟨ow, e, q⟩ := h.1; ⟨ow, e, .inr ⟨hi, q⟩⟩, Ms.wk h.2 r⟩
theorem Wk.refl : ∀ ps : List Pt, Wk ps ps
  | [] => .nil
  | .x :: ps => .x (Wk.refl ps)
  | .h _ _ :: ps => .e (Wk.refl ps)

/-! ### judgements: under what is known of the slots the data's run does what the plain function says -/
section
variable {α β γ δ τ σ ρ α' β' : Type}
def RGs (ps : List Pt) (de : DE β) (x : R α) (V : α → β → Prop) (ps' : List Pt) (s : SD) : Prop := match x with
  | .ok a => ∃ b s', de s = some (.ok b s') ∧ V a b ∧ Ms ps' s' ∧ s'.length = s.length
  | .exc c => ∃ s', de s = some (.exc c s') ∧ s'.length = s.length
  | .bad => True
structure RG (ps : List Pt) (de : DE β) (x : R α) (V : α → β → Prop) (ps' : List Pt) : Prop where
  h : ∀ s, Ms ps s → RGs ps de x V ps' s
instance {ps ps' : List Pt} {de : DE β} {x : R α} {V : α → β → Prop} : CoeFun (RG ps de x V ps') (fun _ => ∀ s, Ms ps s → RGs ps de x V ps' s) := ⟨RG.h⟩
abbrev RB [Enc α] (ps : List Pt) (de : DE D) (x : R α) (ps' : List Pt) : Prop := RG ps de x (fun a d => d = enc a) ps'
abbrev RC [Enc α] (ps : List Pt) (de : DE (D × Ow)) (x : R α) (c : Oc) (ps' : List Pt) : Prop := RG ps de x (fun a p => p.1 = enc a ∧ c.ok (enc a) p.2) ps'
abbrev RT (ps : List Pt) (de : DE Bool) (x : R Bool) (ps' : List Pt) : Prop := RG ps de x (fun a b => b = a) ps'
abbrev RA (ps : List Pt) (de : DE (List D)) (x : R γ) (el : γ → List D) (ps' : List Pt) : Prop := RG ps de x (fun a ds => ds = el a) ps'
theorem RG.bnd {ps ps1 ps2 : List Pt} {da : DE β} {k : β → DE β'} {x : R α} {kx : α → R α'} {V : α → β → Prop} {V' : α' → β' → Prop} (h : RG ps da x V ps1) (hk : ∀ a b, V a b → RG ps1 (k b) (kx a) V' ps2) : RG ps (bnd da k) (R.bind x kx) V' ps2 := by
  refine ⟨fun s hs => ?_⟩
  have h := h s hs
  cases x with
  | bad => trivial
  | exc c =>
    obtain ⟨s1, e, l⟩ := h
    exact ⟨s1, by unfold Dv.bnd; rw [e], l⟩
  | ok a =>
    obtain ⟨b, s1, e, v, m, l⟩ := h
    have h2 := hk a b v s1 m
    have eb : Dv.bnd da k s = k b s1 := by unfold Dv.bnd; rw [e]
    show match kx a with
      | .ok a => _
      | .exc c => _
      | .bad => _
    rw [eb]
    cases e3 : kx a with
    | bad => trivial
    | exc c =>
      rw [e3] at h2
      obtain ⟨s2, e2, l2⟩ := h2
      exact ⟨s2, e2, l2.trans l⟩
    | ok a2 =>
      rw [e3] at h2
      obtain ⟨b2, s2, e2, v2, m2, l2⟩ := h2
      exact ⟨b2, s2, e2, v2, m2, l2.trans l⟩
theorem RG.pure {ps : List Pt} {b : β} {a : α} {V : α → β → Prop} (v : V a b) : RG ps (fun s => some (.ok b s)) (.ok a) V ps := .mk fun s hs => ⟨b, s, rfl, v, hs, rfl⟩
theorem RG.wk {ps ps1 ps2 : List Pt} {de : DE β} {x : R α} {V : α → β → Prop} (h : RG ps de x V ps1) (w : Wk ps1 ps2) : RG ps de x V ps2 := by
  refine ⟨fun s hs => ?_⟩
  have h := h s hs
  cases x with
  | bad => trivial
  | exc c => exact h
  | ok a =>
    obtain ⟨b, s1, e, v, m, l⟩ := h
    exact ⟨b, s1, e, v, m.wk w, l⟩
theorem RG.cv {ps ps1 : List Pt} {de : DE β} {x y : R α} {V : α → β → Prop} (h : RG ps de x V ps1) (e : x = y) : RG ps de y V ps1 := e ▸ h
/-- the value told otherwise -/
theorem RG.co {ps ps1 : List Pt} {de : DE β} {x : R α} {V : α → β → Prop} {V' : α' → β → Prop} (g : α → R α') (hg : ∀ a b, V a b → Ho (g a) fun a' => V' a' b) (h : RG ps de x V ps1) : RG ps de (R.bind x g) V' ps1 := by
  refine ⟨fun s hs => ?_⟩
  have h := h s hs
  cases x with
  | bad => trivial
  | exc c => exact h
  | ok a =>
    obtain ⟨b, s1, e, v, m, l⟩ := h
    have h2 := hg a b v
    show match g a with
      | .ok a => _
      | .exc c => _
      | .bad => _
    cases e3 : g a with
    | bad => trivial
    | exc c => rw [e3] at h2; exact h2.elim
    | ok a2 =>
      rw [e3] at h2
      exact ⟨b, s1, e, h2, m, l⟩
end

/-! ### things read -/
section
variable {α β γ δ : Type} [Enc α] [Enc β] [Enc γ] [Enc δ] {ps ps1 ps2 ps3 : List Pt} {da db dc : DE D}
theorem rb_var {a : α} (i : Nat) (h : (ps.getD i .x).val = some (enc a)) : RB ps (dVar i) (.ok a) ps := by
  refine ⟨fun s hs => ?_⟩
  cases e : ps.getD i .x with
  | x => rw [e] at h; cases h
  | h c d =>
    rw [e] at h
    obtain ⟨ow, e2, _⟩ := hs.get e
    cases h
    exact ⟨_, s, by unfold dVar; rw [e2], rfl, hs, rfl⟩
theorem rb_c {d : D} {a : α} (h : d = enc a) : RB ps (dC d) (.ok a) ps := RG.pure h
theorem rb_int (i : Int) : RB ps (dC (.int i)) (.ok i) ps := rb_c rfl
theorem rb_bl (b : Bool) : RB ps (dC (.bl b)) (.ok b) ps := rb_c rfl
theorem rb_str (b : Str) : RB ps (dC (.str b)) (.ok b) ps := rb_c rfl
theorem rb_non : RB ps (dC .non) (.ok (none : Option α)) ps := rb_c rfl
/-- told as another type's value -/
theorem rb_co {x : R α} (f : α → β) (hf : ∀ a, enc (f a) = enc a) (h : RB ps da x ps1) : RB ps da (R.bind x fun a => .ok (f a)) ps1 :=
  RG.co (fun a => .ok (f a)) (fun a b v => v.trans (hf a).symm) h
theorem rb_some {x : R α} (h : RB ps da x ps1) : RB ps da (R.bind x fun a => .ok (some a)) ps1 := rb_co some (fun _ => rfl) h
theorem rb_toD {x : R α} (h : RB ps da x ps1) : RB ps da (R.bind x fun a => .ok (enc a : D)) ps1 := rb_co (fun a => (enc a : D)) (fun _ => rfl) h
/-- a value of a wider type told as one of a narrower -/
def Dn (g : α → R β) : Prop := ∀ a, Ho (g a) fun b => enc b = enc a
theorem rb_dn {x : R α} {g : α → R β} (hg : Dn g) (h : RB ps da x ps1) : RB ps da (R.bind x g) ps1 :=
  RG.co g (fun a b v => by
    have := hg a
    cases e : g a with
    | ok c => rw [e] at this; exact v.trans (Eq.symm this)
    | exc c => rw [e] at this; exact this.elim
    | bad => trivial) h
def unO (o : Option α) : R α := match o with
  | some a => .ok a
  | none => .bad
theorem dn_o : Dn (unO (α := α)) := fun a => by cases a <;> simp [unO, enc, Ho]
def asI : D → R Int
  | .int i => .ok i
  | _ => .bad
theorem dn_i : Dn asI := fun a => by cases a <;> simp [asI, enc, Ho]
def asB : D → R Bool
  | .bl i => .ok i
  | _ => .bad
theorem dn_b : Dn asB := fun a => by cases a <;> simp [asB, enc, Ho]
def asS : D → R Str
  | .str i => .ok i
  | _ => .bad
theorem dn_s : Dn asS := fun a => by cases a <;> simp [asS, enc, Ho]
def asL : D → R (List D)
  | .lst i => .ok i
  | _ => .bad
theorem map_encD (i : List D) : i.map (enc : D → D) = i := List.map_id i
theorem dn_l : Dn asL := fun a => by cases a <;> simp [asL, enc, Ho]
/-- an operation -/
def OpE (f : D → D → Option D) (g : α → β → R γ) : Prop := ∀ u v, Ho (g u v) fun w => f (enc u) (enc v) = some (enc w)
theorem rb_op {f : D → D → Option D} {g : α → β → R γ} (hf : OpE f g) {x : R α} {y : R β} (ha : RB ps da x ps1) (hb : RB ps1 db y ps2) : RB ps (dOp f da db) (R.bind x fun u => R.bind y fun v => g u v) ps2 := by
  refine RG.bnd ha fun u d1 v1 => RG.bnd hb fun v d2 v2 => ?_
  subst v1 v2
  refine ⟨fun s hs => ?_⟩
  have := hf u v
  show match g u v with
      | .ok a => _
      | .exc c => _
      | .bad => _
  cases e : g u v with
  | bad => trivial
  | exc c => rw [e] at this; exact this.elim
  | ok w =>
    rw [e] at this
    exact ⟨_, s, by show Option.map _ (f (enc u) (enc v)) = _; rw [this]; rfl, rfl, hs, rfl⟩
def UnE (f : D → Option D) (g : α → R γ) : Prop := ∀ u, Ho (g u) fun w => f (enc u) = some (enc w)
theorem rb_un {f : D → Option D} {g : α → R γ} (hf : UnE f g) {x : R α} (ha : RB ps da x ps1) : RB ps (dUn f da) (R.bind x g) ps1 := by
  refine RG.bnd ha fun u d1 v1 => ?_
  subst v1
  refine ⟨fun s hs => ?_⟩
  have := hf u
  cases e : g u with
  | bad => trivial
  | exc c => rw [e] at this; exact this.elim
  | ok w =>
    rw [e] at this
    exact ⟨_, s, by show Option.map _ (f (enc u)) = _; rw [this]; rfl, rfl, hs, rfl⟩
/-! arguments -/
def eN : Unit → List D := fun _ => []
def eC {γ : Type} (el : γ → List D) : α × γ → List D := fun p => enc p.1 :: el p.2
theorem ra_nil : RA ps dNil (.ok ()) eN ps := RG.pure rfl
theorem ra_cons {γ : Type} {x : R α} {y : R γ} {el : γ → List D} {dr : DE (List D)} (ha : RB ps da x ps1) (hr : RA ps1 dr y el ps2) : RA ps (dCons da dr) (R.bind x fun u => R.bind y fun v => .ok (u, v)) (eC el) ps2 :=
  RG.bnd ha fun u d1 v1 => RG.bnd hr fun v d2 v2 => RG.pure (by subst v1 v2; rfl)
def CbE {γ : Type} (el : γ → List D) (f : List D → Option D) (g : γ → R δ) : Prop := ∀ u, Ho (g u) fun w => f (el u) = some (enc w)
theorem rb_cb {γ : Type} {el : γ → List D} {f : List D → Option D} {g : γ → R δ} (hf : CbE el f g) {x : R γ} {dr : DE (List D)} (ha : RA ps dr x el ps1) : RB ps (dCB f dr) (R.bind x g) ps1 := by
  refine RG.bnd ha fun u d1 v1 => ?_
  subst v1
  refine ⟨fun s hs => ?_⟩
  have := hf u
  cases e : g u with
  | bad => trivial
  | exc c => rw [e] at this; exact this.elim
  | ok w =>
    rw [e] at this
    exact ⟨_, s, by show Option.map _ (f (el u)) = _; rw [this]; rfl, rfl, hs, rfl⟩
/-! tests -/
variable {t u : DE Bool}
theorem rt_test {x : R Bool} (h : RB ps da x ps1) : RT ps (dTest da) x ps1 := by
  have := RG.bnd (k := fun d s => match d with
    | .bl b => some (.ok b s)
    | _ => none) (kx := R.ok) (V' := fun a b => b = a) (ps2 := ps1) h fun a b v => by
      subst v
      exact RG.pure rfl
  rw [bind_ok] at this
  exact this
/-- what is true -/
def TruE (g : α → R Bool) : Prop := ∀ u, Ho (g u) fun w => truD (enc u) = some w
theorem rt_tru {g : α → R Bool} (hg : TruE g) {x : R α} (h : RB ps da x ps1) : RT ps (dTruth da) (R.bind x g) ps1 := by
  refine RG.bnd h fun a b v => ?_
  subst v
  refine ⟨fun s hs => ?_⟩
  have := hg a
  cases e : g a with
  | bad => trivial
  | exc c => rw [e] at this; exact this.elim
  | ok w =>
    rw [e] at this
    exact ⟨w, s, by show Option.map _ (truD (enc a)) = _; rw [this]; rfl, rfl, hs, rfl⟩
theorem rt_and {x y : R Bool} (h1 : RT ps t x ps1) (h2 : RT ps1 u y ps1) : RT ps (dAnd t u) (R.bind x fun c => if c = true then y else .ok false) ps1 := by
  refine RG.bnd h1 fun a b v => ?_
  subst v
  cases b with
  | true => rw [if_pos rfl, if_pos rfl]; exact h2
  | false => rw [if_neg Bool.false_ne_true, if_neg Bool.false_ne_true]; exact RG.pure rfl
theorem rt_or {x y : R Bool} (h1 : RT ps t x ps1) (h2 : RT ps1 u y ps1) : RT ps (dOr t u) (R.bind x fun c => if c = true then .ok true else y) ps1 := by
  refine RG.bnd h1 fun a b v => ?_
  subst v
  cases b with
  | true => rw [if_pos rfl, if_pos rfl]; exact RG.pure rfl
  | false => rw [if_neg Bool.false_ne_true, if_neg Bool.false_ne_true]; exact h2
theorem rt_andP {x : R Bool} {b : Bool} (h1 : RT ps t x ps1) (h2 : RT ps1 u (.ok b) ps1) : RT ps (dAnd t u) (R.bind x fun c => .ok (c && b)) ps1 := by
  refine RG.cv (rt_and h1 h2) ?_
  cases x with
  | ok c => cases c <;> rfl
  | _ => rfl
theorem rt_orP {x : R Bool} {b : Bool} (h1 : RT ps t x ps1) (h2 : RT ps1 u (.ok b) ps1) : RT ps (dOr t u) (R.bind x fun c => .ok (c || b)) ps1 := by
  refine RG.cv (rt_or h1 h2) ?_
  cases x with
  | ok c => cases c <;> rfl
  | _ => rfl
theorem rt_not {x : R Bool} (h1 : RT ps t x ps1) : RT ps (dNot t) (R.bind x fun c => .ok (!c)) ps1 :=
  RG.bnd h1 fun a b v => by subst v; exact RG.pure rfl
theorem rb_and {x y : R Bool} (h1 : RB ps da x ps1) (h2 : RB ps1 db y ps1) : RB ps (dAndV da db) (R.bind x fun c => if c = true then y else .ok false) ps1 := by
  refine RG.bnd h1 fun a b v => ?_
  subst v
  cases a with
  | true => rw [if_pos rfl]; exact h2
  | false => rw [if_neg Bool.false_ne_true]; exact RG.pure rfl
theorem rb_or {x y : R Bool} (h1 : RB ps da x ps1) (h2 : RB ps1 db y ps1) : RB ps (dOrV da db) (R.bind x fun c => if c = true then .ok true else y) ps1 := by
  refine RG.bnd h1 fun a b v => ?_
  subst v
  cases a with
  | true => rw [if_pos rfl]; exact RG.pure rfl
  | false => rw [if_neg Bool.false_ne_true]; exact h2
theorem rb_andP {x : R Bool} {b : Bool} (h1 : RB ps da x ps1) (h2 : RB ps1 db (.ok b) ps1) : RB ps (dAndV da db) (R.bind x fun c => .ok (c && b)) ps1 := by
  refine RG.cv (rb_and h1 h2) ?_
  cases x with
  | ok c => cases c <;> rfl
  | _ => rfl
theorem rb_orP {x : R Bool} {b : Bool} (h1 : RB ps da x ps1) (h2 : RB ps1 db (.ok b) ps1) : RB ps (dOrV da db) (R.bind x fun c => .ok (c || b)) ps1 := by
  refine RG.cv (rb_or h1 h2) ?_
  cases x with
  | ok c => cases c <;> rfl
  | _ => rfl
theorem rb_not {x : R Bool} (h1 : RB ps da x ps1) : RB ps (dNotV da) (R.bind x fun c => .ok (!c)) ps1 :=
  RG.bnd h1 fun a b v => by subst v; exact RG.pure rfl
theorem rg_if {α β : Type} {V : α → β → Prop} {c : R Bool} {x y : R α} {da db : DE β} (hc : RT ps t c ps1) (h1 : RG ps1 da x V ps2) (h2 : RG ps1 db y V ps2) : RG ps (dIf t da db) (R.bind c fun c => if c = true then x else y) V ps2 := by
  refine RG.bnd hc fun a b v => ?_
  subst v
  cases b with
  | true => rw [if_pos rfl, if_pos rfl]; exact h1
  | false => rw [if_neg Bool.false_ne_true, if_neg Bool.false_ne_true]; exact h2
/-- isinstance -/
theorem rb_isi {T : String} {b : Bool} {x : R α} (hT : ∀ a : α, ((tyN (enc a)).bind fun n => L2.kitB n T) = some b) (h : RB ps da x ps1) : RB ps (dIsi T da) (R.bind x fun _ => .ok b) ps1 := by
  refine RG.bnd h fun a d v => ?_
  subst v
  refine ⟨fun s hs => ?_⟩
  have := hT a
  cases e : tyN (enc a) with
  | none => rw [e] at this; cases this
  | some n =>
    rw [e] at this
    exact ⟨_, s, by simp only [Option.bind_some] at this; simp only [e, this]; rfl, rfl, hs, rfl⟩
def isD (T : String) (d : D) : R Bool := match (tyN d).bind fun n => L2.kitB n T with
  | some b => .ok b
  | none => .bad
theorem rb_isiD {T : String} {x : R D} (h : RB ps da x ps1) : RB ps (dIsi T da) (R.bind x (isD T)) ps1 := by
  refine RG.bnd h fun a d v => ?_
  have v : d = a := v
  subst v
  refine ⟨fun s hs => ?_⟩
  unfold isD
  cases e : tyN d with
  | none => trivial
  | some n =>
    cases e2 : L2.kitB n T with
    | none =>
      simp only [Option.bind_some]
      rw [e2]
      trivial
    | some b =>
      simp only [Option.bind_some]
      rw [e2]
      exact ⟨_, s, rfl, rfl, hs, rfl⟩
/-- a chain of two -/
theorem rb_chain {f g : D → D → Option D} {x : R α} {y : R β} {z : R γ} {p : α → β → Bool} {q : β → γ → Bool} (hf : OpE f fun u v => .ok (p u v)) (hg : OpE g fun u v => .ok (q u v)) (ha : RB ps da x ps1) (hb : RB ps1 db y ps2) (hc : RB ps2 dc z ps2) :
    RB ps (dChain f g da db dc) (R.bind x fun u => R.bind y fun v => if p u v = true then R.bind z fun w => .ok (q v w) else .ok false) ps2 := by
  refine RG.bnd ha fun u d1 v1 => RG.bnd hb fun v d2 v2 => ?_
  subst v1 v2
  have e1 : f (enc u) (enc v) = some (enc (p u v)) := hf u v
  cases e : p u v with
  | false =>
    rw [if_neg Bool.false_ne_true]
    rw [e] at e1
    refine ⟨fun s hs => ?_⟩
    exact ⟨_, s, by simp only [e1, enc], rfl, hs, rfl⟩
  | true =>
    rw [if_pos rfl]
    rw [e] at e1
    have h3 := RG.bnd (k := fun z s => (g (enc v) z).map fun d => .ok d s) (kx := fun w => .ok (q v w)) (V' := fun a d => d = enc a) (ps2 := ps2) hc fun w d3 v3 => by
      subst v3
      refine ⟨fun s hs => ?_⟩
      have : g (enc v) (enc w) = some (enc (q v w)) := hg v w
      exact ⟨_, s, by show Option.map _ (g (enc v) (enc w)) = _; rw [this]; rfl, rfl, hs, rfl⟩
    refine ⟨fun s hs => ?_⟩
    have h4 := h3 s hs
    have e2 : (match f (enc u) (enc v) with
      | some (.bl true) => Dv.bnd dc (fun z s => (g (enc v) z).map fun d => .ok d s) s
      | some (.bl false) => some (.ok (.bl false) s)
      | _ => none) = Dv.bnd dc (fun z s => (g (enc v) z).map fun d => .ok d s) s := by rw [e1]; rfl
    unfold RGs at h4 ⊢
    rw [← e2] at h4
    exact h4
theorem rb_chainP {f g : D → D → Option D} {x : R α} {y : R β} {z : γ} {p : α → β → Bool} {q : β → γ → Bool} (hf : OpE f fun u v => .ok (p u v)) (hg : OpE g fun u v => .ok (q u v)) (ha : RB ps da x ps1) (hb : RB ps1 db y ps2) (hc : RB ps2 dc (.ok z) ps2) :
    RB ps (dChain f g da db dc) (R.bind x fun u => R.bind y fun v => .ok (p u v && q v z)) ps2 := by
  refine RG.cv (rb_chain hf hg ha hb hc) ?_
  cases x with
  | ok u =>
    cases y with
    | ok v =>
      show (if p u v = true then R.ok (q v z) else R.ok false) = R.ok (p u v && q v z)
      cases p u v <;> rfl
    | _ => rfl
  | _ => rfl
end
end Dv

namespace Dv
open Enc (enc)
open PySem L2

/-! ### operations on plain values -/
/-- (by a choice that no evaluation opens) -/
noncomputable def okIf {α : Type} (p : Prop) (a : α) : R α := @ite _ p (Classical.propDecidable p) (.ok a) .bad
noncomputable def modR (u v : Int) : R Int := okIf (0 < v) (u % v)
noncomputable def divR (u v : Int) : R Int := okIf ((decide (0 < v) && decide (v.natAbs.log2 < 9000)) = true) (u / v)
noncomputable def powR (u v : Int) : R Int := okIf (0 ≤ v ∧ v ≤ 1000 ∧ u.natAbs < 2 ^ 64) (u ^ v.toNat)
noncomputable def mulR (u v : Int) : R Int := okIf (mulOk u v = true) (u * v)
def ofO {γ : Type} (o : Option γ) : R γ := match o with
  | some a => .ok a
  | none => .bad
def atR {α : Type} (l : List α) (i : Int) : R α := ofO (L2.atI l i)
def setR {α : Type} (l : List α) (k : Int) (a : α) : R (List α) := match L2.ixN l.length k with
  | some j => .ok (l.set j a)
  | none => .bad
noncomputable def appR {α : Type} (l : List α) (a : α) : R (List α) := okIf (l.length < 1000000) (l ++ [a])
noncomputable def catR {α : Type} (u v : List α) : R (List α) := okIf (u.length + v.length ≤ 1000000) (u ++ v)
noncomputable def repR {α : Type} (u : List α) (k : Int) : R (List α) := okIf (-(2 ^ 63) ≤ k ∧ k < 2 ^ 63 ∧ u.length * k.toNat ≤ 1000000) (List.replicate k.toNat u).flatten
def rngL (lo : Int) (n : Nat) : List Int := (List.range n).map fun (k : Nat) => lo + (k : Int)
noncomputable def rng1 (j : Int) : R (List Int) := okIf (-(2 ^ 62) ≤ j ∧ j < 2 ^ 62) (rngL 0 j.toNat)
noncomputable def rng2 (i j : Int) : R (List Int) := okIf (-(2 ^ 62) ≤ i ∧ i < 2 ^ 62 ∧ -(2 ^ 62) ≤ j ∧ j < 2 ^ 62) (rngL i (j - i).toNat)
def ilen {α : Type} (l : List α) : Int := (l.length : Int)
def absI (i : Int) : Int := if i < 0 then -i else i
def maxI (i j : Int) : Int := if j > i then j else i
def minI (i j : Int) : Int := if j < i then j else i
def b2i (b : Bool) : Int := if b then 1 else 0
structure Tv (α : Type) where
  l : List α
  deriving DecidableEq
instance {α : Type} [Enc α] : Enc (Tv α) := ⟨fun t => .tup (t.l.map enc)⟩
instance {α : Type} [Enc α] [Imm α] : Imm (Tv α) := ⟨fun t => by simp [enc, imm, immL_map]⟩
section
variable {α β γ δ : Type} [Enc α] [Enc β] [Enc γ] [Enc δ]
theorem ho_if {p : Prop} {w : γ} {P : γ → Prop} (h : p → P w) : Ho (okIf p w) P := by
  unfold okIf
  by_cases hp : p
  · rw [if_pos hp]; exact h hp
  · rw [if_neg hp]; trivial
theorem ho_of {o : Option γ} {P : γ → Prop} (h : ∀ w, o = some w → P w) : Ho (ofO o) P := by
  cases o with
  | none => trivial
  | some a => exact h a rfl
theorem oe_sub : OpE fSub fun u v : Int => .ok (u - v) := fun u v => by simp [Ho, enc, fSub, fI]
theorem oe_mod : OpE fMod modR := fun u v => ho_if fun h => by simp [enc, fMod, fI, h]
theorem oe_div : OpE fDiv divR := fun u v => ho_if fun h => by
  show (if _ then _ else _) = _
  rw [if_pos h]
  rfl
theorem oe_pow : OpE fPow powR := fun u v => ho_if fun h => by simp [enc, fPow, fI, h]
theorem oe_lt : OpE fLt fun u v : Int => .ok (decide (u < v)) := fun u v => by simp [Ho, enc, fLt, fI]
theorem oe_le : OpE fLe fun u v : Int => .ok (decide (u ≤ v)) := fun u v => by simp [Ho, enc, fLe, fI]
theorem oe_gt : OpE fGt fun u v : Int => .ok (decide (u > v)) := fun u v => by simp [Ho, enc, fGt, fI]
theorem oe_ge : OpE fGe fun u v : Int => .ok (decide (u ≥ v)) := fun u v => by simp [Ho, enc, fGe, fI]
theorem un_neg : UnE fNeg fun u : Int => .ok (-u) := fun u => by simp [Ho, enc, fNeg]
theorem intsOf_map : ∀ l : List Int, intsOf (l.map D.int) = some l
  | [] => rfl
  | a :: l => by simp [intsOf, intsOf_map l]
theorem lsD_enc (l : List Int) : lsD (enc l) = some l := intsOf_map l
theorem oex_gt : OpE fGtL fun u v : List Int => .ok (ltL v u) := fun u v => by
  show fLsC _ (enc u) (enc v) = _
  unfold fLsC
  rw [lsD_enc, lsD_enc]
  rfl
theorem oex_lt : OpE fLtL fun u v : List Int => .ok (ltL u v) := fun u v => by
  show fLsC _ (enc u) (enc v) = _
  unfold fLsC
  rw [lsD_enc, lsD_enc]
  rfl
theorem oex_le : OpE fLeL fun u v : List Int => .ok (leL u v) := fun u v => by
  show fLsC _ (enc u) (enc v) = _
  unfold fLsC
  rw [lsD_enc, lsD_enc]
  rfl
/-! is None -/
class NN (α : Type) [Enc α] : Prop where
  nn : ∀ a : α, isN (enc a) = false
instance : NN Int := ⟨fun _ => rfl⟩
instance : NN Bool := ⟨fun _ => rfl⟩
instance : NN Str := ⟨fun _ => rfl⟩
instance : NN (List α) := ⟨fun _ => rfl⟩
instance : NN (α × β) := ⟨fun _ => rfl⟩
instance : NN (T3 α β γ) := ⟨fun _ => rfl⟩
instance : NN (T4 α β γ δ) := ⟨fun _ => rfl⟩
instance : NN (Tv α) := ⟨fun _ => rfl⟩
theorem isN_opt [NN α] (a : Option α) : isN (enc a) = a.isNone := by cases a with
  | none => rfl
  | some a => exact NN.nn a
theorem oe_isN [NN α] : OpE fIsN fun (u : Option α) (_ : Unit) => .ok u.isNone := fun u v => by
  show some (D.bl (isN (enc u))) = _
  rw [isN_opt]
  rfl
theorem oe_notN [NN α] : OpE fNotN fun (u : Option α) (_ : Unit) => .ok u.isSome := fun u v => by
  show some (D.bl (!isN (enc u))) = _
  rw [isN_opt]
  cases u <;> rfl
theorem oe_isNn [NN α] : OpE fIsN fun (u : α) (_ : Unit) => .ok false := fun u v => by
  show some (D.bl (isN (enc u))) = _
  rw [NN.nn]
  rfl
theorem oe_notNn [NN α] : OpE fNotN fun (u : α) (_ : Unit) => .ok true := fun u v => by
  show some (D.bl (!isN (enc u))) = _
  rw [NN.nn]
  rfl
theorem oe_isND : OpE fIsN fun (u : D) (_ : Unit) => .ok (isN u) := fun u v => rfl
theorem oe_notND : OpE fNotN fun (u : D) (_ : Unit) => .ok (!isN u) := fun u v => rfl
theorem oe_isbl : OpE fIsBl fun u v : Bool => .ok (decide (u = v)) := fun u v => rfl
theorem oe_notbl : OpE fNotBl fun u v : Bool => .ok (!decide (u = v)) := fun u v => rfl
/-! items -/
theorem atI_map {α β : Type} (f : α → β) (l : List α) (i : Int) : L2.atI (l.map f) i = (L2.atI l i).map f := by
  unfold L2.atI
  rw [List.length_map]
  cases L2.ixN l.length i with
  | none => rfl
  | some j => simp
theorem oe_ixL : OpE fIx (atR : List α → Int → R α) := fun u v => ho_of fun w e => by
  show L2.atI (u.map enc) v = _
  rw [atI_map, e]
  rfl
theorem oe_ixV : OpE fIx (fun (u : Tv α) (v : Int) => atR u.l v) := fun u v => ho_of fun w e => by
  show L2.atI (u.l.map enc) v = _
  rw [atI_map, e]
  rfl
theorem oe_ixS : OpE fIx (fun (u : Sc) (v : Int) => atR u.ns v) := fun u v => ho_of fun w e => by
  show L2.atI (u.ns.map D.int) v = _
  rw [atI_map, e]
  rfl
def ixD (u : D) (i : Int) : R D := ofO (fIx u (.int i))
theorem oe_ixD : OpE fIx ixD := fun u v => ho_of fun w e => e
/-- a tuple's part at a written place -/
def Prj (k : Int) (g : α → β) : Prop := ∀ a, fIx (enc a) (.int k) = some (enc (g a))
theorem rb_prj {ps ps1 : List Pt} {da : DE D} {k : Int} {g : α → β} (hg : Prj k g) {x : R α} (h : RB ps da x ps1) : RB ps (dOp fIx da (dC (.int k))) (R.bind x fun p => .ok (g p)) ps1 := by
  refine RG.bnd h fun a d v => ?_
  subst v
  refine ⟨fun s hs => ?_⟩
  refine ⟨_, s, ?_, rfl, hs, rfl⟩
  show Option.map _ (fIx (enc a) (.int k)) = _
  rw [hg a]
  rfl
theorem pj20 : Prj 0 (fun p : α × β => p.1) := fun _ => rfl
theorem pj21 : Prj 1 (fun p : α × β => p.2) := fun _ => rfl
theorem pj2m : Prj (-1) (fun p : α × β => p.2) := fun _ => rfl
theorem pj30 : Prj 0 (fun p : T3 α β γ => p.a) := fun _ => rfl
theorem pj31 : Prj 1 (fun p : T3 α β γ => p.b) := fun _ => rfl
theorem pj32 : Prj 2 (fun p : T3 α β γ => p.c) := fun _ => rfl
theorem pj40 : Prj 0 (fun p : T4 α β γ δ => p.a) := fun _ => rfl
theorem pj41 : Prj 1 (fun p : T4 α β γ δ => p.b) := fun _ => rfl
theorem pj42 : Prj 2 (fun p : T4 α β γ δ => p.c) := fun _ => rfl
theorem pj43 : Prj 3 (fun p : T4 α β γ δ => p.d) := fun _ => rfl
/-! built-ins -/
abbrev e1 (α : Type) [Enc α] : α × Unit → List D := eC eN
abbrev e2 (α β : Type) [Enc α] [Enc β] : α × (β × Unit) → List D := eC (eC eN)
theorem cb_lenL : CbE (e1 (List α)) fLen fun g => .ok (ilen g.1) := fun g => by simp [Ho, eC, eN, enc, fLen, ilen]
theorem cb_lenV : CbE (e1 (Tv α)) fLen fun g => .ok (ilen g.1.l) := fun g => by simp [Ho, eC, eN, enc, fLen, ilen]
theorem cb_lenS : CbE (e1 Sc) fLen fun g => .ok (ilen g.1.ns) := fun g => by simp [Ho, eC, eN, enc, fLen, ilen]
theorem cb_len2 : CbE (e1 (α × β)) fLen fun _ => .ok (2 : Int) := fun g => by simp [Ho, eC, eN, enc, fLen]
theorem cb_len3 : CbE (e1 (T3 α β γ)) fLen fun _ => .ok (3 : Int) := fun g => by simp [Ho, eC, eN, enc, fLen]
noncomputable def lenStr (z : Str) : R Int := okIf (z.length ≤ 1000000) (z.length : Int)
theorem cb_lenStr : CbE (e1 Str) fLen fun g => lenStr g.1 := fun g => ho_if fun h => by simp [eC, eN, enc, fLen, h]
def lenD (u : D) : R D := ofO (fLen [u])
theorem cb_lenD : CbE (e1 D) fLen fun g => lenD g.1 := fun g => ho_of fun w e => e
theorem cb_abs : CbE (e1 Int) fAbs fun g => .ok (absI g.1) := fun g => rfl
theorem cb_max2 : CbE (e2 Int Int) fMax2 fun g => .ok (maxI g.1 g.2.1) := fun g => rfl
theorem cb_min2 : CbE (e2 Int Int) fMin2 fun g => .ok (minI g.1 g.2.1) := fun g => rfl
theorem cb_int1 : CbE (e1 Int) fInt1 fun g => .ok g.1 := fun g => rfl
theorem cb_int1B : CbE (e1 Bool) fInt1 fun g => .ok (b2i g.1) := fun g => rfl
noncomputable def strI (i : Int) : R Str := okIf (i.natAbs.log2 < 1920) (Str.ofString (toString i))
theorem cb_strI : CbE (e1 Int) fStrI fun g => strI g.1 := fun g => ho_if fun h => by simp [eC, eN, enc, fStrI, h]
/-! truth -/
theorem tr_L : TruE fun l : List α => .ok (!l.isEmpty) := fun l => by cases l <;> simp [Ho, enc, truD]
theorem tr_V : TruE fun l : Tv α => .ok (!l.l.isEmpty) := fun l => by cases l with | mk l => cases l <;> simp [Ho, enc, truD]
theorem tr_I : TruE fun i : Int => .ok (i != 0) := fun i => rfl
theorem tr_B : TruE fun i : Bool => .ok i := fun i => rfl
/-! types -/
theorem ty_int_int (a : Int) : ((tyN (enc a)).bind fun n => L2.kitB n "int") = some true := by
  show L2.kitB "int" "int" = _
  decide
theorem ty_int_bool (a : Int) : ((tyN (enc a)).bind fun n => L2.kitB n "bool") = some false := by
  show L2.kitB "int" "bool" = _
  decide
theorem ty_bool_int (a : Bool) : ((tyN (enc a)).bind fun n => L2.kitB n "int") = some true := by
  show L2.kitB "bool" "int" = _
  decide
theorem ty_bool_bool (a : Bool) : ((tyN (enc a)).bind fun n => L2.kitB n "bool") = some true := by
  show L2.kitB "bool" "bool" = _
  decide
theorem ty_list_list (a : List α) : ((tyN (enc a)).bind fun n => L2.kitB n "list") = some true := by
  show L2.kitB "list" "list" = _
  decide
theorem ty_list_tuple (a : List α) : ((tyN (enc a)).bind fun n => L2.kitB n "tuple") = some false := by
  show L2.kitB "list" "tuple" = _
  decide
theorem ty_pair_tuple (a : α × β) : ((tyN (enc a)).bind fun n => L2.kitB n "tuple") = some true := by
  show L2.kitB "tuple" "tuple" = _
  decide
theorem ty_t3_tuple (a : T3 α β γ) : ((tyN (enc a)).bind fun n => L2.kitB n "tuple") = some true := by
  show L2.kitB "tuple" "tuple" = _
  decide
theorem ty_str_str (a : Str) : ((tyN (enc a)).bind fun n => L2.kitB n "str") = some true := by
  show L2.kitB "str" "str" = _
  decide
/-! equality -/
class Eqv (α : Type) [Enc α] [DecidableEq α] where
  dep : Nat
  nice : ∀ a : α, nice dep (enc a) = true
  eqv : ∀ a b : α, eqD (enc a) (enc b) = decide (a = b)
instance : Eqv Int := ⟨0, fun _ => rfl, fun a b => by
  show (a == b) = _
  rw [Bool.eq_iff_iff]
  simp⟩
instance : Eqv Bool := ⟨0, fun _ => rfl, fun a b => by cases a <;> cases b <;> rfl⟩
mutual
theorem nice_up : ∀ {n : Nat} {d : D}, nice n d = true → nice (n + 1) d = true
  | _, .non, _ => by simp [nice]
  | _, .bl _, _ => by simp [nice]
  | _, .int _, _ => by simp [nice]
  | _, .str _, h => by simpa [nice] using h
  | 0, .tup _, h => by simp [nice] at h
  | 0, .lst _, h => by simp [nice] at h
  | 0, .sc _, h => by simp [nice] at h
  | n + 1, .tup xs, h => by
    have := niceL_up (n := n) (xs := xs) (by simpa [nice] using h)
    simpa [nice] using this
  | n + 1, .lst xs, h => by
    have := niceL_up (n := n) (xs := xs) (by simpa [nice] using h)
    simpa [nice] using this
  | n + 1, .sc xs, h => by
    have := niceL_up (n := n) (xs := xs) (by simpa [nice] using h)
    simpa [nice] using this
  | _, .dK _, h => by simp [nice] at h
  | _, .dT _, h => by simp [nice] at h
  | _, .dN _, h => by simp [nice] at h
  | _, .ins _ _, h => by simp [nice] at h
theorem niceL_up : ∀ {n : Nat} {xs : List D}, niceL n xs = true → niceL (n + 1) xs = true
  | _, [], _ => rfl
  | n, x :: xs, h => by
    simp only [niceL, Bool.and_eq_true] at h ⊢
    exact ⟨nice_up h.1, niceL_up h.2⟩
end
theorem nice_le {n m : Nat} {d : D} (h : n ≤ m) (q : nice n d = true) : nice m d = true := by
  induction h with
  | refl => exact q
  | step _ ih => exact nice_up ih
theorem niceL_map {n : Nat} (h : ∀ a : α, nice n (enc a) = true) : ∀ l : List α, niceL n (l.map enc) = true
  | [] => rfl
  | a :: l => by simp [niceL, h a, niceL_map h l]
theorem eqDL_map [DecidableEq α] (h : ∀ a b : α, eqD (enc a) (enc b) = decide (a = b)) : ∀ l m : List α, eqDL (l.map enc) (m.map enc) = decide (l = m)
  | [], [] => by simp [eqDL]
  | [], b :: m => by simp [eqDL]
  | a :: l, [] => by simp [eqDL]
  | a :: l, b :: m => by
    simp only [List.map_cons, eqDL, h a b, eqDL_map h l m, List.cons.injEq]
    by_cases h1 : a = b <;> by_cases h2 : l = m <;> simp [h1, h2]
instance [DecidableEq α] [Eqv α] : Eqv (List α) := ⟨Eqv.dep α + 1, fun l => by simp only [enc, nice]; exact niceL_map Eqv.nice l, fun a b => by simp only [enc, eqD]; exact eqDL_map Eqv.eqv a b⟩
instance [DecidableEq α] [Eqv α] : Eqv (Tv α) := ⟨Eqv.dep α + 1, fun l => by simp only [enc, nice]; exact niceL_map Eqv.nice l.l, fun a b => by
  cases a; cases b
  simp only [enc, eqD, Tv.mk.injEq]
  exact eqDL_map Eqv.eqv _ _⟩
instance [DecidableEq α] [Eqv α] [DecidableEq β] [Eqv β] : Eqv (α × β) := ⟨Eqv.dep α + Eqv.dep β + 1, fun p => by
    simp only [enc, nice, niceL, Bool.and_true, Bool.and_eq_true]
    exact ⟨nice_le (by omega) (Eqv.nice p.1), nice_le (by omega) (Eqv.nice p.2)⟩, fun a b => by
    cases a; cases b
    simp only [enc, eqD, eqDL, Eqv.eqv, Prod.mk.injEq, Bool.and_true]
    rw [Bool.eq_iff_iff]
    simp⟩
instance [DecidableEq α] [Eqv α] [DecidableEq β] [Eqv β] [DecidableEq γ] [Eqv γ] : Eqv (T3 α β γ) := ⟨Eqv.dep α + Eqv.dep β + Eqv.dep γ + 1, fun p => by
    simp only [enc, nice, niceL, Bool.and_true, Bool.and_eq_true]
    exact ⟨nice_le (by omega) (Eqv.nice p.a), nice_le (by omega) (Eqv.nice p.b), nice_le (by omega) (Eqv.nice p.c)⟩, fun a b => by
    cases a; cases b
    simp only [enc, eqD, eqDL, Eqv.eqv, T3.mk.injEq, Bool.and_true]
    rw [Bool.eq_iff_iff]
    simp⟩
instance [DecidableEq α] [Eqv α] [NN α] : Eqv (Option α) := ⟨Eqv.dep α, fun o => by
    cases o with
    | none => simp [enc, nice]
    | some a => exact Eqv.nice a, fun a b => by
    cases a with
    | none =>
      cases b with
      | none => simp [enc, eqD]
      | some b =>
        have := NN.nn b
        have e : enc (some b) = enc b := rfl
        rw [e]
        show eqD .non (enc b) = _
        cases h : enc b <;> rw [h] at this <;> simp [isN, eqD] at this ⊢
    | some a =>
      cases b with
      | none =>
        have := NN.nn a
        have e : enc (some a) = enc a := rfl
        rw [e]
        show eqD (enc a) .non = _
        cases h : enc a <;> rw [h] at this <;> simp [isN, eqD] at this ⊢
      | some b =>
        show eqD (enc a) (enc b) = _
        rw [Eqv.eqv]
        simp⟩
theorem fEq_nice {n : Nat} {x y : D} (hn : n ≤ 64) (hx : nice n x = true) (hy : nice n y = true) : fEqB x y = some (eqD x y) := by
  obtain ⟨p, e1, c1, d1⟩ := nice_py hx
  obtain ⟨q, e2, c2, d2⟩ := nice_py hy
  unfold fEqB
  rw [e1, e2]
  have s1 : SeqAt.shaped p = true := by simp [SeqAt.shaped, c1]; omega
  have s2 : SeqAt.shaped q = true := by simp [SeqAt.shaped, c2]; omega
  simp only [s1, s2, Bool.and_self, if_true]
  rw [eqv_D e1 e2]
theorem oe_eq [DecidableEq α] [Eqv α] (h : Eqv.dep α ≤ 64) : OpE fEq fun u v : α => .ok (decide (u = v)) := fun u v => by
  show fEq _ _ = _
  unfold fEq
  rw [fEq_nice h (Eqv.nice u) (Eqv.nice v), Eqv.eqv]
  rfl
theorem oe_ne [DecidableEq α] [Eqv α] (h : Eqv.dep α ≤ 64) : OpE fNe fun u v : α => .ok (!decide (u = v)) := fun u v => by
  show fNe _ _ = _
  unfold fNe
  rw [fEq_nice h (Eqv.nice u) (Eqv.nice v), Eqv.eqv]
  rfl
def eqR (u v : D) : R Bool := ofO (fEqB u v)
theorem oe_eqD : OpE fEq eqR := fun u v => ho_of fun w e => by
  show fEq u v = _
  unfold fEq
  rw [e]
  rfl
def neR (u v : D) : R Bool := R.bind (eqR u v) fun b => .ok (!b)
theorem oe_neD : OpE fNe neR := fun u v => by
  unfold neR eqR
  cases e : fEqB u v with
  | none => trivial
  | some b =>
    show fNe u v = _
    unfold fNe
    rw [e]
    rfl
/-- a whole number in a list of such -/
theorem flatL_ints : ∀ l : List Int, flatL (l.map D.int) = some (l.map V.int)
  | [] => rfl
  | a :: l => by simp [flatL, flatD, flatL_ints l]
theorem inV_ints (u : Int) (l : List Int) : inV (.int u) (l.map V.int) = decide (u ∈ l) := by
  unfold inV
  rw [Bool.eq_iff_iff, List.any_eq_true]
  simp only [List.mem_map, decide_eq_true_eq]
  constructor
  · rintro ⟨_, ⟨a, h, rfl⟩, e⟩
    have : a = u := by simpa [eqV] using e
    exact this ▸ h
  · intro h
    exact ⟨_, ⟨u, h, rfl⟩, by simp [eqV]⟩
theorem oe_inI : OpE fIn fun (u : Int) (v : List Int) => .ok (decide (u ∈ v)) := fun u v => by
  show Option.map D.bl (match flatD (.int u), flatL (v.map D.int) with
    | some v, some vs => some (inV v vs)
    | _, _ => none) = _
  rw [flatL_ints]
  simp only [flatD, Option.map_some, inV_ints]
  rfl
theorem oe_ninI : OpE fNotIn fun (u : Int) (v : List Int) => .ok (!decide (u ∈ v)) := fun u v => by
  show Option.map (fun b => D.bl (!b)) (match flatD (.int u), flatL (v.map D.int) with
    | some v, some vs => some (inV v vs)
    | _, _ => none) = _
  rw [flatL_ints]
  simp only [flatD, Option.map_some, inV_ints]
  rfl
end
end Dv

namespace Dv
open Enc (enc)
open PySem L2

/-! ### things held -/
def nt : Oc → Prop
  | .t => False
  | _ => True
def nft : Oc → Prop
  | .f => True
  | .n => True
  | _ => False
section
variable {α β γ δ ρ : Type} [Enc α] [Enc β] [Enc γ] [Enc δ] [Enc ρ] {ps ps1 ps2 ps3 : List Pt} {da db : DE D} {ca cb : DE (D × Ow)} {c c1 c2 : Oc}
theorem Oc.mv {d : D} {ow : Ow} (h : c.ok d ow) : c.ok d (mvOw d ow) := by
  cases c with
  | f => have h : ow = .full := h; subst h; rfl
  | t => have h : ow = .top := h; subst h; rfl
  | o =>
    rcases h with h | ⟨h1, h2⟩
    · subst h
      unfold mvOw
      by_cases hi : imm d = true
      · rw [if_pos hi]; exact .inr ⟨hi, rfl⟩
      · rw [if_neg hi]; exact .inl rfl
    · subst h2
      exact .inr ⟨h1, rfl⟩
  | n => trivial
theorem rc_mv {a : α} (i : Nat) (h : ps.getD i .x = .h c (enc a)) : RC ps (cMove i) (.ok a) c (ps.set i .x) := by
  refine ⟨fun s hs => ?_⟩
  obtain ⟨ow, e, q⟩ := hs.get h
  exact ⟨(enc a, mvOw (enc a) ow), s.set i none, by unfold cMove; rw [e], ⟨rfl, Oc.mv q⟩, hs.x i, by simp⟩
theorem Oc.mvI [Imm α] {a : α} {ow : Ow} (h : Oc.o.ok (enc a) ow) : mvOw (enc a) ow = .full := by
  rcases h with h | ⟨h1, h2⟩
  · subst h
    unfold mvOw
    rw [if_pos (Imm.im a)]
  · subst h2
    rfl
theorem rc_mvI [Imm α] {a : α} (i : Nat) (h : ps.getD i .x = .h .o (enc a)) : RC ps (cMove i) (.ok a) .f (ps.set i .x) := by
  refine ⟨fun s hs => ?_⟩
  obtain ⟨ow, e, q⟩ := hs.get h
  exact ⟨(enc a, mvOw (enc a) ow), s.set i none, by unfold cMove; rw [e], ⟨rfl, Oc.mvI q⟩, hs.x i, by simp⟩
theorem val_h {p : Pt} {d : D} (h : p.val = some d) : ∃ c, p = .h c d := by
  cases p with
  | x => cases h
  | h c d' => cases h; exact ⟨c, rfl⟩
theorem rc_alI [Imm α] {a : α} (i : Nat) (h : (ps.getD i .x).val = some (enc a)) : RC ps (cAlias i) (.ok a) .f ps := by
  refine ⟨fun s hs => ?_⟩
  obtain ⟨c, h⟩ := val_h h
  obtain ⟨ow, e, q⟩ := hs.get h
  exact ⟨(enc a, .full), s, by unfold cAlias; rw [e]; simp only [Imm.im, if_true], ⟨rfl, rfl⟩, hs, rfl⟩
theorem set_same {s : SD} {i : Nat} {sl : Sl} (h : s[i]? = some sl) : s.set i sl = s := by
  apply List.ext_getElem?
  intro j
  rw [List.getElem?_set]
  by_cases hj : i = j
  · subst hj
    have := (List.getElem?_eq_some_iff.mp h).1
    rw [if_pos rfl, if_pos this, h]
  · simp [hj]
theorem rc_al {a : α} (i : Nat) (h : (ps.getD i .x).val = some (enc a)) : RC ps (cAlias i) (.ok a) .o (ps.set i (.h .n (enc a))) := by
  refine ⟨fun s hs => ?_⟩
  obtain ⟨c, h⟩ := val_h h
  obtain ⟨ow, e, q⟩ := hs.get h
  by_cases hi : imm (enc a) = true
  · refine ⟨(enc a, .full), s, by unfold cAlias; rw [e]; simp only [hi, if_true], ⟨rfl, .inr ⟨hi, rfl⟩⟩, ?_, rfl⟩
    have := hs.set (p := .h .n (enc a)) (sl := some (enc a, ow)) i ⟨ow, rfl, trivial⟩
    rwa [set_same e] at this
  · refine ⟨(enc a, .no), s.set i (some (enc a, .no)), by unfold cAlias; rw [e]; simp only [hi, if_false]; rfl, ⟨rfl, .inl rfl⟩, hs.set i ⟨.no, rfl, trivial⟩, by simp⟩
theorem rc_alO {a : α} (i : Nat) (h : ps.getD i .x = .h .o (enc a)) : RC ps (cAlias i) (.ok a) .o ps := by
  refine ⟨fun s hs => ?_⟩
  obtain ⟨ow, e, q⟩ := hs.get h
  by_cases hi : imm (enc a) = true
  · exact ⟨(enc a, .full), s, by unfold cAlias; rw [e]; simp only [hi, if_true], ⟨rfl, .inr ⟨hi, rfl⟩⟩, hs, rfl⟩
  · rcases q with q | q
    · subst q
      refine ⟨(enc a, .no), s.set i (some (enc a, .no)), by unfold cAlias; rw [e]; simp only [hi, if_false]; rfl, ⟨rfl, .inl rfl⟩, ?_, by simp⟩
      rw [set_same e]
      exact hs
    · exact absurd q.1 hi
theorem RG.map {α β β' : Type} {de : DE β} {de' : DE β'} {x : R α} {V : α → β → Prop} {V' : α → β' → Prop} (h : RG ps de x V ps1)
    (hok : ∀ s a b s', de s = some (.ok b s') → V a b → Ms ps1 s' → ∃ b' s'', de' s = some (.ok b' s'') ∧ V' a b' ∧ Ms ps2 s'' ∧ s''.length = s'.length) (hex : ∀ s c s', de s = some (.exc c s') → de' s = some (.exc c s')) : RG ps de' x V' ps2 := by
  refine ⟨fun s hs => ?_⟩
  have h := h s hs
  cases x with
  | bad => trivial
  | exc c =>
    obtain ⟨s1, e, l⟩ := h
    exact ⟨s1, hex _ _ _ e, l⟩
  | ok a =>
    obtain ⟨b, s1, e, v, m, l⟩ := h
    obtain ⟨b', s2, e2, v2, m2, l2⟩ := hok s a b s1 e v m
    exact ⟨b', s2, e2, v2, m2, l2.trans l⟩
theorem rc_toC [Imm α] {x : R α} (h : RB ps da x ps1) : RC ps (toC da) x .f ps1 :=
  h.map (fun s a b s' e v m => ⟨(enc a, .full), s', by subst v; unfold toC; rw [e]; simp only [Imm.im, if_true], ⟨rfl, rfl⟩, m, rfl⟩) fun s c s' e => by unfold toC; rw [e]
theorem rc_shI [Imm α] {x : R α} (h : RB ps da x ps1) : RC ps (cShare da) x .f ps1 :=
  h.map (fun s a b s' e v m => ⟨(enc a, .full), s', by subst v; unfold cShare; rw [e]; simp only [Imm.im, if_true], ⟨rfl, rfl⟩, m, rfl⟩) fun s c s' e => by unfold cShare; rw [e]
theorem rc_sh {x : R α} (h : RB ps da x ps1) : RC ps (cShare da) x .o (fzP ps1) :=
  h.map (fun s a b s' e v m => by
    subst v
    by_cases hi : imm (enc a) = true
    · exact ⟨(enc a, .full), s', by unfold cShare; rw [e]; simp only [hi, if_true], ⟨rfl, .inr ⟨hi, rfl⟩⟩, m.fzle, rfl⟩
    · exact ⟨(enc a, .no), fzAll s', by unfold cShare; rw [e]; simp only [hi, if_false]; rfl, ⟨rfl, .inl rfl⟩, m.fz, fzAll_len _⟩) fun s c s' e => by unfold cShare; rw [e]
theorem rb_toB {x : R α} (h : RC ps ca x c ps1) : RB ps (toB ca) x ps1 :=
  h.map (fun s a b s' e v m => by
    obtain ⟨d, ow⟩ := b
    obtain ⟨v1, v2⟩ := v
    exact ⟨d, s', by unfold toB; rw [e], v1, m, rfl⟩) fun s c s' e => by unfold toB; rw [e]
theorem rc_fn {x : R α} (h : RC ps ca x .f ps1) : RC ps ca x .n ps1 := h.map (fun s a b s' e v m => ⟨b, s', e, ⟨v.1, trivial⟩, m, rfl⟩) fun _ _ _ e => e
theorem rc_on {x : R α} (h : RC ps ca x .o ps1) : RC ps ca x .n ps1 := h.map (fun s a b s' e v m => ⟨b, s', e, ⟨v.1, trivial⟩, m, rfl⟩) fun _ _ _ e => e
theorem rc_tn {x : R α} (h : RC ps ca x .t ps1) : RC ps ca x .n ps1 := h.map (fun s a b s' e v m => ⟨b, s', e, ⟨v.1, trivial⟩, m, rfl⟩) fun _ _ _ e => e
theorem rc_oI [Imm α] {x : R α} (h : RC ps ca x .f ps1) : RC ps ca x .o ps1 := h.map (fun s a b s' e v m => ⟨b, s', e, ⟨v.1, .inr ⟨Imm.im a, v.2⟩⟩, m, rfl⟩) fun _ _ _ e => e
theorem rc_up {x : R α} (h : RC ps ca x .f ps1) : RC ps (cUp ca) x .f ps1 :=
  h.map (fun s a b s' e v m => by
    obtain ⟨d, ow⟩ := b
    obtain ⟨v1, v2⟩ := v
    have v2 : ow = .full := v2
    subst v2
    exact ⟨(d, .full), s', by unfold cUp; rw [e]; rfl, ⟨v1, rfl⟩, m, rfl⟩) fun s c s' e => by unfold cUp; rw [e]
theorem rc_upn {x : R α} (h : RC ps ca x c ps1) : RC ps (cUp ca) x .n ps1 :=
  h.map (fun s a b s' e v m => by
    obtain ⟨d, ow⟩ := b
    exact ⟨(d, upOw d ow), s', by unfold cUp; rw [e], ⟨v.1, trivial⟩, m, rfl⟩) fun s c s' e => by unfold cUp; rw [e]
theorem rc_co {x : R α} (f : α → β) (hf : ∀ a, enc (f a) = enc a) (h : RC ps ca x c ps1) : RC ps ca (R.bind x fun a => .ok (f a)) c ps1 :=
  RG.co (fun a => .ok (f a)) (fun a b v => by
    show b.1 = enc (f a) ∧ c.ok (enc (f a)) b.2
    rw [hf]
    exact v) h
theorem rc_some {x : R α} (h : RC ps ca x c ps1) : RC ps ca (R.bind x fun a => .ok (some a)) c ps1 := rc_co some (fun _ => rfl) h
theorem rc_toD {x : R α} (h : RC ps ca x c ps1) : RC ps ca (R.bind x fun a => .ok (enc a : D)) c ps1 := rc_co (fun a => (enc a : D)) (fun _ => rfl) h
theorem rc_dn {x : R α} {g : α → R β} (hg : Dn g) (h : RC ps ca x c ps1) : RC ps ca (R.bind x g) c ps1 :=
  RG.co g (fun a b v => by
    have := hg a
    cases e : g a with
    | ok w =>
      rw [e] at this
      have this : enc w = enc a := this
      show b.1 = enc w ∧ c.ok (enc w) b.2
      rw [this]
      exact v
    | exc c => rw [e] at this; exact this.elim
    | bad => trivial) h
/-! displays -/
abbrev RLs (ps : List Pt) (de : DE (List D × Bool)) (x : R (List α)) (c : Oc) (k : Nat) (ps' : List Pt) : Prop := RG ps de x (fun l p => p.1 = l.map enc ∧ l.length = k ∧ (c = .f → p.2 = true)) ps'
theorem rl_nil : RLs ps cNil (.ok ([] : List α)) c 0 ps := RG.pure ⟨rfl, rfl, fun _ => rfl⟩
theorem rl_cons {k : Nat} {x : R α} {y : R (List α)} {cl : DE (List D × Bool)} (ha : RC ps ca x c ps1) (hr : RLs ps1 cl y c k ps2) : RLs ps (cCons ca cl) (R.bind x fun u => R.bind y fun v => .ok (u :: v)) c (k + 1) ps2 :=
  RG.bnd ha fun a b v => RG.bnd hr fun l p w => RG.pure ⟨by simp [v.1, w.1], by simp [w.2.1], fun h => by
    subst h
    have : b.2 = .full := v.2
    simp [this, w.2.2 rfl]⟩
theorem rc_lst {k : Nat} {x : R (List α)} {cl : DE (List D × Bool)} (h : RLs ps cl x c k ps1) (hk : k ≤ 1000000) (hc0 : nft c) : RC ps (cLst cl) x c ps1 := by
  have hc : c = .f ∨ c = .n := by
    cases c with
    | f => exact .inl rfl
    | n => exact .inr rfl
    | t => exact hc0.elim
    | o => exact hc0.elim
  have := RG.bnd (k := fun y s => if y.1.length ≤ 1000000 then some (.ok (.lst y.1, if y.2 then .full else .top) s) else none) (kx := R.ok) (V' := fun (a : List α) (p : D × Ow) => p.1 = enc a ∧ c.ok (enc a) p.2) (ps2 := ps1) h fun l p v => by
    refine ⟨fun s hs => ?_⟩
    have hl : p.1.length ≤ 1000000 := by rw [v.1, List.length_map, v.2.1]; exact hk
    refine ⟨(.lst p.1, if p.2 then .full else .top), s, if_pos hl, ⟨by rw [v.1]; rfl, ?_⟩, hs, rfl⟩
    rcases hc with rfl | rfl
    · show (if p.2 = true then Ow.full else .top) = .full
      rw [if_pos (v.2.2 rfl)]
    · trivial
  rw [bind_ok] at this
  exact this
/-- None, held -/
theorem rc_non : RC ps (toC (dC .non)) (.ok (none : Option α)) .f ps := .mk fun s hs => ⟨(.non, .full), s, rfl, ⟨rfl, rfl⟩, hs, rfl⟩
theorem rc_nonO : RC ps (toC (dC .non)) (.ok (none : Option α)) .o ps := .mk fun s hs => ⟨(.non, .full), s, rfl, ⟨rfl, .inr ⟨rfl, rfl⟩⟩, hs, rfl⟩
theorem rc_nonN : RC ps (toC (dC .non)) (.ok (none : Option α)) .n ps := .mk fun s hs => ⟨(.non, .full), s, rfl, ⟨rfl, trivial⟩, hs, rfl⟩
class NI (β : Type) [Enc β] : Prop where
  ni : ∀ b : β, imm (enc b) = false
instance : NI (List β) := ⟨fun _ => rfl⟩
theorem ni_o [NI α] {a : α} {ow : Ow} (h : Oc.o.ok (enc a) ow) : ow = .no := by
  rcases h with h | ⟨h, _⟩
  · exact h
  · rw [NI.ni a] at h; cases h
abbrev RTu (ps : List Pt) (de : DE (List D × Bool)) (x : R γ) (el : γ → List D) (c : Oc) (k : Nat) (ps' : List Pt) : Prop := RG ps de x (fun g p => p.1 = el g ∧ p.1.length = k ∧ (c = .f → p.2 = true) ∧ (c = .o → p.2 = false)) ps'
theorem ru_nil : RTu (γ := Unit) ps cNil (.ok ()) eN .f 0 ps := RG.pure ⟨rfl, rfl, fun _ => rfl, fun h => nomatch h⟩
theorem ru_cons {γ : Type} {k : Nat} {el : γ → List D} {x : R α} {y : R γ} {cl : DE (List D × Bool)} (ha : RC ps ca x .f ps1) (hr : RTu ps1 cl y el .f k ps2) : RTu ps (cCons ca cl) (R.bind x fun u => R.bind y fun v => .ok (u, v)) (eC el) .f (k + 1) ps2 :=
  RG.bnd ha fun a b v => RG.bnd hr fun l p w => RG.pure ⟨by simp [v.1, w.1, eC], by simp [w.2.1], fun _ => by
    have : b.2 = .full := v.2
    simp [this, w.2.2.1 rfl], fun h => nomatch h⟩
theorem ru_consN {γ : Type} {k : Nat} {el : γ → List D} {x : R α} {y : R γ} {cl : DE (List D × Bool)} (ha : RC ps ca x c1 ps1) (hr : RTu ps1 cl y el c2 k ps2) : RTu ps (cCons ca cl) (R.bind x fun u => R.bind y fun v => .ok (u, v)) (eC el) .n (k + 1) ps2 :=
  RG.bnd ha fun a b v => RG.bnd hr fun l p w => RG.pure ⟨by simp [v.1, w.1, eC], by simp [w.2.1], (fun h => nomatch h), (fun h => nomatch h)⟩
theorem ru_consH [NI α] {γ : Type} {k : Nat} {el : γ → List D} {x : R α} {y : R γ} {cl : DE (List D × Bool)} (ha : RC ps ca x .o ps1) (hr : RTu ps1 cl y el c2 k ps2) : RTu ps (cCons ca cl) (R.bind x fun u => R.bind y fun v => .ok (u, v)) (eC el) .o (k + 1) ps2 :=
  RG.bnd ha fun a b v => RG.bnd hr fun l p w => RG.pure ⟨by simp [v.1, w.1, eC], by simp [w.2.1], fun h => (nomatch h), fun _ => by simp [ni_o v.2]⟩
theorem ru_consT {γ : Type} {k : Nat} {el : γ → List D} {x : R α} {y : R γ} {cl : DE (List D × Bool)} (ha : RC ps ca x c1 ps1) (hr : RTu ps1 cl y el .o k ps2) : RTu ps (cCons ca cl) (R.bind x fun u => R.bind y fun v => .ok (u, v)) (eC el) .o (k + 1) ps2 :=
  RG.bnd ha fun a b v => RG.bnd hr fun l p w => RG.pure ⟨by simp [v.1, w.1, eC], by simp [w.2.1], fun h => (nomatch h), fun _ => by simp [w.2.2.2 rfl]⟩
theorem rc_tup {γ : Type} {τ : Type} [Enc τ] {k : Nat} {el : γ → List D} {x : R γ} {cl : DE (List D × Bool)} (g : γ → τ) (hg : ∀ a, enc (g a) = .tup (el a)) (h : RTu ps cl x el c k ps1) (hk : k ≤ 1000000) (hc : nt c) : RC ps (cTup cl) (R.bind x fun a => .ok (g a)) c ps1 :=
  RG.bnd h fun l p v => by
    refine ⟨fun s hs => ?_⟩
    have hl : p.1.length ≤ 1000000 := by rw [v.2.1]; exact hk
    refine ⟨(.tup p.1, if p.2 then .full else .no), s, if_pos hl, ⟨by rw [v.1, hg], ?_⟩, hs, rfl⟩
    cases c with
    | f =>
      show (if p.2 = true then Ow.full else .no) = .full
      rw [if_pos (v.2.2.1 rfl)]
    | o =>
      refine .inl ?_
      show (if p.2 = true then Ow.full else .no) = .no
      rw [v.2.2.2 rfl]
      rfl
    | n => trivial
    | t => exact hc.elim
theorem rc_tup1 {x : R (α × Unit)} {cl : DE (List D × Bool)} (h : RTu ps cl x (eC eN) c 1 ps1) (hc : nt c) : RC ps (cTup cl) (R.bind x fun a => .ok (Tv.mk [a.1])) c ps1 := rc_tup (fun a : α × Unit => Tv.mk [a.1]) (fun _ => rfl) h (by decide) hc
theorem rc_tup2 {x : R (α × β × Unit)} {cl : DE (List D × Bool)} (h : RTu ps cl x (eC (eC eN)) c 2 ps1) (hc : nt c) : RC ps (cTup cl) (R.bind x fun a => .ok (a.1, a.2.1)) c ps1 := rc_tup (fun a : α × β × Unit => (a.1, a.2.1)) (fun _ => rfl) h (by decide) hc
theorem rc_tup3 {x : R (α × β × γ × Unit)} {cl : DE (List D × Bool)} (h : RTu ps cl x (eC (eC (eC eN))) c 3 ps1) (hc : nt c) : RC ps (cTup cl) (R.bind x fun a => .ok (T3.mk a.1 a.2.1 a.2.2.1)) c ps1 := rc_tup (fun a : α × β × γ × Unit => T3.mk a.1 a.2.1 a.2.2.1) (fun _ => rfl) h (by decide) hc
theorem rc_tup4 {x : R (α × β × γ × δ × Unit)} {cl : DE (List D × Bool)} (h : RTu ps cl x (eC (eC (eC (eC eN)))) c 4 ps1) (hc : nt c) : RC ps (cTup cl) (R.bind x fun a => .ok (T4.mk a.1 a.2.1 a.2.2.1 a.2.2.2.1)) c ps1 := rc_tup (fun a : α × β × γ × δ × Unit => T4.mk a.1 a.2.1 a.2.2.1 a.2.2.2.1) (fun _ => rfl) h (by decide) hc
/-! + and * -/
theorem rc_two {α' : Type} [Enc α'] {f : D → D → SD → Option (Er (D × Ow))} {x : R α} {y : R β} {g : α → β → R α'} (ha : RB ps da x ps1) (hb : RB ps1 db y ps2)
    (h : ∀ u v s, Ms ps2 s → Ho (g u v) fun w => ∃ ow s', f (enc u) (enc v) s = some (.ok (enc w, ow) s') ∧ c.ok (enc w) ow ∧ Ms ps3 s' ∧ s'.length = s.length) : RC ps (bnd da fun x => bnd db fun y => f x y) (R.bind x fun u => R.bind y fun v => g u v) c ps3 :=
  RG.bnd ha fun u d1 v1 => RG.bnd hb fun v d2 v2 => by
    subst v1 v2
    refine ⟨fun s hs => ?_⟩
    have := h u v s hs
    cases e : g u v with
    | bad => trivial
    | exc c => rw [e] at this; exact this.elim
    | ok w =>
      rw [e] at this
      obtain ⟨ow, s', h1, h2, h3, h4⟩ := this
      exact ⟨_, s', h1, ⟨rfl, h2⟩, h3, h4⟩
theorem rc_addI {x y : R Int} (ha : RB ps da x ps1) (hb : RB ps1 db y ps2) : RC ps (cAdd da db) (R.bind x fun u => R.bind y fun v => .ok (u + v)) .f ps2 :=
  rc_two ha hb fun u v s hs => ⟨.full, s, rfl, rfl, hs, rfl⟩
noncomputable def catS (u v : Str) : R Str := okIf (u.length + v.length ≤ 1000000) (u ++ v)
theorem rc_addS {x y : R Str} (ha : RB ps da x ps1) (hb : RB ps1 db y ps2) : RC ps (cAdd da db) (R.bind x fun u => R.bind y fun v => catS u v) .f ps2 :=
  rc_two ha hb fun u v s hs => ho_if fun h => ⟨.full, s, if_pos h, rfl, hs, rfl⟩
theorem mkL_im [Imm α] (l : List α) (s : SD) : mkL (l.map enc) s = .ok (enc l, .full) s := if_pos (immL_map l)
theorem rc_addL [Imm α] {x y : R (List α)} (ha : RB ps da x ps1) (hb : RB ps1 db y ps2) : RC ps (cAdd da db) (R.bind x fun u => R.bind y fun v => catR u v) .f ps2 :=
  rc_two ha hb fun u v s hs => ho_if fun h => ⟨.full, s, by
    show (if (u.map enc).length + (v.map enc).length ≤ 1000000 then some (mkL (u.map enc ++ v.map enc) s) else none) = _
    rw [if_pos (by simpa using h), ← List.map_append, mkL_im], rfl, hs, rfl⟩
theorem mkL_any (l : List α) {s : SD} (hs : Ms ps s) : ∃ ow s', mkL (l.map enc) s = .ok (enc l, ow) s' ∧ Ms (fzP ps) s' ∧ s'.length = s.length := by
  unfold mkL
  by_cases h : immL (l.map enc) = true
  · rw [if_pos h]; exact ⟨.full, s, rfl, hs.fzle, rfl⟩
  · rw [if_neg h]; exact ⟨.top, fzAll s, rfl, hs.fz, fzAll_len s⟩
theorem rc_addLn {x y : R (List α)} (ha : RB ps da x ps1) (hb : RB ps1 db y ps2) : RC ps (cAdd da db) (R.bind x fun u => R.bind y fun v => catR u v) .n (fzP ps2) :=
  rc_two ha hb fun u v s hs => ho_if fun h => by
    obtain ⟨ow, s', e, m, l⟩ := mkL_any (u ++ v) hs
    refine ⟨ow, s', ?_, trivial, m, l⟩
    show (if (u.map enc).length + (v.map enc).length ≤ 1000000 then some (mkL (u.map enc ++ v.map enc) s) else none) = _
    rw [if_pos (by simpa using h), ← List.map_append, e]
theorem rc_addV [Imm α] {x y : R (Tv α)} (ha : RB ps da x ps1) (hb : RB ps1 db y ps2) : RC ps (cAdd da db) (R.bind x fun u => R.bind y fun v => R.bind (catR u.l v.l) fun l => .ok (Tv.mk l)) .f ps2 :=
  rc_two ha hb fun u v s hs => by
    unfold catR okIf
    by_cases h : u.l.length + v.l.length ≤ 1000000
    · rw [if_pos h]
      refine ⟨.full, s, ?_, rfl, hs, rfl⟩
      obtain ⟨u⟩ := u
      obtain ⟨v⟩ := v
      have im := fun l : List α => immL_map l
      cases u with
      | nil =>
        show (if _ then _ else none) = _
        rw [if_pos (by simpa using h)]
        show (if immL (v.map enc) = true then _ else none) = _
        rw [if_pos (im v)]
        rfl
      | cons a u =>
        cases v with
        | nil =>
          show (if _ then _ else none) = _
          rw [if_pos (by simpa using h)]
          show (if immL ((a :: u).map enc) = true then _ else none) = _
          rw [if_pos (im _)]
          simp [enc]
        | cons b v =>
          show (if _ then _ else none) = _
          rw [if_pos (by simpa using h)]
          show mkT ((a :: u).map enc ++ (b :: v).map enc) s = _
          unfold mkT
          rw [← List.map_append, if_pos (im _)]
          rfl
    · rw [if_neg h]; trivial
theorem rc_mulI {x y : R Int} (ha : RB ps da x ps1) (hb : RB ps1 db y ps2) : RC ps (cMul da db) (R.bind x fun u => R.bind y fun v => mulR u v) .f ps2 :=
  rc_two ha hb fun u v s hs => ho_if fun h => ⟨.full, s, if_pos h, rfl, hs, rfl⟩
theorem rep_enc (l : List α) : ∀ n, (List.replicate n (l.map enc)).flatten = ((List.replicate n l).flatten).map (enc : α → D)
  | 0 => rfl
  | n + 1 => by rw [List.replicate_succ, List.flatten_cons, rep_enc l n, ← List.map_append, List.replicate_succ, List.flatten_cons]
theorem rc_mulL [Imm α] {x : R (List α)} {y : R Int} (ha : RB ps da x ps1) (hb : RB ps1 db y ps2) : RC ps (cMul da db) (R.bind x fun u => R.bind y fun v => repR u v) .f ps2 :=
  rc_two ha hb fun u v s hs => ho_if fun h => ⟨.full, s, by
    show (if _ then some (mkL (List.replicate v.toNat (u.map enc)).flatten s) else none) = _
    rw [if_pos (by simpa using h), rep_enc, mkL_im], rfl, hs, rfl⟩
theorem rc_mulLn {x : R (List α)} {y : R Int} (ha : RB ps da x ps1) (hb : RB ps1 db y ps2) : RC ps (cMul da db) (R.bind x fun u => R.bind y fun v => repR u v) .n (fzP ps2) :=
  rc_two ha hb fun u v s hs => ho_if fun h => by
    obtain ⟨ow, s', e, m, l⟩ := mkL_any (List.replicate v.toNat u).flatten hs
    refine ⟨ow, s', ?_, trivial, m, l⟩
    show (if _ then some (mkL (List.replicate v.toNat (u.map enc)).flatten s) else none) = _
    rw [if_pos (by simpa using h), rep_enc, e]
/-- [None] * n -/
theorem rc_mulN {y : R Int} (hb : RB ps db y ps1) : RC ps (cMul (toB (cLst (cCons (toC (dC .non)) cNil))) db) (R.bind y fun v => repR [(none : Option α)] v) .f ps1 := by
  have h0 : RG ps (toB (cLst (cCons (toC (dC .non)) cNil))) (.ok ()) (fun _ d => d = D.lst [D.non]) ps := .mk fun s hs => ⟨_, s, rfl, rfl, hs, rfl⟩
  have im : ∀ n : Nat, immL (List.replicate n [D.non]).flatten = true := fun n => by
    induction n with
    | zero => rfl
    | succ n ih => rw [List.replicate_succ, List.flatten_cons]; simpa [immL, imm] using ih
  exact RG.bnd (kx := fun _ : Unit => R.bind y fun v => repR [(none : Option α)] v) h0 fun _ d1 v1 => RG.bnd hb fun v d2 v2 => by
    subst v1 v2
    refine ⟨fun s hs => ?_⟩
    unfold repR okIf
    by_cases h : -(2 ^ 63) ≤ v ∧ v < 2 ^ 63 ∧ [(none : Option α)].length * v.toNat ≤ 1000000
    · rw [if_pos h]
      refine ⟨(enc (List.replicate v.toNat [(none : Option α)]).flatten, .full), s, ?_, ⟨rfl, rfl⟩, hs, rfl⟩
      show (if _ then some (mkL (List.replicate v.toNat [D.non]).flatten s) else none) = _
      rw [if_pos (by simpa using h)]
      unfold mkL
      rw [if_pos (im _)]
      have := rep_enc [(none : Option α)] v.toNat
      show some (Er.ok (D.lst (List.replicate v.toNat ([(none : Option α)].map enc)).flatten, Ow.full) s) = _
      rw [this]
      rfl
    · rw [if_neg h]; trivial
/-! slices -/
abbrev RO (ps : List Pt) (de : DO) (x : R (Option Int)) (ps' : List Pt) : Prop := RG ps de x (fun a b => b = a) ps'
theorem ro_none : RO ps oNone (.ok none) ps := RG.pure rfl
theorem ro_some {x : R Int} (h : RB ps da x ps1) : RO ps (oSome da) (R.bind x fun i => .ok (some i)) ps1 :=
  RG.bnd h fun a d v => by subst v; exact RG.pure rfl
theorem rc_sl {τ : Type} [Enc τ] {f : D → Option Int → Option Int → SD → Option (Er (D × Ow))} {g : α → Option Int → Option Int → R τ} {lo hi : DO} {x : R α} {y z : R (Option Int)} (ha : RB ps da x ps1) (hl : RO ps1 lo y ps2) (hh : RO ps2 hi z ps3) {ps4 : List Pt}
    (h : ∀ u l k s, Ms ps3 s → Ho (g u l k) fun w => ∃ ow s', f (enc u) l k s = some (.ok (enc w, ow) s') ∧ c.ok (enc w) ow ∧ Ms ps4 s' ∧ s'.length = s.length) :
    RC ps (bnd da fun x => bnd (dPair lo hi) fun y => f x y.1 y.2) (R.bind x fun u => R.bind y fun l => R.bind z fun k => g u l k) c ps4 :=
  RG.bnd ha fun u d1 v1 => by
    subst v1
    have h2 : RG ps1 (dPair lo hi) (R.bind y fun l => R.bind z fun k => .ok (l, k)) (fun a b => b = a) ps3 := RG.bnd hl fun l d2 v2 => RG.bnd hh fun k d3 v3 => RG.pure (by subst v2 v3; rfl)
    have h3 := RG.bnd (k := fun y => f (enc u) y.1 y.2) (kx := fun p : Option Int × Option Int => g u p.1 p.2) (V' := fun (a : τ) (p : D × Ow) => p.1 = enc a ∧ c.ok (enc a) p.2) (ps2 := ps4) h2 fun p q v => by
      have v : q = p := v
      subst v
      refine ⟨fun s hs => ?_⟩
      have := h u q.1 q.2 s hs
      cases e : g u q.1 q.2 with
      | bad => trivial
      | exc c => rw [e] at this; exact this.elim
      | ok w =>
        rw [e] at this
        obtain ⟨ow, s', h1, h2, h3, h4⟩ := this
        exact ⟨_, s', h1, ⟨rfl, h2⟩, h3, h4⟩
    refine RG.cv h3 ?_
    rw [bind_bind]
    congr 1
    funext l
    rw [bind_bind]
    rfl
theorem rc_slL [Imm α] {lo hi : DO} {x : R (List α)} {y z : R (Option Int)} (ha : RB ps da x ps1) (hl : RO ps1 lo y ps2) (hh : RO ps2 hi z ps3) : RC ps (cSlice da lo hi) (R.bind x fun u => R.bind y fun l => R.bind z fun k => .ok (cut u l k)) .f ps3 :=
  rc_sl (f := slF) (g := fun u l k => .ok (cut u l k)) ha hl hh fun u l k s hs => ⟨.full, s, by
    show some (mkL (cut (u.map enc) l k) s) = _
    rw [cut_map, mkL_im], rfl, hs, rfl⟩
theorem rc_slLn {lo hi : DO} {x : R (List α)} {y z : R (Option Int)} (ha : RB ps da x ps1) (hl : RO ps1 lo y ps2) (hh : RO ps2 hi z ps3) : RC ps (cSlice da lo hi) (R.bind x fun u => R.bind y fun l => R.bind z fun k => .ok (cut u l k)) .n (fzP ps3) :=
  rc_sl (f := slF) (g := fun u l k => .ok (cut u l k)) ha hl hh fun u l k s hs => by
    obtain ⟨ow, s', e, m, q⟩ := mkL_any (cut u l k) hs
    refine ⟨ow, s', ?_, trivial, m, q⟩
    show some (mkL (cut (u.map enc) l k) s) = _
    rw [cut_map, e]
theorem rc_slS {lo hi : DO} {x : R Sc} {y z : R (Option Int)} (ha : RB ps da x ps1) (hl : RO ps1 lo y ps2) (hh : RO ps2 hi z ps3) : RC ps (cSlice da lo hi) (R.bind x fun u => R.bind y fun l => R.bind z fun k => .ok (cut u.ns l k)) .f ps3 :=
  rc_sl (f := slF) (g := fun (u : Sc) l k => .ok (cut u.ns l k)) ha hl hh fun u l k s hs => ⟨.full, s, by
    show some (mkL (cut (u.ns.map (enc : Int → D)) l k) s) = _
    rw [cut_map, mkL_im], rfl, hs, rfl⟩
noncomputable def cutR (z : Str) (l k : Option Int) : R Str := okIf (z.length ≤ 1000000) (L2.cutS z l k)
theorem rc_slStr {lo hi : DO} {x : R Str} {y z : R (Option Int)} (ha : RB ps da x ps1) (hl : RO ps1 lo y ps2) (hh : RO ps2 hi z ps3) : RC ps (cSlice da lo hi) (R.bind x fun u => R.bind y fun l => R.bind z fun k => cutR u l k) .f ps3 :=
  rc_sl (f := slF) (g := cutR) ha hl hh fun u l k s hs => ho_if fun h => ⟨.full, s, if_pos h, rfl, hs, rfl⟩
/-! list(), tuple() -/
theorem rc_one {τ : Type} {γ : Type} [Enc τ] {el : γ → List D} {f : List D → SD → Option (Er (D × Ow))} {g : γ → R τ} {x : R γ} {dr : DE (List D)} (ha : RA ps dr x el ps1)
    (h : ∀ u s, Ms ps1 s → Ho (g u) fun w => ∃ ow s', f (el u) s = some (.ok (enc w, ow) s') ∧ c.ok (enc w) ow ∧ Ms ps2 s' ∧ s'.length = s.length) : RC ps (bnd dr fun x => f x) (R.bind x g) c ps2 :=
  RG.bnd ha fun u d1 v1 => by
    subst v1
    refine ⟨fun s hs => ?_⟩
    have := h u s hs
    cases e : g u with
    | bad => trivial
    | exc c => rw [e] at this; exact this.elim
    | ok w =>
      rw [e] at this
      obtain ⟨ow, s', h1, h2, h3, h4⟩ := this
      exact ⟨_, s', h1, ⟨rfl, h2⟩, h3, h4⟩
theorem rc_listL [Imm α] {x : R (List α × Unit)} {dr : DE (List D)} (ha : RA ps dr x (e1 (List α)) ps1) : RC ps (cListOf dr) (R.bind x fun g => .ok g.1) .f ps1 :=
  rc_one ha fun u s hs => ⟨.full, s, by show some (mkL (u.1.map enc) s) = _; rw [mkL_im], rfl, hs, rfl⟩
theorem rc_listLn {x : R (List α × Unit)} {dr : DE (List D)} (ha : RA ps dr x (e1 (List α)) ps1) : RC ps (cListOf dr) (R.bind x fun g => .ok g.1) .n (fzP ps1) :=
  rc_one ha fun u s hs => by
    obtain ⟨ow, s', e, m, q⟩ := mkL_any u.1 hs
    exact ⟨ow, s', by show some (mkL (u.1.map enc) s) = _; rw [e], trivial, m, q⟩
theorem rc_listS {x : R (Sc × Unit)} {dr : DE (List D)} (ha : RA ps dr x (e1 Sc) ps1) : RC ps (cListOf dr) (R.bind x fun g => .ok g.1.ns) .f ps1 :=
  rc_one ha fun u s hs => ⟨.full, s, by show some (mkL (u.1.ns.map (enc : Int → D)) s) = _; rw [mkL_im], rfl, hs, rfl⟩
theorem rc_listV [Imm α] {x : R (Tv α × Unit)} {dr : DE (List D)} (ha : RA ps dr x (e1 (Tv α)) ps1) : RC ps (cListOf dr) (R.bind x fun g => .ok g.1.l) .f ps1 :=
  rc_one ha fun u s hs => ⟨.full, s, by show some (mkL (u.1.l.map enc) s) = _; rw [mkL_im], rfl, hs, rfl⟩
theorem rc_list2 [Imm α] {x : R ((α × α) × Unit)} {dr : DE (List D)} (ha : RA ps dr x (e1 (α × α)) ps1) : RC ps (cListOf dr) (R.bind x fun g => .ok [g.1.1, g.1.2]) .f ps1 :=
  rc_one ha fun u s hs => ⟨.full, s, by show some (mkL ([u.1.1, u.1.2].map enc) s) = _; rw [mkL_im], rfl, hs, rfl⟩
theorem rc_tupL [Imm α] {x : R (List α × Unit)} {dr : DE (List D)} (ha : RA ps dr x (e1 (List α)) ps1) : RC ps (cTupOf dr) (R.bind x fun g => .ok (Tv.mk g.1)) .f ps1 :=
  rc_one ha fun u s hs => ⟨.full, s, by show mkT (u.1.map enc) s = _; unfold mkT; rw [if_pos (immL_map _)]; rfl, rfl, hs, rfl⟩
/-! a part of what is held -/
def ItO (c : Oc) : Oc := match c with
  | .f => .f
  | .o => .o
  | _ => .n
theorem itOw_ok {d e : D} {ow : Ow} (h : c.ok d ow) (hi : imm d = true → imm e = true) : (ItO c).ok e (itOw e ow) := by
  cases c with
  | f => have h : ow = .full := h; subst h; rfl
  | t => trivial
  | n => trivial
  | o =>
    rcases h with h | ⟨h1, h2⟩
    · subst h
      show (if imm e = true then Ow.full else .no) = .no ∨ _
      by_cases he : imm e = true
      · exact .inr ⟨he, if_pos he⟩
      · exact .inl (if_neg he)
    · subst h2
      exact .inr ⟨hi h1, rfl⟩
theorem immL_mem {ds : List D} {e : D} : immL ds = true → e ∈ ds → imm e = true := by
  induction ds with
  | nil => intro _ h; cases h
  | cons d ds ih =>
    intro h m
    have h : (imm d && immL ds) = true := by simpa only [immL] using h
    have h := Bool.and_eq_true_iff.mp h
    rcases List.mem_cons.mp m with rfl | m
    · exact h.1
    · exact ih h.2 m
theorem atI_mem {l : List α} {i : Int} {a : α} (h : L2.atI l i = some a) : a ∈ l := by
  unfold L2.atI at h
  cases e : L2.ixN l.length i with
  | none => rw [e] at h; cases h
  | some j => rw [e] at h; exact List.mem_of_getElem? h
theorem rc_item {x : R (List α)} {y : R Int} (ha : RC ps ca x c ps1) (hb : RB ps1 db y ps2) : RC ps (cItem ca db) (R.bind x fun u => R.bind y fun v => atR u v) (ItO c) ps2 := by
  refine ⟨fun s hs => ?_⟩
  have h1 := ha s hs
  cases x with
  | bad => trivial
  | exc q =>
    obtain ⟨s1, e, l⟩ := h1
    exact ⟨s1, by unfold cItem; rw [e], l⟩
  | ok u =>
    obtain ⟨⟨d, ow⟩, s1, e, ⟨v1, v2⟩, m, l⟩ := h1
    have v1 : d = enc u := v1
    subst v1
    have h2 := hb s1 m
    cases y with
    | bad => trivial
    | exc q =>
      obtain ⟨s2, e2, l2⟩ := h2
      exact ⟨s2, by unfold cItem; simp only [e, e2], l2.trans l⟩
    | ok i =>
      obtain ⟨b, s2, e2, v3, m2, l2⟩ := h2
      subst v3
      show match atR u i with
        | .ok a => _
        | .exc c => _
        | .bad => _
      unfold atR
      cases e3 : L2.atI u i with
      | none => trivial
      | some a =>
        refine ⟨(enc a, itOw (enc a) ow), s2, ?_, ⟨rfl, itOw_ok v2 fun hi => ?_⟩, m2, l2.trans l⟩
        · unfold cItem
          simp only [e, e2, enc, lsOf]
          rw [atI_map, e3]
          rfl
        · exact absurd hi (by simp [enc, imm])
theorem rc_pick {τ : Type} [Enc τ] {k : Int} {g : α → τ} (hg : ∀ a : α, ∃ ds, lsOf (enc a) = some ds ∧ L2.atI ds k = some (enc (g a)) ∧ (imm (enc a) = true → imm (enc (g a)) = true)) {x : R α} (ha : RC ps ca x c ps1) : RC ps (cItem ca (dC (.int k))) (R.bind x fun p => .ok (g p)) (ItO c) ps1 := by
  refine ⟨fun s hs => ?_⟩
  have h1 := ha s hs
  cases x with
  | bad => trivial
  | exc q =>
    obtain ⟨s1, e, l⟩ := h1
    exact ⟨s1, by unfold cItem; rw [e], l⟩
  | ok u =>
    obtain ⟨⟨d, ow⟩, s1, e, ⟨v1, v2⟩, m, l⟩ := h1
    have v1 : d = enc u := v1
    subst v1
    obtain ⟨ds, g1, g2, g3⟩ := hg u
    refine ⟨(enc (g u), itOw (enc (g u)) ow), s1, ?_, ⟨rfl, itOw_ok v2 g3⟩, m, l⟩
    unfold cItem
    simp only [e, dC]
    rw [g1]
    simp only [g2]
    rfl
theorem im_pair {a b : D} (h : imm (.tup [a, b]) = true) : imm a = true ∧ imm b = true := by simpa [imm, immL] using h
theorem im_t3 {a b c : D} (h : imm (.tup [a, b, c]) = true) : imm a = true ∧ imm b = true ∧ imm c = true := by simpa [imm, immL] using h
theorem rc_pick0 {x : R (α × β)} (ha : RC ps ca x c ps1) : RC ps (cItem ca (dC (.int 0))) (R.bind x fun p => .ok p.1) (ItO c) ps1 := rc_pick (g := fun p : α × β => p.1) (fun a => ⟨_, rfl, rfl, fun h => (im_pair h).1⟩) ha
theorem rc_pick1 {x : R (α × β)} (ha : RC ps ca x c ps1) : RC ps (cItem ca (dC (.int 1))) (R.bind x fun p => .ok p.2) (ItO c) ps1 := rc_pick (g := fun p : α × β => p.2) (fun a => ⟨_, rfl, rfl, fun h => (im_pair h).2⟩) ha
end
end Dv

namespace Dv
open Enc (enc)
open PySem L2

/-! ### loops of plain functions -/
inductive Lp (σ τ : Type) where
  | nx (v : σ) | bk (v : σ) | out (t : τ)
section
variable {ι σ τ ρ α : Type}
def forR : List ι → σ → (ι → σ → R σ) → R σ
  | [], v, _ => .ok v
  | a :: l, v, f => R.bind (f a v) fun v => forR l v f
def forX : List ι → σ → (ι → σ → R (Lp σ τ)) → R (σ ⊕ τ)
  | [], v, _ => .ok (.inl v)
  | a :: l, v, f => R.bind (f a v) fun o => match o with
    | .nx v => forX l v f
    | .bk v => .ok (.inl v)
    | .out t => .ok (.inr t)
def whN (c : σ → R Bool) (f : σ → R σ) : Nat → σ → R σ
  | 0, _ => .bad
  | n + 1, v => R.bind (c v) fun b => if b = true then R.bind (f v) fun v => whN c f n v else .ok v
def whR (v : σ) (c : σ → R Bool) (f : σ → R σ) : R σ := whN c f fuel v
def whXN (c : σ → R Bool) (f : σ → R (Lp σ τ)) : Nat → σ → R (σ ⊕ τ)
  | 0, _ => .bad
  | n + 1, v => R.bind (c v) fun b => if b = true then R.bind (f v) fun o => match o with
    | .nx v => whXN c f n v
    | .bk v => .ok (.inl v)
    | .out t => .ok (.inr t)
    else .ok (.inl v)
def whX (v : σ) (c : σ → R Bool) (f : σ → R (Lp σ τ)) : R (σ ⊕ τ) := whXN c f fuel v
/-- what follows, where it goes on -/
def R.andThen (x : R (σ ⊕ τ)) (k : σ → R τ) : R τ := R.bind x fun o => match o with
  | .inl v => k v
  | .inr t => .ok t
def cmpGo (f : ι → R (Option α)) : List ι → List α → R (List α)
  | [], acc => .ok acc
  | a :: l, acc => match f a with
    | .ok (some b) => if acc.length < 1000000 then cmpGo f l (acc ++ [b]) else .bad
    | .ok none => cmpGo f l acc
    | _ => .bad
def cmpR (l : List ι) (f : ι → R α) : R (List α) := cmpGo (fun a => R.bind (f a) fun b => .ok (some b)) l []
def cmpI (l : List ι) (c : ι → R Bool) (f : ι → R α) : R (List α) := cmpGo (fun a => R.bind (c a) fun t => if t = true then R.bind (f a) fun b => .ok (some b) else .ok none) l []
end

section
variable {ι σ τ ρ α β γ δ : Type} [Enc ι] [Enc ρ] [Enc α] [Enc β] [Enc γ] [Enc δ] {ps ps1 ps2 ps3 : List Pt} {da db : DE D} {ca cb : DE (D × Ow)} {c c1 c2 : Oc} {dt : DE Bool} {a b rest body : DS}
/-! ### targets -/
def TG (ps : List Pt) (tg : DT) (c : Oc) (d : D) (ps' : List Pt) : Prop := ∀ s ow, Ms ps s → c.ok d ow → ∃ s', tg d ow s = some s' ∧ Ms ps' s' ∧ s'.length = s.length
theorem tg_n {d : D} (i : Nat) (hi : i < ps.length) : TG ps (tgN i) c d (ps.set i (.h c d)) := fun s ow hs q => ⟨s.set i (some (d, ow)), if_pos (hs.len ▸ hi), hs.set i ⟨ow, rfl, q⟩, by simp⟩
theorem Oc.part {d e : D} {ow : Ow} (h : c.ok d ow) (hc : c = .f ∨ c = .o) (hi : imm d = true → imm e = true) : c.ok e (if imm e = true then .full else ow) := by
  rcases hc with rfl | rfl
  · have h : ow = .full := h
    subst h
    show (if imm e = true then Ow.full else .full) = .full
    split <;> rfl
  · by_cases he : imm e = true
    · exact .inr ⟨he, if_pos he⟩
    · rw [if_neg he]
      rcases h with h | ⟨h1, _⟩
      · exact .inl h
      · exact absurd (hi h1) he
theorem Oc.partN {d e : D} {ow : Ow} : Oc.n.ok e (if imm e = true then .full else ow) := trivial
theorem Oc.notop {d : D} {ow : Ow} (h : c.ok d ow) (hc : c = .f ∨ c = .o) : ow ≠ .top := by
  rcases hc with rfl | rfl
  · have h : ow = .full := h
    subst h; exact fun z => nomatch z
  · rcases h with h | ⟨_, h⟩ <;> subst h <;> exact fun z => nomatch z
theorem Oc.onef {d e : D} {ow : Ow} (h : c.ok d ow) (hc : c = .f ∨ c = .o) (he : imm e = true) : Oc.o.ok e (if imm e = true then .full else ow) := .inr ⟨he, if_pos he⟩
/-- how a part is held -/
inductive OcP : Oc → Oc → D → Prop
  | s {c : Oc} {d : D} (hc : c = .f ∨ c = .o) : OcP c c d
  | i {c : Oc} {d : D} (hc : c = .f ∨ c = .o) (hd : imm d = true) : OcP c .o d
theorem OcP.hc {c c' : Oc} {d : D} : OcP c c' d → c = .f ∨ c = .o
  | .s h => h
  | .i h _ => h
theorem OcP.ok {c c' : Oc} {d e : D} {ow : Ow} (h : OcP c c' e) (q : c.ok d ow) (hi : imm d = true → imm e = true) : c'.ok e (if imm e = true then .full else ow) := by
  cases h with
  | s hc => exact Oc.part q hc hi
  | i hc hd => exact .inr ⟨hd, if_pos hd⟩
/-- two names -/
theorem tg_2 {d e : D} (i j : Nat) (hi : i < ps.length) (hj : j < ps.length) (h1 : OcP c c1 d) (h2 : OcP c c2 e) : TG ps (tgT [i, j]) c (.tup [d, e]) ((ps.set i (.h c1 d)).set j (.h c2 e)) := fun s ow hs q => by
  have hl := hs.len
  refine ⟨(s.set i (some (d, if imm d then .full else ow))).set j (some (e, if imm e then .full else ow)), ?_, (hs.set (p := .h c1 d) i ⟨_, rfl, h1.ok q fun h => (im_pair h).1⟩).set (p := .h c2 e) j ⟨_, rfl, h2.ok q fun h => (im_pair h).2⟩, by simp⟩
  show (if ow = .top then none else tgL [i, j] [d, e] ow s) = _
  rw [if_neg (Oc.notop q h1.hc)]
  simp only [tgL, List.length_set]
  rw [if_pos (by omega), if_pos (by omega)]
theorem tg_3 {d e g : D} {c3 : Oc} (i j k : Nat) (hi : i < ps.length) (hj : j < ps.length) (hk : k < ps.length) (h1 : OcP c c1 d) (h2 : OcP c c2 e) (h3 : OcP c c3 g) : TG ps (tgT [i, j, k]) c (.tup [d, e, g]) (((ps.set i (.h c1 d)).set j (.h c2 e)).set k (.h c3 g)) := fun s ow hs q => by
  have hl := hs.len
  refine ⟨((s.set i (some (d, if imm d then .full else ow))).set j (some (e, if imm e then .full else ow))).set k (some (g, if imm g then .full else ow)), ?_, ((hs.set (p := .h c1 d) i ⟨_, rfl, h1.ok q fun h => (im_t3 h).1⟩).set (p := .h c2 e) j ⟨_, rfl, h2.ok q fun h => (im_t3 h).2.1⟩).set (p := .h c3 g) k ⟨_, rfl, h3.ok q fun h => (im_t3 h).2.2⟩, by simp⟩
  show (if ow = .top then none else tgL [i, j, k] [d, e, g] ow s) = _
  rw [if_neg (Oc.notop q h1.hc)]
  simp only [tgL, List.length_set]
  rw [if_pos (by omega), if_pos (by omega), if_pos (by omega)]
/-- a part that holds no list -/
theorem Ms.asO {d : D} {ps : List Pt} {s : SD} {i : Nat} (h : Ms (ps.set i (.h .f d)) s) (hd : imm d = true) : Ms (ps.set i (.h .o d)) s := by
  induction ps generalizing s i with
  | nil => exact h
  | cons p ps ih =>
    cases s with
    | nil => cases i <;> exact h.elim
    | cons sl s =>
      cases i with
      | zero => exact ⟨let ⟨ow, e, q⟩ := h.1; ⟨ow, e, .inr ⟨hd, q⟩⟩, h.2⟩
      | succ i => exact ⟨h.1, ih h.2⟩
theorem TG.wk {tg : DT} {d : D} (h : TG ps tg c d ps1) (w : ∀ s, Ms ps1 s → Ms ps2 s) : TG ps tg c d ps2 := fun s ow hs q => by
  obtain ⟨s', e, m, l⟩ := h s ow hs q
  exact ⟨s', e, w _ m, l⟩

/-! ### statements -/
def Sat (x : R τ) (o : Option Out) (n : Nat) (Φ : τ → Out → Prop) : Prop := match x with
  | .ok t => ∃ o', o = some o' ∧ Φ t o'
  | .exc c => ∃ s', o = some (.exc c s') ∧ s'.length = n
  | .bad => True
structure RSt (ps : List Pt) (ds : DS) (x : R τ) (Φ : τ → Out → Prop) : Prop where
  h : ∀ s, Ms ps s → Sat x (ds s) s.length Φ
instance {ps : List Pt} {ds : DS} {x : R τ} {Φ : τ → Out → Prop} : CoeFun (RSt ps ds x Φ) (fun _ => ∀ s, Ms ps s → Sat x (ds s) s.length Φ) := ⟨RSt.h⟩
def ΦN (N : σ → List Pt) : σ → Out → Prop := fun v o => ∃ s', o = .next s' ∧ Ms (N v) s'
def ΦC (N : σ → List Pt) : σ → Out → Prop := fun v o => ∃ s', (o = .next s' ∨ o = .cont s') ∧ Ms (N v) s'
def ΦR (c : Oc) : ρ → Out → Prop := fun r o => (∃ ow, o = .ret (enc r) ow ∧ c.ok (enc r) ow) ∨ ∃ s', o = .next s' ∧ enc r = .non
def isRet : Out → Prop
  | .ret _ _ => True
  | _ => False
def notNext : Out → Prop
  | .next _ => False
  | _ => True
def ΦL (N : σ → List Pt) (Φ : τ → Out → Prop) : Lp σ τ → Out → Prop
  | .nx v, o => ∃ s', (o = .next s' ∨ o = .cont s') ∧ Ms (N v) s'
  | .bk v, o => ∃ s', o = .brk s' ∧ Ms (N v) s'
  | .out t, o => Φ t o ∧ isRet o
def ΦE (N : σ → List Pt) (Φ : τ → Out → Prop) : σ ⊕ τ → Out → Prop
  | .inl v, o => ∃ s', o = .next s' ∧ Ms (N v) s'
  | .inr t, o => Φ t o ∧ notNext o
variable {Φ : τ → Out → Prop}
theorem RSt.cv {x y : R τ} (h : RSt ps a x Φ) (e : x = y) : RSt ps a y Φ := e ▸ h
theorem RSt.pre {x : R τ} (h : RSt ps1 a x Φ) (w : ∀ s, Ms ps s → Ms ps1 s) : RSt ps a x Φ := .mk fun s hs => h s (w s hs)
/-- ends -/
def AcN (Φ : τ → Out → Prop) (ps : List Pt) (t : τ) : Prop := ∀ s, Ms ps s → Φ t (.next s)
def AcB (Φ : τ → Out → Prop) (ps : List Pt) (t : τ) : Prop := ∀ s, Ms ps s → Φ t (.brk s)
def AcC (Φ : τ → Out → Prop) (ps : List Pt) (t : τ) : Prop := ∀ s, Ms ps s → Φ t (.cont s)
def AcR (Φ : τ → Out → Prop) (c : Oc) (w : ρ → τ) : Prop := ∀ r ow, c.ok (enc r) ow → Φ (w r) (.ret (enc r) ow)
variable {N : σ → List Pt} {v : σ}
theorem an_N (w : Wk ps (N v)) : AcN (ΦN N) ps v := fun s hs => ⟨s, rfl, hs.wk w⟩
theorem an_C (w : Wk ps (N v)) : AcN (ΦC N) ps v := fun s hs => ⟨s, .inl rfl, hs.wk w⟩
theorem an_L (w : Wk ps (N v)) : AcN (ΦL N Φ) ps (.nx v) := fun s hs => ⟨s, .inl rfl, hs.wk w⟩
theorem an_E (w : Wk ps (N v)) : AcN (ΦE N Φ) ps (.inl v) := fun s hs => ⟨s, rfl, hs.wk w⟩
theorem an_R {r : ρ} (h : enc r = .non) : AcN (ΦR c) ps r := fun s hs => .inr ⟨s, rfl, h⟩
theorem ac_C (w : Wk ps (N v)) : AcC (ΦC N) ps v := fun s hs => ⟨s, .inr rfl, hs.wk w⟩
theorem ac_L (w : Wk ps (N v)) : AcC (ΦL N Φ) ps (.nx v) := fun s hs => ⟨s, .inr rfl, hs.wk w⟩
theorem ac_E {t : τ} (h : AcC Φ ps t) : AcC (ΦE N Φ) ps (.inr t) := fun s hs => ⟨h s hs, trivial⟩
theorem ab_L (w : Wk ps (N v)) : AcB (ΦL N Φ) ps (.bk v) := fun s hs => ⟨s, rfl, hs.wk w⟩
theorem ab_E {t : τ} (h : AcB Φ ps t) : AcB (ΦE N Φ) ps (.inr t) := fun s hs => ⟨h s hs, trivial⟩
theorem ar_R : AcR (ΦR c) c (fun r : ρ => r) := fun r ow q => .inl ⟨ow, rfl, q⟩
theorem ar_Rn : AcR (ΦR .n) c (fun r : ρ => r) := fun r ow q => .inl ⟨ow, rfl, trivial⟩
theorem ar_L {w : ρ → τ} (h : AcR Φ c w) : AcR (ΦL N Φ) c (fun r => .out (w r)) := fun r ow q => ⟨h r ow q, trivial⟩
theorem ar_E {w : ρ → τ} (h : AcR Φ c w) : AcR (ΦE N Φ) c (fun r => .inr (w r)) := fun r ow q => ⟨h r ow q, trivial⟩
theorem rs_next {t : τ} (h : AcN Φ ps t) : RSt ps sNext (.ok t) Φ := .mk fun s hs => ⟨_, rfl, h s hs⟩
theorem rs_brk {t : τ} (h : AcB Φ ps t) : RSt ps sBrk (.ok t) Φ := .mk fun s hs => ⟨_, rfl, h s hs⟩
theorem rs_cont {t : τ} (h : AcC Φ ps t) : RSt ps sCont (.ok t) Φ := .mk fun s hs => ⟨_, rfl, h s hs⟩
theorem rs_ret {w : ρ → τ} {x : R ρ} (h : AcR Φ c w) (hc : RC ps ca x c ps1) : RSt ps (sRet ca) (R.bind x fun r => .ok (w r)) Φ := by
  refine ⟨fun s hs => ?_⟩
  have h1 := hc s hs
  cases x with
  | bad => trivial
  | exc c =>
    obtain ⟨s1, e, l⟩ := h1
    exact ⟨s1, by unfold sRet; rw [e], l⟩
  | ok a =>
    obtain ⟨⟨d, ow⟩, s1, e, ⟨v1, v2⟩, m, l⟩ := h1
    have v1 : d = enc a := v1
    subst v1
    exact ⟨.ret (enc a) ow, by unfold sRet; rw [e], h a ow v2⟩
theorem rs_retN {w : ρ → τ} {r : ρ} (h : AcR Φ .f w) (e : enc r = .non) : RSt ps sRetN (.ok (w r)) Φ := .mk fun s hs => ⟨.ret .non .full, rfl, by
  have := h r .full rfl
  rwa [e] at this⟩
theorem rs_raise {k : Str} : RSt ps (sRaise k) (.exc k) Φ := .mk fun s hs => ⟨s, rfl, rfl⟩
theorem rs_bad : RSt ps a .bad Φ := .mk fun s hs => trivial
/-- forms of blocks -/
theorem rs_end {x : R τ} (h : RSt ps (sSeq a sNext) x Φ) : RSt ps a x Φ := by
  refine ⟨fun s hs => ?_⟩
  have h := h s hs
  have e : sSeq a sNext s = a s := by
    unfold sSeq
    cases e : a s with
    | none => rfl
    | some o => cases o <;> rfl
  rw [e] at h
  exact h
theorem rs_assoc {x : R τ} (h : RSt ps (sSeq a (sSeq b rest)) x Φ) : RSt ps (sSeq (sSeq a b) rest) x Φ := by
  refine ⟨fun s hs => ?_⟩
  have h := h s hs
  have e : sSeq (sSeq a b) rest s = sSeq a (sSeq b rest) s := by
    unfold sSeq
    cases e : a s with
    | none => rfl
    | some o => cases o <;> rfl
  rw [e]
  exact h
theorem rs_nx {x : R τ} (h : RSt ps rest x Φ) : RSt ps (sSeq sNext rest) x Φ := h
theorem rs_deadRet {x : R τ} (h : RSt ps (sRet ca) x Φ) : RSt ps (sSeq (sRet ca) rest) x Φ := by
  refine ⟨fun s hs => ?_⟩
  have h := h s hs
  have e : sSeq (sRet ca) rest s = sRet ca s := by
    unfold sSeq sRet
    cases e : ca s with
    | none => rfl
    | some o => cases o <;> rfl
  rw [e]
  exact h
theorem rs_deadRetN {x : R τ} (h : RSt ps sRetN x Φ) : RSt ps (sSeq sRetN rest) x Φ := h
theorem rs_deadRaise {k : Str} {x : R τ} (h : RSt ps (sRaise k) x Φ) : RSt ps (sSeq (sRaise k) rest) x Φ := h
theorem rs_deadBrk {x : R τ} (h : RSt ps sBrk x Φ) : RSt ps (sSeq sBrk rest) x Φ := h
theorem rs_deadCont {x : R τ} (h : RSt ps sCont x Φ) : RSt ps (sSeq sCont rest) x Φ := h
/-- a step, then more -/
theorem rs_step {β' : Type} {α' : Type} {V : α' → β' → Prop} {de : DE β'} {x : R α'} {k : α' → R τ} (h : RG ps de x V ps1) (hn : ∀ s, de s = none → a s = none) (hx : ∀ s c s', de s = some (.exc c s') → a s = some (.exc c s'))
    (hk : ∀ u b s s1, de s = some (.ok b s1) → V u b → Ms ps1 s1 → s1.length = s.length → Sat (k u) (a s) s.length Φ) : RSt ps a (R.bind x k) Φ := by
  refine ⟨fun s hs => ?_⟩
  have h := h s hs
  cases x with
  | bad => trivial
  | exc c =>
    obtain ⟨s1, e, l⟩ := h
    exact ⟨s1, hx _ _ _ e, l⟩
  | ok u =>
    obtain ⟨b, s1, e, v, m, l⟩ := h
    exact hk u b s s1 e v m l
theorem RSt.at {x : R τ} (h : RSt ps1 rest x Φ) {s s1 : SD} (hs : Ms ps1 s1) (l : s1.length = s.length) (e : a s = rest s1) : Sat x (a s) s.length Φ := by
  have h := h s1 hs
  rw [e]
  cases x with
  | bad => trivial
  | ok t => exact h
  | exc c =>
    obtain ⟨s', e1, l1⟩ := h
    exact ⟨s', e1, l1.trans l⟩
theorem rs_set {x : R α} {k : α → R τ} (i : Nat) (hc : RC ps ca x c ps1) (hi : i < ps1.length) (hb : ∀ a, RSt (ps1.set i (.h c (enc a))) rest (k a) Φ) : RSt ps (sSeq (sSet i ca) rest) (R.bind x k) Φ :=
  rs_step hc (fun s e => by unfold sSeq sSet; rw [e]) (fun s c s' e => by unfold sSeq sSet; rw [e]) fun u b s s1 e v m l => by
    obtain ⟨d, ow⟩ := b
    obtain ⟨v1, v2⟩ := v
    have v1 : d = enc u := v1
    subst v1
    refine (hb u).at (m.set i ⟨ow, rfl, v2⟩) (by simp [l]) ?_
    unfold sSeq sSet
    simp only [e]
    rw [if_pos (by rw [m.len]; exact hi)]
theorem rs_setI [Imm α] {x : R α} {k : α → R τ} (i : Nat) (hc : RC ps ca x .f ps1) (hi : i < ps1.length) (hb : ∀ a, RSt (ps1.set i (.h .o (enc a))) rest (k a) Φ) : RSt ps (sSeq (sSet i ca) rest) (R.bind x k) Φ :=
  rs_set i (rc_oI hc) hi hb
theorem rs_asg {x : R α} {k : α → R τ} {tg : DT} {M : α → List Pt} (hc : RC ps ca x c ps1) (ht : ∀ a, TG ps1 tg c (enc a) (M a)) (hb : ∀ a, RSt (M a) rest (k a) Φ) : RSt ps (sSeq (sAsg tg ca) rest) (R.bind x k) Φ :=
  rs_step hc (fun s e => by unfold sSeq sAsg; rw [e]) (fun s c s' e => by unfold sSeq sAsg; rw [e]) fun u b s s1 e v m l => by
    obtain ⟨d, ow⟩ := b
    obtain ⟨v1, v2⟩ := v
    have v1 : d = enc u := v1
    subst v1
    obtain ⟨s2, e2, m2, l2⟩ := ht u s1 ow m v2
    refine (hb u).at m2 (l2.trans l) ?_
    unfold sSeq sAsg
    simp only [e, e2, Option.map_some]
theorem rs_drop {x : R α} {k : α → R τ} (hc : RB ps da x ps1) (hb : ∀ a, RSt ps1 rest (k a) Φ) : RSt ps (sSeq (sDrop da) rest) (R.bind x k) Φ :=
  rs_step hc (fun s e => by unfold sSeq sDrop; rw [e]) (fun s c s' e => by unfold sSeq sDrop; rw [e]) fun u b s s1 e v m l => by
    refine (hb u).at m l ?_
    unfold sSeq sDrop
    simp only [e]
theorem rs_if {x : R Bool} {p q : R τ} (hc : RT ps dt x ps1) (h1 : RSt ps1 (sSeq a rest) p Φ) (h2 : RSt ps1 (sSeq b rest) q Φ) : RSt ps (sSeq (sIf dt a b) rest) (R.bind x fun t => if t = true then p else q) Φ :=
  rs_step hc (fun s e => by unfold sSeq sIf; rw [e]) (fun s c s' e => by unfold sSeq sIf; rw [e]) fun u b1 s s1 e v m l => by
    subst v
    cases b1 with
    | true =>
      rw [if_pos rfl]
      refine h1.at m l ?_
      unfold sSeq sIf
      simp only [e]
    | false =>
      rw [if_neg Bool.false_ne_true]
      refine h2.at m l ?_
      unfold sSeq sIf
      simp only [e]
/-- ways joined -/
theorem rs_join {x : R σ} {k : σ → R τ} (h : RSt ps a x (ΦN N)) (hb : ∀ v, RSt (N v) rest (k v) Φ) (hl : ∀ v, (N v).length = ps.length) : RSt ps (sSeq a rest) (R.bind x k) Φ := by
  refine ⟨fun s hs => ?_⟩
  have h := h s hs
  cases x with
  | bad => trivial
  | exc c =>
    obtain ⟨s1, e, l⟩ := h
    exact ⟨s1, by unfold sSeq; rw [e], l⟩
  | ok u =>
    obtain ⟨o, e, s1, rfl, m⟩ := h
    refine (hb u).at m ?_ ?_
    · rw [m.len, hs.len, hl]
    · unfold sSeq
      simp only [e]
theorem rs_joinE {x : R (σ ⊕ τ)} {k : σ → R τ} (h : RSt ps a x (ΦE N Φ)) (hb : ∀ v, RSt (N v) rest (k v) Φ) (hl : ∀ v, (N v).length = ps.length) : RSt ps (sSeq a rest) (R.andThen x k) Φ := by
  refine ⟨fun s hs => ?_⟩
  have h := h s hs
  cases x with
  | bad => trivial
  | exc c =>
    obtain ⟨s1, e, l⟩ := h
    exact ⟨s1, by unfold sSeq; rw [e], l⟩
  | ok u =>
    cases u with
    | inl v =>
      obtain ⟨o, e, s1, rfl, m⟩ := h
      refine (hb v).at m ?_ ?_
      · rw [m.len, hs.len, hl]
      · unfold sSeq
        simp only [e]
    | inr t =>
      obtain ⟨o, e, h1, h2⟩ := h
      refine ⟨o, ?_, h1⟩
      unfold sSeq
      rw [e]
      cases o with
      | next => exact h2.elim
      | _ => rfl
/-! ### for -/
inductive Its (ι : Type) [Enc ι] : List ι → List (D × Ow) → Prop
  | nil : Its ι [] []
  | cons {a : ι} {l : List ι} {ow : Ow} {r : List (D × Ow)} : Oc.o.ok (enc a) ow → Its ι l r → Its ι (a :: l) ((enc a, ow) :: r)
theorem its_no : ∀ l : List ι, Its ι l (noIt (l.map enc))
  | [] => .nil
  | a :: l => .cons (by
      by_cases h : imm (enc a) = true
      · rw [if_pos h]; exact .inr ⟨h, rfl⟩
      · rw [if_neg h]; exact .inl rfl) (its_no l)
theorem its_rng (lo : Int) (n : Nat) : Its Int (rngL lo n) (rngD lo n) := by
  unfold rngL rngD
  induction List.range n with
  | nil => exact .nil
  | cons k l ih => exact .cons (.inr ⟨rfl, rfl⟩) ih
theorem go_for {n : Nat} (hN : ∀ v, (N v).length = n) {tg : DT} {f : ι → σ → R σ} {M : ι → σ → List Pt} (ht : ∀ a v, TG (N v) tg .o (enc a) (M a v)) (hb : ∀ a v, RSt (M a v) body (f a v) (ΦC N)) :
    ∀ {l : List ι} {its : List (D × Ow)} (v : σ) (s : SD), Its ι l its → Ms (N v) s → Sat (forR l v f) (goFor tg body its s) s.length (ΦN N)
  | [], _, v, s, .nil, m => ⟨_, rfl, s, rfl, m⟩
  | a :: l, _, v, s, .cons (r := its) q r, m => by
    obtain ⟨s1, e1, m1, l1⟩ := ht a v s _ m q
    have h := hb a v s1 m1
    unfold forR goFor
    simp only [e1]
    cases e2 : f a v with
    | bad => trivial
    | exc c =>
      rw [e2] at h
      obtain ⟨s2, e3, l3⟩ := h
      exact ⟨s2, by rw [e3], l3.trans l1⟩
    | ok v1 =>
      rw [e2] at h
      obtain ⟨o, e3, s2, ho, m2⟩ := h
      have ih := go_for hN ht hb v1 s2 r m2
      have l2 : s2.length = s.length := by rw [m2.len, m.len, hN, hN]
      rw [ok_bind, e3]
      have go : Sat (forR l v1 f) (goFor tg body its s2) s.length (ΦN N) := l2 ▸ ih
      rcases ho with rfl | rfl <;> exact go
theorem go_forX {n : Nat} (hN : ∀ v, (N v).length = n) {tg : DT} {f : ι → σ → R (Lp σ τ)} {M : ι → σ → List Pt} (ht : ∀ a v, TG (N v) tg .o (enc a) (M a v)) (hb : ∀ a v, RSt (M a v) body (f a v) (ΦL N Φ)) :
    ∀ {l : List ι} {its : List (D × Ow)} (v : σ) (s : SD), Its ι l its → Ms (N v) s → Sat (forX l v f) (goFor tg body its s) s.length (ΦE N Φ)
  | [], _, v, s, .nil, m => ⟨.next s, rfl, s, rfl, m⟩
  | a :: l, _, v, s, .cons (r := its) q r, m => by
    obtain ⟨s1, e1, m1, l1⟩ := ht a v s _ m q
    have h := hb a v s1 m1
    unfold forX goFor
    simp only [e1]
    cases e2 : f a v with
    | bad => trivial
    | exc c =>
      rw [e2] at h
      obtain ⟨s2, e3, l3⟩ := h
      exact ⟨s2, by rw [e3], l3.trans l1⟩
    | ok w =>
      rw [e2] at h
      obtain ⟨o, e3, ho⟩ := h
      rw [ok_bind, e3]
      cases w with
      | nx v1 =>
        obtain ⟨s2, ho, m2⟩ := ho
        have ih := go_forX hN ht hb v1 s2 r m2
        have l2 : s2.length = s.length := by rw [m2.len, m.len, hN, hN]
        have go : Sat (forX l v1 f) (goFor tg body its s2) s.length (ΦE N Φ) := l2 ▸ ih
        rcases ho with rfl | rfl <;> exact go
      | bk v1 =>
        obtain ⟨s2, rfl, m2⟩ := ho
        exact ⟨.next s2, rfl, s2, rfl, m2⟩
      | out t =>
        obtain ⟨h1, h2⟩ := ho
        cases o with
        | ret d ow => exact ⟨.ret d ow, rfl, h1, trivial⟩
        | _ => exact h2.elim
/-- what is walked -/
def ItE (g : α → List ι) : Prop := ∀ a, itemsOf (enc a) = some ((g a).map enc)
theorem it_L : ItE (fun l : List α => l) := fun _ => rfl
theorem it_S : ItE (fun l : Sc => l.ns) := fun _ => rfl
theorem it_V : ItE (fun l : Tv α => l.l) := fun _ => rfl
theorem it_2 : ItE (fun p : α × α => [p.1, p.2]) := fun _ => rfl
theorem its_some {g : α → List ι} (hg : ItE g) (a : α) : ∃ its, itemsOf (enc a) = some its ∧ Its ι (g a) (noIt its) := ⟨_, hg a, its_no _⟩
theorem rs_loop {β' α' σ' : Type} {V : α' → β' → Prop} {de : DE β'} {x : R α'} {y : α' → R σ'} {Ψ : σ' → Out → Prop} (h : RG ps de x V ps1) (hn : ∀ s, de s = none → a s = none) (hx : ∀ s c s', de s = some (.exc c s') → a s = some (.exc c s'))
    (hk : ∀ u b s s1, de s = some (.ok b s1) → V u b → Ms ps1 s1 → Sat (y u) (a s) s1.length Ψ) : RSt ps a (R.bind x y) Ψ := by
  refine rs_step h hn hx fun u b s s1 e v m l => ?_
  have := hk u b s s1 e v m
  cases e2 : y u with
  | bad => trivial
  | ok t => rw [e2] at this; exact this
  | exc c =>
    rw [e2] at this
    obtain ⟨s', h1, h2⟩ := this
    exact ⟨s', h1, h2.trans l⟩
theorem rs_forC {n : Nat} {tg : DT} {f : ι → σ → R σ} {M : ι → σ → List Pt} {g : α → List ι} {x : R α} {v0 : σ} {k : σ → R τ} (hN : ∀ v, (N v).length = n) (hp : ps.length = n) (hg : ItE g) (hc : RC ps ca x c ps1) (hw : Wk ps1 (N v0)) (ht : ∀ a v, TG (N v) tg .o (enc a) (M a v)) (hb : ∀ a v, RSt (M a v) body (f a v) (ΦC N)) (hk : ∀ v, RSt (N v) rest (k v) Φ) :
    RSt ps (sSeq (sForC tg ca body) rest) (R.bind (R.bind x fun u => forR (g u) v0 f) k) Φ := by
  refine rs_join (N := N) (rs_loop hc (fun s e => by unfold sForC; rw [e]) (fun s c s' e => by unfold sForC; rw [e]) fun u b s s1 e v m => ?_) hk fun v => by rw [hN, hp]
  obtain ⟨d, ow⟩ := b
  obtain ⟨v1, v2⟩ := v
  have v1 : d = enc u := v1
  subst v1
  obtain ⟨its, e2, i2⟩ := its_some hg u
  have h := go_for hN ht hb v0 s1 i2 (m.wk hw)
  have e3 : sForC tg ca body s = goFor tg body (noIt its) s1 := by
    unfold sForC
    simp only [e, e2]
  rw [e3]
  exact h
theorem rs_forCX {n : Nat} {tg : DT} {f : ι → σ → R (Lp σ τ)} {M : ι → σ → List Pt} {g : α → List ι} {x : R α} {v0 : σ} {k : σ → R τ} (hN : ∀ v, (N v).length = n) (hp : ps.length = n) (hg : ItE g) (hc : RC ps ca x c ps1) (hw : Wk ps1 (N v0)) (ht : ∀ a v, TG (N v) tg .o (enc a) (M a v)) (hb : ∀ a v, RSt (M a v) body (f a v) (ΦL N Φ)) (hk : ∀ v, RSt (N v) rest (k v) Φ) :
    RSt ps (sSeq (sForC tg ca body) rest) (R.andThen (R.bind x fun u => forX (g u) v0 f) k) Φ := by
  refine rs_joinE (N := N) (rs_loop hc (fun s e => by unfold sForC; rw [e]) (fun s c s' e => by unfold sForC; rw [e]) fun u b s s1 e v m => ?_) hk fun v => by rw [hN, hp]
  obtain ⟨d, ow⟩ := b
  obtain ⟨v1, v2⟩ := v
  have v1 : d = enc u := v1
  subst v1
  obtain ⟨its, e2, i2⟩ := its_some hg u
  have h := go_forX hN ht hb v0 s1 i2 (m.wk hw)
  have e3 : sForC tg ca body s = goFor tg body (noIt its) s1 := by
    unfold sForC
    simp only [e, e2]
  rw [e3]
  exact h
theorem rs_forR1 {n : Nat} {tg : DT} {f : Int → σ → R σ} {M : Int → σ → List Pt} {x : R Int} {v0 : σ} {k : σ → R τ} (hN : ∀ v, (N v).length = n) (hp : ps.length = n) (hc : RB ps da x ps1) (hw : Wk ps1 (N v0)) (ht : ∀ (a : Int) v, TG (N v) tg .o (enc a) (M a v)) (hb : ∀ a v, RSt (M a v) body (f a v) (ΦC N)) (hk : ∀ v, RSt (N v) rest (k v) Φ) :
    RSt ps (sSeq (sForR tg (dCons da dNil) body) rest) (R.bind (R.bind x fun j => R.bind (rng1 j) fun l => forR l v0 f) k) Φ := by
  have ha : RA ps (dCons da dNil) (R.bind x fun j => .ok (j, ())) (e1 Int) ps1 := ra_cons hc ra_nil
  have := rs_join (N := N) (Φ := Φ) (k := k) (rs_loop (a := sForR tg (dCons da dNil) body) (y := fun g : Int × Unit => R.bind (rng1 g.1) fun l => forR l v0 f) (Ψ := ΦN N) ha (fun s e => by unfold sForR; rw [e]) (fun s c s' e => by unfold sForR; rw [e]) fun u b s s1 e v m => ?_) hk (fun v => by rw [hN, hp])
  · refine RSt.cv this ?_
    congr 1
    rw [bind_bind]
    rfl
  · subst v
    unfold rng1 okIf
    by_cases hr : -(2 ^ 62) ≤ u.1 ∧ u.1 < 2 ^ 62
    · rw [if_pos hr]
      have h := go_for hN ht hb v0 s1 (its_rng 0 u.1.toNat) (m.wk hw)
      have e3 : sForR tg (dCons da dNil) body s = goFor tg body (rngD 0 u.1.toNat) s1 := by
        unfold sForR
        simp only [e, eC, eN, enc, if_pos hr]
      rw [e3]
      exact h
    · rw [if_neg hr]; trivial
theorem rs_forR1X {n : Nat} {tg : DT} {f : Int → σ → R (Lp σ τ)} {M : Int → σ → List Pt} {x : R Int} {v0 : σ} {k : σ → R τ} (hN : ∀ v, (N v).length = n) (hp : ps.length = n) (hc : RB ps da x ps1) (hw : Wk ps1 (N v0)) (ht : ∀ (a : Int) v, TG (N v) tg .o (enc a) (M a v)) (hb : ∀ a v, RSt (M a v) body (f a v) (ΦL N Φ)) (hk : ∀ v, RSt (N v) rest (k v) Φ) :
    RSt ps (sSeq (sForR tg (dCons da dNil) body) rest) (R.andThen (R.bind x fun j => R.bind (rng1 j) fun l => forX l v0 f) k) Φ := by
  have ha : RA ps (dCons da dNil) (R.bind x fun j => .ok (j, ())) (e1 Int) ps1 := ra_cons hc ra_nil
  have := rs_joinE (N := N) (Φ := Φ) (k := k) (rs_loop (a := sForR tg (dCons da dNil) body) (y := fun g : Int × Unit => R.bind (rng1 g.1) fun l => forX l v0 f) (Ψ := ΦE N Φ) ha (fun s e => by unfold sForR; rw [e]) (fun s c s' e => by unfold sForR; rw [e]) fun u b s s1 e v m => ?_) hk (fun v => by rw [hN, hp])
  · refine RSt.cv this ?_
    congr 1
    rw [bind_bind]
    rfl
  · subst v
    unfold rng1 okIf
    by_cases hr : -(2 ^ 62) ≤ u.1 ∧ u.1 < 2 ^ 62
    · rw [if_pos hr]
      have h := go_forX hN ht hb v0 s1 (its_rng 0 u.1.toNat) (m.wk hw)
      have e3 : sForR tg (dCons da dNil) body s = goFor tg body (rngD 0 u.1.toNat) s1 := by
        unfold sForR
        simp only [e, eC, eN, enc, if_pos hr]
      rw [e3]
      exact h
    · rw [if_neg hr]; trivial
theorem rs_forR2 {n : Nat} {tg : DT} {f : Int → σ → R σ} {M : Int → σ → List Pt} {x y : R Int} {v0 : σ} {k : σ → R τ} (hN : ∀ v, (N v).length = n) (hp : ps.length = n) (hc : RB ps da x ps1) (hd : RB ps1 db y ps2) (hw : Wk ps2 (N v0)) (ht : ∀ (a : Int) v, TG (N v) tg .o (enc a) (M a v)) (hb : ∀ a v, RSt (M a v) body (f a v) (ΦC N)) (hk : ∀ v, RSt (N v) rest (k v) Φ) :
    RSt ps (sSeq (sForR tg (dCons da (dCons db dNil)) body) rest) (R.bind (R.bind x fun i => R.bind y fun j => R.bind (rng2 i j) fun l => forR l v0 f) k) Φ := by
  have ha : RA ps (dCons da (dCons db dNil)) (R.bind x fun i => R.bind (R.bind y fun j => .ok (j, ())) fun p => .ok (i, p)) (e2 Int Int) ps2 := ra_cons hc (ra_cons hd ra_nil)
  have := rs_join (N := N) (Φ := Φ) (k := k) (rs_loop (a := sForR tg (dCons da (dCons db dNil)) body) (y := fun g : Int × Int × Unit => R.bind (rng2 g.1 g.2.1) fun l => forR l v0 f) (Ψ := ΦN N) ha (fun s e => by unfold sForR; rw [e]) (fun s c s' e => by unfold sForR; rw [e]) fun u b s s1 e v m => ?_) hk (fun v => by rw [hN, hp])
  · refine RSt.cv this ?_
    congr 1
    rw [bind_bind]
    congr 1
    funext i
    rw [bind_bind, bind_bind]
    rfl
  · subst v
    unfold rng2 okIf
    by_cases hr : -(2 ^ 62) ≤ u.1 ∧ u.1 < 2 ^ 62 ∧ -(2 ^ 62) ≤ u.2.1 ∧ u.2.1 < 2 ^ 62
    · rw [if_pos hr]
      have h := go_for hN ht hb v0 s1 (its_rng u.1 (u.2.1 - u.1).toNat) (m.wk hw)
      have e3 : sForR tg (dCons da (dCons db dNil)) body s = goFor tg body (rngD u.1 (u.2.1 - u.1).toNat) s1 := by
        unfold sForR
        simp only [e, eC, eN, enc, if_pos hr]
      rw [e3]
      exact h
    · rw [if_neg hr]; trivial
theorem rs_forR2X {n : Nat} {tg : DT} {f : Int → σ → R (Lp σ τ)} {M : Int → σ → List Pt} {x y : R Int} {v0 : σ} {k : σ → R τ} (hN : ∀ v, (N v).length = n) (hp : ps.length = n) (hc : RB ps da x ps1) (hd : RB ps1 db y ps2) (hw : Wk ps2 (N v0)) (ht : ∀ (a : Int) v, TG (N v) tg .o (enc a) (M a v)) (hb : ∀ a v, RSt (M a v) body (f a v) (ΦL N Φ)) (hk : ∀ v, RSt (N v) rest (k v) Φ) :
    RSt ps (sSeq (sForR tg (dCons da (dCons db dNil)) body) rest) (R.andThen (R.bind x fun i => R.bind y fun j => R.bind (rng2 i j) fun l => forX l v0 f) k) Φ := by
  have ha : RA ps (dCons da (dCons db dNil)) (R.bind x fun i => R.bind (R.bind y fun j => .ok (j, ())) fun p => .ok (i, p)) (e2 Int Int) ps2 := ra_cons hc (ra_cons hd ra_nil)
  have := rs_joinE (N := N) (Φ := Φ) (k := k) (rs_loop (a := sForR tg (dCons da (dCons db dNil)) body) (y := fun g : Int × Int × Unit => R.bind (rng2 g.1 g.2.1) fun l => forX l v0 f) (Ψ := ΦE N Φ) ha (fun s e => by unfold sForR; rw [e]) (fun s c s' e => by unfold sForR; rw [e]) fun u b s s1 e v m => ?_) hk (fun v => by rw [hN, hp])
  · refine RSt.cv this ?_
    congr 1
    rw [bind_bind]
    congr 1
    funext i
    rw [bind_bind, bind_bind]
    rfl
  · subst v
    unfold rng2 okIf
    by_cases hr : -(2 ^ 62) ≤ u.1 ∧ u.1 < 2 ^ 62 ∧ -(2 ^ 62) ≤ u.2.1 ∧ u.2.1 < 2 ^ 62
    · rw [if_pos hr]
      have h := go_forX hN ht hb v0 s1 (its_rng u.1 (u.2.1 - u.1).toNat) (m.wk hw)
      have e3 : sForR tg (dCons da (dCons db dNil)) body s = goFor tg body (rngD u.1 (u.2.1 - u.1).toNat) s1 := by
        unfold sForR
        simp only [e, eC, eN, enc, if_pos hr]
      rw [e3]
      exact h
    · rw [if_neg hr]; trivial
end
end Dv

namespace Dv
open Enc (enc)
open PySem L2

section
variable {ι σ τ ρ α β γ δ : Type} [Enc ι] [Enc ρ] [Enc α] [Enc β] [Enc γ] [Enc δ] {ps ps1 ps2 ps3 : List Pt} {da db : DE D} {ca cb : DE (D × Ow)} {c c1 c2 : Oc} {dt : DE Bool} {a b rest body : DS} {Φ : τ → Out → Prop} {N : σ → List Pt} {v : σ}
/-! ### while -/
theorem go_wh {n : Nat} (hN : ∀ v, (N v).length = n) {t : σ → R Bool} {f : σ → R σ} (hc : ∀ v, RT (N v) dt (t v) (N v)) (hb : ∀ v, RSt (N v) body (f v) (ΦC N)) : ∀ (k : Nat) (v : σ) (s : SD), Ms (N v) s → Sat (whN t f k v) (goWh dt body k s) s.length (ΦN N)
  | 0, v, s, m => trivial
  | k + 1, v, s, m => by
    have h := hc v s m
    unfold whN goWh
    cases e : t v with
    | bad => trivial
    | exc c =>
      rw [e] at h
      obtain ⟨s1, e1, l1⟩ := h
      exact ⟨s1, by rw [e1], l1⟩
    | ok w =>
      rw [e] at h
      obtain ⟨w', s1, e1, rfl, m1, l1⟩ := h
      rw [ok_bind, e1]
      cases w' with
      | false => exact ⟨_, rfl, s1, rfl, m1⟩
      | true =>
        rw [if_pos rfl]
        have h2 := hb v s1 m1
        show Sat _ (match body s1 with
          | some (.next s2) => goWh dt body k s2
          | some (.cont s2) => goWh dt body k s2
          | some (.brk s2) => some (.next s2)
          | x => x) _ _
        cases e2 : f v with
        | bad => trivial
        | exc c =>
          rw [e2] at h2
          obtain ⟨s2, e3, l3⟩ := h2
          exact ⟨s2, by rw [e3], l3.trans l1⟩
        | ok v1 =>
          rw [e2] at h2
          obtain ⟨o, e3, s2, ho, m2⟩ := h2
          have ih := go_wh hN hc hb k v1 s2 m2
          have l2 : s2.length = s.length := by rw [m2.len, m.len, hN, hN]
          rw [ok_bind, e3]
          have go : Sat (whN t f k v1) (goWh dt body k s2) s.length (ΦN N) := l2 ▸ ih
          rcases ho with rfl | rfl <;> exact go
theorem go_whX {n : Nat} (hN : ∀ v, (N v).length = n) {t : σ → R Bool} {f : σ → R (Lp σ τ)} (hc : ∀ v, RT (N v) dt (t v) (N v)) (hb : ∀ v, RSt (N v) body (f v) (ΦL N Φ)) : ∀ (k : Nat) (v : σ) (s : SD), Ms (N v) s → Sat (whXN t f k v) (goWh dt body k s) s.length (ΦE N Φ)
  | 0, v, s, m => trivial
  | k + 1, v, s, m => by
    have h := hc v s m
    unfold whXN goWh
    cases e : t v with
    | bad => trivial
    | exc c =>
      rw [e] at h
      obtain ⟨s1, e1, l1⟩ := h
      exact ⟨s1, by rw [e1], l1⟩
    | ok w =>
      rw [e] at h
      obtain ⟨w', s1, e1, rfl, m1, l1⟩ := h
      rw [ok_bind, e1]
      cases w' with
      | false => exact ⟨_, rfl, s1, rfl, m1⟩
      | true =>
        rw [if_pos rfl]
        have h2 := hb v s1 m1
        show Sat _ (match body s1 with
          | some (.next s2) => goWh dt body k s2
          | some (.cont s2) => goWh dt body k s2
          | some (.brk s2) => some (.next s2)
          | x => x) _ _
        cases e2 : f v with
        | bad => trivial
        | exc c =>
          rw [e2] at h2
          obtain ⟨s2, e3, l3⟩ := h2
          exact ⟨s2, by rw [e3], l3.trans l1⟩
        | ok w =>
          rw [e2] at h2
          obtain ⟨o, e3, ho⟩ := h2
          rw [ok_bind, e3]
          cases w with
          | nx v1 =>
            obtain ⟨s2, ho, m2⟩ := ho
            have ih := go_whX hN hc hb k v1 s2 m2
            have l2 : s2.length = s.length := by rw [m2.len, m.len, hN, hN]
            have go : Sat (whXN t f k v1) (goWh dt body k s2) s.length (ΦE N Φ) := l2 ▸ ih
            rcases ho with rfl | rfl <;> exact go
          | bk v1 =>
            obtain ⟨s2, rfl, m2⟩ := ho
            exact ⟨.next s2, rfl, s2, rfl, m2⟩
          | out t =>
            obtain ⟨h1, h2⟩ := ho
            cases o with
            | ret d ow => exact ⟨.ret d ow, rfl, h1, trivial⟩
            | _ => exact h2.elim
theorem rs_wh {n : Nat} {t : σ → R Bool} {f : σ → R σ} {v0 : σ} {k : σ → R τ} (hN : ∀ v, (N v).length = n) (hp : ps.length = n) (hw : Wk ps (N v0)) (hc : ∀ v, RT (N v) dt (t v) (N v)) (hb : ∀ v, RSt (N v) body (f v) (ΦC N)) (hk : ∀ v, RSt (N v) rest (k v) Φ) :
    RSt ps (sSeq (sWhile dt body) rest) (R.bind (whR v0 t f) k) Φ :=
  rs_join (N := N) (.mk fun s hs => go_wh hN hc hb fuel v0 s (hs.wk hw)) hk fun v => by rw [hN, hp]
theorem rs_whX {n : Nat} {t : σ → R Bool} {f : σ → R (Lp σ τ)} {v0 : σ} {k : σ → R τ} (hN : ∀ v, (N v).length = n) (hp : ps.length = n) (hw : Wk ps (N v0)) (hc : ∀ v, RT (N v) dt (t v) (N v)) (hb : ∀ v, RSt (N v) body (f v) (ΦL N Φ)) (hk : ∀ v, RSt (N v) rest (k v) Φ) :
    RSt ps (sSeq (sWhile dt body) rest) (R.andThen (whX v0 t f) k) Φ :=
  rs_joinE (N := N) (.mk fun s hs => go_whX hN hc hb fuel v0 s (hs.wk hw)) hk fun v => by rw [hN, hp]
/-! ### comprehensions -/
def fzO : List Pt → List Pt
  | [] => []
  | .x :: ps => .x :: fzO ps
  | .h _ d :: ps => .h .o d :: fzO ps
theorem Ms.fzO : ∀ {ps : List Pt} {s : SD}, Ms ps s → Ms (fzO ps) (fzAll s)
  | [], [], _ => trivial
  | [], _ :: _, h => h.elim
  | _ :: _, [], h => h.elim
  | .x :: _, _ :: _, h => ⟨trivial, Ms.fzO h.2⟩
  | .h c d :: _, _ :: _, h => ⟨by
      obtain ⟨ow, rfl, q⟩ := h.1
      exact ⟨.no, rfl, .inl rfl⟩, Ms.fzO h.2⟩
def mOc : Bool → Oc
  | true => .f
  | false => .o
theorem go_cmp {m : Bool} {tg : DT} {cond : DE Bool} {elt : DE (D × Ow)} {own : List Nat} {t : ι → R Bool} {f : ι → R α} {P0 : List Pt} {M M' Q : ι → List Pt} (ht : ∀ a, TG P0 tg .o (enc a) (M a)) (hc : ∀ a, RT (M a) cond (t a) (M' a)) (he : ∀ a, RC (M' a) elt (f a) (mOc m) (Q a))
    (w1 : ∀ a, Wk (wipeP own (M' a)) P0) (w2 : ∀ a, Wk (wipeP own (Q a)) P0) : ∀ {l : List ι} {its : List (D × Ow)} (acc : List α) (s : SD), Its ι l its → Ms P0 s →
      Ho (cmpGo (fun a => R.bind (t a) fun t => if t = true then R.bind (f a) fun b => .ok (some b) else .ok none) l acc) fun es => ∃ s', goC m tg cond elt own its (acc.map enc) s = some (.ok (es.map enc) s') ∧ Ms P0 s' ∧ s'.length = s.length
  | [], _, acc, s, .nil, hs => ⟨s, rfl, hs, rfl⟩
  | a :: l, _, acc, s, .cons (r := its) q r, hs => by
    obtain ⟨s1, e1, m1, l1⟩ := ht a s _ hs q
    have h := hc a s1 m1
    unfold cmpGo goC
    simp only [e1]
    cases e2 : t a with
    | bad => trivial
    | exc c => trivial
    | ok w =>
      rw [e2] at h
      obtain ⟨w', s2, e3, rfl, m2, l2⟩ := h
      rw [ok_bind, e3]
      cases w' with
      | false =>
        have lw : (wipeD own s2).length = s.length := by rw [wipe_len, l2, l1]
        have ih := go_cmp ht hc he w1 w2 (l := l) (its := its) acc (wipeD own s2) r ((m2.wipe own).wk (w1 a))
        rw [lw] at ih
        exact ih
      | true =>
        rw [if_pos rfl]
        have h2 := he a s2 m2
        cases e4 : f a with
        | bad => trivial
        | exc c => trivial
        | ok b =>
          rw [e4] at h2
          obtain ⟨⟨d, ow⟩, s3, e5, ⟨v1, v2⟩, m3, l3⟩ := h2
          have v1 : d = enc b := v1
          subst v1
          have lw : (wipeD own s3).length = s.length := by rw [wipe_len, l3, l2, l1]
          show Ho (if acc.length < 1000000 then _ else _) _
          by_cases hz : acc.length < 1000000
          · rw [if_pos hz]
            have ih := go_cmp ht hc he w1 w2 (l := l) (its := its) (acc ++ [b]) (wipeD own s3) r ((m3.wipe own).wk (w2 a))
            have ho : okE m (enc b) ow = true := by
              cases m with
              | true =>
                have v2 : ow = .full := v2
                simp [okE, v2]
              | false =>
                rcases v2 with v2 | ⟨v2, _⟩
                · have v2 : ow = .no := v2
                  simp [okE, v2]
                · simp [okE, v2]
            simp only [e5, ho, List.length_map, hz, decide_true, Bool.and_self, if_true]
            rw [lw, List.map_append] at ih
            exact ih
          · rw [if_neg hz]; trivial
theorem cmpI_true (l : List ι) (f : ι → R α) : cmpI l (fun _ => .ok true) f = cmpR l f := rfl
section
variable {tg : DT} {cond : DE Bool} {elt : DE (D × Ow)} {own : List Nat} {t : ι → R Bool} {f : ι → R α} {M M' Q : ι → List Pt}
theorem rc_cmp {x : R β} {g : β → List ι} (hg : ItE g) (hs : RB ps da x ps1) (ht : ∀ a, TG (wipeP own (fzO ps1)) tg .o (enc a) (M a)) (hc : ∀ a, RT (M a) cond (t a) (M' a)) (he : ∀ a, RC (M' a) elt (f a) .f (Q a))
    (w1 : ∀ a, Wk (wipeP own (M' a)) (wipeP own (fzO ps1))) (w2 : ∀ a, Wk (wipeP own (Q a)) (wipeP own (fzO ps1))) : RC ps (cComp true tg own da cond elt) (R.bind x fun u => cmpI (g u) t f) .f ps1 := by
  refine ⟨fun s h0 => ?_⟩
  have h := hs s h0
  cases x with
  | bad => trivial
  | exc c =>
    obtain ⟨s1, e, l⟩ := h
    exact ⟨s1, by unfold cComp; rw [e], l⟩
  | ok u =>
    obtain ⟨d, s1, e, v, m, l⟩ := h
    have v : d = enc u := v
    subst v
    have k := go_cmp (m := true) ht hc he w1 w2 (l := g u) [] (wipeD own (fzAll s1)) (its_no _) (m.fzO.wipe own)
    rw [ok_bind]
    unfold cmpI
    cases e2 : cmpGo (fun a => R.bind (t a) fun t => if t = true then R.bind (f a) fun b => .ok (some b) else .ok none) (g u) [] with
    | bad => trivial
    | exc c => rw [e2] at k; exact k.elim
    | ok es =>
      rw [e2] at k
      obtain ⟨s2, e3, m2, l2⟩ := k
      exact ⟨(.lst (es.map enc), .full), s1, by unfold cComp; simp only [e, hg u]; simp only [List.map_nil] at e3; rw [e3]; rfl, ⟨rfl, rfl⟩, m, l⟩
theorem rc_cmpT {x : R β} {g : β → List ι} (hg : ItE g) (hs : RB ps da x ps1) (ht : ∀ a, TG (wipeP own (fzO ps1)) tg .o (enc a) (M a)) (hc : ∀ a, RT (M a) cond (t a) (M' a)) (he : ∀ a, RC (M' a) elt (f a) .o (Q a))
    (w1 : ∀ a, Wk (wipeP own (M' a)) (wipeP own (fzO ps1))) (w2 : ∀ a, Wk (wipeP own (Q a)) (wipeP own (fzO ps1))) : RC ps (cComp false tg own da cond elt) (R.bind x fun u => cmpI (g u) t f) .t (wipeP own (fzO ps1)) := by
  refine ⟨fun s h0 => ?_⟩
  have h := hs s h0
  cases x with
  | bad => trivial
  | exc c =>
    obtain ⟨s1, e, l⟩ := h
    exact ⟨s1, by unfold cComp; rw [e], l⟩
  | ok u =>
    obtain ⟨d, s1, e, v, m, l⟩ := h
    have v : d = enc u := v
    subst v
    have k := go_cmp (m := false) ht hc he w1 w2 (l := g u) [] (wipeD own (fzAll s1)) (its_no _) (m.fzO.wipe own)
    rw [ok_bind]
    unfold cmpI
    cases e2 : cmpGo (fun a => R.bind (t a) fun t => if t = true then R.bind (f a) fun b => .ok (some b) else .ok none) (g u) [] with
    | bad => trivial
    | exc c => rw [e2] at k; exact k.elim
    | ok es =>
      rw [e2] at k
      obtain ⟨s2, e3, m2, l2⟩ := k
      exact ⟨(.lst (es.map enc), .top), s2, by unfold cComp; simp only [e, hg u]; simp only [List.map_nil] at e3; rw [e3]; rfl, ⟨rfl, rfl⟩, m2, by rw [l2, wipe_len, fzAll_len, l]⟩
end
section
variable {tg : DT} {cond : DE Bool} {elt : DE (D × Ow)} {own : List Nat} {t : Int → R Bool} {f : Int → R α} {M M' Q : Int → List Pt}
theorem rc_cmp1 {x : R Int} (hs : RB ps da x ps1) (ht : ∀ a : Int, TG (wipeP own (fzO ps1)) tg .o (enc a) (M a)) (hc : ∀ a, RT (M a) cond (t a) (M' a)) (he : ∀ a, RC (M' a) elt (f a) .f (Q a))
    (w1 : ∀ a, Wk (wipeP own (M' a)) (wipeP own (fzO ps1))) (w2 : ∀ a, Wk (wipeP own (Q a)) (wipeP own (fzO ps1))) : RC ps (cCmpR true tg own (dCons da dNil) cond elt) (R.bind x fun j => R.bind (rng1 j) fun l => cmpI l t f) .f ps1 := by
  refine ⟨fun s h0 => ?_⟩
  have ha : RA ps (dCons da dNil) (R.bind x fun j => .ok (j, ())) (e1 Int) ps1 := ra_cons hs ra_nil
  have h := ha s h0
  cases x with
  | bad => trivial
  | exc c =>
    obtain ⟨s1, e, l⟩ := h
    exact ⟨s1, by unfold cCmpR; rw [e], l⟩
  | ok u =>
    obtain ⟨d, s1, e, v, m, l⟩ := h
    have v : d = [.int u] := v
    subst v
    rw [ok_bind]
    unfold rng1 okIf
    by_cases hr : -(2 ^ 62) ≤ u ∧ u < 2 ^ 62
    case neg => rw [if_neg hr]; trivial
    rw [if_pos hr, ok_bind]
    have k := go_cmp (m := true) ht hc he w1 w2 (l := rngL 0 u.toNat) [] (wipeD own (fzAll s1)) (its_rng 0 u.toNat) (m.fzO.wipe own)
    unfold cmpI
    cases e2 : cmpGo (fun a => R.bind (t a) fun t => if t = true then R.bind (f a) fun b => .ok (some b) else .ok none) (rngL 0 u.toNat) [] with
    | bad => trivial
    | exc c => rw [e2] at k; exact k.elim
    | ok es =>
      rw [e2] at k
      obtain ⟨s2, e3, m2, l2⟩ := k
      exact ⟨(.lst (es.map enc), .full), s1, by unfold cCmpR; simp only [e, if_pos hr]; simp only [List.map_nil] at e3; rw [e3]; rfl, ⟨rfl, rfl⟩, m, l⟩
theorem rc_cmp2 {x y : R Int} (hs : RB ps da x ps1) (hs2 : RB ps1 db y ps2) (ht : ∀ a : Int, TG (wipeP own (fzO ps2)) tg .o (enc a) (M a)) (hc : ∀ a, RT (M a) cond (t a) (M' a)) (he : ∀ a, RC (M' a) elt (f a) .f (Q a))
    (w1 : ∀ a, Wk (wipeP own (M' a)) (wipeP own (fzO ps2))) (w2 : ∀ a, Wk (wipeP own (Q a)) (wipeP own (fzO ps2))) : RC ps (cCmpR2 true tg own (dCons da (dCons db dNil)) cond elt) (R.bind x fun i => R.bind y fun j => R.bind (rng2 i j) fun l => cmpI l t f) .f ps2 := by
  refine ⟨fun s h0 => ?_⟩
  have ha : RA ps (dCons da (dCons db dNil)) (R.bind x fun i => R.bind (R.bind y fun j => .ok (j, ())) fun p => .ok (i, p)) (e2 Int Int) ps2 := ra_cons hs (ra_cons hs2 ra_nil)
  have h := ha s h0
  cases x with
  | bad => trivial
  | exc c =>
    obtain ⟨s1, e, l⟩ := h
    exact ⟨s1, by unfold cCmpR2; rw [e], l⟩
  | ok u =>
    cases y with
    | bad => trivial
    | exc c =>
      obtain ⟨s1, e, l⟩ := h
      exact ⟨s1, by unfold cCmpR2; rw [e], l⟩
    | ok w =>
      obtain ⟨d, s1, e, v, m, l⟩ := h
      have v : d = [.int u, .int w] := v
      subst v
      rw [ok_bind, ok_bind]
      unfold rng2 okIf
      by_cases hr : -(2 ^ 62) ≤ u ∧ u < 2 ^ 62 ∧ -(2 ^ 62) ≤ w ∧ w < 2 ^ 62
      case neg => rw [if_neg hr]; trivial
      rw [if_pos hr, ok_bind]
      have k := go_cmp (m := true) ht hc he w1 w2 (l := rngL u (w - u).toNat) [] (wipeD own (fzAll s1)) (its_rng u (w - u).toNat) (m.fzO.wipe own)
      unfold cmpI
      cases e2 : cmpGo (fun a => R.bind (t a) fun t => if t = true then R.bind (f a) fun b => .ok (some b) else .ok none) (rngL u (w - u).toNat) [] with
      | bad => trivial
      | exc c => rw [e2] at k; exact k.elim
      | ok es =>
        rw [e2] at k
        obtain ⟨s2, e3, m2, l2⟩ := k
        exact ⟨(.lst (es.map enc), .full), s1, by unfold cCmpR2; simp only [e, if_pos hr]; simp only [List.map_nil] at e3; rw [e3]; rfl, ⟨rfl, rfl⟩, m, l⟩
end
theorem rt_yes : RT ps (fun s => some (.ok true s)) (.ok true) ps := RG.pure rfl
/-! ### lists put otherwise -/
theorem rs_app {x : R α} {k : List α → R τ} {l : List α} (i : Nat) (h0 : ps.getD i .x = .h .f (enc l)) (hc : RC ps ca x .f ps1) (h1 : ps1.getD i .x = .h .f (enc l)) (hb : ∀ l', RSt (ps1.set i (.h .f (enc l'))) rest (k l') Φ) : RSt ps (sSeq (sApp i ca) rest) (R.bind x fun a => R.bind (appR l a) k) Φ := by
  refine ⟨fun s hs => ?_⟩
  obtain ⟨ow0, g0, q0⟩ := hs.get h0
  have q0 : ow0 = .full := q0
  subst q0
  have h := hc s hs
  have st : ∀ r, ca s = r → sApp i ca s = match r with
    | some (.ok (e, eo) s1) => match s1[i]? with
      | some (some (.lst ds, .full)) => if eo = .full ∧ ds.length < 1000000 then some (.next (s1.set i (some (.lst (ds ++ [e]), .full)))) else none
      | some (some (.lst ds, .top)) => if ds.length < 1000000 then some (.next (s1.set i (some (.lst (ds ++ [e]), .top)))) else none
      | _ => none
    | some (.exc x s1) => some (.exc x s1)
    | none => none := fun r hr => by
      unfold sApp
      rw [g0, hr]
      rfl
  cases x with
  | bad => trivial
  | exc c =>
    obtain ⟨s1, e, l1⟩ := h
    exact ⟨s1, by unfold sSeq; rw [st _ e], l1⟩
  | ok u =>
    obtain ⟨⟨d, ow⟩, s1, e, ⟨v1, v2⟩, m, l1⟩ := h
    have v1 : d = enc u := v1
    have v2 : ow = .full := v2
    subst v1 v2
    obtain ⟨ow1, g1, q1⟩ := m.get h1
    have q1 : ow1 = .full := q1
    subst q1
    show Sat (R.bind (appR l u) k) _ _ _
    unfold appR okIf
    by_cases hz : l.length < 1000000
    · rw [if_pos hz]
      refine (hb (l ++ [u])).at (m.set i ⟨.full, rfl, rfl⟩) (by simpa using l1) ?_
      unfold sSeq
      rw [st _ e]
      simp only [g1]
      have : (l.map (enc : α → D)).length < 1000000 := by simpa using hz
      simp only [enc] at this ⊢
      rw [if_pos (by simpa using this)]
      simp
    · rw [if_neg hz]; trivial
theorem rs_appT {x : R α} {k : List α → R τ} {l : List α} (i : Nat) (h0 : ps.getD i .x = .h .t (enc l)) (hc : RC ps ca x c ps1) (h1 : ps1.getD i .x = .h .t (enc l)) (hb : ∀ l', RSt (ps1.set i (.h .t (enc l'))) rest (k l') Φ) : RSt ps (sSeq (sApp i ca) rest) (R.bind x fun a => R.bind (appR l a) k) Φ := by
  refine ⟨fun s hs => ?_⟩
  obtain ⟨ow0, g0, q0⟩ := hs.get h0
  have q0 : ow0 = .top := q0
  subst q0
  have h := hc s hs
  have st : ∀ r, ca s = r → sApp i ca s = match r with
    | some (.ok (e, eo) s1) => match s1[i]? with
      | some (some (.lst ds, .full)) => if eo = .full ∧ ds.length < 1000000 then some (.next (s1.set i (some (.lst (ds ++ [e]), .full)))) else none
      | some (some (.lst ds, .top)) => if ds.length < 1000000 then some (.next (s1.set i (some (.lst (ds ++ [e]), .top)))) else none
      | _ => none
    | some (.exc x s1) => some (.exc x s1)
    | none => none := fun r hr => by
      unfold sApp
      rw [g0, hr]
      rfl
  cases x with
  | bad => trivial
  | exc c =>
    obtain ⟨s1, e, l1⟩ := h
    exact ⟨s1, by unfold sSeq; rw [st _ e], l1⟩
  | ok u =>
    obtain ⟨⟨d, ow⟩, s1, e, ⟨v1, v2⟩, m, l1⟩ := h
    have v1 : d = enc u := v1
    subst v1
    obtain ⟨ow1, g1, q1⟩ := m.get h1
    have q1 : ow1 = .top := q1
    subst q1
    show Sat (R.bind (appR l u) k) _ _ _
    unfold appR okIf
    by_cases hz : l.length < 1000000
    · rw [if_pos hz]
      refine (hb (l ++ [u])).at (m.set i ⟨.top, rfl, rfl⟩) (by simpa using l1) ?_
      unfold sSeq
      rw [st _ e]
      simp only [g1]
      have : (l.map (enc : α → D)).length < 1000000 := by simpa using hz
      simp only [enc] at this ⊢
      rw [if_pos this]
      simp
    · rw [if_neg hz]; trivial
/-! ### defs -/
def FRs {γ : Type} (el : γ → List D) (df : DF) (n : γ → R ρ) (c : Oc) (g : γ) : Prop := match n g with
  | .ok r => ∃ ow, df (el g) = some (.ret (enc r) ow) ∧ c.ok (enc r) ow
  | .exc k => df (el g) = some (.exc k)
  | .bad => True
structure FR {γ : Type} (el : γ → List D) (df : DF) (n : γ → R ρ) (c : Oc) : Prop where
  of ::
  h : ∀ g, FRs el df n c g
instance {γ : Type} {el : γ → List D} {df : DF} {n : γ → R ρ} {c : Oc} : CoeFun (FR el df n c) (fun _ => ∀ g, FRs el df n c g) := ⟨FR.h⟩
def stP (ds : List D) (n : Nat) : List Pt := ds.map (Pt.h .o) ++ List.replicate (n - ds.length) .x
theorem Ms.app : ∀ {ps qs : List Pt} {s t : SD}, Ms ps s → Ms qs t → Ms (ps ++ qs) (s ++ t)
  | [], _, [], _, _, h => h
  | [], _, _ :: _, _, h, _ => h.elim
  | _ :: _, _, [], _, h, _ => h.elim
  | _ :: _, _, _ :: _, _, h, q => ⟨h.1, Ms.app h.2 q⟩
theorem Ms.rep : ∀ n, Ms (List.replicate n .x) (List.replicate n none)
  | 0 => trivial
  | n + 1 => ⟨trivial, Ms.rep n⟩
theorem Ms.st (ds : List D) (n : Nat) : Ms (stP ds n) (stD ds n) := by
  refine Ms.app ?_ (Ms.rep _)
  induction ds with
  | nil => trivial
  | cons d ds ih => exact ⟨⟨.no, rfl, .inl rfl⟩, ih⟩
theorem FR.mk {γ : Type} {el : γ → List D} {n : γ → R ρ} {k m : Nat} (hl : ∀ g, (el g).length = k) (h : ∀ g, RSt (stP (el g) m) body (n g) (ΦR c)) (hcf : nt c) : FR el (dFn k m body) n c := by
  refine ⟨fun g => ?_⟩
  have h := h g _ (Ms.st (el g) m)
  have e0 : dFn k m body (el g) = outF (body (stD (el g) m)) := by
    unfold dFn
    rw [if_pos (hl g)]
    rfl
  unfold FRs
  rw [e0]
  cases e : n g with
  | bad => trivial
  | exc q =>
    rw [e] at h
    obtain ⟨s', e1, _⟩ := h
    show outF _ = _
    rw [e1]
    rfl
  | ok r =>
    rw [e] at h
    obtain ⟨o, e1, h2⟩ := h
    show ∃ ow, outF _ = _ ∧ _
    rw [e1]
    rcases h2 with ⟨ow, rfl, q⟩ | ⟨s', rfl, q⟩
    · exact ⟨ow, rfl, q⟩
    · exact ⟨.full, by rw [q]; rfl, by
        cases c with
        | f => rfl
        | o => exact .inr ⟨by rw [q]; rfl, rfl⟩
        | n => trivial
        | t => exact hcf.elim⟩
def callF (o : Option Fo) (s : SD) : Option (Er (D × Ow)) := match o with
  | some (.ret d ow) => if imm d || decide (ow = .full) then some (.ok (d, .full) s) else some (.ok (d, ow) (fzAll s))
  | some (.exc c) => some (.exc c s)
  | none => none
theorem rc_call {γ : Type} {el : γ → List D} {df : DF} {n : γ → R ρ} {x : R γ} {dr : DE (List D)} (hf : FR el df n .f) (ha : RA ps dr x el ps1) : RC ps (cCall df dr) (R.bind x n) .f ps1 :=
  RG.bnd ha fun g ds v => by
    subst v
    refine ⟨fun s hs => ?_⟩
    have h := hf g
    unfold FRs at h
    cases e : n g with
    | bad => trivial
    | exc q =>
      rw [e] at h
      exact ⟨s, by show callF (df (el g)) s = _; rw [h]; rfl, rfl⟩
    | ok r =>
      rw [e] at h
      obtain ⟨ow, e1, q⟩ := h
      have q : ow = .full := q
      subst q
      exact ⟨(enc r, .full), s, by show callF (df (el g)) s = _; rw [e1]; simp [callF], ⟨rfl, rfl⟩, hs, rfl⟩
theorem rc_callI [Imm ρ] {γ : Type} {el : γ → List D} {df : DF} {n : γ → R ρ} {x : R γ} {dr : DE (List D)} (hf : FR el df n c) (ha : RA ps dr x el ps1) : RC ps (cCall df dr) (R.bind x n) .f ps1 :=
  RG.bnd ha fun g ds v => by
    subst v
    refine ⟨fun s hs => ?_⟩
    have h := hf g
    unfold FRs at h
    cases e : n g with
    | bad => trivial
    | exc q =>
      rw [e] at h
      exact ⟨s, by show callF (df (el g)) s = _; rw [h]; rfl, rfl⟩
    | ok r =>
      rw [e] at h
      obtain ⟨ow, e1, q⟩ := h
      exact ⟨(enc r, .full), s, by show callF (df (el g)) s = _; rw [e1]; simp [callF, Imm.im], ⟨rfl, rfl⟩, hs, rfl⟩
theorem rc_callN {γ : Type} {el : γ → List D} {df : DF} {n : γ → R ρ} {x : R γ} {dr : DE (List D)} (hf : FR el df n c) (ha : RA ps dr x el ps1) : RC ps (cCall df dr) (R.bind x n) .n (fzP ps1) :=
  RG.bnd ha fun g ds v => by
    subst v
    refine ⟨fun s hs => ?_⟩
    have h := hf g
    unfold FRs at h
    cases e : n g with
    | bad => trivial
    | exc q =>
      rw [e] at h
      exact ⟨s, by show callF (df (el g)) s = _; rw [h]; rfl, rfl⟩
    | ok r =>
      rw [e] at h
      obtain ⟨ow, e1, q⟩ := h
      by_cases hh : (imm (enc r) || decide (ow = .full)) = true
      · exact ⟨(enc r, .full), s, by show callF (df (el g)) s = _; rw [e1]; exact if_pos hh, ⟨rfl, trivial⟩, hs.fzle, rfl⟩
      · exact ⟨(enc r, ow), fzAll s, by show callF (df (el g)) s = _; rw [e1]; exact if_neg hh, ⟨rfl, trivial⟩, hs.fz, fzAll_len s⟩
theorem rc_callO {γ : Type} {el : γ → List D} {df : DF} {n : γ → R ρ} {x : R γ} {dr : DE (List D)} (hf : FR el df n .o) (ha : RA ps dr x el ps1) : RC ps (cCall df dr) (R.bind x n) .o (fzP ps1) :=
  RG.bnd ha fun g ds v => by
    subst v
    refine ⟨fun s hs => ?_⟩
    have h := hf g
    unfold FRs at h
    cases e : n g with
    | bad => trivial
    | exc q =>
      rw [e] at h
      exact ⟨s, by show callF (df (el g)) s = _; rw [h]; rfl, rfl⟩
    | ok r =>
      rw [e] at h
      obtain ⟨ow, e1, q⟩ := h
      by_cases hi : imm (enc r) = true
      · exact ⟨(enc r, .full), s, by show callF (df (el g)) s = _; rw [e1]; simp [callF, hi], ⟨rfl, .inr ⟨hi, rfl⟩⟩, hs.fzle, rfl⟩
      · rcases q with q | q
        · subst q
          exact ⟨(enc r, .no), fzAll s, by show callF (df (el g)) s = _; rw [e1]; simp [callF, hi], ⟨rfl, .inl rfl⟩, hs.fz, fzAll_len s⟩
        · exact absurd q.1 hi
/-- the law's end -/
theorem law_of {n : Sc → R Bool} {df : DF} {c : Oc} (hf : FR (e1 Sc) df (fun g => n g.1) c) (ns : List Int) (h : n ⟨ns⟩ = .ok true) : ∃ ow, df [.sc (ns.map D.int)] = some (.ret (.bl true) ow) := by
  have := hf (⟨ns⟩, ())
  unfold FRs at this
  dsimp only at this
  rw [h] at this
  obtain ⟨ow, e, _⟩ := this
  exact ⟨ow, e⟩
end
end Dv

namespace Dv
open Enc (enc)
open PySem L2

/-- a place within a thing -/
structure Loc (α β : Type) where
  cur : β
  put : β → R α
section
variable {ι σ τ ρ α β γ δ : Type} [Enc ι] [Enc ρ] [Enc α] [Enc β] [Enc γ] [Enc δ] {ps ps1 ps2 ps3 : List Pt} {da db dk : DE D} {ca cb : DE (D × Ow)} {c c1 c2 : Oc} {dt : DE Bool} {a b rest body : DS} {Φ : τ → Out → Prop} {N : σ → List Pt} {v : σ}
def Loc.top (l : α) : Loc α α := ⟨l, .ok⟩
def Loc.at (z : Loc α (List β)) (k : Int) (b : β) : Loc α β := ⟨b, fun b' => R.bind (setR z.cur k b') z.put⟩
def Loc.opt (z : Loc α (Option β)) (b : β) : Loc α β := ⟨b, fun b' => z.put (some b')⟩
def LocE (l : α) (ks : List Int) (z : Loc α β) : Prop := getP ks (enc l) = some (enc z.cur) ∧ ∀ b, Ho (z.put b) fun l' => enc l' = setP ks (enc l) (enc b)
theorem loc_top (l : α) : LocE l [] (Loc.top l) := ⟨rfl, fun b => rfl⟩
theorem getP_snoc : ∀ {ks : List Int} {k : Int} {d e : D}, getP ks d = some e → getP (ks ++ [k]) d = getP [k] e
  | [], k, d, e, h => by cases h; rfl
  | j :: ks, k, d, e, h => by
    cases d with
    | lst ds =>
      rw [List.cons_append, getP_lst]
      rw [getP_lst] at h
      cases e1 : L2.atI ds j with
      | none => rw [e1] at h; cases h
      | some x =>
        rw [e1] at h
        exact getP_snoc h
    | tup ds =>
      rw [List.cons_append, getP_tup]
      rw [getP_tup] at h
      cases e1 : L2.atI ds j with
      | none => rw [e1] at h; cases h
      | some x =>
        rw [e1] at h
        exact getP_snoc h
    | _ => cases h
theorem setP_snoc : ∀ {ks : List Int} {k : Int} {d e n : D}, getP ks d = some e → setP (ks ++ [k]) d n = setP ks d (setP [k] e n)
  | [], k, d, e, n, h => by cases h; rfl
  | j :: ks, k, d, e, n, h => by
    cases d with
    | lst ds =>
      rw [getP_lst] at h
      cases e1 : L2.atI ds j with
      | none => rw [e1] at h; cases h
      | some x =>
        rw [e1] at h
        rw [List.cons_append]
        unfold setP
        rw [e1]
        simp only []
        rw [setP_snoc h]
    | tup ds =>
      rw [getP_tup] at h
      cases e1 : L2.atI ds j with
      | none => rw [e1] at h; cases h
      | some x =>
        rw [e1] at h
        rw [List.cons_append]
        unfold setP
        rw [e1]
        simp only []
        rw [setP_snoc h]
    | _ => cases h
theorem getP_one {l : List D} {k : Int} : getP [k] (.lst l) = L2.atI l k := by
  rw [getP_lst]
  cases L2.atI l k <;> rfl
theorem setP_one {l : List β} {k : Int} {b b' : β} (h : L2.atI l k = some b) : Ho (setR l k b') fun l' => enc l' = setP [k] (enc l) (enc b') := by
  unfold L2.atI at h
  unfold setR
  cases e : L2.ixN l.length k with
  | none => trivial
  | some j =>
    rw [e] at h
    show enc (l.set j b') = setP [k] (.lst (l.map enc)) (enc b')
    unfold setP
    have h2 : L2.atI (l.map (enc : β → D)) k = some (enc b) := by
      rw [atI_map]
      unfold L2.atI
      rw [e, h]
      rfl
    rw [h2]
    simp only [setI, List.length_map, e, setP, enc, List.map_set]
theorem loc_at {l : α} {ks : List Int} {z : Loc α (List β)} {k : Int} {b : β} (h : LocE l ks z) (e : atR z.cur k = .ok b) : LocE l (ks ++ [k]) (z.at k b) := by
  have e : L2.atI z.cur k = some b := by
    unfold atR at e
    cases e2 : L2.atI z.cur k with
    | none => rw [e2] at e; cases e
    | some x => rw [e2] at e; cases e; rfl
  refine ⟨?_, fun b' => ?_⟩
  · rw [getP_snoc h.1]
    show getP [k] (.lst (z.cur.map enc)) = some (enc b)
    rw [getP_one, atI_map, e]
    rfl
  · have h2 := setP_one (b' := b') e
    show Ho (R.bind (setR z.cur k b') z.put) _
    cases e3 : setR z.cur k b' with
    | bad => trivial
    | exc c => rw [e3] at h2; exact h2.elim
    | ok l2 =>
      rw [e3] at h2
      have h2 : enc l2 = setP [k] (enc z.cur) (enc b') := h2
      have h3 := h.2 l2
      show Ho (z.put l2) _
      cases e4 : z.put l2 with
      | bad => trivial
      | exc c => rw [e4] at h3; exact h3.elim
      | ok l3 =>
        rw [e4] at h3
        have h3 : enc l3 = setP ks (enc l) (enc l2) := h3
        show enc l3 = _
        rw [setP_snoc h.1, ← h2, h3]
theorem loc_opt {l : α} {ks : List Int} {z : Loc α (Option β)} {b : β} (h : LocE l ks z) (e : unO z.cur = .ok b) : LocE l ks (z.opt b) := by
  have e : z.cur = some b := by
    unfold unO at e
    cases e2 : z.cur with
    | none => rw [e2] at e; cases e
    | some x => rw [e2] at e; cases e; rfl
  refine ⟨?_, fun b' => h.2 (some b')⟩
  rw [h.1, e]
  rfl
/-- the keys of a place, one by one -/
def RP (ps : List Pt) (i : Nat) (l : α) (z0 : Loc α β) (dks : List (DE D)) (x : R (Loc α γ)) (ps' : List Pt) : Prop := ∀ s acc, Ms ps s → LocE l acc z0 → match x with
  | .ok z => ∃ ks s', dPA i acc dks s = some (.ok ks s') ∧ LocE l ks z ∧ Ms ps' s' ∧ s'.length = s.length
  | .exc c => ∃ s', dPA i acc dks s = some (.exc c s') ∧ s'.length = s.length
  | .bad => True
theorem rp_nil {l : α} {z0 : Loc α β} (i : Nat) : RP ps i l z0 [] (.ok z0) ps := fun s acc hs h => ⟨acc, s, rfl, h, hs, rfl⟩
theorem rp_core {l : α} {z0 : Loc α (List δ)} {z1 : R (Loc α β)} {dr : List (DE D)} {y : R Int} {i : Nat} {F : δ → R (Loc α β)} {x : Loc α β → R (Loc α γ)} (hy : RB ps dk y ps1) (hs : ps1.getD i .x = .h .f (enc l))
    (hF : ∀ acc k o, LocE l (acc ++ [k]) (z0.at k o) → Ho (F o) fun z => LocE l (acc ++ [k]) z ∧ enc z.cur = enc o ∧ imm (enc z.cur) = false) (hz : ∀ k o, R.bind (atR z0.cur k) F = .ok o → True)
    (hr : ∀ z, RP ps1 i l z dr (x z) ps2) (G : Int → δ → R (Loc α β)) (hG : ∀ k o acc, LocE l acc z0 → atR z0.cur k = .ok o → Ho (G k o) fun z => LocE l (acc ++ [k]) z ∧ imm (enc o) = false) :
    RP ps i l z0 (dk :: dr) (R.bind y fun k => R.bind (atR z0.cur k) fun o => R.bind (G k o) x) ps2 := by
  intro s acc h0 hl
  have h := hy s h0
  cases y with
  | bad => trivial
  | exc c =>
    obtain ⟨s1, e, l1⟩ := h
    exact ⟨s1, by unfold dPA; rw [e], l1⟩
  | ok k =>
    obtain ⟨d, s1, e, v, m, l1⟩ := h
    have v : d = .int k := v
    subst v
    obtain ⟨ow, g1, q1⟩ := m.get hs
    have q1 : ow = .full := q1
    subst q1
    show match R.bind (atR z0.cur k) fun o => R.bind (G k o) x with
      | .ok z => _
      | .exc c => _
      | .bad => _
    cases e2 : atR z0.cur k with
    | bad => trivial
    | exc c =>
      unfold atR ofO at e2
      cases e3 : L2.atI z0.cur k <;> rw [e3] at e2 <;> cases e2
    | ok o =>
      have h2 := hG k o acc hl e2
      rw [ok_bind]
      cases e3 : G k o with
      | bad => trivial
      | exc c => rw [e3] at h2; exact h2.elim
      | ok z =>
        rw [e3] at h2
        obtain ⟨h2, h3⟩ := h2
        have h4 := hr z s1 (acc ++ [k]) m h2
        have hgo : getP (acc ++ [k]) (enc l) = some (enc o) := (loc_at hl e2).1
        have e5 : dPA i acc (dk :: dr) s = dPA i (acc ++ [k]) dr s1 := by
          conv => lhs; unfold dPA
          simp only [e, g1, hgo, h3, if_true]
        rw [ok_bind, e5]
        cases e6 : x z with
        | bad => trivial
        | exc c =>
          rw [e6] at h4
          obtain ⟨s2, a1, a2⟩ := h4
          exact ⟨s2, a1, a2.trans l1⟩
        | ok z2 =>
          rw [e6] at h4
          obtain ⟨ks, s2, a1, a2, a3, a4⟩ := h4
          exact ⟨ks, s2, a1, a2, a3, a4.trans l1⟩
theorem rp_ix [NI β] {l : α} {z0 : Loc α (List β)} {dr : List (DE D)} {y : R Int} {i : Nat} {x : Loc α β → R (Loc α γ)} (hy : RB ps dk y ps1) (hs : ps1.getD i .x = .h .f (enc l)) (hr : ∀ z, RP ps1 i l z dr (x z) ps2) :
    RP ps i l z0 (dk :: dr) (R.bind y fun k => R.bind (atR z0.cur k) fun o => x (z0.at k o)) ps2 :=
  rp_core (z1 := .bad) (F := fun _ => .bad) hy hs (fun _ _ _ _ => trivial) (fun _ _ _ => trivial) hr (fun k o => .ok (z0.at k o)) fun k o acc hl e => ⟨loc_at hl e, NI.ni o⟩
theorem rp_ixO [NI β] {l : α} {z0 : Loc α (List (Option β))} {dr : List (DE D)} {y : R Int} {i : Nat} {x : Loc α β → R (Loc α γ)} (hy : RB ps dk y ps1) (hs : ps1.getD i .x = .h .f (enc l)) (hr : ∀ z, RP ps1 i l z dr (x z) ps2) :
    RP ps i l z0 (dk :: dr) (R.bind y fun k => R.bind (atR z0.cur k) fun o => R.bind (R.bind (unO o) fun b => .ok ((z0.at k o).opt b)) x) ps2 :=
  rp_core (z1 := .bad) (F := fun _ => .bad) hy hs (fun _ _ _ _ => trivial) (fun _ _ _ => trivial) hr (fun k o => R.bind (unO o) fun b => .ok ((z0.at k o).opt b)) fun k o acc hl e => by
    cases o with
    | none => trivial
    | some b => exact ⟨loc_opt (loc_at hl e) rfl, NI.ni b⟩
theorem rs_setP {x : R β} {y : R Int} {l : α} {pth : R (Loc α (List β))} {dks : List (DE D)} {k : α → R τ} {d0 : D} {c0 : Oc} (i : Nat) (hc : RC ps ca x .f ps1) (h1 : ps1.getD i .x = .h c0 d0) (hp : RP ps1 i l (Loc.top l) dks pth ps2) (hy : RB ps2 dk y ps3) (h3 : ps3.getD i .x = .h .f (enc l)) (hb : ∀ l', RSt (ps3.set i (.h .f (enc l'))) rest (k l') Φ) :
    RSt ps (sSeq (sSetP i dks dk ca) rest) (R.bind x fun a => R.bind pth fun z => R.bind y fun j => R.bind (setR z.cur j a) fun b => R.bind (z.put b) k) Φ := by
  refine ⟨fun s h0 => ?_⟩
  have h := hc s h0
  cases x with
  | bad => trivial
  | exc c =>
    obtain ⟨s1, e, l1⟩ := h
    exact ⟨s1, by unfold sSeq sSetP; rw [e], l1⟩
  | ok u =>
    obtain ⟨⟨d, ow⟩, s1, e, ⟨v1, v2⟩, m, l1⟩ := h
    have v1 : d = enc u := v1
    have v2 : ow = .full := v2
    subst v1 v2
    obtain ⟨ow1, g1, q1⟩ := m.get h1
    have j1 : (s1[i]?).join.isSome = true := by rw [g1]; rfl
    have hp := hp s1 [] m (loc_top l)
    rw [ok_bind]
    cases pth with
    | bad => trivial
    | exc c =>
      obtain ⟨s2, e2, l2⟩ := hp
      exact ⟨s2, by unfold sSeq sSetP; simp only [e, if_pos j1, e2], l2.trans l1⟩
    | ok z =>
      obtain ⟨ks, s2, e2, le, m2, l2⟩ := hp
      have hy := hy s2 m2
      rw [ok_bind]
      cases y with
      | bad => trivial
      | exc c =>
        obtain ⟨s3, e3, l3⟩ := hy
        exact ⟨s3, by unfold sSeq sSetP; simp only [e, if_pos j1, e2, e3], l3.trans (l2.trans l1)⟩
      | ok j =>
        obtain ⟨d3, s3, e3, v3, m3, l3⟩ := hy
        have v3 : d3 = .int j := v3
        subst v3
        obtain ⟨ow3, g3, q3⟩ := m3.get h3
        have q3 : ow3 = .full := q3
        subst q3
        rw [ok_bind]
        unfold setR
        cases e4 : L2.ixN z.cur.length j with
        | none => trivial
        | some n =>
          rw [ok_bind]
          have hput := le.2 (z.cur.set n u)
          cases e5 : z.put (z.cur.set n u) with
          | bad => trivial
          | exc c => rw [e5] at hput; exact hput.elim
          | ok l' =>
            rw [e5] at hput
            have hput : enc l' = setP ks (enc l) (enc (z.cur.set n u)) := hput
            refine (hb l').at (m3.set i ⟨.full, rfl, rfl⟩) (by simp [l3, l2, l1]) ?_
            have hg : getP ks (enc l) = some (.lst (z.cur.map enc)) := le.1
            unfold sSeq sSetP
            simp only [e, if_pos j1, e2, e3, g3, if_true, setD, hg, List.length_map, e4, Option.map_some]
            rw [hput]
            simp only [enc, List.map_set]
/-- the simple form, where the elements may be shared -/
theorem rs_setT {x : R β} {y : R Int} {l : List β} {k : List β → R τ} {d0 : D} {c0 : Oc} (i : Nat) (hc : RC ps ca x c ps1) (h1 : ps1.getD i .x = .h c0 d0) (hy : RB ps1 dk y ps3) (h3 : ps3.getD i .x = .h .t (enc l)) (hb : ∀ l', RSt (ps3.set i (.h .t (enc l'))) rest (k l') Φ) :
    RSt ps (sSeq (sSetP i [] dk ca) rest) (R.bind x fun a => R.bind y fun j => R.bind (setR l j a) k) Φ := by
  refine ⟨fun s h0 => ?_⟩
  have h := hc s h0
  cases x with
  | bad => trivial
  | exc c =>
    obtain ⟨s1, e, l1⟩ := h
    exact ⟨s1, by unfold sSeq sSetP; rw [e], l1⟩
  | ok u =>
    obtain ⟨⟨d, ow⟩, s1, e, ⟨v1, v2⟩, m, l1⟩ := h
    have v1 : d = enc u := v1
    subst v1
    obtain ⟨ow1, g1, q1⟩ := m.get h1
    have j1 : (s1[i]?).join.isSome = true := by rw [g1]; rfl
    have hy := hy s1 m
    rw [ok_bind]
    cases y with
    | bad => trivial
    | exc c =>
      obtain ⟨s3, e3, l3⟩ := hy
      exact ⟨s3, by unfold sSeq sSetP; simp only [e, if_pos j1, dPA, e3], l3.trans l1⟩
    | ok j =>
      obtain ⟨d3, s3, e3, v3, m3, l3⟩ := hy
      have v3 : d3 = .int j := v3
      subst v3
      obtain ⟨ow3, g3, q3⟩ := m3.get h3
      have q3 : ow3 = .top := q3
      subst q3
      rw [ok_bind]
      unfold setR
      cases e4 : L2.ixN l.length j with
      | none => trivial
      | some n =>
        rw [ok_bind]
        refine (hb (l.set n u)).at (m3.set i ⟨.top, rfl, rfl⟩) (by simp [l3, l1]) ?_
        unfold sSeq sSetP
        simp only [e, if_pos j1, dPA, e3, g3, enc, if_true, List.length_map, e4, Option.map_some, List.map_set]
theorem rs_appP {x : R β} {l : α} {pth : R (Loc α (List β))} {dks : List (DE D)} {k : α → R τ} {d0 : D} {c0 : Oc} (i : Nat) (h1 : ps.getD i .x = .h c0 d0) (hp : RP ps i l (Loc.top l) dks pth ps1) (h2 : ps1.getD i .x = .h .f (enc l)) (hc : RC ps1 ca x .f ps2) (h3 : ps2.getD i .x = .h .f (enc l)) (hb : ∀ l', RSt (ps2.set i (.h .f (enc l'))) rest (k l') Φ) :
    RSt ps (sSeq (sAppP i dks ca) rest) (R.bind pth fun z => R.bind x fun a => R.bind (appR z.cur a) fun b => R.bind (z.put b) k) Φ := by
  refine ⟨fun s h0 => ?_⟩
  obtain ⟨ow0, g0, q0⟩ := h0.get h1
  have j1 : (s[i]?).join.isSome = true := by rw [g0]; rfl
  have hp := hp s [] h0 (loc_top l)
  cases pth with
  | bad => trivial
  | exc c =>
    obtain ⟨s2, e2, l2⟩ := hp
    exact ⟨s2, by unfold sSeq sAppP; simp only [if_pos j1, e2], l2⟩
  | ok z =>
    obtain ⟨ks, s1, e2, le, m1, l1⟩ := hp
    obtain ⟨ow1, g1, q1⟩ := m1.get h2
    have q1 : ow1 = .full := q1
    subst q1
    have hg : getP ks (enc l) = some (.lst (z.cur.map enc)) := le.1
    have h := hc s1 m1
    rw [ok_bind]
    cases x with
    | bad => trivial
    | exc c =>
      obtain ⟨s3, e3, l3⟩ := h
      exact ⟨s3, by unfold sSeq sAppP; simp only [if_pos j1, e2, g1, hg, e3], l3.trans l1⟩
    | ok u =>
      obtain ⟨⟨d, ow⟩, s3, e3, ⟨v1, v2⟩, m3, l3⟩ := h
      have v1 : d = enc u := v1
      have v2 : ow = .full := v2
      subst v1 v2
      obtain ⟨ow3, g3, q3⟩ := m3.get h3
      have q3 : ow3 = .full := q3
      subst q3
      rw [ok_bind]
      unfold appR okIf
      by_cases hz : z.cur.length < 1000000
      · rw [if_pos hz, ok_bind]
        have hput := le.2 (z.cur ++ [u])
        cases e5 : z.put (z.cur ++ [u]) with
        | bad => trivial
        | exc c => rw [e5] at hput; exact hput.elim
        | ok l' =>
          rw [e5] at hput
          have hput : enc l' = setP ks (enc l) (enc (z.cur ++ [u])) := hput
          refine (hb l').at (m3.set i ⟨.full, rfl, rfl⟩) (by simp [l3, l1]) ?_
          unfold sSeq sAppP
          simp only [if_pos j1, e2, g1, hg, e3, g3, List.length_map, hz, and_self, if_true]
          rw [hput]
          simp only [enc, List.map_append, List.map_cons, List.map_nil]
      · rw [if_neg hz]; trivial
end
end Dv

namespace Dv
open Enc (enc)
open PySem L2

section
variable {ι σ τ ρ α β γ δ : Type} [Enc ι] [Enc ρ] [Enc α] [Enc β] [Enc γ] [Enc δ] {ps ps1 ps2 ps3 : List Pt} {da db dk : DE D} {ca cb : DE (D × Ow)} {c c1 c2 : Oc} {dt : DE Bool} {a b rest body : DS} {Φ : τ → Out → Prop} {N : σ → List Pt} {v : σ}
theorem ex {α β : Type} {V : α → β → Prop} {de : DE β} {x y : R α} (h : RG ps de x V ps1) (e : x = y) : RG ps de y V ps1 := e ▸ h
theorem rs_ifP {b' : Bool} {p q : R τ} (hc : RT ps dt (.ok b') ps1) (h1 : RSt ps1 (sSeq a rest) p Φ) (h2 : RSt ps1 (sSeq b rest) q Φ) : RSt ps (sSeq (sIf dt a b) rest) (if b' = true then p else q) Φ := rs_if hc h1 h2
theorem rs_retP {w : ρ → τ} {x : ρ} (h : AcR Φ c w) (hc : RC ps ca (.ok x) c ps1) : RSt ps (sRet ca) (.ok (w x)) Φ := rs_ret h hc
theorem rs_forCP {n : Nat} {tg : DT} {f : ι → σ → R σ} {M : ι → σ → List Pt} {g : α → List ι} {x : α} {v0 : σ} {k : σ → R τ} (hN : ∀ v, (N v).length = n) (hp : ps.length = n) (hg : ItE g) (hc : RC ps ca (.ok x) c ps1) (hw : Wk ps1 (N v0)) (ht : ∀ a v, TG (N v) tg .o (enc a) (M a v)) (hb : ∀ a v, RSt (M a v) body (f a v) (ΦC N)) (hk : ∀ v, RSt (N v) rest (k v) Φ) :
    RSt ps (sSeq (sForC tg ca body) rest) (R.bind (forR (g x) v0 f) k) Φ := rs_forC hN hp hg hc hw ht hb hk
theorem rs_forCXP {n : Nat} {tg : DT} {f : ι → σ → R (Lp σ τ)} {M : ι → σ → List Pt} {g : α → List ι} {x : α} {v0 : σ} {k : σ → R τ} (hN : ∀ v, (N v).length = n) (hp : ps.length = n) (hg : ItE g) (hc : RC ps ca (.ok x) c ps1) (hw : Wk ps1 (N v0)) (ht : ∀ a v, TG (N v) tg .o (enc a) (M a v)) (hb : ∀ a v, RSt (M a v) body (f a v) (ΦL N Φ)) (hk : ∀ v, RSt (N v) rest (k v) Φ) :
    RSt ps (sSeq (sForC tg ca body) rest) (R.andThen (forX (g x) v0 f) k) Φ := rs_forCX hN hp hg hc hw ht hb hk
theorem rs_forR1P {n : Nat} {tg : DT} {f : Int → σ → R σ} {M : Int → σ → List Pt} {x : Int} {v0 : σ} {k : σ → R τ} (hN : ∀ v, (N v).length = n) (hp : ps.length = n) (hc : RB ps da (.ok x) ps1) (hw : Wk ps1 (N v0)) (ht : ∀ (a : Int) v, TG (N v) tg .o (enc a) (M a v)) (hb : ∀ a v, RSt (M a v) body (f a v) (ΦC N)) (hk : ∀ v, RSt (N v) rest (k v) Φ) :
    RSt ps (sSeq (sForR tg (dCons da dNil) body) rest) (R.bind (R.bind (rng1 x) fun l => forR l v0 f) k) Φ := rs_forR1 hN hp hc hw ht hb hk
theorem rs_forR1XP {n : Nat} {tg : DT} {f : Int → σ → R (Lp σ τ)} {M : Int → σ → List Pt} {x : Int} {v0 : σ} {k : σ → R τ} (hN : ∀ v, (N v).length = n) (hp : ps.length = n) (hc : RB ps da (.ok x) ps1) (hw : Wk ps1 (N v0)) (ht : ∀ (a : Int) v, TG (N v) tg .o (enc a) (M a v)) (hb : ∀ a v, RSt (M a v) body (f a v) (ΦL N Φ)) (hk : ∀ v, RSt (N v) rest (k v) Φ) :
    RSt ps (sSeq (sForR tg (dCons da dNil) body) rest) (R.andThen (R.bind (rng1 x) fun l => forX l v0 f) k) Φ := rs_forR1X hN hp hc hw ht hb hk
theorem rs_forR2P {n : Nat} {tg : DT} {f : Int → σ → R σ} {M : Int → σ → List Pt} {x y : Int} {v0 : σ} {k : σ → R τ} (hN : ∀ v, (N v).length = n) (hp : ps.length = n) (hc : RB ps da (.ok x) ps1) (hd : RB ps1 db (.ok y) ps2) (hw : Wk ps2 (N v0)) (ht : ∀ (a : Int) v, TG (N v) tg .o (enc a) (M a v)) (hb : ∀ a v, RSt (M a v) body (f a v) (ΦC N)) (hk : ∀ v, RSt (N v) rest (k v) Φ) :
    RSt ps (sSeq (sForR tg (dCons da (dCons db dNil)) body) rest) (R.bind (R.bind (rng2 x y) fun l => forR l v0 f) k) Φ := rs_forR2 hN hp hc hd hw ht hb hk
theorem rs_forR2XP {n : Nat} {tg : DT} {f : Int → σ → R (Lp σ τ)} {M : Int → σ → List Pt} {x y : Int} {v0 : σ} {k : σ → R τ} (hN : ∀ v, (N v).length = n) (hp : ps.length = n) (hc : RB ps da (.ok x) ps1) (hd : RB ps1 db (.ok y) ps2) (hw : Wk ps2 (N v0)) (ht : ∀ (a : Int) v, TG (N v) tg .o (enc a) (M a v)) (hb : ∀ a v, RSt (M a v) body (f a v) (ΦL N Φ)) (hk : ∀ v, RSt (N v) rest (k v) Φ) :
    RSt ps (sSeq (sForR tg (dCons da (dCons db dNil)) body) rest) (R.andThen (R.bind (rng2 x y) fun l => forX l v0 f) k) Φ := rs_forR2X hN hp hc hd hw ht hb hk
/-- the new value W of a name -/
theorem rs_appW {x : R α} {k : List α → R τ} {l : List α} {W : R (List α)} (i : Nat) (h0 : ps.getD i .x = .h .f (enc l)) (hc : RC ps ca x .f ps1) (h1 : ps1.getD i .x = .h .f (enc l)) (e : (R.bind x fun a => appR l a) = W) (hb : ∀ l', RSt (ps1.set i (.h .f (enc l'))) rest (k l') Φ) : RSt ps (sSeq (sApp i ca) rest) (R.bind W k) Φ := by
  subst e
  rw [bind_bind]
  exact rs_app i h0 hc h1 hb
theorem rs_appTW {x : R α} {k : List α → R τ} {l : List α} {W : R (List α)} (i : Nat) (h0 : ps.getD i .x = .h .t (enc l)) (hc : RC ps ca x c ps1) (h1 : ps1.getD i .x = .h .t (enc l)) (e : (R.bind x fun a => appR l a) = W) (hb : ∀ l', RSt (ps1.set i (.h .t (enc l'))) rest (k l') Φ) : RSt ps (sSeq (sApp i ca) rest) (R.bind W k) Φ := by
  subst e
  rw [bind_bind]
  exact rs_appT i h0 hc h1 hb
theorem rs_setPW {x : R β} {y : R Int} {l : α} {pth : R (Loc α (List β))} {dks : List (DE D)} {k : α → R τ} {d0 : D} {c0 : Oc} {W : R α} (i : Nat) (hc : RC ps ca x .f ps1) (h1 : ps1.getD i .x = .h c0 d0) (hp : RP ps1 i l (Loc.top l) dks pth ps2) (hy : RB ps2 dk y ps3) (h3 : ps3.getD i .x = .h .f (enc l)) (e : (R.bind x fun a => R.bind pth fun z => R.bind y fun j => R.bind (setR z.cur j a) z.put) = W) (hb : ∀ l', RSt (ps3.set i (.h .f (enc l'))) rest (k l') Φ) :
    RSt ps (sSeq (sSetP i dks dk ca) rest) (R.bind W k) Φ := by
  subst e
  have := rs_setP i hc h1 hp hy h3 hb
  simp only [bind_bind]
  exact this
theorem rs_setTW {x : R β} {y : R Int} {l : List β} {k : List β → R τ} {d0 : D} {c0 : Oc} {W : R (List β)} (i : Nat) (hc : RC ps ca x c ps1) (h1 : ps1.getD i .x = .h c0 d0) (hy : RB ps1 dk y ps3) (h3 : ps3.getD i .x = .h .t (enc l)) (e : (R.bind x fun a => R.bind y fun j => setR l j a) = W) (hb : ∀ l', RSt (ps3.set i (.h .t (enc l'))) rest (k l') Φ) :
    RSt ps (sSeq (sSetP i [] dk ca) rest) (R.bind W k) Φ := by
  subst e
  have := rs_setT i hc h1 hy h3 hb
  simp only [bind_bind]
  exact this
theorem rs_appPW {x : R β} {l : α} {pth : R (Loc α (List β))} {dks : List (DE D)} {k : α → R τ} {d0 : D} {c0 : Oc} {W : R α} (i : Nat) (h1 : ps.getD i .x = .h c0 d0) (hp : RP ps i l (Loc.top l) dks pth ps1) (h2 : ps1.getD i .x = .h .f (enc l)) (hc : RC ps1 ca x .f ps2) (h3 : ps2.getD i .x = .h .f (enc l)) (e : (R.bind pth fun z => R.bind x fun a => R.bind (appR z.cur a) z.put) = W) (hb : ∀ l', RSt (ps2.set i (.h .f (enc l'))) rest (k l') Φ) :
    RSt ps (sSeq (sAppP i dks ca) rest) (R.bind W k) Φ := by
  subst e
  have := rs_appP i h1 hp h2 hc h3 hb
  simp only [bind_bind]
  exact this
/-- a place two deep -/
noncomputable def set2R {α : Type} (l : List (List α)) (i j : Int) (a : α) : R (List (List α)) := R.bind (atR l i) fun r => R.bind (setR r j a) fun r => setR l i r
noncomputable def app2R {α : Type} (l : List (List α)) (i : Int) (a : α) : R (List (List α)) := R.bind (atR l i) fun r => R.bind (appR r a) fun r => setR l i r
end
end Dv

namespace Dv
open PySem L2 Evl
/-! ### a slot let down to its top -/
def lowS (i : Nat) (s : SD) : SD := match s[i]? with
  | some (some (.lst ds, .full)) => s.set i (some (.lst ds, .top))
  | _ => s
def cLow (i : Nat) (c : DE (D × Ow)) : DE (D × Ow) := fun s => c (lowS i s)
section
variable {K : PySem.W.Frag} {W : WW} {B H : Hp} {σ : L2.St} {s : SD} {Fs : List (List Addr)}
theorem Rel.low (R0 : Rel K B H σ s Fs) (i : Nat) : ∃ B' Fs', Rel K B' H σ (lowS i s) Fs' ∧ ES B H Fs.flatten B' H Fs'.flatten := by
  unfold lowS
  split
  · rename_i ds h
    obtain ⟨v, hv, q⟩ := R0.at_ i _ _ h
    have hi := lt_of_get h
    have hF : i < Fs.length := by rw [R0.l2, ← R0.l1]; exact hi
    have q : Own K H v (.lst ds) (Fs.getD i []) := q
    obtain ⟨F0, hF0⟩ : ∃ F0, F0 = Fs.getD i [] := ⟨_, rfl⟩
    rw [← hF0] at q
    cases q with
    | im hi _ => simp [imm] at hi
    | lst hp hl =>
      rename_i p vs F
      have cnt : ∀ a, Fs.flatten.count a = F.count a + (Fs.set i [p]).flatten.count a := fun a => by
        have h1 := flat_set (F := [p]) hF a
        have h2 : (p :: F).count a = [p].count a + F.count a := by rw [← List.count_append]; rfl
        rw [← hF0] at h1
        omega
      have wf := R0.wf
      have y := (ES.refl B H Fs.flatten).let_go F (Fs.set i [p]).flatten hl.live cnt R0.ex
      have hp1 : ∀ a ∈ [p], H a ≠ none := fun a ha => by rw [List.mem_singleton.mp ha, hp]; exact fun q => nomatch q
      have hr : ReL K (frz B H F) H vs ds := hl.re fun a ha => frz_in ha
      have Ra : Rel K B H σ (s.set i none) (Fs.set i [p]) := R0.slot (sl := none) (F := [p]) hi (fun _ _ z => nomatch z) (fun a => by have h1 := cnt a; have h2 := wf a; omega) hp1
      have Rb : Rel K (frz B H F) H σ (s.set i none) (Fs.set i [p]) := Ra.know fun a => by
        rw [List.count_append]
        have h1 := cnt a
        have h2 := wf a
        omega
      have Rc := Rb.slot (i := i) (sl := some (.lst ds, .top)) (F := [p]) (by simpa using hi) (fun d' ow' z => by
        cases z
        exact ⟨_, hv, p, vs, ds, rfl, rfl, hp, hr, rfl⟩) (fun a => by
        have h1 := cnt a
        have h2 := wf a
        have h3 := frz_w B H F a
        rw [List.set_set]
        omega) hp1
      rw [List.set_set, List.set_set] at Rc
      exact ⟨_, _, Rc, y⟩
  · exact ⟨B, Fs, R0, ES.refl _ _ _⟩
theorem jLow {te : TE} {c : DE (D × Ow)} (i : Nat) (h : JC K W te c) : JC K W te (cLow i c) := by
  intro s r e B H σ Fs R0 Q p
  obtain ⟨B1, Fs1, R1, y⟩ := R0.low i
  exact h (lowS i s) r e B1 H σ Fs1 R1 Q (p.step y)
/-- an item of a list that is held by its top -/
def cTopAt (i : Nat) (dk : DE D) : DE (D × Ow) := fun s => match s[i]? with
  | some (some (.lst _, .top)) => match dk s with
    | some (.ok (.int k) s1) => match s1[i]? with
      | some (some (.lst ds, .top)) => (atI ds k).map fun d => .ok (d, .no) s1
      | _ => none
    | some (.exc x s1) => some (.exc x s1)
    | _ => none
  | _ => none
theorem jTopAt {tk : TE} {dk : DE D} (i : Nat) (hk : JB K W tk dk) : JC K W (tOp (rIx K) (tVar i) tk) (cTopAt i dk) := by
  intro s r e B H σ Fs R0 Q p
  unfold cTopAt at e
  split at e
  · rename_i ds0 h0
    obtain ⟨v, hσ, pp, vs0, ds1, rfl, _, hq, _, _⟩ := R0.at_ i _ .top h0
    refine ⟨_, hσ, ?_⟩
    cases e1 : dk s with
    | none => rw [e1] at e; cases e
    | some r1 =>
      rw [e1] at e
      refine hk s r1 e1 B H σ Fs R0 _ ?_
      cases r1 with
      | exc x s1 => cases e; exact p
      | ok x s1 =>
        intro y B1 H1 Fs1 F R1 y1 z1 l1 q1
        obtain ⟨q1, rfl⟩ := q1
        cases x with
        | int k =>
          cases q1
          simp only at e
          split at e
          · rename_i ds h1
            obtain ⟨v2, hσ2, p2, vs2, ds2, rfl, e2, w2, w3, _⟩ := R1.at_ i _ .top h1
            rw [hσ] at hσ2
            cases hσ2
            cases e2
            cases e3 : atI ds k with
            | none => rw [e3] at e; cases e
            | some d =>
              rw [e3] at e
              cases e
              obtain ⟨u, g1, g2⟩ := atI_re w3 e3
              exact .inl ⟨_, _, k, u, rfl, rfl, sq_of w2, g1, p u B1 H1 Fs1 [] R1 y1 z1 l1 ⟨g2, rfl⟩⟩
          · cases e
        | _ => cases e
  · cases e
end
section
variable {X : Cx} {K : PySem.W.Frag} {W : WW} {pos : Pos} {a b e : Expr} {te tb : TE} {ca : DE (D × Ow)} {db : DE D}
theorem qLow (i : Nat) (h : QC X K W e te ca) : QC X K W e te (cLow i ca) := ⟨h.hk, h.p, jLow i h.j⟩
theorem q_topAt (i : Nat) (ha : QB X K W a (tVar i) (dVar i)) (hb : QB X K W b tb db) (hs : PlainIx b := by exact fun _ _ => rfl) : QC X K W (.Subscript a b pos) (tOp (rIx K) (tVar i) tb) (cTopAt i db) := by
  obtain ⟨rfl, pa, ja⟩ := ha
  exact ⟨rfl, pe_ix ix_seq pa hb.p hs, jTopAt i hb.j⟩
end
end Dv

namespace Dv
open PySem PySem.Spec PyProof.Rows L2 Evl
theorem units65 {k : Nat} {A : Around} (r : Room k A) : A.units + 65 < cLine := by have := r.un; omega
/-! ### a list's method that reads, one thing handed in -/
def isLst : D → Bool
  | .lst _ => true
  | _ => false
def dMet1 (f : D → D → Option D) (da db : DE D) : DE D := bnd da fun x s => if isLst x = true then bnd db (fun y s => (f x y).map fun d => .ok d s) s else none
/-- the same, the list read first -/
def RM (K : PySem.W.Frag) (r : V → List V → Hp → VK → Prop) (f : D → D → Option D) : Prop := ∀ G H x y dx dy d, Ex G H → Re K G H x dx → Re K G H y dy → f dx dy = some d → ∀ Q : VK, (∀ v, Re K G H v d → Q v H) → r x [y] H Q
section
variable {K : PySem.W.Frag} {W : WW} {ta tb : TE} {da db : DE D}
theorem jMet1 {r : V → List V → Hp → VK → Prop} {f : D → D → Option D} (hr : RM K r f) (ha : JB K W ta da) (hb : JB K W tb db) : JB K W (tBM K "list" r ta (tCons tb tNil)) (dMet1 f da db) := by
  intro s r0 e B H σ Fs R0 Q p
  unfold dMet1 bnd at e
  cases e1 : da s with
  | none => rw [e1] at e; cases e
  | some r1 =>
    rw [e1] at e
    refine ha s r1 e1 B H σ Fs R0 _ ?_
    cases r1 with
    | exc c s1 =>
      have e2 : r0 = .exc c s1 := (Option.some.inj e).symm
      subst e2
      exact p
    | ok a s1 =>
      intro v B1 H1 Fs1 F R1 y1 z1 l1 q1
      obtain ⟨q1, rfl⟩ := q1
      simp only at e
      split at e
      · rename_i hL
        have ty : tyV K "list" v H1 := by
          cases q1 with
          | lst hp hr => exact .inl ⟨rfl, _, sq_of (frz_le R1.ex _ _ hp)⟩
          | _ => simp [isLst] at hL
        refine ⟨ty, ?_⟩
        cases e3 : db s1 with
        | none => rw [e3] at e; cases e
        | some r2 =>
          rw [e3] at e
          refine hb s1 r2 e3 B1 H1 σ Fs1 R1 _ ?_
          cases r2 with
          | exc c s2 =>
            have e2 : r0 = .exc c s2 := (Option.some.inj e).symm
            subst e2
            exact p.step y1
          | ok b s2 =>
            intro u B2 H2 Fs2 F2 R2 y2 z2 l2 q2
            obtain ⟨q2, rfl⟩ := q2
            simp only at e
            cases ef : f a b with
            | none => rw [ef] at e; cases e
            | some d =>
              rw [ef] at e
              cases e
              exact hr _ H2 v u a b d (frz_le R2.ex) (q1.mono y2.vw (Tk.of_ex y2.exH)) q2 ef Q fun w h => Post.here R2 ⟨h, rfl⟩ (p.step (y1.trans y2))
      · cases e
/-- the first place of an equal one -/
def fIndex (x y : D) : Option D := match x with
  | .lst ds => match D.pyL ds, y.py with
    | some ps, some q => if (SeqAt.shaped (.list ps) && SeqAt.shaped q) = true then (ps.findIdx? fun z => PyData.eqv z q).map fun j => .int (j : Nat) else none
    | _, _ => none
  | _ => none
theorem rmIndex : RM K (rIndexD K) fIndex := by
  intro G H x y dx dy d g rx ry e Q q
  unfold fIndex at e
  split at e
  · rename_i ds
    split at e
    · rename_i ps pq h1 h2
      split at e
      · rename_i hs
        rw [Bool.and_eq_true] at hs
        obtain ⟨j, hj, rfl⟩ := Option.map_eq_some_iff.mp e
        obtain ⟨hjl, hj1, hj2⟩ := List.findIdx?_eq_some_iff_getElem.mp hj
        cases rx with
        | lst hp hr =>
          refine ⟨_, y, pq, ps, j, ps[j], rfl, rfl, .lst (sq_of (g _ _ hp)) (hr.dp g h1), ry.dp g h2, hs.1, hs.2, List.getElem?_eq_getElem hjl, hj1, ?_, q _ (.int _)⟩
          intro m z hm hz
          have hml : m < ps.length := by omega
          rw [List.getElem?_eq_getElem hml] at hz
          cases hz
          have := hj2 m hm
          simpa using this
      · cases e
    · cases e
  · cases e
end
section
variable {X : Cx} {K : PySem.W.Frag} {W : WW} {pos apos cpos : Pos} {a e : Expr} {ta te : TE} {da de : DE D}
theorem q_index (hu : X.A.units + 64 < cLine) (hu2 : X.A.units + 65 < cLine) (ho : QB X K W a ta da) (he : QB X K W e te de) (h1 : attributeBase a "index" X.env (eval a X.env) = eval a X.env := by rfl)
    (h2 : (((List.all (backTo cpos (starEach [e] X.env)) fun x => !Prod.fst x) && List.all (backToKw cpos (keywordEach [] X.env)) fun x => Option.isSome (Prod.fst x)) && decide ((List.length [e] + List.length ([] : List Keyword) + if List.isEmpty ([] : List Keyword) = true then 0 else 1) < 30)) = true := by rfl)
    (h3 : (apos.endLine == cpos.line) = true := by rfl) (h4 : starEach [e] X.env = (false, eval e X.env) :: starEach [] X.env := by rfl) :
    QB X K W (.Call (.Attribute a "index" apos) [e] [] cpos) (tBM K "list" (rIndexD K) ta (tCons te tNil)) (dMet1 fIndex da de) := by
  obtain ⟨rfl, pa, ja⟩ := ho
  exact ⟨rfl, pe_bm PySem.F.plainAttrs_list PySem.F.slot_list_index PySem.F.type_list_index (mt_indexD hu2) pa (pa_cons he.p pa_nil h4) h1 h2 h3 h4 (by rfl), jMet1 rmIndex ja he.j⟩
end
end Dv

namespace Dv
open Enc (enc)
open PySem L2

section
variable {ι σ τ ρ α β γ δ : Type} [Enc ι] [Enc ρ] [Enc α] [Enc β] [Enc γ] [Enc δ] {ps ps1 ps2 ps3 : List Pt} {da db dk : DE D} {ca cb : DE (D × Ow)} {c c1 c2 : Oc} {dt : DE Bool} {a b rest body : DS} {Φ : τ → Out → Prop}
/-! ### a list let down to its top -/
theorem rc_low {x : R β} {l : List α} (i : Nat) (h0 : ps.getD i .x = .h .f (enc l)) (h : RC (ps.set i (.h .t (enc l))) ca x c ps1) : RC ps (cLow i ca) x c ps1 := by
  refine ⟨fun s hs => ?_⟩
  obtain ⟨ow0, g0, q0⟩ := hs.get h0
  have q0 : ow0 = .full := q0
  subst q0
  have e : lowS i s = s.set i (some (enc l, .top)) := by
    unfold lowS
    rw [g0]
    rfl
  have := h (lowS i s) (by rw [e]; exact hs.set i ⟨.top, rfl, rfl⟩)
  have hl : (lowS i s).length = s.length := by rw [e, List.length_set]
  cases x with
  | bad => trivial
  | exc c => obtain ⟨s1, e1, l1⟩ := this; exact ⟨s1, e1, l1.trans hl⟩
  | ok u => obtain ⟨b, s1, e1, v, m, l1⟩ := this; exact ⟨b, s1, e1, v, m, l1.trans hl⟩
theorem rc_topAt {kx : R Int} {l : List α} (i : Nat) (h0 : ps.getD i .x = .h .t (enc l)) (hk : RB ps dk kx ps1) (h1 : ps1.getD i .x = .h .t (enc l)) : RC ps (cTopAt i dk) (R.bind kx fun k => atR l k) .n ps1 := by
  refine ⟨fun s hs => ?_⟩
  obtain ⟨ow0, g0, q0⟩ := hs.get h0
  have q0 : ow0 = .top := q0
  subst q0
  have h := hk s hs
  have st : ∀ r, dk s = r → cTopAt i dk s = match r with
    | some (.ok (.int k) s1) => match s1[i]? with
      | some (some (.lst ds, .top)) => (L2.atI ds k).map fun d => .ok (d, .no) s1
      | _ => none
    | some (.exc x s1) => some (.exc x s1)
    | _ => none := fun r hr => by
      unfold cTopAt
      rw [g0, hr]
      rfl
  cases kx with
  | bad => trivial
  | exc c =>
    obtain ⟨s1, e, l1⟩ := h
    exact ⟨s1, by rw [st _ e], l1⟩
  | ok k =>
    obtain ⟨d, s1, e, v1, m, l1⟩ := h
    have v1 : d = .int k := v1
    subst v1
    obtain ⟨ow1, g1, q1⟩ := m.get h1
    have q1 : ow1 = .top := q1
    subst q1
    have g1 : s1[i]? = some (some (.lst (l.map enc), .top)) := g1
    show RGs ps _ (atR l k) _ _ s
    unfold atR
    have am : L2.atI (l.map (enc : α → D)) k = (L2.atI l k).map enc := by
      unfold L2.atI
      rw [List.length_map]
      cases L2.ixN l.length k with
      | none => rfl
      | some j => simp
    cases e2 : L2.atI l k with
    | none => trivial
    | some u =>
      refine ⟨(enc u, .no), s1, ?_, ⟨rfl, trivial⟩, m, l1⟩
      rw [st _ e]
      simp only [g1, am, e2]
      rfl
theorem rs_appS {x : R α} {k : List α → R τ} {l : List α} {W : R (List α)} (i : Nat) (h0 : ps.getD i .x = .h .f (enc l)) (hc : RC ps ca x c ps1) (h1 : ps1.getD i .x = .h .t (enc l)) (e : (R.bind x fun a => appR l a) = W) (hb : ∀ l', RSt (ps1.set i (.h .t (enc l'))) rest (k l') Φ) : RSt ps (sSeq (sApp i ca) rest) (R.bind W k) Φ := by
  subst e
  rw [bind_bind]
  refine ⟨fun s hs => ?_⟩
  obtain ⟨ow0, g0, q0⟩ := hs.get h0
  have q0 : ow0 = .full := q0
  subst q0
  have h := hc s hs
  have st : ∀ r, ca s = r → sApp i ca s = match r with
    | some (.ok (e, eo) s1) => match s1[i]? with
      | some (some (.lst ds, .full)) => if eo = .full ∧ ds.length < 1000000 then some (.next (s1.set i (some (.lst (ds ++ [e]), .full)))) else none
      | some (some (.lst ds, .top)) => if ds.length < 1000000 then some (.next (s1.set i (some (.lst (ds ++ [e]), .top)))) else none
      | _ => none
    | some (.exc x s1) => some (.exc x s1)
    | none => none := fun r hr => by
      unfold sApp
      rw [g0, hr]
      rfl
  cases x with
  | bad => trivial
  | exc c =>
    obtain ⟨s1, e, l1⟩ := h
    exact ⟨s1, by unfold sSeq; rw [st _ e], l1⟩
  | ok u =>
    obtain ⟨⟨d, ow⟩, s1, e, ⟨v1, v2⟩, m, l1⟩ := h
    have v1 : d = enc u := v1
    subst v1
    obtain ⟨ow1, g1, q1⟩ := m.get h1
    have q1 : ow1 = .top := q1
    subst q1
    show Sat (R.bind (appR l u) k) _ _ _
    unfold appR okIf
    by_cases hz : l.length < 1000000
    · rw [if_pos hz]
      refine (hb (l ++ [u])).at (m.set i ⟨.top, rfl, rfl⟩) (by simpa using l1) ?_
      unfold sSeq
      rw [st _ e]
      simp only [g1]
      have : (l.map (enc : α → D)).length < 1000000 := by simpa using hz
      simp only [enc] at this ⊢
      rw [if_pos this]
      simp
    · rw [if_neg hz]; trivial
end
end Dv

namespace Dv
open Enc (enc)
open PySem L2
section
variable {α β γ : Type} [Enc α] [Enc β] {ps ps1 ps2 ps3 : List Pt} {da db : DE D}
/-! ### the first place of a thing in a list -/
noncomputable def idxR [DecidableEq α] (l : List α) (a : α) : R Int := ofO ((l.findIdx? fun z => decide (z = a)).map fun j => ((j : Nat) : Int))
theorem pyL_find {q : PyData} {y : D} (hy : y.py = some q) : ∀ {ds : List D} {ps : List PyData}, D.pyL ds = some ps → (ps.findIdx? fun z => PyData.eqv z q) = ds.findIdx? fun d => eqD d y
  | [], ps, e => by cases e; rfl
  | d :: ds, ps, e => by
    have e : (match D.py d, D.pyL ds with
      | some a, some b => some (a :: b)
      | _, _ => none) = some ps := e
    cases h1 : D.py d with
    | none => rw [h1] at e; cases e
    | some a =>
      cases h2 : D.pyL ds with
      | none => rw [h1, h2] at e; cases e
      | some b =>
        rw [h1, h2] at e
        cases e
        rw [List.findIdx?_cons, List.findIdx?_cons, pyL_find hy h2, eqv_D h1 hy]
theorem fIndex_enc [DecidableEq α] [Eqv α] (h : Eqv.dep α ≤ 63) (l : List α) (a : α) : fIndex (enc l) (enc a) = ((l.findIdx? fun z => decide (z = a)).map fun j => ((j : Nat) : Int)).map D.int := by
  have n1 : nice (Eqv.dep α + 1) (enc l) = true := Eqv.nice (α := List α) l
  have n2 : nice (Eqv.dep α) (enc a) = true := Eqv.nice a
  obtain ⟨p, e1, c1, d1⟩ := nice_py n1
  obtain ⟨q, e2, c2, d2⟩ := nice_py n2
  have e1 : (D.pyL (l.map enc)).map PyData.list = some p := e1
  obtain ⟨ps, e3, rfl⟩ := Option.map_eq_some_iff.mp e1
  have s1 : SeqAt.shaped (.list ps) = true := by simp only [SeqAt.shaped, c1]; simp; omega
  have s2 : SeqAt.shaped q = true := by simp only [SeqAt.shaped, c2]; simp; omega
  show (match D.pyL (l.map enc), (enc a : D).py with
    | some ps, some q => if (SeqAt.shaped (.list ps) && SeqAt.shaped q) = true then (ps.findIdx? fun z => PyData.eqv z q).map fun j => D.int (j : Nat) else none
    | _, _ => none) = _
  rw [e3, e2]
  simp only [s1, s2, Bool.and_self, if_true]
  rw [pyL_find e2 e3, List.findIdx?_map]
  have : ((fun d => eqD d (enc a)) ∘ enc) = fun z : α => decide (z = a) := by
    funext z
    exact Eqv.eqv z a
  rw [this, Option.map_map]
  rfl
theorem rb_index [DecidableEq α] [Eqv α] {x : R (List α)} {y : R α} (h : Eqv.dep α ≤ 63) (ha : RB ps da x ps1) (hb : RB ps1 db y ps2) : RB ps (dMet1 fIndex da db) (R.bind x fun l => R.bind y fun a => idxR l a) ps2 := by
  unfold dMet1
  refine RG.bnd ha fun l d v => ?_
  subst v
  refine ⟨fun s hs => ?_⟩
  have hL : isLst (enc l) = true := rfl
  rw [show (fun s => if isLst (enc l) = true then bnd db (fun y s => (fIndex (enc l) y).map fun d => Er.ok d s) s else none) = bnd db (fun y s => (fIndex (enc l) y).map fun d => Er.ok d s) from by funext s; rw [if_pos hL]]
  refine RG.bnd hb (fun a d2 v2 => ?_) s hs
  subst v2
  refine ⟨fun s hs => ?_⟩
  unfold idxR
  rw [fIndex_enc h]
  cases l.findIdx? fun z => decide (z = a) with
  | none => trivial
  | some j => exact ⟨_, s, rfl, rfl, hs, rfl⟩
end
end Dv

namespace Dv
open PySem PySem.Spec PyProof.Rows L2 Evl
/-! ### a list turned about, emptied, its last thing taken off -/
inductive Mu where
  | rev | clr | pop
def Mu.on {α : Type} : Mu → List α → Option (List α)
  | .rev, l => some l.reverse
  | .clr, _ => some []
  | .pop, [] => none
  | .pop, x :: l => some (x :: l).dropLast
def Mu.r : Mu → V → List V → Hp → VK → Prop
  | .rev => rReverse
  | .clr => rClear
  | .pop => rPop
theorem Mu.run {m : Mu} {H : Hp} {p : Addr} {vs vs' : List V} {Q : VK} (h : H p = some (.lst vs)) (e : m.on vs = some vs') (q : ∀ v, Q v (upd H p (.lst vs'))) : m.r (.ref p) [] H Q := by
  cases m with
  | rev => cases e; exact ⟨p, vs, rfl, rfl, h, q _⟩
  | clr => cases e; exact ⟨p, vs, rfl, rfl, h, q _⟩
  | pop =>
    cases vs with
    | nil => cases e
    | cons x l =>
      cases e
      exact ⟨p, x :: l, (x :: l)[(x :: l).length - 1]'(by simp), rfl, rfl, h, List.getElem?_eq_getElem _, q _⟩
section
variable {K : PySem.W.Frag} {G H : Hp}
theorem OwnL.rev : ∀ {vs : List V} {ds : List D} {F : List Addr}, OwnL K H vs ds F → ∃ F', OwnL K H vs.reverse ds.reverse F' ∧ ∀ a, F'.count a ≤ F.count a
  | _, _, _, .nil => ⟨[], .nil, fun _ => Nat.le_refl _⟩
  | _, _, _, .cons (F := F) (G := G) h t => by
    obtain ⟨F', o, c⟩ := OwnL.rev t
    refine ⟨F' ++ (F ++ []), by rw [List.reverse_cons, List.reverse_cons]; exact o.append (.cons h .nil), fun a => ?_⟩
    have := c a
    simp only [List.count_append, List.append_nil]
    omega
theorem OwnL.dl : ∀ {vs : List V} {ds : List D} {F : List Addr}, OwnL K H vs ds F → ∃ F', OwnL K H vs.dropLast ds.dropLast F' ∧ ∀ a, F'.count a ≤ F.count a
  | _, _, _, .nil => ⟨[], .nil, fun _ => Nat.le_refl _⟩
  | _, _, _, .cons (F := F) h .nil => ⟨[], .nil, fun _ => by simp⟩
  | _, _, _, .cons (F := F) h (.cons h2 t) => by
    obtain ⟨F', o, c⟩ := OwnL.dl (OwnL.cons h2 t)
    refine ⟨F ++ F', .cons h o, fun a => ?_⟩
    have := c a
    simp only [List.count_append] at this ⊢
    omega
theorem ReL.rev : ∀ {vs : List V} {ds : List D}, ReL K G H vs ds → ReL K G H vs.reverse ds.reverse
  | _, _, .nil => .nil
  | _, _, .cons h t => by
    rw [List.reverse_cons, List.reverse_cons]
    exact (ReL.rev t).append (.cons h .nil)
theorem ReL.dl : ∀ {vs : List V} {ds : List D}, ReL K G H vs ds → ReL K G H vs.dropLast ds.dropLast
  | _, _, .nil => .nil
  | _, _, .cons h .nil => .nil
  | _, _, .cons h (.cons h2 t) => .cons h (ReL.dl (ReL.cons h2 t))
theorem Mu.own {m : Mu} {vs : List V} {ds ds' : List D} {F : List Addr} (o : OwnL K H vs ds F) (e : m.on ds = some ds') : ∃ vs' F', m.on vs = some vs' ∧ OwnL K H vs' ds' F' ∧ ∀ a, F'.count a ≤ F.count a := by
  cases m with
  | rev => cases e; obtain ⟨F', h, c⟩ := o.rev; exact ⟨_, F', rfl, h, c⟩
  | clr => cases e; exact ⟨[], [], rfl, .nil, fun _ => by simp⟩
  | pop =>
    cases o with
    | nil => cases e
    | cons h t =>
      cases e
      obtain ⟨F', h, c⟩ := (OwnL.cons h t).dl
      exact ⟨_, F', rfl, h, c⟩
theorem Mu.re {m : Mu} {vs : List V} {ds ds' : List D} (o : ReL K G H vs ds) (e : m.on ds = some ds') : ∃ vs', m.on vs = some vs' ∧ ReL K G H vs' ds' := by
  cases m with
  | rev => cases e; exact ⟨_, rfl, o.rev⟩
  | clr => cases e; exact ⟨[], rfl, .nil⟩
  | pop =>
    cases o with
    | nil => cases e
    | cons h t => cases e; exact ⟨_, rfl, (ReL.cons h t).dl⟩
end
def sMut (i : Nat) (m : Mu) : DS := fun s => match s[i]? with
  | some (some (.lst ds, .full)) => (m.on ds).map fun ds' => .next (s.set i (some (.lst ds', .full)))
  | some (some (.lst ds, .top)) => (m.on ds).map fun ds' => .next (s.set i (some (.lst ds', .top)))
  | _ => none
section
variable {K : PySem.W.Frag} {W : WW}
theorem jsMut (i : Nat) (m : Mu) : JS K W (tDrop (tBM0 K "list" m.r (tVar i))) (sMut i m) := by
  intro s o e B H σ Fs R0 En p
  unfold sMut at e
  split at e
  · rename_i ds h0
    obtain ⟨ds', e1, rfl⟩ := Option.map_eq_some_iff.mp e
    obtain ⟨v, q, vs, F1, a1, a2, a3, a4, a5, a6, a7⟩ := mut_slot (E := []) (ks := []) (ds := ds) R0 h0 rfl R0.val
    cases a2
    refine ⟨.ref q, a1, .inl ⟨rfl, vs, sq_of a3⟩, ?_⟩
    obtain ⟨vs', F', m1, m2, m3⟩ := Mu.own a4 e1
    refine Mu.run a3 m1 fun _ => ?_
    have tk := tk_upd (ys := vs') a3
    obtain ⟨G, b1, b2⟩ := a7 vs' ds' F' (m2.mono tk fun a ha => upd_ne (a5 a (count_mem (Nat.lt_of_lt_of_le (mem_count ha) (m3 a))))) fun a => by have := m3 a; simp; omega
    exact p σ _ _ _ b1 b2
  · rename_i ds h0
    obtain ⟨ds', e1, rfl⟩ := Option.map_eq_some_iff.mp e
    obtain ⟨q, vs, a1, a3, a4, a5, a7⟩ := mut_top R0 h0
    refine ⟨.ref q, a1, .inl ⟨rfl, vs, sq_of a3⟩, ?_⟩
    obtain ⟨vs', m1, m2⟩ := Mu.re a4 e1
    refine Mu.run a3 m1 fun _ => ?_
    have tk := tk_upd (ys := vs') a3
    obtain ⟨b1, b2⟩ := a7 vs' ds' (m2.mono (Ex.refl _) tk)
    exact p σ _ _ _ b1 b2
  · cases e
end
section
variable {X : Cx} {K : PySem.W.Frag} {W : WW} {pos cpos apos : Pos} {a : Expr}
theorem qs_rev (i : Nat) (ho : QB X K W a (tVar i) (dVar i)) (h1 : attributeBase a "reverse" X.env (eval a X.env) = eval a X.env := by rfl) (h3 : (apos.endLine == cpos.line) = true := by rfl) (hs : swapsWith (.Call (.Attribute a "reverse" apos) [] [] cpos) none pos.line X.env = pure false := by rfl) :
    QS X K W (.Expr (.Call (.Attribute a "reverse" apos) [] [] cpos) pos) (tDrop (tBM0 K "list" Mu.rev.r (tVar i))) (sMut i .rev) := by
  obtain ⟨rfl, pa, ja⟩ := ho
  exact ⟨rfl, ps_expr (pe_bm0 PySem.F.plainAttrs_list PySem.F.slot_list_reverse PySem.F.type_list_reverse mt_reverse pa h1 h3) hs, jsMut i .rev⟩
theorem qs_clr (i : Nat) (ho : QB X K W a (tVar i) (dVar i)) (h1 : attributeBase a "clear" X.env (eval a X.env) = eval a X.env := by rfl) (h3 : (apos.endLine == cpos.line) = true := by rfl) (hs : swapsWith (.Call (.Attribute a "clear" apos) [] [] cpos) none pos.line X.env = pure false := by rfl) :
    QS X K W (.Expr (.Call (.Attribute a "clear" apos) [] [] cpos) pos) (tDrop (tBM0 K "list" Mu.clr.r (tVar i))) (sMut i .clr) := by
  obtain ⟨rfl, pa, ja⟩ := ho
  exact ⟨rfl, ps_expr (pe_bm0 PySem.F.plainAttrs_list PySem.F.slot_list_clear PySem.F.type_list_clear mt_clear pa h1 h3) hs, jsMut i .clr⟩
theorem qs_pop (i : Nat) (ho : QB X K W a (tVar i) (dVar i)) (h1 : attributeBase a "pop" X.env (eval a X.env) = eval a X.env := by rfl) (h3 : (apos.endLine == cpos.line) = true := by rfl) (hs : swapsWith (.Call (.Attribute a "pop" apos) [] [] cpos) none pos.line X.env = pure false := by rfl) :
    QS X K W (.Expr (.Call (.Attribute a "pop" apos) [] [] cpos) pos) (tDrop (tBM0 K "list" Mu.pop.r (tVar i))) (sMut i .pop) := by
  obtain ⟨rfl, pa, ja⟩ := ho
  exact ⟨rfl, ps_expr (pe_bm0 PySem.F.plainAttrs_list PySem.F.slot_list_pop PySem.F.type_list_pop mt_pop pa h1 h3) hs, jsMut i .pop⟩
end
end Dv

namespace Dv
open Enc (enc)
open PySem L2
section
variable {τ α : Type} [Enc α] {ps : List Pt} {rest : DS} {Φ : τ → Out → Prop} {c : Oc}
/-! ### a list turned about, emptied, its last thing taken off -/
def muR (m : Mu) (l : List α) : R (List α) := ofO (m.on l)
theorem Mu.map {β : Type} (f : α → β) (m : Mu) (l : List α) : m.on (l.map f) = (m.on l).map (List.map f) := by
  cases m with
  | rev => show some _ = some _; rw [List.map_reverse]
  | clr => rfl
  | pop =>
    cases l with
    | nil => rfl
    | cons x l => show some _ = some _; rw [List.map_dropLast]; rfl
theorem rs_mut {l : List α} {k : List α → R τ} {W : R (List α)} (i : Nat) (m : Mu) (c : Oc) (h0 : ps.getD i .x = .h c (enc l)) (hc : c = .f ∨ c = .t) (e : muR m l = W) (hb : ∀ l', RSt (ps.set i (.h c (enc l'))) rest (k l') Φ) : RSt ps (sSeq (sMut i m) rest) (R.bind W k) Φ := by
  subst e
  refine ⟨fun s hs => ?_⟩
  obtain ⟨ow0, g0, q0⟩ := hs.get h0
  have g0 : s[i]? = some (some (.lst (l.map enc), ow0)) := g0
  have st : sMut i m s = ((m.on l).map (List.map enc)).map fun ds' => .next (s.set i (some (.lst ds', ow0))) := by
    rcases hc with rfl | rfl
    · have q0 : ow0 = .full := q0
      subst q0
      unfold sMut
      rw [g0]
      simp only [Mu.map]
    · have q0 : ow0 = .top := q0
      subst q0
      unfold sMut
      rw [g0]
      simp only [Mu.map]
  show Sat (R.bind (muR m l) k) _ _ _
  unfold muR
  cases e1 : m.on l with
  | none => trivial
  | some l' =>
    refine (hb l').at (hs.set i ⟨ow0, rfl, ?_⟩) (by simp) ?_
    · rcases hc with rfl | rfl
      · exact q0
      · exact q0
    · unfold sSeq
      rw [st, e1]
      rfl
end
end Dv

namespace Dv
open PySem PySem.Spec PyProof.Rows L2 Evl
/-! ### dicts with keys of any depth: what the heap says -/
mutual
theorem nk_is {P : Program} {w : World} {H : Hp} {h : Heap} (ok : HOk P w H h) : ∀ {k : NestedKey} {v : V} {u : Value}, NkAt H k v → RelV v u → NestedIs h k u
  | _, _, u, .num i, r => by
    obtain ⟨t, rfl⟩ := (show ∃ t, u = Value.int i t from r)
    exact .int _ _
  | _, _, u, .tup (q := q) hq hr, r => by
    obtain rfl : u = Value.ref q := r
    obtain ⟨_, its, r2, o, h1, h2, n, h3⟩ := (show ObjOk P w H h q (.tup _) from ok q _ hq)
    exact .tup h1 h2 h3 (by simpa using nks_is ok hr r2)
theorem nks_is {P : Program} {w : World} {H : Hp} {h : Heap} (ok : HOk P w H h) : ∀ {k : List NestedKey} {v : List V} {u : List Value}, NkAll H k v → Vals v u → NestedAll h k u
  | _, _, _, .nil, .nil => .nil
  | _, _, _, .cons a b, .cons c d => .cons (nk_is ok a c) (nks_is ok b d)
end
mutual
theorem nk_hash {H : Hp} (w w' : World) : ∀ {k : NestedKey} {v : V}, NkAt H k v → k.hash w = k.hash w'
  | _, _, .num i => by simp [NestedKey.hash]
  | _, _, .tup _ r => by rw [NestedKey.hash, NestedKey.hash, nks_hash w w' r]
theorem nks_hash {H : Hp} (w w' : World) : ∀ {k : List NestedKey} {v : List V}, NkAll H k v → NestedKey.hashes w k = NestedKey.hashes w' k
  | _, _, .nil => rfl
  | _, _, .cons a b => by rw [NestedKey.hashes, NestedKey.hashes, nk_hash w w' a, nks_hash w w' b]
end
mutual
theorem nk_inj {H : Hp} : ∀ {k k' : NestedKey} {v : V}, NkAt H k v → NkAt H k' v → k = k'
  | _, _, _, .num i, h => by cases h; rfl
  | _, _, _, .tup hq r, h => by
    cases h with
    | tup hq' r' =>
      rw [hq] at hq'
      cases hq'
      rw [nks_inj r r']
theorem nks_inj {H : Hp} : ∀ {k k' : List NestedKey} {v : List V}, NkAll H k v → NkAll H k' v → k = k'
  | _, _, _, .nil, h => by cases h; rfl
  | _, _, _, .cons a b, h => by
    cases h with
    | cons a' b' => rw [nk_inj a a', nks_inj b b']
end
abbrev KN : List (NestedKey × Addr × V) → List (NestedKey × Addr × Value) → Prop := Paired fun p q => p.1 = q.1 ∧ p.2.1 = q.2.1 ∧ RelV p.2.2 q.2.2
def valN (xs : List (NestedKey × Addr × V)) (k : NestedKey) : Option V := (xs.find? fun x => decide (x.1 = k)).map (·.2.2)
def putN (xs : List (NestedKey × Addr × V)) (k : NestedKey) (b : Addr) (v : V) : List (NestedKey × Addr × V) :=
  if (xs.any fun x => decide (x.1 = k)) = true then xs.map (fun x => if x.1 = k then (x.1, x.2.1, v) else x) else xs ++ [(k, b, v)]
theorem KN.val {xs : List (NestedKey × Addr × V)} {ys : List (NestedKey × Addr × Value)} (r : KN xs ys) (k : NestedKey) : RelO (valN xs k) ((atKey ys k).map (·.2)) := by
  induction r with
  | nil => exact True.intro
  | @cons p q ps qs h t ih =>
    obtain ⟨h1, _, h2⟩ := h
    by_cases e : p.1 = k
    · have e' : q.1 = k := h1.symm.trans e
      simp [valN, atKey, e, e', RelO]
      exact h2
    · have e' : ¬ q.1 = k := fun z => e (h1.trans z)
      have := ih
      simp only [valN, atKey, List.find?_cons, decide_eq_false e, decide_eq_false e'] at this ⊢
      exact this
theorem KN.any {xs : List (NestedKey × Addr × V)} {ys : List (NestedKey × Addr × Value)} (r : KN xs ys) (k : NestedKey) : (xs.any fun x => decide (x.1 = k)) = (atKey ys k).isSome := by
  induction r with
  | nil => rfl
  | @cons p q ps qs h t ih =>
    obtain ⟨h1, _, _⟩ := h
    rw [List.any_cons, ih]
    by_cases e : p.1 = k
    · have e' : q.1 = k := h1.symm.trans e
      simp [atKey, e, e']
    · have e' : ¬ q.1 = k := fun z => e (h1.trans z)
      simp [atKey, e, e']
theorem KN.repl {xs : List (NestedKey × Addr × V)} {ys : List (NestedKey × Addr × Value)} (r : KN xs ys) (k : NestedKey) {v : V} {u : Value} (ry : RelV v u) : KN (xs.map fun x => if x.1 = k then (x.1, x.2.1, v) else x) (ys.map (putAt k u)) := by
  induction r with
  | nil => exact .nil
  | @cons p q ps qs h t ih =>
    rw [List.map_cons, List.map_cons]
    refine .cons ?_ ih
    obtain ⟨h1, h2, h3⟩ := h
    unfold putAt
    by_cases e : p.1 = k
    · have e' : q.1 = k := h1.symm.trans e
      rw [if_pos e, if_pos e']
      exact ⟨h1, h2, ry⟩
    · have e' : ¬ q.1 = k := fun z => e (h1.trans z)
      rw [if_neg e, if_neg e']
      exact ⟨h1, h2, h3⟩
theorem KN.put {xs : List (NestedKey × Addr × V)} {ys : List (NestedKey × Addr × Value)} (r : KN xs ys) (k : NestedKey) {b : Addr} {v : V} {u : Value} (ry : RelV v u) : KN (putN xs k b v) (storedH ys k b u) := by
  unfold putN storedH
  rw [r.any k]
  by_cases q : (atKey ys k).isSome = true
  · rw [if_pos q, if_pos q]; exact r.repl k ry
  · rw [if_neg q, if_neg q]; exact Paired.snoc r ⟨rfl, rfl, ry⟩
theorem putN_len (xs : List (NestedKey × Addr × V)) (k : NestedKey) (b : Addr) (v : V) : (putN xs k b v).length ≤ xs.length + 1 := by
  unfold putN
  split <;> simp
theorem NkIs.put {H : Hp} {xs : List (NestedKey × Addr × V)} (h : NkIs H xs) {k : NestedKey} {b : Addr} (hk : NkAt H k (.ref b)) (hd : k.depth ≤ 8) (v : V) : NkIs H (putN xs k b v) := by
  intro x hx
  unfold putN at hx
  split at hx
  · obtain ⟨y, hy, rfl⟩ := List.mem_map.mp hx
    split
    · exact h y hy
    · exact h y hy
  · rcases List.mem_append.mp hx with hx | hx
    · exact h x hx
    · rw [List.mem_singleton.mp hx]; exact ⟨hk, hd⟩
def DGetN (H : Hp) (a : Addr) (y : V) (r : Option V) : Prop := ∃ xs k b, H a = some (dictN a xs) ∧ y = .ref b ∧ NkAt H k (.ref b) ∧ k.depth ≤ 8 ∧ NkIs H xs ∧ r = valN xs k
def DPutN (H : Hp) (a : Addr) (y v : V) (H' : Hp) : Prop := ∃ xs k b, H a = some (dictN a xs) ∧ y = .ref b ∧ NkAt H k (.ref b) ∧ k.depth ≤ 8 ∧ NkIs H xs ∧ xs.length < sizeLine ∧ H' = upd H a (dictN a (putN xs k b v))
/-- what stands at a key -/
def DG (H : Hp) (a : Addr) (y : V) (r : Option V) : Prop := DGet H a y r ∨ DGetN H a y r
def DP (H : Hp) (a : Addr) (y v : V) (H' : Hp) : Prop := DPut H a y v H' ∨ DPutN H a y v H'
theorem dn_of {P : Program} {w : World} {H : Hp} {h : Heap} {a : Addr} {xs : List (NestedKey × Addr × V)} (ok : HOk P w H h) (e : H a = some (dictN a xs)) (nk : NkIs H xs) : xs.length ≤ sizeLine ∧ (a == sysModules) = false ∧
    ∃ ys, KN xs ys ∧ h.DictOfH (nestedKind P w) a ys := by
  obtain ⟨⟨z, hd, ys, rel, o, es, ep, h1, h2, h3, h4, h5⟩, _⟩ := ok a _ e
  have all : ∀ {l : List (NestedKey × Addr × V)} {m : List (NestedKey × Addr × Value)}, KN l m → NkIs H l → ∀ x ∈ m, (nestedKind P w).is h x.1 x.2.1 := by
    intro l m q
    induction q with
    | nil => intro _ x hx; exact nomatch hx
    | @cons p q ps qs hq t ih =>
      intro nl x hx
      rcases List.mem_cons.mp hx with e | hx
      · subst e
        obtain ⟨g1, g2⟩ := nl p (by simp)
        obtain ⟨q1, q2, _⟩ := hq
        rw [← q1, ← q2]
        exact ⟨nk_is ok g1 rfl, g2⟩
      · exact ih (fun y hy => nl y (List.mem_cons_of_mem _ hy)) x hx
  exact ⟨z, hd, ys, rel, o, es, ep, h1, h2, h3, h4 P w, all rel nk, h5⟩
theorem kn_hash {H : Hp} {xs : List (NestedKey × Addr × V)} {ys : List (NestedKey × Addr × Value)} (r : KN xs ys) (nk : NkIs H xs) {P P' : Program} {w w' : World} : ys.map (entryOfKey (nestedKind P w)) = ys.map (entryOfKey (nestedKind P' w')) := by
  induction r with
  | nil => rfl
  | @cons p q ps qs h t ih =>
    rw [List.map_cons, List.map_cons, ih fun y hy => nk y (List.mem_cons_of_mem _ hy)]
    congr 1
    obtain ⟨g1, _⟩ := nk p (by simp)
    obtain ⟨q1, _, _⟩ := h
    rw [q1] at g1
    have := nk_hash w w' g1
    show (⟨q.1.hash w, _, _⟩ : DictEntry) = ⟨q.1.hash w', _, _⟩
    rw [this]
section
variable {X : Cx} {pins : List (Addr × Obj)} {σ : L2.St} {H : Hp} {s : Shared} {a : Addr} {y v : V} {u r : Value} {o : Option V} {A : Around} {E : Value → Shared → Prop}
theorem dn_key {P : Program} {w : World} {h : Heap} {k : NestedKey} {b : Addr} (ok : HOk P w H h) (hk : NkAt H k (.ref b)) (hd : k.depth ≤ 8) : (nestedKind P w).is h k b := ⟨nk_is ok hk rfl, hd⟩
theorem dg_getItem {Q : Value → Shared → Prop} (hu : A.units + 9 < cLine) (I : Inv X pins σ H s) (g : DG H a y (some v)) (ry : RelV y u) (h : ∀ w' s', Inv X pins σ H s' → RelV v w' → Q w' s') :
    wpAny (model X.prog X.w) A (getItem (.ref a) u) Q E s := by
  rcases g with g | ⟨xs, k, b, e, ey, hk, hd8, nk, l⟩
  · exact d_getItem (by omega) I g ry h
  · subst ey
    cases (show u = Value.ref b from ry)
    obtain ⟨z, hd, ys, rel, dd⟩ := dn_of I.hok e nk
    obtain ⟨w', hw, rw'⟩ := RelO.some_of (v := v) (o := (atKey ys k).map (·.2)) (by rw [l]; exact rel.val k)
    obtain ⟨p, hp, hp2⟩ := Option.map_eq_some_iff.mp hw
    refine wpAny_getItem_heap (show A.units + 1 + 8 < cLine by omega) (dn_key I.hok hk hd8) dd hp ?_
    rw [hp2]
    exact h w' _ (I.tok _) rw'
theorem dg_in {Q : Value → Shared → Prop} (hu : A.units + 9 < cLine) (I : Inv X pins σ H s) (g : DG H a y o) (ry : RelV y u) (h : ∀ s', Inv X pins σ H s' → Q (.bool o.isSome) s') :
    wpAny (model X.prog X.w) A (compareOp .In u (.ref a)) Q E s := by
  rcases g with g | ⟨xs, k, b, e, ey, hk, hd8, nk, l⟩
  · exact d_in (by omega) I g ry h
  · subst ey
    cases (show u = Value.ref b from ry)
    obtain ⟨z, hd, ys, rel, dd⟩ := dn_of I.hok e nk
    refine wpAny_in_heap (show A.units + 1 + 8 < cLine by omega) (dn_key I.hok hk hd8) hd dd ?_
    have q := (rel.val k).isSome_eq
    rw [Option.isSome_map] at q
    rw [← q, ← l]
    exact h _ (I.tok _)
theorem dg_notIn {Q : Value → Shared → Prop} (hu : A.units + 9 < cLine) (I : Inv X pins σ H s) (g : DG H a y o) (ry : RelV y u) (h : ∀ s', Inv X pins σ H s' → Q (.bool (!o.isSome)) s') :
    wpAny (model X.prog X.w) A (compareOp .NotIn u (.ref a)) Q E s := by
  rcases g with g | ⟨xs, k, b, e, ey, hk, hd8, nk, l⟩
  · exact d_notIn (by omega) I g ry h
  · subst ey
    cases (show u = Value.ref b from ry)
    obtain ⟨z, hd, ys, rel, dd⟩ := dn_of I.hok e nk
    refine wpAny_notIn_heap (show A.units + 1 + 8 < cLine by omega) (dn_key I.hok hk hd8) hd dd ?_
    have q := (rel.val k).isSome_eq
    rw [Option.isSome_map] at q
    rw [← q, ← l]
    exact h _ (I.tok _)
theorem dg_typeIs (I : Inv X pins σ H s) (g : DG H a y o) : s.TypeIs (.ref a) "dict" := by
  rcases g with g | ⟨xs, k, b, e, ey, hk, hd8, nk, l⟩
  · exact dict_typeIs I g
  · obtain ⟨_, _, ys, _, dd⟩ := dn_of I.hok e nk
    exact dd.typeIs
theorem dictN_ok {P : Program} {w : World} {H : Hp} {h : Heap} {a : Addr} {xs : List (NestedKey × Addr × V)} (x : DictNOk a xs h) : ObjOk P w H h a (dictN a xs) := by
  refine ⟨x, ?_, fun h1 h2 x1 k => ?_⟩
  · obtain ⟨_, _, ys, _, o, _, _, e, _⟩ := x
    exact ⟨o, e⟩
  · obtain ⟨z, hd, ys, rel, o, es, ep, e, c⟩ := x1
    exact ⟨z, hd, ys, rel, o, es, ep, k o e, c⟩
theorem dp_setItem {H' : Hp} {Q : Unit → Shared → Prop} (hu : A.units + 9 < cLine) (I : Inv X pins σ H s) (g : DP H a y v H') (ry : RelV y u) (rv : RelV v r) (h : ∀ s', Inv X pins σ H' s' → Q () s') :
    wpAny (model X.prog X.w) A (setItem (.ref a) u r) Q E s := by
  rcases g with g | ⟨xs, k, b, e, ey, hk, hd8, nk, l, eH⟩
  · exact d_setItem (by omega) I g ry rv h
  · subst ey eH
    cases (show u = Value.ref b from ry)
    obtain ⟨z, hd, ys, rel, dd⟩ := dn_of I.hok e nk
    have hz : ys.length ≤ sizeLine := by rw [← Paired.length rel]; exact z
    have hl : (putN xs k b v).length ≤ sizeLine := by have := putN_len xs k b v; omega
    refine wpAny_setItem_heap (hsz := hz) (show A.units + 1 + 8 < cLine by omega) (dn_key I.hok hk hd8) dd fun h' dd' hs => h _ ?_
    obtain ⟨q, es, ep, hq, h2, h3, h4, _, h5⟩ := dd'
    refine d_write I (by rw [e]; exact True.intro) hs ⟨q, hq⟩ (dictN_ok ⟨hl, hd, _, rel.put k rv, q, es, ep, hq, h2, h3, fun P w => ?_, h5⟩)
    rw [h4]
    exact kn_hash (rel.put k rv) (nk.put hk hd8 v)
end
section
variable {X : Cx} {o i e value : Expr} {pos pos' tpos : Pos} {td ty tv : TE}
def tDG (td ty : TE) : TE := fun σ H Q => td σ H fun x H1 => ty σ H1 fun y H2 => ∃ a v, x = .ref a ∧ DG H2 a y (some v) ∧ Q v H2
def sDP (td ty tv : TE) : TS := fun D σ H => tv σ H fun v H1 => td σ H1 fun x H2 => ty σ H2 fun y H3 => ∃ a H4, x = .ref a ∧ DP H3 a y v H4 ∧ D.nx σ H4
theorem pe_dg (hu : X.A.units + 9 < cLine) (ho : PE X o td) (hi : PE X i ty) (hs : NoSl i) : PE X (.Subscript o i pos) (tDG td ty) := by
  refine ⟨fun pins s σ H Q I h => ?_⟩
  refine subD_of PySem.F.slot_dict_getitem.lookup hs (thn (ho.run pins s σ H _ I h) fun u s1 ⟨x, H1, I1, rx, q1⟩ => thn (hi.run pins s1 σ H1 _ I1 q1) fun iv s2 ⟨y, H2, I2, ry, a, v, ex, g, q2⟩ => ?_)
  subst ex
  obtain rfl : u = Value.ref a := rx
  exact ⟨dg_typeIs I2 g, dg_getItem hu I2 g ry fun w' s3 I3 rw' => ⟨v, H2, I3, rw', q2⟩⟩
theorem ps_dp (hu : X.A.units + 9 < cLine) (ho : PE X o td) (hi : PE X i ty) (hv : PE X value tv) (hs : swapsWith value (some (.Subscript o i pos')) pos.line X.env = pure false) :
    PS X (.Assign [.Subscript o i pos'] value pos) (sDP td ty tv) := by
  refine ⟨fun pins s σ H D I h => ?_⟩
  refine wpAny_Assign_Subscript (thn (hv.run pins s σ H _ I h) fun r s1 ⟨v, H1, I1, rv, q1⟩ => thn (ho.run pins s1 σ H1 _ I1 q1) fun u s2 ⟨x, H2, I2, rx, q2⟩ => thn (hi.run pins s2 σ H2 _ I2 q2) fun iv s3 ⟨y, H3, I3, ry, a, H4, ex, g, q3⟩ => ?_) hs
  subst ex
  obtain rfl : u = Value.ref a := rx
  exact dp_setItem hu I3 g ry rv fun s4 I4 => ⟨σ, H4, I4, q3⟩
theorem dictN_empty {P : Program} {w : World} {H : Hp} (h : Heap) (hb : sysModules < h.objs.size) : ObjOk P w H (h.push { cls := .type "dict", data := .dict #[] }) h.objs.size (dictN h.objs.size []) :=
  dictN_ok ⟨Nat.zero_le _, beq_eq_false_iff_ne.mpr (Ne.symm (Nat.ne_of_lt hb)), [], .nil, _, #[], 0, Heap.get?_push_size _ rfl, ⟨rfl, rfl, rfl⟩, rfl, fun _ _ => rfl, List.nodup_nil⟩
def tDNewN : TE := fun _ H Q => ∀ p, H p = none → Q (.ref p) (upd H p (dictN p []))
theorem pe_dnewN : PE X (.Dict [] [] pos) tDNewN := ⟨fun pins s σ H Q I h =>
  wpAny_Dict_empty ⟨.ref s.heap.objs.size, _, I.laid (a := s.heap.objs.size) (o := dictN s.heap.objs.size []) (t' := s.toks) (fun _ _ q => Heap.get?_push_of_some _ q) (Nat.le_refl _) (dictN_empty s.heap I.big), rfl, h _ (I.hok.fresh (Nat.le_refl _))⟩⟩
end
end Dv

namespace Dv
open PySem PySem.Spec PyProof.Rows L2 Evl
theorem units1 {k : Nat} {A : Around} (r : Room k A) : A.units + 1 < cLine := by have := r.un; omega
theorem units9 {k : Nat} {A : Around} (r : Room k A) : A.units + 9 < cLine := by have := r.un; omega
/-! ### lists of keys with what stands by them -/
section
variable {κ : Type} [DecidableEq κ] {α β : Type}
def valA (l : List (κ × α)) (k : κ) : Option α := (l.find? fun e => decide (e.1 = k)).map (·.2)
def putA (l : List (κ × α)) (k : κ) (v : α) : List (κ × α) :=
  if (l.any fun e => decide (e.1 = k)) = true then l.map (fun e => if e.1 = k then (e.1, v) else e) else l ++ [(k, v)]
theorem valA_V (l : List (κ × V)) (k : κ) : valV l k = valA l k := rfl
theorem putA_V (l : List (κ × V)) (k : κ) (v : V) : putK l k v = putA l k v := rfl
/-- the place of a key -/
def plA : List κ → κ → Option Nat
  | [], _ => none
  | x :: l, k => if x = k then some 0 else (plA l k).map (· + 1)
theorem valA_nil (k : κ) : valA ([] : List (κ × α)) k = none := rfl
theorem valA_cons (e : κ × α) (l : List (κ × α)) (k : κ) : valA (e :: l) k = if e.1 = k then some e.2 else valA l k := by
  unfold valA
  rw [List.find?_cons]
  by_cases h : e.1 = k
  · simp [h]
  · simp [h]
theorem valA_pl : ∀ (l : List (κ × α)) (k : κ), valA l k = (plA (l.map (·.1)) k).bind fun j => (l.map (·.2))[j]?
  | [], k => rfl
  | e :: l, k => by
    rw [valA_cons, List.map_cons, List.map_cons]
    unfold plA
    by_cases h : e.1 = k
    · rw [if_pos h, if_pos h]; rfl
    · rw [if_neg h, if_neg h, valA_pl l k]
      cases plA (l.map (·.1)) k <;> simp
theorem plA_lt : ∀ {l : List κ} {k : κ} {j : Nat}, plA l k = some j → j < l.length
  | [], _, _, h => by cases h
  | x :: l, k, j, h => by
    unfold plA at h
    split at h
    · cases h; simp
    · obtain ⟨i, hi, rfl⟩ := Option.map_eq_some_iff.mp h
      have := plA_lt hi
      simpa using this
theorem plA_at : ∀ {l : List κ} {k : κ} {j : Nat}, plA l k = some j → l[j]? = some k
  | [], _, _, h => by cases h
  | x :: l, k, j, h => by
    unfold plA at h
    split at h
    · rename_i e; cases h; simp [e]
    · obtain ⟨i, hi, rfl⟩ := Option.map_eq_some_iff.mp h
      simpa using plA_at hi
theorem plA_none : ∀ {l : List κ} {k : κ}, plA l k = none ↔ k ∉ l
  | [], _ => by simp [plA]
  | x :: l, k => by
    unfold plA
    by_cases h : x = k
    · simp [h]
    · rw [if_neg h, Option.map_eq_none_iff, plA_none]
      simp [h, Ne.symm h]
theorem anyA (l : List (κ × α)) (k : κ) : (l.any fun e => decide (e.1 = k)) = (plA (l.map (·.1)) k).isSome := by
  induction l with
  | nil => rfl
  | cons e l ih =>
    rw [List.any_cons, ih, List.map_cons]
    have e2 : plA (e.1 :: l.map (·.1)) k = if e.1 = k then some 0 else (plA (l.map (·.1)) k).map (· + 1) := rfl
    rw [e2]
    by_cases h : e.1 = k
    · simp [h]
    · rw [if_neg h]; simp [h]
theorem putA_none {l : List (κ × α)} {k : κ} (v : α) (h : plA (l.map (·.1)) k = none) : putA l k v = l ++ [(k, v)] := by
  unfold putA
  rw [anyA, h]
  rfl
theorem putA_map : ∀ {l : List (κ × α)} {k : κ} {j : Nat} (v : α), (l.map (·.1)).Nodup → plA (l.map (·.1)) k = some j →
    (l.map fun e => if e.1 = k then (e.1, v) else e).map (·.1) = l.map (·.1) ∧ (l.map fun e => if e.1 = k then (e.1, v) else e).map (·.2) = (l.map (·.2)).set j v
  | [], _, _, _, _, h => by cases h
  | e :: l, k, j, v, nd, h => by
    rw [List.map_cons] at nd h
    obtain ⟨n1, n2⟩ := List.nodup_cons.mp nd
    unfold plA at h
    by_cases hk : e.1 = k
    · rw [if_pos hk] at h
      cases h
      have : ∀ e' ∈ l, ¬ e'.1 = k := fun e' he z => n1 (List.mem_map.mpr ⟨e', he, by rw [z, hk]⟩)
      have e2 : (l.map fun e => if e.1 = k then (e.1, v) else e) = l := by
        conv => rhs; rw [← List.map_id l]
        exact List.map_congr_left fun e' he => by rw [if_neg (this e' he)]; rfl
      rw [List.map_cons, e2, if_pos hk]
      exact ⟨rfl, rfl⟩
    · rw [if_neg hk] at h
      obtain ⟨i, hi, rfl⟩ := Option.map_eq_some_iff.mp h
      obtain ⟨h1, h2⟩ := putA_map v n2 hi
      rw [List.map_cons, if_neg hk, List.map_cons, List.map_cons, List.map_cons, List.map_cons, h1, h2]
      exact ⟨rfl, rfl⟩
theorem putA_some {l : List (κ × α)} {k : κ} {j : Nat} (v : α) (nd : (l.map (·.1)).Nodup) (h : plA (l.map (·.1)) k = some j) :
    (putA l k v).map (·.1) = l.map (·.1) ∧ (putA l k v).map (·.2) = (l.map (·.2)).set j v := by
  have : putA l k v = l.map fun e => if e.1 = k then (e.1, v) else e := by
    unfold putA
    rw [anyA, h]
    rfl
  rw [this]
  exact putA_map v nd h
end
/-! ### keys -/
def dkey : D → Option Key
  | .int i => some (.inl i)
  | .str x => some (.inr x)
  | _ => none
def dkeys : List D → Option (List Key)
  | [] => some []
  | d :: ds => match dkey d, dkeys ds with
    | some k, some ks => some (k :: ks)
    | _, _ => none
def tkey : D → Option (List Key)
  | .tup ds => dkeys ds
  | _ => none
mutual
/-- a key of any depth: no texts, no truths -/
def nkey : D → Option NestedKey
  | .int i => some (.num i)
  | .tup ds => (nkeys ds).map .tup
  | _ => none
def nkeys : List D → Option (List NestedKey)
  | [] => some []
  | d :: ds => match nkey d, nkeys ds with
    | some k, some ks => some (k :: ks)
    | _, _ => none
end
/-- a tuple, as a key -/
def ukey : D → Option NestedKey
  | .tup ds => match nkeys ds with
    | some ks => if (NestedKey.tup ks).depth ≤ 8 then some (.tup ks) else none
    | none => none
  | _ => none
def lookD : D → D → Option (Option D)
  | .dK kd, k => (dkey k).map (valA kd)
  | .dT kd, k => (tkey k).map (valA kd)
  | .dN kd, k => (ukey k).map (valA kd)
  | _, _ => none
def putD : D → D → D → Option D
  | .dK kd, k, v => match dkey k with
    | some kk => if kd.length < 1000000 ∧ (kd.map (·.1)).Nodup then some (.dK (putA kd kk v)) else none
    | none => none
  | .dT kd, k, v => match tkey k with
    | some kk => if kd.length < 1000000 ∧ (kd.map (·.1)).Nodup then some (.dT (putA kd kk v)) else none
    | none => none
  | .dN kd, k, v => match ukey k with
    | some kk => if kd.length < 1000000 ∧ (kd.map (·.1)).Nodup then some (.dN (putA kd kk v)) else none
    | none => none
  | _, _, _ => none
section
variable {K : PySem.W.Frag} {W : WW} {G H B : Hp}
theorem dkey_v {y : V} {d : D} {k : Key} (r : Re K G H y d) (e : dkey d = some k) : y = kV k := by
  cases r with
  | int i => cases e; rfl
  | str x => cases e; rfl
  | _ => cases e
theorem dkeys_v : ∀ {vs : List V} {ds : List D} {ks : List Key}, ReL K G H vs ds → dkeys ds = some ks → vs = ks.map kV
  | _, _, _, .nil, e => by cases e; rfl
  | _, _, _, .cons (d := d) (ds := ds) a b, e => by
    have e : (match dkey d, dkeys ds with
      | some k, some ks => some (k :: ks)
      | _, _ => none) = some _ := e
    split at e
    · rename_i k ks h1 h2
      cases e
      rw [List.map_cons, dkey_v a h1, dkeys_v b h2]
    · cases e
theorem tkey_v {y : V} {d : D} {k : List Key} (r : Re K G H y d) (e : tkey d = some k) : ∃ b, y = .ref b ∧ H b = some (.tup (k.map kV)) := by
  cases r with
  | tup hp hr => exact ⟨_, rfl, by rw [← dkeys_v hr e]; exact hp⟩
  | _ => cases e
mutual
theorem nkey_v {G H : Hp} : ∀ {y : V} {d : D} {k : NestedKey}, Re K G H y d → nkey d = some k → NkAt H k y
  | _, _, k, .int i, e => by
    have e : some (NestedKey.num i) = some k := by simpa only [nkey] using e
    cases e; exact .num i
  | _, _, k, .tup (ds := ds) hp hr, e => by
    obtain ⟨ks, h1, rfl⟩ := Option.map_eq_some_iff.mp (show (nkeys ds).map NestedKey.tup = some k by simpa only [nkey] using e)
    exact .tup hp (nkeys_v hr h1)
  | _, _, _, .non, e => by simp [nkey] at e
  | _, _, _, .bl _, e => by simp [nkey] at e
  | _, _, _, .str _, e => by simp [nkey] at e
  | _, _, _, .lst _ _, e => by simp [nkey] at e
  | _, _, _, .sc _ _, e => by simp [nkey] at e
  | _, _, _, .dk _ _ _, e => by simp [nkey] at e
  | _, _, _, .dt _ _ _, e => by simp [nkey] at e
  | _, _, _, .dn _ _ _ _, e => by simp [nkey] at e
theorem nkeys_v {G H : Hp} : ∀ {vs : List V} {ds : List D} {ks : List NestedKey}, ReL K G H vs ds → nkeys ds = some ks → NkAll H ks vs
  | _, _, k, .nil, e => by
    have e : some [] = some k := by simpa only [nkeys] using e
    cases e; exact .nil
  | _, _, kk, .cons (d := d) (ds := ds) a b, e => by
    have e : (match nkey d, nkeys ds with
      | some k, some ks => some (k :: ks)
      | _, _ => none) = some kk := by simpa only [nkeys] using e
    split at e
    · rename_i k ks h1 h2
      cases e
      exact .cons (nkey_v a h1) (nkeys_v b h2)
    · cases e
end
theorem ukey_v {y : V} {d : D} {k : NestedKey} (r : Re K G H y d) (e : ukey d = some k) : ∃ b, y = .ref b ∧ NkAt H k (.ref b) ∧ k.depth ≤ 8 := by
  cases r with
  | tup hp hr =>
    rename_i q vs ds
    have e : (match nkeys ds with
      | some ks => if (NestedKey.tup ks).depth ≤ 8 then some (NestedKey.tup ks) else none
      | none => none) = some k := e
    split at e
    · rename_i ks h1
      split at e
      · rename_i hd
        cases e
        exact ⟨_, rfl, .tup hp (nkeys_v hr h1), hd⟩
      · cases e
    · cases e
  | _ => cases e
theorem valN_A (xs : List (NestedKey × Addr × V)) (k : NestedKey) : valN xs k = valA (xs.map fun x => (x.1, x.2.2)) k := by
  induction xs with
  | nil => rfl
  | cons x xs ih =>
    rw [List.map_cons, valA_cons, ← ih]
    unfold valN
    rw [List.find?_cons]
    by_cases h : x.1 = k
    · simp [h]
    · simp [h]
theorem fst_N (xs : List (NestedKey × Addr × V)) : (xs.map fun x => (x.1, x.2.2)).map (·.1) = xs.map (·.1) := by rw [List.map_map]; rfl
theorem snd_N (xs : List (NestedKey × Addr × V)) : (xs.map fun x => (x.1, x.2.2)).map (·.2) = xs.map (·.2.2) := by rw [List.map_map]; rfl
theorem putN_A (xs : List (NestedKey × Addr × V)) (k : NestedKey) (b : Addr) (v : V) : ((putN xs k b v).map fun x => (x.1, x.2.2)) = putA (xs.map fun x => (x.1, x.2.2)) k v := by
  have e : ((xs.map fun x => (x.1, x.2.2)).any fun e => decide (e.1 = k)) = (xs.any fun x => decide (x.1 = k)) := by rw [List.any_map]; rfl
  unfold putN putA
  rw [e]
  split
  · rw [List.map_map, List.map_map]
    refine List.map_congr_left fun x _ => ?_
    simp only [Function.comp]
    split <;> rfl
  · rw [List.map_append]; rfl
/-- what is looked up reads as what is looked up -/
def ORe (K : PySem.W.Frag) (G H : Hp) : Option V → Option D → Prop
  | some v, some d => Re K G H v d
  | none, none => True
  | _, _ => False
theorem ore_val {κ : Type} [DecidableEq κ] {ks : List (κ × V)} {kd : List (κ × D)} (h : ks.map (·.1) = kd.map (·.1)) (r : ReL K G H (ks.map (·.2)) (kd.map (·.2))) (k : κ) : ORe K G H (valA ks k) (valA kd k) := by
  rw [valA_pl, valA_pl, h]
  cases e : plA (kd.map (·.1)) k with
  | none => trivial
  | some j =>
    have hj : j < (kd.map (·.2)).length := by
      have := plA_lt e
      simpa using this
    have e2 := List.getElem?_eq_getElem hj
    obtain ⟨v, h1, h2⟩ := r.get e2
    show ORe K G H (ks.map (·.2))[j]? (kd.map (·.2))[j]?
    rw [h1, e2]
    exact h2
theorem look_re {x y : V} {d k : D} {o : Option D} (g : Ex G H) (rx : Re K G H x d) (ry : Re K G H y k) (e : lookD d k = some o) : ∃ a r, x = .ref a ∧ DG H a y r ∧ ORe K G H r o := by
  cases rx with
  | dk hp hk hr =>
    rename_i a ks kd
    obtain ⟨kk, h1, rfl⟩ := Option.map_eq_some_iff.mp (show (dkey k).map (valA kd) = some o from e)
    obtain rfl := dkey_v ry h1
    exact ⟨a, _, rfl, Or.inl (DGet.k (g _ _ hp)), ore_val hk hr kk⟩
  | dt hp hk hr =>
    rename_i a ks kd
    obtain ⟨kk, h1, rfl⟩ := Option.map_eq_some_iff.mp (show (tkey k).map (valA kd) = some o from e)
    obtain ⟨b, rfl, hb⟩ := tkey_v ry h1
    exact ⟨a, _, rfl, Or.inl (DGet.t (g _ _ hp) hb), ore_val hk hr kk⟩
  | dn hp hn hk hr =>
    rename_i a xs kd
    obtain ⟨kk, h1, rfl⟩ := Option.map_eq_some_iff.mp (show (ukey k).map (valA kd) = some o from e)
    obtain ⟨b, rfl, hb, hd⟩ := ukey_v ry h1
    refine ⟨a, _, rfl, Or.inr ⟨xs, kk, b, g _ _ hp, rfl, hb, hd, hn, rfl⟩, ?_⟩
    rw [valN_A]
    exact ore_val (by rw [fst_N]; exact hk) (by rw [snd_N]; exact hr) kk
  | _ => cases e
/-! ### d[k], k in d -/
abbrev rDGet : R2 := fun x y H Q => ∃ a v, x = .ref a ∧ DG H a y (some v) ∧ Q v H
abbrev rDIn : R2 := fun y x H Q => ∃ a o, x = .ref a ∧ DG H a y o ∧ Q (.bl o.isSome) H
abbrev rDNin : R2 := fun y x H Q => ∃ a o, x = .ref a ∧ DG H a y o ∧ Q (.bl (!o.isSome)) H
def fDGet (d k : D) : Option D := match lookD d k with
  | some (some e) => some e
  | _ => none
def fDIn (k d : D) : Option D := (lookD d k).map fun o => .bl o.isSome
def fDNin (k d : D) : Option D := (lookD d k).map fun o => .bl (!o.isSome)
theorem ORe.isSome {r : Option V} {o : Option D} (h : ORe K G H r o) : r.isSome = o.isSome := by
  cases r <;> cases o <;> first | rfl | exact h.elim
theorem rvDGet : RV K rDGet fDGet := by
  intro G H x y dx dy d g rx ry e Q q
  unfold fDGet at e
  split at e
  · rename_i ee h1
    cases e
    obtain ⟨a, r, rfl, h2, h3⟩ := look_re g rx ry h1
    cases r with
    | none => exact h3.elim
    | some v => exact ⟨a, v, rfl, h2, q v h3⟩
  · cases e
theorem rvDIn : RV K rDIn fDIn := by
  intro G H x y dx dy d g rx ry e Q q
  obtain ⟨o, h1, rfl⟩ := Option.map_eq_some_iff.mp e
  obtain ⟨a, r, rfl, h2, h3⟩ := look_re g ry rx h1
  exact ⟨a, r, rfl, h2, by rw [h3.isSome]; exact q _ (.bl _)⟩
theorem rvDNin : RV K rDNin fDNin := by
  intro G H x y dx dy d g rx ry e Q q
  obtain ⟨o, h1, rfl⟩ := Option.map_eq_some_iff.mp e
  obtain ⟨a, r, rfl, h2, h3⟩ := look_re g ry rx h1
  exact ⟨a, r, rfl, h2, by rw [h3.isSome]; exact q _ (.bl _)⟩
end
section
variable {X : Cx} {K : PySem.W.Frag} {W : WW} {pos : Pos} {a b : Expr} {ta tb : TE} {da db : DE D}
theorem q_dget (hu : X.A.units + 9 < cLine) (ha : QB X K W a ta da) (hb : QB X K W b tb db) (hs : NoSl b := by exact fun _ _ => rfl) : QB X K W (.Subscript a b pos) (tOp rDGet ta tb) (dOp fDGet da db) := by
  obtain ⟨rfl, pa, ja⟩ := ha
  exact ⟨rfl, pe_dg hu pa hb.p hs, jOp rvDGet ja hb.j⟩
theorem op_din (hu : X.A.units + 9 < cLine) : OpR X (compareOp .In) rDIn := by
  intro pins s σ H x y v u Q I rx ry h
  obtain ⟨a, o, rfl, g, q⟩ := h
  obtain rfl : u = Value.ref a := ry
  exact dg_in hu I g rx fun s3 I3 => ⟨.bl o.isSome, H, I3, rfl, q⟩
theorem op_dnin (hu : X.A.units + 9 < cLine) : OpR X (compareOp .NotIn) rDNin := by
  intro pins s σ H x y v u Q I rx ry h
  obtain ⟨a, o, rfl, g, q⟩ := h
  obtain rfl : u = Value.ref a := ry
  exact dg_notIn hu I g rx fun s3 I3 => ⟨.bl (!o.isSome), H, I3, rfl, q⟩
theorem q_din (hu : X.A.units + 9 < cLine) (ha : QB X K W a ta da) (hb : QB X K W b tb db) (hm : behindInMarks .In b = false := by rfl) : QB X K W (.Compare a [.In] [b] pos) (tOp rDIn ta tb) (dOp fDIn da db) := q_cmp (r := fun _ => rDIn) (op_din hu) rvDIn hm ha hb
theorem qt_din (hu : X.A.units + 9 < cLine) (ha : QB X K W a ta da) (hb : QB X K W b tb db) (hm : behindInMarks .In b = false := by rfl) : QT X K W (.Compare a [.In] [b] pos) (tTest (tOp rDIn ta tb)) (dTest (dOp fDIn da db)) := qt_cmp (r := fun _ => rDIn) (op_din hu) rvDIn hm ha hb
theorem q_dnin (hu : X.A.units + 9 < cLine) (ha : QB X K W a ta da) (hb : QB X K W b tb db) (hm : behindInMarks .NotIn b = false := by rfl) : QB X K W (.Compare a [.NotIn] [b] pos) (tOp rDNin ta tb) (dOp fDNin da db) := q_cmp (r := fun _ => rDNin) (op_dnin hu) rvDNin hm ha hb
theorem qt_dnin (hu : X.A.units + 9 < cLine) (ha : QB X K W a ta da) (hb : QB X K W b tb db) (hm : behindInMarks .NotIn b = false := by rfl) : QT X K W (.Compare a [.NotIn] [b] pos) (tTest (tOp rDNin ta tb)) (dTest (dOp fDNin da db)) := qt_cmp (r := fun _ => rDNin) (op_dnin hu) rvDNin hm ha hb
end
end Dv

namespace Dv
open PySem PySem.Spec PyProof.Rows L2 Evl
section
variable {K : PySem.W.Frag} {W : WW} {B H H' : Hp} {σ : L2.St} {s : SD} {Fs : List (List Addr)} {i : Nat} {E : List Addr}
theorem tk_ne {H : Hp} {p : Addr} {o o' : HO} (hp : H p = some o) (h1 : ∀ xs, o ≠ .tup xs) (h2 : ∀ x u, o ≠ .frz x u) : Tk H (upd H p o') :=
  ⟨fun q zs h => by rw [upd_ne (ne_of h hp (fun z => h1 zs z.symm))]; exact h, fun q x u h => by rw [upd_ne (ne_of h hp (fun z => h2 x u z.symm))]; exact h⟩
/-- a part of what a slot holds in full is put otherwise -/
theorem mut_gen {v : V} {d d' : D} {ow' : Ow} {p : Addr} {o' : HO} {G : List Addr} (R0 : Rel K B H σ s Fs) (hs : s[i]? = some (some (d, .full))) (hσ : σ[i]? = some (some v)) (hv : ∀ a, w B a + (E ++ Fs.flatten).count a ≤ 1) (hp : p ∈ Fs.getD i []) (tk : Tk H (upd H p o'))
    (q : RS K B (upd H p o') v d' ow' G) (c : ∀ a, G.count a ≤ (Fs.getD i []).count a + E.count a) :
    Rel K B (upd H p o') σ (s.set i (some (d', ow'))) (Fs.set i G) ∧ SS B H (E ++ Fs.flatten) B (upd H p o') (Fs.set i G).flatten := by
  have hi := lt_of_get hs
  have hF : i < Fs.length := by rw [R0.l2, ← R0.l1]; exact hi
  have pC : 0 < (Fs.getD i []).count p := mem_count hp
  have pS : 0 < Fs.flatten.count p := by
    have h2 := flat_get (Fs := Fs) (i := i) p
    omega
  have hBp : B p = none := by
    have h1 := R0.wf p
    exact w_zero (by omega)
  have le : ∀ a, (Fs.set i G).flatten.count a ≤ (E ++ Fs.flatten).count a := fun a => by
    have h1 := flat_set (F := G) hF a
    have h2 := c a
    rw [List.count_append]
    omega
  refine ⟨⟨fun a x h => ?_, by rw [List.length_set]; exact R0.l1, by rw [List.length_set]; exact R0.l2, fun j d1 ow1 e => ?_, fun a => ?_, fun a ha => ?_⟩, ⟨Ex.refl _, tk, fun a ha z => ?_, fun a ha => live_upd ha, fun a ha => ?_⟩⟩
  · rw [upd_ne (fun q => by rw [q, hBp] at h; cases h)]
    exact R0.ex a x h
  · rw [getD_set hF]
    by_cases ej : j = i
    · subst ej
      rw [List.getElem?_set_self hi] at e
      rw [if_pos rfl]
      cases e
      exact ⟨v, hσ, q⟩
    · rw [List.getElem?_set_ne (Ne.symm ej)] at e
      rw [if_neg ej]
      obtain ⟨u, h1, h2⟩ := R0.at_ j d1 ow1 e
      refine ⟨u, h1, h2.mono (Ex.refl _) tk fun a ha => upd_ne fun q => ?_⟩
      subst q
      have h4 := mem_count ha
      have h5 := R0.wt a
      have h6 := tot_get2 Fs j i a ej
      omega
  · rw [← tot_flat]
    have := le a
    have := hv a
    omega
  · rcases mem_set_flat ha with h | h
    · exact live_upd (R0.lv a h)
    · exact q.live a h
  · refine upd_ne fun q => ?_
    subst q
    rw [List.count_append] at z
    omega
  · have := le a
    omega
theorem disj_slot (hi : i < Fs.length) (hv : ∀ a, w B a + (E ++ Fs.flatten).count a ≤ 1) (a : Addr) : (Fs.getD i []).count a + E.count a ≤ 1 := by
  have h1 := hv a
  have h2 := flat_get (Fs := Fs) (i := i) a
  rw [List.count_append] at h1
  omega
/-! ### a dict's own -/
/-- what a dict held in full is put to -/
theorem own_put {v x : V} {d k e d' : D} {F Fe : List Addr} (o : Own K H v d F) (e1 : putD d k e = some d') (hd : ∀ a, F.count a + Fe.count a ≤ 1) :
    ∃ p, v = .ref p ∧ p ∈ F ∧ ∀ y, Re K H H y k → Own K H x e Fe → ∃ o' G, DP H p y x (upd H p o') ∧ Tk H (upd H p o') ∧ Own K (upd H p o') v d' G ∧ ∀ a, G.count a ≤ F.count a + Fe.count a := by
  cases o with
  | im hi r => cases d <;> first | (cases e1; done) | simp [imm] at hi
  | tup _ _ => cases e1
  | lst _ _ => cases e1
  | dk hp hk r =>
    rename_i p ks kd F0
    have e1 : (match dkey k with
      | some kk => if kd.length < 1000000 ∧ (kd.map (·.1)).Nodup then some (D.dK (putA kd kk e)) else none
      | none => none) = some d' := e1
    split at e1
    · rename_i kk h1
      split at e1
      · rename_i hz
        cases e1
        refine ⟨p, rfl, by simp, fun y ry ox => ?_⟩
        obtain rfl := dkey_v ry h1
        have len : ks.length = kd.length := by
          have := congrArg List.length hk
          simpa using this
        have tk : Tk H (upd H p (.dK (putA ks kk x))) := tk_ne hp (fun _ z => nomatch z) (fun _ _ z => nomatch z)
        have np : ∀ a ∈ F0, a ≠ p := fun a ha z => by
          subst z
          have := hd a
          have := mem_count ha
          rw [List.count_cons_self] at *
          omega
        have npe : ∀ a ∈ Fe, a ≠ p := fun a ha z => by
          subst z
          have := hd a
          have := mem_count ha
          rw [List.count_cons_self] at *
          omega
        have ox2 : Own K (upd H p (.dK (putA ks kk x))) x e Fe := ox.mono tk fun a ha => upd_ne (npe a ha)
        have dp : DPut H p (kV kk) x (upd H p (.dK (putA ks kk x))) := DPut.k hp (by rw [len]; exact Nat.lt_of_lt_of_le hz.1 (by decide))
        cases hpl : plA (kd.map (·.1)) kk with
        | none =>
          have hpl2 : plA (ks.map (·.1)) kk = none := by rw [hk]; exact hpl
          refine ⟨.dK (putA ks kk x), p :: (F0 ++ (Fe ++ [])), .inl dp, tk, .dk upd_same ?_ ?_, fun a => by simp only [List.count_cons, List.count_append, List.count_nil]; omega⟩
          · rw [putA_none x hpl2, putA_none e hpl, List.map_append, List.map_append, hk]; rfl
          · rw [putA_none e hpl, putA_none x hpl2, List.map_append, List.map_append]
            have r1 : OwnL K (upd H p (.dK (putA ks kk x))) (ks.map (·.2)) (kd.map (·.2)) F0 := r.mono tk fun a ha => upd_ne (np a ha)
            rw [putA_none x hpl2] at r1 ox2
            exact r1.append (.cons ox2 .nil)
        | some j =>
          have hpl2 : plA (ks.map (·.1)) kk = some j := by rw [hk]; exact hpl
          obtain ⟨g1, g2⟩ := putA_some e hz.2 hpl
          obtain ⟨g3, g4⟩ := putA_some x (by rw [hk]; exact hz.2) hpl2
          have jl : j < (kd.map (·.2)).length := by have := plA_lt hpl; simpa using this
          obtain ⟨G, o1, o2⟩ := OwnL.put tk ox2 r jl fun a ha => upd_ne (np a ha)
          refine ⟨.dK (putA ks kk x), p :: G, .inl dp, tk, .dk upd_same (by rw [g1, g3, hk]) (by rw [g2, g4]; exact o1), fun a => ?_⟩
          have := o2 a
          simp only [List.count_cons]
          omega
      · cases e1
    · cases e1
  | dt hp hk r =>
    rename_i p ks kd F0
    have e1 : (match tkey k with
      | some kk => if kd.length < 1000000 ∧ (kd.map (·.1)).Nodup then some (D.dT (putA kd kk e)) else none
      | none => none) = some d' := e1
    split at e1
    · rename_i kk h1
      split at e1
      · rename_i hz
        cases e1
        refine ⟨p, rfl, by simp, fun y ry ox => ?_⟩
        obtain ⟨b, rfl, hb⟩ := tkey_v ry h1
        have len : ks.length = kd.length := by
          have := congrArg List.length hk
          simpa using this
        have tk : Tk H (upd H p (.dT (putA ks kk x))) := tk_ne hp (fun _ z => nomatch z) (fun _ _ z => nomatch z)
        have np : ∀ a ∈ F0, a ≠ p := fun a ha z => by
          subst z
          have := hd a
          have := mem_count ha
          rw [List.count_cons_self] at *
          omega
        have npe : ∀ a ∈ Fe, a ≠ p := fun a ha z => by
          subst z
          have := hd a
          have := mem_count ha
          rw [List.count_cons_self] at *
          omega
        have ox2 : Own K (upd H p (.dT (putA ks kk x))) x e Fe := ox.mono tk fun a ha => upd_ne (npe a ha)
        have dp : DPut H p (.ref b) x (upd H p (.dT (putA ks kk x))) := DPut.t hp hb (by rw [len]; exact Nat.lt_of_lt_of_le hz.1 (by decide))
        cases hpl : plA (kd.map (·.1)) kk with
        | none =>
          have hpl2 : plA (ks.map (·.1)) kk = none := by rw [hk]; exact hpl
          refine ⟨.dT (putA ks kk x), p :: (F0 ++ (Fe ++ [])), .inl dp, tk, .dt upd_same ?_ ?_, fun a => by simp only [List.count_cons, List.count_append, List.count_nil]; omega⟩
          · rw [putA_none x hpl2, putA_none e hpl, List.map_append, List.map_append, hk]; rfl
          · rw [putA_none e hpl, putA_none x hpl2, List.map_append, List.map_append]
            have r1 : OwnL K (upd H p (.dT (putA ks kk x))) (ks.map (·.2)) (kd.map (·.2)) F0 := r.mono tk fun a ha => upd_ne (np a ha)
            rw [putA_none x hpl2] at r1 ox2
            exact r1.append (.cons ox2 .nil)
        | some j =>
          have hpl2 : plA (ks.map (·.1)) kk = some j := by rw [hk]; exact hpl
          obtain ⟨g1, g2⟩ := putA_some e hz.2 hpl
          obtain ⟨g3, g4⟩ := putA_some x (by rw [hk]; exact hz.2) hpl2
          have jl : j < (kd.map (·.2)).length := by have := plA_lt hpl; simpa using this
          obtain ⟨G, o1, o2⟩ := OwnL.put tk ox2 r jl fun a ha => upd_ne (np a ha)
          refine ⟨.dT (putA ks kk x), p :: G, .inl dp, tk, .dt upd_same (by rw [g1, g3, hk]) (by rw [g2, g4]; exact o1), fun a => ?_⟩
          have := o2 a
          simp only [List.count_cons]
          omega
      · cases e1
    · cases e1
  | dn hp hn hk r =>
    rename_i p xs kd F0
    have e1 : (match ukey k with
      | some kk => if kd.length < 1000000 ∧ (kd.map (·.1)).Nodup then some (D.dN (putA kd kk e)) else none
      | none => none) = some d' := e1
    split at e1
    · rename_i kk h1
      split at e1
      · rename_i hz
        cases e1
        refine ⟨p, rfl, by simp, fun y ry ox => ?_⟩
        obtain ⟨b, rfl, hb, hd8⟩ := ukey_v ry h1
        have len : xs.length = kd.length := by
          have := congrArg List.length hk
          simpa using this
        have tk : Tk H (upd H p (dictN p (putN xs kk b x))) := tk_ne hp (fun _ z => nomatch z) (fun _ _ z => nomatch z)
        have np : ∀ a ∈ F0, a ≠ p := fun a ha z => by
          subst z
          have := hd a
          have := mem_count ha
          rw [List.count_cons_self] at *
          omega
        have npe : ∀ a ∈ Fe, a ≠ p := fun a ha z => by
          subst z
          have := hd a
          have := mem_count ha
          rw [List.count_cons_self] at *
          omega
        have ox2 : Own K (upd H p (dictN p (putN xs kk b x))) x e Fe := ox.mono tk fun a ha => upd_ne (npe a ha)
        have dp : DP H p (.ref b) x (upd H p (dictN p (putN xs kk b x))) := .inr ⟨xs, kk, b, hp, rfl, hb, hd8, hn, by rw [len]; exact Nat.lt_of_lt_of_le hz.1 (by decide), rfl⟩
        have hn2 : NkIs (upd H p (dictN p (putN xs kk b x))) (putN xs kk b x) := (hn.put hb hd8 x).mono tk.t
        have e1' : (putN xs kk b x).map (·.1) = (putA (xs.map fun z => (z.1, z.2.2)) kk x).map (·.1) := by rw [← putN_A, fst_N]
        have e2' : (putN xs kk b x).map (·.2.2) = (putA (xs.map fun z => (z.1, z.2.2)) kk x).map (·.2) := by rw [← putN_A, snd_N]
        have hk2 : (xs.map fun z => (z.1, z.2.2)).map (·.1) = kd.map (·.1) := by rw [fst_N]; exact hk
        cases hpl : plA (kd.map (·.1)) kk with
        | none =>
          have hpl2 : plA ((xs.map fun z => (z.1, z.2.2)).map (·.1)) kk = none := by rw [hk2]; exact hpl
          refine ⟨dictN p (putN xs kk b x), p :: (F0 ++ (Fe ++ [])), dp, tk, .dn upd_same hn2 ?_ ?_, fun a => by simp only [List.count_cons, List.count_append, List.count_nil]; omega⟩
          · rw [e1', putA_none x hpl2, putA_none e hpl, List.map_append, List.map_append, hk2]; rfl
          · rw [e2', putA_none e hpl, putA_none x hpl2, List.map_append, List.map_append, snd_N]
            have r1 : OwnL K (upd H p (dictN p (putN xs kk b x))) (xs.map (·.2.2)) (kd.map (·.2)) F0 := r.mono tk fun a ha => upd_ne (np a ha)
            exact r1.append (.cons ox2 .nil)
        | some j =>
          have hpl2 : plA ((xs.map fun z => (z.1, z.2.2)).map (·.1)) kk = some j := by rw [hk2]; exact hpl
          obtain ⟨g1, g2⟩ := putA_some e hz.2 hpl
          obtain ⟨g3, g4⟩ := putA_some x (by rw [hk2]; exact hz.2) hpl2
          have jl : j < (kd.map (·.2)).length := by have := plA_lt hpl; simpa using this
          obtain ⟨G, o1, o2⟩ := OwnL.put tk ox2 r jl fun a ha => upd_ne (np a ha)
          refine ⟨dictN p (putN xs kk b x), p :: G, dp, tk, .dn upd_same hn2 (by rw [e1', g1, g3, hk2]) (by rw [e2', g2, g4, snd_N]; exact o1), fun a => ?_⟩
          have := o2 a
          simp only [List.count_cons]
          omega
      · cases e1
    · cases e1
/-- what a dict held in full holds at a key, and what it is when that is put otherwise -/
theorem own_look {v : V} {d k e : D} {F : List Addr} (o : Own K H v d F) (e1 : lookD d k = some (some e)) :
    ∃ p, v = .ref p ∧ p ∈ F ∧ ∀ y, Re K H H y k → ∃ (u : V) (Fe R : List Addr), DG H p y (some u) ∧ Own K H u e Fe ∧ (∀ a, F.count a = Fe.count a + R.count a) ∧
      ∀ (H' : Hp) (e' d' : D) (F' : List Addr), putD d k e' = some d' → Tk H H' → (∀ a ∈ R, H' a = H a) → Own K H' u e' F' → ∃ G, Own K H' v d' G ∧ ∀ a, G.count a ≤ F'.count a + R.count a := by
  cases o with
  | im hi r => cases d <;> first | (cases e1; done) | simp [imm] at hi
  | tup _ _ => cases e1
  | lst _ _ => cases e1
  | dk hp hk r =>
    rename_i p ks kd F0
    obtain ⟨kk, h1, h2⟩ := Option.map_eq_some_iff.mp (show (dkey k).map (valA kd) = some (some e) from e1)
    refine ⟨p, rfl, by simp, fun y ry => ?_⟩
    obtain rfl := dkey_v ry h1
    rw [valA_pl] at h2
    obtain ⟨j, hj, hje⟩ := Option.bind_eq_some_iff.mp h2
    obtain ⟨u, Fe, R, a1, a2, a3, a4⟩ := r.at_ hje
    have hpl2 : plA (ks.map (·.1)) kk = some j := by rw [hk]; exact hj
    have hl : valV ks kk = some u := by rw [valA_V, valA_pl, hpl2]; exact a1
    refine ⟨u, Fe, p :: R, by rw [← hl]; exact .inl (DGet.k hp), a2, fun a => by have := a3 a; simp only [List.count_cons]; omega, fun H' e' d' F' e2 t kp o' => ?_⟩
    have e2 : (match dkey k with
      | some kk => if kd.length < 1000000 ∧ (kd.map (·.1)).Nodup then some (D.dK (putA kd kk e')) else none
      | none => none) = some d' := e2
    rw [h1] at e2
    simp only at e2
    split at e2
    · rename_i hz
      cases e2
      obtain ⟨g1, g2⟩ := putA_some e' hz.2 hj
      obtain ⟨G, b1, b2⟩ := a4 H' e' F' t (fun a ha => kp a (List.mem_cons_of_mem _ ha)) o'
      refine ⟨p :: G, .dk ((kp p (by simp)).trans hp) (by rw [g1]; exact hk) (by rw [g2]; exact b1), fun a => ?_⟩
      have := b2 a
      simp only [List.count_cons]
      omega
    · cases e2
  | dt hp hk r =>
    rename_i p ks kd F0
    obtain ⟨kk, h1, h2⟩ := Option.map_eq_some_iff.mp (show (tkey k).map (valA kd) = some (some e) from e1)
    refine ⟨p, rfl, by simp, fun y ry => ?_⟩
    obtain ⟨b, rfl, hb⟩ := tkey_v ry h1
    rw [valA_pl] at h2
    obtain ⟨j, hj, hje⟩ := Option.bind_eq_some_iff.mp h2
    obtain ⟨u, Fe, R, a1, a2, a3, a4⟩ := r.at_ hje
    have hpl2 : plA (ks.map (·.1)) kk = some j := by rw [hk]; exact hj
    have hl : valV ks kk = some u := by rw [valA_V, valA_pl, hpl2]; exact a1
    refine ⟨u, Fe, p :: R, by rw [← hl]; exact .inl (DGet.t hp hb), a2, fun a => by have := a3 a; simp only [List.count_cons]; omega, fun H' e' d' F' e2 t kp o' => ?_⟩
    have e2 : (match tkey k with
      | some kk => if kd.length < 1000000 ∧ (kd.map (·.1)).Nodup then some (D.dT (putA kd kk e')) else none
      | none => none) = some d' := e2
    rw [h1] at e2
    simp only at e2
    split at e2
    · rename_i hz
      cases e2
      obtain ⟨g1, g2⟩ := putA_some e' hz.2 hj
      obtain ⟨G, b1, b2⟩ := a4 H' e' F' t (fun a ha => kp a (List.mem_cons_of_mem _ ha)) o'
      refine ⟨p :: G, .dt ((kp p (by simp)).trans hp) (by rw [g1]; exact hk) (by rw [g2]; exact b1), fun a => ?_⟩
      have := b2 a
      simp only [List.count_cons]
      omega
    · cases e2
  | dn hp hn hk r =>
    rename_i p xs kd F0
    obtain ⟨kk, h1, h2⟩ := Option.map_eq_some_iff.mp (show (ukey k).map (valA kd) = some (some e) from e1)
    refine ⟨p, rfl, by simp, fun y ry => ?_⟩
    obtain ⟨b, rfl, hb, hd8⟩ := ukey_v ry h1
    rw [valA_pl] at h2
    obtain ⟨j, hj, hje⟩ := Option.bind_eq_some_iff.mp h2
    obtain ⟨u, Fe, R, a1, a2, a3, a4⟩ := r.at_ hje
    have hk2 : (xs.map fun z => (z.1, z.2.2)).map (·.1) = kd.map (·.1) := by rw [fst_N]; exact hk
    have hpl2 : plA ((xs.map fun z => (z.1, z.2.2)).map (·.1)) kk = some j := by rw [hk2]; exact hj
    have hl : valN xs kk = some u := by rw [valN_A, valA_pl, hpl2, snd_N]; exact a1
    refine ⟨u, Fe, p :: R, .inr ⟨xs, kk, b, hp, rfl, hb, hd8, hn, hl.symm⟩, a2, fun a => by have := a3 a; simp only [List.count_cons]; omega, fun H' e' d' F' e2 t kp o' => ?_⟩
    have e2 : (match ukey k with
      | some kk => if kd.length < 1000000 ∧ (kd.map (·.1)).Nodup then some (D.dN (putA kd kk e')) else none
      | none => none) = some d' := e2
    rw [h1] at e2
    simp only at e2
    split at e2
    · rename_i hz
      cases e2
      obtain ⟨g1, g2⟩ := putA_some e' hz.2 hj
      obtain ⟨G, b1, b2⟩ := a4 H' e' F' t (fun a ha => kp a (List.mem_cons_of_mem _ ha)) o'
      refine ⟨p :: G, .dn ((kp p (by simp)).trans hp) (hn.mono t.t) (by rw [g1]; exact hk) (by rw [g2]; exact b1), fun a => ?_⟩
      have := b2 a
      simp only [List.count_cons]
      omega
    · cases e2
/-- the same thing is looked up -/
theorem dget_uniq {p : Addr} {y : V} {r r' : Option V} (h : DGet H p y r) (h' : DGet H p y r') : r = r' := by
  have key : ∀ {u u' : HO}, Rd H p u → Rd H p u' → (∀ o z, u ≠ .frz o z) → (∀ o z, u' ≠ .frz o z) → u = u' := by
    intro u u' a b n1 n2
    rcases a with a | ⟨o, a⟩ <;> rcases b with b | ⟨o', b⟩ <;> rw [a] at b
    · exact Option.some.inj b
    · exact absurd (Option.some.inj b) (n1 _ _)
    · exact absurd (Option.some.inj b).symm (n2 _ _)
    · injection b with b; injection b
  rcases h with ⟨kvs, k, e, ey, l⟩ | ⟨kvs, k, b, e, ey, eb, l⟩ <;> rcases h' with ⟨kvs', k', e', ey', l'⟩ | ⟨kvs', k', b', e', ey', eb', l'⟩
  · have := key e e' (fun _ _ z => nomatch z) (fun _ _ z => nomatch z)
    cases this
    have ek : k = k' := kV_inj (ey.symm.trans ey')
    rw [l, l', ek]
  · have := key e e' (fun _ _ z => nomatch z) (fun _ _ z => nomatch z)
    cases this
  · have := key e e' (fun _ _ z => nomatch z) (fun _ _ z => nomatch z)
    cases this
  · have := key e e' (fun _ _ z => nomatch z) (fun _ _ z => nomatch z)
    cases this
    subst ey
    cases ey'
    rw [eb] at eb'
    have ek : k = k' := by
      injection eb' with eb'
      injection eb' with eb'
      exact kVs_inj eb'
    rw [l, l', ek]
theorem dg_uniq {p : Addr} {y : V} {r r' : Option V} {K : PySem.W.Frag} {B : Hp} {v : V} {d k : D} {ow : Ow} (h : DG H p y r) (h' : DG H p y r') (z : ∀ xs xs', H p = some (dictN p xs) → H p = some (dictN p xs') → NkIs H xs → NkIs H xs' → ∀ k, valN xs k = valN xs' k) : r = r' := by
  rcases h with h | ⟨xs, k1, b, e, ey, hk, hd8, nk, l⟩ <;> rcases h' with h' | ⟨xs', k1', b', e', ey', hk', hd8', nk', l'⟩
  · exact dget_uniq h h'
  · rcases h with ⟨kvs, k, e, _⟩ | ⟨kvs, k, b, e, _⟩ <;> rcases e with e | ⟨o, e⟩ <;> rw [e'] at e <;> exact absurd e (fun z => nomatch z)
  · rcases h' with ⟨kvs, k, e', _⟩ | ⟨kvs, k, b, e', _⟩ <;> rcases e' with e' | ⟨o, e'⟩ <;> rw [e] at e' <;> exact absurd e' (fun z => nomatch z)
  · subst ey
    cases ey'
    rw [l, l', nk_inj hk hk']
    exact z _ _ e e' nk nk' _
end
end Dv

namespace Dv
open PySem PySem.Spec PyProof.Rows L2 Evl
theorem rd_ex {H H' : Hp} (x : Ex H H') {a : Addr} {u : HO} (r : Rd H a u) : Rd H' a u := r.elim (fun h => .inl (x _ _ h)) fun ⟨o, h⟩ => .inr ⟨o, x _ _ h⟩
theorem dget_ex {H H' : Hp} (x : Ex H H') {a : Addr} {y : V} {r : Option V} (g : DGet H a y r) : DGet H' a y r := by
  rcases g with ⟨kvs, k, e, ey, l⟩ | ⟨kvs, k, b, e, ey, eb, l⟩
  · exact .inl ⟨kvs, k, rd_ex x e, ey, l⟩
  · exact .inr ⟨kvs, k, b, rd_ex x e, ey, x _ _ eb, l⟩
theorem ne_keep {H H' : Hp} {F : List Addr} (x : Ex H H') (l : ∀ a ∈ F, H a ≠ none) : ∀ a ∈ F, H' a ≠ none := fun a ha => ex_ne x (l a ha)
def isDct : D → Bool
  | .dK _ => true
  | .dT _ => true
  | _ => false
theorem dg_in2 {K : PySem.W.Frag} {H : Hp} {p : Addr} {d : D} {y : V} {r : Option V} {F : List Addr} (o : Own K H (.ref p) d F) (hd : isDct d = true) (g : DG H p y r) : DGet H p y r := by
  rcases g with g | ⟨xs, k, b, e, _⟩
  · exact g
  · cases o with
    | dk hp _ _ => rw [e] at hp; exact absurd hp fun z => nomatch z
    | dt hp _ _ => rw [e] at hp; exact absurd hp fun z => nomatch z
    | im hi _ => cases d <;> first | (simp [isDct] at hd; done) | simp [imm] at hi
    | _ => simp [isDct] at hd
/-- x[k] = c, x a dict that a slot holds in full -/
def sDSet (i : Nat) (dk : DE D) (c : DE (D × Ow)) : DS := fun s => match c s with
  | some (.ok (e, eo) s1) => if (s1[i]?).join.isSome = true then match dk s1 with
      | some (.ok k s2) => match s2[i]? with
        | some (some (d, .full)) => if eo = .full then (putD d k e).map fun d' => .next (s2.set i (some (d', .full))) else none
        | _ => none
      | some (.exc x s2) => some (.exc x s2)
      | none => none
    else none
  | some (.exc x s1) => some (.exc x s1)
  | none => none
section
variable {K : PySem.W.Frag} {W : WW} {tk te td ty tx : TE} {dk dz : DE D} {c cz : DE (D × Ow)} {i : Nat}
theorem slot_val {B H : Hp} {σ : L2.St} {s : SD} {Fs : List (List Addr)} (R0 : Rel K B H σ s Fs) (h : (s[i]?).join.isSome = true) : ∃ v0, σ[i]? = some (some v0) := by
  cases hs1 : s[i]? with
  | none => rw [hs1] at h; simp at h
  | some sl =>
    cases sl with
    | none => rw [hs1] at h; simp at h
    | some z =>
      obtain ⟨d0, ow0⟩ := z
      obtain ⟨v0, hσ, _⟩ := R0.at_ i d0 ow0 hs1
      exact ⟨v0, hσ⟩
theorem jsDSet (hc : JC K W te c) (hk : JB K W tk dk) : JS K W (sDP (tVar i) tk te) (sDSet i dk c) := by
  intro s o e B H σ Fs R0 En p
  unfold sDSet at e
  cases e1 : c s with
  | none => rw [e1] at e; cases e
  | some r1 =>
    rw [e1] at e
    refine hc s r1 e1 B H σ Fs R0 _ ?_
    cases r1 with
    | exc x s1 =>
      cases e
      exact fun B' H' Fs' x y => p σ B' H' Fs' x y.ss
    | ok z s1 =>
      obtain ⟨ed, eo⟩ := z
      intro v B1 H1 Fs1 F R1 y1 z1 l1 qv
      have qv : RS K B1 H1 v ed eo F := qv
      simp only at e
      by_cases hj0 : (s1[i]?).join.isSome = true
      case neg =>
        rw [if_neg hj0] at e
        cases e
      rw [if_pos hj0] at e
      obtain ⟨v0, hσ⟩ := slot_val R1 hj0
      refine ⟨v0, hσ, ?_⟩
      cases e2 : dk s1 with
      | none => rw [e2] at e; cases e
      | some r2 =>
        rw [e2] at e
        refine hk.pend (F := F) e2 R1 z1 l1 ?_ ?_
        · intro k s2 er yv B2 H2 Fs2 G R2 y2 z2 l2 q2
          obtain ⟨q2, rfl⟩ := q2
          cases er
          simp only at e
          have z2' : ∀ x, w B2 x + (F ++ Fs2.flatten).count x ≤ 1 := fun x => by simpa using z2 x
          have y2' : ES B1 H1 (F ++ Fs1.flatten) B2 H2 (F ++ Fs2.flatten) := by simpa using y2
          have yy : ES B H Fs.flatten B2 H2 (F ++ Fs2.flatten) := y1.trans y2'
          split at e
          · rename_i d hs
            split at e
            · rename_i hf
              subst hf
              obtain ⟨d', e3, rfl⟩ := Option.map_eq_some_iff.mp e
              obtain ⟨w0, hw0, o1⟩ := R2.at_ i d .full hs
              rw [hσ] at hw0
              cases hw0
              have o1 : Own K H2 v0 d (Fs2.getD i []) := o1
              have hF : i < Fs2.length := by rw [R2.l2, ← R2.l1]; exact lt_of_get hs
              obtain ⟨pp, rfl, hpp, rest⟩ := own_put (x := v) (Fe := F) o1 e3 (disj_slot hF z2')
              have qv2 : Own K H2 v ed F := Own.mono (Tk.of_ex y2.exH) qv (ex_keep y2.exH l1)
              obtain ⟨o', G, a1, a2, a3, a4⟩ := rest yv (q2.mono (frz_le R2.ex) (Tk.refl _)) qv2
              refine ⟨pp, _, rfl, a1, ?_⟩
              obtain ⟨b1, b2⟩ := mut_gen (E := F) (d' := d') (ow' := .full) R2 hs hσ z2' hpp a2 a3 a4
              exact p σ _ _ _ b1 (yy.ss.trans b2)
            · cases e
          · cases e
        · intro x s2 er B2 H2 Fs2 R2 y2 z2
          cases er
          cases e
          exact p σ _ H2 Fs2 (R2.know z2) ((y1.trans y2).let_go F Fs2.flatten (ne_keep y2.exH l1) (fun a => List.count_append) R2.ex).ss
/-- x[k].append(c), x a dict that a slot holds in full -/
def sDApp (i : Nat) (dk : DE D) (c : DE (D × Ow)) : DS := fun s => if (s[i]?).join.isSome = true then match dk s with
  | some (.ok k s1) => match s1[i]? with
    | some (some (d, .full)) => match lookD d k with
      | some (some (.lst _)) => if isDct d = true then match c s1 with
        | some (.ok (e, eo) s2) => match s2[i]? with
          | some (some (d2, .full)) => match lookD d2 k with
            | some (some (.lst ds)) => if (eo = .full ∧ ds.length < 1000000) ∧ isDct d2 = true then (putD d2 k (.lst (ds ++ [e]))).map fun d' => .next (s2.set i (some (d', .full))) else none
            | _ => none
          | _ => none
        | some (.exc x s2) => some (.exc x s2)
        | none => none
        else none
      | _ => none
    | _ => none
  | some (.exc x s1) => some (.exc x s1)
  | none => none
  else none
theorem jsDApp (hk : JB K W tk dk) (hc : JC K W te c) : JS K W (tApp K (tOp rDGet (tVar i) tk) te) (sDApp i dk c) := by
  intro s o e B H σ Fs R0 En p
  unfold sDApp at e
  by_cases hj0 : (s[i]?).join.isSome = true
  case neg =>
    rw [if_neg hj0] at e
    cases e
  rw [if_pos hj0] at e
  obtain ⟨v0, hσ⟩ := slot_val R0 hj0
  refine ⟨v0, hσ, ?_⟩
  cases e1 : dk s with
  | none => rw [e1] at e; cases e
  | some r1 =>
    rw [e1] at e
    refine hk s r1 e1 B H σ Fs R0 _ ?_
    cases r1 with
    | exc x s1 =>
      cases e
      exact fun B' H' Fs' x y => p σ B' H' Fs' x y.ss
    | ok k s1 =>
      intro yv B1 H1 Fs1 F R1 y1 z1 l1 q1
      obtain ⟨q1, rfl⟩ := q1
      simp only at e
      split at e
      · rename_i d hs
        split at e
        · rename_i ds0 hg
          by_cases hdc : isDct d = true
          case neg =>
            rw [if_neg hdc] at e
            cases e
          rw [if_pos hdc] at e
          obtain ⟨w0, hw0, o1⟩ := R1.at_ i d .full hs
          rw [hσ] at hw0
          cases hw0
          have o1 : Own K H1 v0 d (Fs1.getD i []) := o1
          obtain ⟨pp, rfl, hpp, rest⟩ := own_look o1 hg
          have qk1 : Re K H1 H1 yv k := q1.mono (frz_le R1.ex) (Tk.refl _)
          obtain ⟨u, Fe, RR, g1, o2, c1, _⟩ := rest yv qk1
          refine ⟨pp, u, rfl, g1, ?_⟩
          have ul : ∃ q vs, u = .ref q ∧ H1 q = some (.lst vs) := by
            cases o2 with
            | im hi _ => simp [imm] at hi
            | lst h _ => exact ⟨_, _, rfl, h⟩
          obtain ⟨q, vs0, rfl, hq⟩ := ul
          refine ⟨.inl ⟨rfl, vs0, sq_of hq⟩, ?_⟩
          cases e3 : c s1 with
          | none => rw [e3] at e; cases e
          | some r3 =>
            rw [e3] at e
            refine hc s1 r3 e3 B1 H1 σ Fs1 R1 _ ?_
            cases r3 with
            | exc x s2 =>
              cases e
              exact fun B' H' Fs' x y => p σ B' H' Fs' x (y1.trans y).ss
            | ok zz s2 =>
              obtain ⟨ed, eo⟩ := zz
              intro v B2 H2 Fs2 F2 R2 y2 z2 l2 qv
              have qv : RS K B2 H2 v ed eo F2 := qv
              simp only at e
              split at e
              · rename_i d2 hs2
                split at e
                · rename_i ds hg2
                  split at e
                  · rename_i hh
                    obtain ⟨⟨hf, hz⟩, hdc2⟩ := hh
                    subst hf
                    obtain ⟨d', e5, rfl⟩ := Option.map_eq_some_iff.mp e
                    obtain ⟨w0, hw0, o3⟩ := R2.at_ i d2 .full hs2
                    rw [hσ] at hw0
                    cases hw0
                    have o3 : Own K H2 (.ref pp) d2 (Fs2.getD i []) := o3
                    have hF : i < Fs2.length := by rw [R2.l2, ← R2.l1]; exact lt_of_get hs2
                    have dj := disj_slot hF z2
                    obtain ⟨pp2, ep2, hpp2, rest2⟩ := own_look o3 hg2
                    cases ep2
                    obtain ⟨u2, Fe2, RR2, g2, o4, c2, put⟩ := rest2 yv (qk1.mono y2.exH (Tk.of_ex y2.exH))
                    have eu := dget_uniq (dg_in2 o3 hdc2 g2) (dget_ex y2.exH (dg_in2 o1 hdc g1))
                    cases eu
                    obtain ⟨Fq, eFq⟩ : ∃ Fq, Fq = Fe2 := ⟨_, rfl⟩
                    rw [← eFq] at o4
                    cases o4 with
                    | im hi _ => simp [imm] at hi
                    | lst hq2 ol =>
                      rename_i vs F1
                      have qin : q ∈ Fs2.getD i [] := by
                        have h1 := c2 q
                        rw [← eFq, List.count_cons_self] at h1
                        exact count_mem (by omega)
                      have tk := tk_upd (ys := vs ++ [v]) hq2
                      have nF1 : ∀ a ∈ F1, a ≠ q := fun a ha z => by
                        subst z
                        have h1 := c2 a
                        have h2 := dj a
                        have h3 := mem_count ha
                        rw [← eFq, List.count_cons_self] at h1
                        omega
                      have nF2 : ∀ a ∈ F2, a ≠ q := fun a ha z => by
                        subst z
                        have h1 := c2 a
                        have h2 := dj a
                        have h3 := mem_count ha
                        rw [← eFq, List.count_cons_self] at h1
                        omega
                      have nR : ∀ a ∈ RR2, a ≠ q := fun a ha z => by
                        subst z
                        have h1 := c2 a
                        have h2 := dj a
                        have h3 := mem_count ha
                        rw [← eFq, List.count_cons_self] at h1
                        omega
                      refine ⟨q, vs, v, rfl, rfl, hq2, ?_, ?_⟩
                      · rw [(ol.re (G := H2) fun _ _ => rfl).length]
                        exact Nat.lt_of_lt_of_le hz (by decide)
                      · have o5 : OwnL K (upd H2 q (.lst (vs ++ [v]))) (vs ++ [v]) (ds ++ [ed]) (F1 ++ (F2 ++ [])) :=
                          (ol.mono tk fun a ha => upd_ne (nF1 a ha)).append (.cons (Own.mono tk qv fun a ha => upd_ne (nF2 a ha)) .nil)
                        obtain ⟨G, b1, b2⟩ := put _ (.lst (ds ++ [ed])) d' (q :: (F1 ++ (F2 ++ []))) e5 tk (fun a ha => upd_ne (nR a ha)) (.lst upd_same o5)
                        obtain ⟨b3, b4⟩ := mut_gen (E := F2) (d' := d') (ow' := .full) (G := G) R2 hs2 hσ z2 qin tk b1 fun a => by
                          have h1 := c2 a
                          have h2 := b2 a
                          rw [← eFq] at h1
                          simp only [List.count_cons, List.count_append, List.append_nil] at h1 h2 ⊢
                          omega
                        refine p σ _ _ _ b3 (SS.trans ?_ b4)
                        have := (y1.trans (by simpa using y2)).ss
                        exact this
                  · cases e
                · cases e
              · cases e
        · cases e
      · cases e
/-! ### d.get(k, x) -/
theorem isDct_re {G H : Hp} {v : V} {d : D} (g : Ex G H) (r : Re K G H v d) (h : isDct d = true) : ∃ a, v = .ref a ∧ IsD H a := by
  cases r with
  | dk hp _ _ => exact ⟨_, rfl, .inl ⟨_, .inl (g _ _ hp)⟩⟩
  | dt hp _ _ => exact ⟨_, rfl, .inr ⟨_, .inl (g _ _ hp)⟩⟩
  | _ => simp [isDct] at h
theorem look_re2 {G G' H : Hp} {x y : V} {d k : D} {o : Option D} (g : Ex G H) (rx : Re K G H x d) (ry : Re K G' H y k) (e : lookD d k = some o) (hdc : isDct d = true) : ∃ a r, x = .ref a ∧ DGet H a y r ∧ ORe K G H r o := by
  cases rx with
  | dn _ _ _ _ => simp [isDct] at hdc
  | dk hp hk hr =>
    rename_i a ks kd
    obtain ⟨kk, h1, rfl⟩ := Option.map_eq_some_iff.mp (show (dkey k).map (valA kd) = some o from e)
    obtain rfl := dkey_v ry h1
    exact ⟨a, _, rfl, DGet.k (g _ _ hp), ore_val hk hr kk⟩
  | dt hp hk hr =>
    rename_i a ks kd
    obtain ⟨kk, h1, rfl⟩ := Option.map_eq_some_iff.mp (show (tkey k).map (valA kd) = some o from e)
    obtain ⟨b, rfl, hb⟩ := tkey_v ry h1
    exact ⟨a, _, rfl, DGet.t (g _ _ hp) hb, ore_val hk hr kk⟩
  | _ => cases e
def bDGet2 (da dk dz : DE D) : DE D := fun s => match da s with
  | some (.ok d s1) => if isDct d = true then match dk s1 with
      | some (.ok k s2) => match dz s2 with
        | some (.ok z s3) => (lookD d k).map fun o => .ok (o.getD z) s3
        | some (.exc x s3) => some (.exc x s3)
        | none => none
      | some (.exc x s2) => some (.exc x s2)
      | none => none
    else none
  | some (.exc x s1) => some (.exc x s1)
  | none => none
theorem jbDGet2 {da : DE D} (ha : JB K W td da) (hk : JB K W ty dk) (hz : JB K W tx dz) : JB K W (tDGet2 td ty tx) (bDGet2 da dk dz) := by
  intro s r e B H σ Fs R0 Q p
  unfold bDGet2 at e
  cases e1 : da s with
  | none => rw [e1] at e; cases e
  | some r1 =>
    rw [e1] at e
    refine ha s r1 e1 B H σ Fs R0 _ ?_
    cases r1 with
    | exc x s1 => cases e; exact p
    | ok d s1 =>
      intro v B1 H1 Fs1 F R1 y1 z1 l1 q1
      obtain ⟨q1, rfl⟩ := q1
      simp only at e
      split at e
      · rename_i hd
        obtain ⟨a, rfl, ha⟩ := isDct_re (frz_le R1.ex) q1 hd
        refine ⟨a, rfl, ha, ?_⟩
        cases e2 : dk s1 with
        | none => rw [e2] at e; cases e
        | some r2 =>
          rw [e2] at e
          refine hk s1 r2 e2 B1 H1 σ Fs1 R1 _ ?_
          cases r2 with
          | exc x s2 => cases e; exact p.step y1
          | ok k s2 =>
            intro yv B2 H2 Fs2 F R2 y2 z2 l2 q2
            obtain ⟨q2, rfl⟩ := q2
            simp only at e
            cases e3 : dz s2 with
            | none => rw [e3] at e; cases e
            | some r3 =>
              rw [e3] at e
              refine hz s2 r3 e3 B2 H2 σ Fs2 R2 _ ?_
              cases r3 with
              | exc x s3 => cases e; exact p.step (y1.trans y2)
              | ok z s3 =>
                intro zv B3 H3 Fs3 F R3 y3 z3 l3 q3
                obtain ⟨q3, rfl⟩ := q3
                obtain ⟨o, h1, rfl⟩ := Option.map_eq_some_iff.mp e
                have qd := (q1.mono y2.vw (Tk.of_ex y2.exH)).mono y3.vw (Tk.of_ex y3.exH)
                have qk := q2.mono y3.vw (Tk.of_ex y3.exH)
                obtain ⟨a', r, ea, g, orr⟩ := look_re2 (frz_le R3.ex) qd qk h1 hd
                cases ea
                refine ⟨r, g, ?_⟩
                refine Post.here R3 (a := o.getD z) ⟨?_, rfl⟩ (p.step ((y1.trans y2).trans y3))
                cases r <;> cases o <;> first | exact q3 | exact orr | exact orr.elim
      · cases e
/-- the same of a dict let go, what is handed in made on the spot -/
def cDGet2 (c : DE (D × Ow)) (dk : DE D) (cz : DE (D × Ow)) : DE (D × Ow) := fun s => match c s with
  | some (.ok (d, .no) s1) => if isDct d = true then match dk s1 with
      | some (.ok k s2) => match cz s2 with
        | some (.ok (z, _) s3) => (lookD d k).map fun o => .ok (o.getD z, .no) s3
        | some (.exc x s3) => some (.exc x s3)
        | none => none
      | some (.exc x s2) => some (.exc x s2)
      | none => none
    else none
  | some (.exc x s1) => some (.exc x s1)
  | _ => none
theorem jcDGet2 (hc : JC K W td c) (hk : JB K W ty dk) (hz : JC K W tx cz) : JC K W (tDGet2 td ty tx) (cDGet2 c dk cz) := by
  intro s r e B H σ Fs R0 Q p
  unfold cDGet2 at e
  split at e
  · rename_i d s1 e1
    refine hc s _ e1 B H σ Fs R0 _ ?_
    intro v B1 H1 Fs1 F R1 y1 z1 l1 q1
    obtain ⟨q1, rfl⟩ : Re K B1 H1 v d ∧ F = [] := q1
    split at e
    · rename_i hd
      obtain ⟨a, rfl, ha⟩ := isDct_re R1.ex q1 hd
      refine ⟨a, rfl, ha, ?_⟩
      cases e2 : dk s1 with
      | none => rw [e2] at e; cases e
      | some r2 =>
        rw [e2] at e
        refine hk s1 r2 e2 B1 H1 σ Fs1 R1 _ ?_
        cases r2 with
        | exc x s2 => cases e; exact p.step y1
        | ok k s2 =>
          intro yv B2 H2 Fs2 F R2 y2 z2 l2 q2
          obtain ⟨q2, rfl⟩ := q2
          simp only at e
          cases e3 : cz s2 with
          | none => rw [e3] at e; cases e
          | some r3 =>
            rw [e3] at e
            refine hz s2 r3 e3 B2 H2 σ Fs2 R2 _ ?_
            cases r3 with
            | exc x s3 => cases e; exact p.step (y1.trans y2)
            | ok zz s3 =>
              obtain ⟨z, zo⟩ := zz
              intro zv B3 H3 Fs3 F R3 y3 z3 l3 q3
              have q3 : RS K B3 H3 zv z zo F := q3
              obtain ⟨o, h1, rfl⟩ := Option.map_eq_some_iff.mp e
              have qd : Re K B3 H3 (.ref a) d := (q1.mono y2.exB (Tk.of_ex y2.exH)).mono y3.exB (Tk.of_ex y3.exH)
              have qk : Re K H3 H3 yv k := (q2.mono (frz_le R2.ex) (Tk.refl _)).mono y3.exH (Tk.of_ex y3.exH)
              obtain ⟨a', r, ea, g, orr⟩ := look_re2 R3.ex qd qk h1 hd
              cases ea
              refine ⟨r, g, ?_⟩
              have yy : ES B H Fs.flatten B3 H3 (F ++ Fs3.flatten) := (y1.trans y2).trans y3
              refine p _ (frz B3 H3 F) H3 Fs3 [] (R3.know z3) (yy.let_go F Fs3.flatten l3 (fun a => List.count_append) R3.ex) (R3.know z3).wf (fun _ z => nomatch z) ?_
              show RS K (frz B3 H3 F) H3 _ (o.getD z) .no []
              refine ⟨?_, rfl⟩
              cases r <;> cases o <;> first | exact q3.fz (frz_ex R3.ex) (fun a ha => frz_in ha) | exact Re.mono (frz_ex R3.ex) (Tk.refl _) orr | exact orr.elim
    · cases e
  · rename_i x s1 e1
    cases e
    exact hc s _ e1 B H σ Fs R0 _ p
  · cases e
/-! ### list(d), {} -/
def keyD : Key → D
  | .inl i => .int i
  | .inr x => .str x
theorem keyD_re {G H : Hp} : ∀ k : Key, Re K G H (kV k) (keyD k)
  | .inl i => .int i
  | .inr x => .str x
theorem keysD_re {G H : Hp} : ∀ ks : List Key, ReL K G H (ks.map kV) (ks.map keyD)
  | [] => .nil
  | k :: ks => .cons (keyD_re k) (keysD_re ks)
def rListT : List V → Hp → VK → Prop := fun xs H Q => ∃ d kvs, xs = [V.ref d] ∧ Rd H d (.dT kvs) ∧ ∀ p bs, H p = none → IsKeys H kvs bs → Q (.ref p) (upd H p (.lst (bs.map V.ref)))
def cListT (dr : DE (List D)) : DE (D × Ow) := bnd dr fun ds s => match ds with
  | [.dT kd] => some (mkL (kd.map fun e => D.tup (e.1.map keyD)) s)
  | _ => none
theorem keysT_re {G H : Hp} : ∀ {ks : List (List Key × V)} {bs : List Addr} {kd : List (List Key × D)}, IsKeys H ks bs → ks.map (·.1) = kd.map (·.1) → ReL K G H (bs.map V.ref) (kd.map fun e => D.tup (e.1.map keyD))
  | _, _, [], .nil, _ => .nil
  | _, _, _ :: _, .nil, h => by simp at h
  | _, _, [], .cons _ _, h => by simp at h
  | _, _, e :: kd, .cons h t, q => by
    simp only [List.map_cons, List.cons.injEq] at q
    refine .cons (.tup (by rw [← q.1]; exact h) (keysD_re _)) (keysT_re t q.2)
theorem jcListT {tr : TA} {dr : DE (List D)} (h : JA K W tr dr) : JC K W (tCB rListT tr) (cListT dr) := by
  refine J.one (k := fun x _ H Q => rListT x H Q) h zL fun x s r0 e vx B H σ Fs R0 q1 Q p => ?_
  obtain ⟨q1, -⟩ := q1
  split at e
  · cases e
    obtain ⟨v, rfl, q⟩ := reL1c q1
    cases q with
    | dt hp hk hr =>
      refine ⟨_, _, rfl, .inl (frz_le R0.ex _ _ hp), fun c bs hc hb => ?_⟩
      exact newL R0 (keysT_re hb hk) hc p
  · cases e
end
section
variable {X : Cx} {K : PySem.W.Frag} {W : WW} {pos spos cpos apos p : Pos} {a b e f : Expr} {es : List Expr} {t : TA} {dA : DE (List D)} {ta tb te tk : TE} {da db dk dz : DE D} {ca cz : DE (D × Ow)}
theorem qs_dset (i : Nat) (hu : X.A.units + 9 < cLine) (hc : QC X K W e te ca) (ho : QB X K W a (tVar i) (dVar i)) (hk : QB X K W b tk dk) (hs : swapsWith e (some (.Subscript a b pos)) spos.line X.env = pure false := by rfl) :
    QS X K W (.Assign [.Subscript a b pos] e spos) (sDP (tVar i) tk te) (sDSet i dk ca) :=
  ⟨hc.hk, ps_dp hu ho.p hk.p hc.p hs, jsDSet hc.j hk.j⟩
theorem qs_dapp (i : Nat) (hu : X.A.units + 9 < cLine) (ho : QB X K W a (tVar i) (dVar i)) (hk : QB X K W b tk dk) (he : QC X K W e te ca) (hsl : NoSl b := by exact fun _ _ => rfl) (h1 : attributeBase (.Subscript a b pos) "append" X.env (eval (.Subscript a b pos) X.env) = eval (.Subscript a b pos) X.env := by rfl)
    (h2 : (((List.all (backTo cpos (starEach [e] X.env)) fun x => !Prod.fst x) && List.all (backToKw cpos (keywordEach [] X.env)) fun x => Option.isSome (Prod.fst x)) && decide ((List.length [e] + List.length ([] : List Keyword) + if List.isEmpty ([] : List Keyword) = true then 0 else 1) < 30)) = true := by rfl)
    (h3 : (apos.endLine == cpos.line) = true := by rfl) (h4 : starEach [e] X.env = (false, eval e X.env) :: starEach [] X.env := by rfl) (hs : swapsWith (.Call (.Attribute (.Subscript a b pos) "append" apos) [e] [] cpos) none spos.line X.env = pure false := by rfl) :
    QS X K W (.Expr (.Call (.Attribute (.Subscript a b pos) "append" apos) [e] [] cpos) spos) (tApp K (tOp rDGet (tVar i) tk) te) (sDApp i dk ca) := by
  obtain ⟨rfl, pa, ja⟩ := ho
  exact ⟨rfl, ps_expr (pe_bm PySem.F.plainAttrs_list PySem.F.slot_list_append PySem.F.type_list_append mt_append (pe_dg hu pa hk.p hsl) (pa_cons he.p pa_nil h4) h1 h2 h3 h4 (by rfl)) hs, jsDApp hk.j he.j⟩
theorem q_dget2 (hu : X.A.units + 9 < cLine) (ho : QB X K W a ta da) (he : QB X K W e te dk) (hf : QB X K W f tb dz) (m : M2 X a "get" apos e f cpos := by exact ⟨by rfl, by rfl, by rfl, by rfl⟩) : QB X K W (.Call (.Attribute a "get" apos) [e, f] [] cpos) (tDGet2 ta te tb) (bDGet2 da dk dz) :=
  ⟨ho.hk, pe_dget2 (by omega) ho.p he.p hf.p m, jbDGet2 ho.j he.j hf.j⟩
theorem q_dget2C (hu : X.A.units + 9 < cLine) (ho : QC X K W a ta ca) (he : QB X K W e te dk) (hf : QC X K W f tb cz) (m : M2 X a "get" apos e f cpos := by exact ⟨by rfl, by rfl, by rfl, by rfl⟩) : QC X K W (.Call (.Attribute a "get" apos) [e, f] [] cpos) (tDGet2 ta te tb) (cDGet2 ca dk cz) :=
  ⟨ho.hk, pe_dget2 (by omega) ho.p he.p hf.p m, jcDGet2 ho.j he.j hf.j⟩
theorem q_newK (hk : X.K = K := by rfl) : QC X K W (.Dict [] [] pos) tDNewK cDNewK := ⟨hk, pe_dnewK, jcDNewK⟩
theorem q_newT (hk : X.K = K := by rfl) : QC X K W (.Dict [] [] pos) tDNewT cDNewT := ⟨hk, pe_dnewT, jcDNewT⟩
theorem q_listT (hc : X.calm = true) (hg : Gl X "list") (hm : X.mg "list" = none) (h : QA X K W (e :: es) t dA) (he : starEach (e :: es) X.env = (false, eval e X.env) :: starEach es X.env := by rfl) (hpl : (backTo pos (starEach es X.env)).any (·.1) = false := by rfl) : QC X K W (.Call (.Name "list" p) (e :: es) [] pos) (tCB rListT t) (cListT dA) := by
  obtain ⟨rfl, pa, ja⟩ := h
  exact ⟨rfl, pe_callTy (call_list_dT hc) hg hm (by rfl) pa (by decide) (by decide) he hpl, jcListT ja⟩
end
end Dv

namespace Dv
open PySem PySem.Spec PyProof.Rows L2 Evl
/-! ### {k: v}, k a tuple -/
def tDisp1 (tk tv : TE) : TE := fun σ H Q => ∀ p, H p = none → tk σ (upd H p (.dT [])) fun y H1 => tv σ H1 fun v H2 => H2 p = some (.dT []) ∧ ∃ b k, y = .ref b ∧ H2 b = some (.tup (k.map kV)) ∧ Q (.ref p) (upd H2 p (.dT [(k, v)]))
theorem pe_disp1 {X : Cx} {k e : Expr} {pos : Pos} {tk tv : TE} (hu : X.A.units + 1 < cLine) (hk : PE X k tk) (hv : PE X e tv) : PE X (.Dict [some k] [e] pos) (tDisp1 tk tv) := by
  refine ⟨fun pins s σ H Q I q => ?_⟩
  have hn := I.hok.fresh (Nat.le_refl s.heap.objs.size)
  have I1 := I.laid (a := s.heap.objs.size) (o := .dT []) (h' := s.heap.push { cls := .type "dict", data := .dict #[] }) (t' := s.toks) (fun _ _ q => Heap.get?_push_of_some _ q) (Nat.le_refl _) (dt_empty s.heap I.big)
  have hz : (pairTrees [some k] [e] X.env pos).length = 1 := pairTrees_length [some k] [e] X.env pos rfl rfl
  rw [arm_eval_Dict, zip_pairTrees [some k] [e] X.env pos rfl rfl, dictDisplay_pairs (pairTrees [some k] [e] X.env pos) (fun z => by rw [z] at hz; cases hz) (by omega)]
  refine wpAny_bind (wpAny_standAt (wpAny_bind (wpAny_subDictH (knd := tupleKind (mixKind X.prog X.w)) (Q := fun d s' => wpAny (model X.prog X.w) X.A (pure (Value.ref d)) (EP X pins σ Q) X.xe s') (show X.A.units < cLine by omega) (by omega) ?_)))
  refine pairTrees_cons_walk (thn (hk.run pins _ σ _ _ I1 (q _ hn)) fun u s2 ⟨y, H2, I2, ry, q1⟩ => thn (hv.run pins s2 σ H2 _ I2 q1) fun vv s3 ⟨v, H3, I3, rv, e0, b, kk, ey, hb, q2⟩ => pairTrees_nil_walk ?_)
  subst ey
  obtain rfl : u = Value.ref b := ry
  obtain ⟨z, hd, xs, rel, dd⟩ := dt_of I3.hok e0
  cases rel
  refine ⟨[(kk, b, vv)], ⟨rfl, rfl, key_of I3.hok hb, trivial⟩, dd, fun h' tk dd' hs => wpAny_pure ?_⟩
  obtain ⟨o, es, ep, hq, h2, h3, h4, _, h5⟩ := dd'
  have hl : [(kk, v)].length ≤ sizeLine := by rw [sizeLine_eq]; simp
  refine ⟨.ref s.heap.objs.size, _, d_write (ob := .dT [(kk, v)]) I3 (by rw [e0]; exact True.intro) hs ⟨o, hq⟩ ⟨hl, hd, [(kk, b, vv)], .cons ⟨rfl, ?_, rv⟩ .nil, o, es, ep, hq, h2, h3, h4, h5⟩, rfl, q2⟩
  rw [upd_ne (ne_of hb e0 (fun z => nomatch z))]
  exact hb
section
variable {K : PySem.W.Frag} {W : WW} {tk te : TE} {dk : DE D} {c : DE (D × Ow)} {B H : Hp} {σ : L2.St} {s : SD} {Fs : List (List Addr)}
/-- a new thing that no slot holds is put otherwise -/
theorem Rel.touch {p : Addr} {o : HO} (R0 : Rel K B H σ s Fs) (hb : B p = none) (hp : Fs.flatten.count p = 0) (tk : Tk H (upd H p o)) : Rel K B (upd H p o) σ s Fs := by
  refine ⟨fun a x h => ?_, R0.l1, R0.l2, fun j d ow e => ?_, R0.wt, fun a ha => live_upd (R0.lv a ha)⟩
  · rw [upd_ne (fun q => by rw [q, hb] at h; cases h)]
    exact R0.ex a x h
  · obtain ⟨u, h1, h2⟩ := R0.at_ j d ow e
    refine ⟨u, h1, h2.mono (Ex.refl _) tk fun a ha => upd_ne fun q => ?_⟩
    subst q
    have h3 := mem_count ha
    have h4 := flat_get (Fs := Fs) (i := j) a
    omega
theorem ES.touch {B' H' : Hp} {L L' : List Addr} {p : Addr} {o : HO} (x : ES B H L B' H' L') (hp : H p = none) (hb : B p = none) (hl : p ∉ L) : ES B H L B' (upd H' p o) L' := by
  refine ⟨x.exB, fun a u h => ?_, x.wt, fun a u h => ?_⟩
  · rw [upd_ne fun q => by rw [q, hp] at h; cases h]
    exact x.exH _ _ h
  · have ne : a ≠ p := fun q => by
      rw [q, frz_out hl, hb] at h
      cases h
    have h2 := x.vw _ _ h
    by_cases m : a ∈ L'
    · rw [frz_in m] at h2 ⊢
      rw [upd_ne ne]
      exact h2
    · rw [frz_out m] at h2 ⊢
      exact h2
def cDisp1 (dk : DE D) (c : DE (D × Ow)) : DE (D × Ow) := fun s => match dk s with
  | some (.ok k s1) => match tkey k with
    | some kk => match c s1 with
      | some (.ok (e, .full) s2) => some (.ok (.dT [(kk, e)], .full) s2)
      | some (.exc x s2) => some (.exc x s2)
      | _ => none
    | none => none
  | some (.exc x s1) => some (.exc x s1)
  | none => none
theorem jcDisp1 (hk : JB K W tk dk) (hc : JC K W te c) : JC K W (tDisp1 tk te) (cDisp1 dk c) := by
  intro s r e B H σ Fs R0 Q p
  intro q hq
  have x0 : Ex H (upd H q (.dT [])) := Ex.new hq
  have hBq : B q = none := by
    cases h : B q with
    | none => rfl
    | some o => have := R0.ex _ _ h; rw [hq] at this; cases this
  have hLq : q ∉ Fs.flatten := fun m => R0.lv q m hq
  have R1 : Rel K B (upd H q (.dT [])) σ s Fs := R0.ext x0
  have y1 : ES B H Fs.flatten B (upd H q (.dT [])) ([q] ++ Fs.flatten) := ES.more (F := [q]) R0.ex x0 fun a ha => by rw [List.mem_singleton.mp ha]; exact hq
  have z1 : ∀ x, w B x + ([q] ++ Fs.flatten).count x ≤ 1 := val_new (L := Fs.flatten) R0.ex hq R0.wf R0.lv
  have l1 : ∀ x ∈ [q], upd H q (.dT []) x ≠ none := fun a ha => by rw [List.mem_singleton.mp ha, upd_same]; exact fun z => nomatch z
  unfold cDisp1 at e
  cases e1 : dk s with
  | none => rw [e1] at e; cases e
  | some r1 =>
    rw [e1] at e
    refine hk.pend (F := [q]) e1 R1 z1 l1 ?_ ?_
    · intro k s2 er yv B2 H2 Fs2 G R2 y2 z2 l2 q2
      obtain ⟨q2, rfl⟩ := q2
      cases er
      simp only at e
      have z2' : ∀ x, w B2 x + ([q] ++ Fs2.flatten).count x ≤ 1 := fun x => by simpa using z2 x
      have y2' : ES B (upd H q (.dT [])) ([q] ++ Fs.flatten) B2 H2 ([q] ++ Fs2.flatten) := by simpa using y2
      have l2' : ∀ a ∈ [q], H2 a ≠ none := ne_keep y2.exH l1
      cases ek : tkey k with
      | none => rw [ek] at e; cases e
      | some kk =>
        rw [ek] at e
        simp only at e
        cases e3 : c s2 with
        | none => rw [e3] at e; cases e
        | some r3 =>
          rw [e3] at e
          refine hc.pend (F := [q]) e3 R2 z2' l2' ?_ ?_
          · intro zz s3 er v B3 H3 Fs3 F R3 y3 z3 l3 qv
            obtain ⟨ed, eo⟩ := zz
            cases er
            cases eo with
            | full =>
              cases e
              have qv : Own K H3 v ed F := qv
              have hq3 : H3 q = some (.dT []) := y3.exH _ _ (y2.exH _ _ upd_same)
              obtain ⟨b, rfl, hb⟩ := tkey_v q2 ek
              have hb3 := y3.exH _ _ hb
              refine ⟨hq3, b, kk, rfl, hb3, ?_⟩
              have nq : ∀ a, a = q → w B3 a = 0 ∧ F.count a = 0 ∧ Fs3.flatten.count a = 0 := fun a ha => by
                subst ha
                have := z3 a
                simp only [List.count_append, List.count_singleton_self] at this
                omega
              have hBq3 : B3 q = none := w_zero (nq q rfl).1
              have tk : Tk H3 (upd H3 q (.dT [(kk, v)])) := tk_ne hq3 (fun _ z => nomatch z) (fun _ _ z => nomatch z)
              have nF : ∀ a ∈ F, upd H3 q (.dT [(kk, v)]) a = H3 a := fun a ha => upd_ne fun z => by
                have := mem_count ha
                have := (nq a z).2.1
                omega
              have yy : ES B H Fs.flatten B3 H3 ([q] ++ (F ++ Fs3.flatten)) := (y1.trans y2').trans y3
              refine p _ B3 _ Fs3 (q :: (F ++ [])) (R3.touch hBq3 (nq q rfl).2.2 tk) ?_ (fun a => ?_) (fun a ha => ?_) ?_
              · have := ES.touch (o := .dT [(kk, v)]) yy hq hBq hLq
                simpa using this
              · have := z3 a
                simpa using this
              · rcases List.mem_cons.mp ha with h | h
                · rw [h, upd_same]; exact fun z => nomatch z
                · rw [List.append_nil] at h
                  exact live_upd (l3 a h)
              · show Own K _ _ _ _
                exact .dt upd_same rfl (.cons (Own.mono tk qv nF) .nil)
            | _ => cases e
          · intro x s3 er B3 H3 Fs3 R3 y3 z3
            cases er
            cases e
            have l3 : ∀ a ∈ [q], H3 a ≠ none := ne_keep y3.exH l2'
            exact p _ H3 Fs3 (R3.know z3) (((y1.trans y2').trans y3).let_go [q] Fs3.flatten l3 (fun a => List.count_append) R3.ex)
    · intro x s2 er B2 H2 Fs2 R2 y2 z2
      cases er
      cases e
      exact p _ H2 Fs2 (R2.know z2) ((y1.trans y2).let_go [q] Fs2.flatten (ne_keep y2.exH l1) (fun a => List.count_append) R2.ex)
end
section
variable {X : Cx} {K : PySem.W.Frag} {W : WW} {pos : Pos} {k e : Expr} {te tk : TE} {dk : DE D} {ca : DE (D × Ow)}
theorem q_disp1 (hu : X.A.units + 9 < cLine) (hk : QB X K W k tk dk) (hc : QC X K W e te ca) : QC X K W (.Dict [some k] [e] pos) (tDisp1 tk te) (cDisp1 dk ca) := ⟨hc.hk, pe_disp1 (by omega) hk.p hc.p, jcDisp1 hk.j hc.j⟩
end
end Dv

namespace Dv
open PySem PySem.Spec PyProof.Rows L2 Evl
/-! ### {}, to have keys of any depth -/
def cDNewN : DE (D × Ow) := fun s => some (.ok (.dN [], .full) s)
section
variable {K : PySem.W.Frag} {W : WW}
theorem jcDNewN : JC K W tDNewN cDNewN := by
  intro s r e B H σ Fs R0 Q P
  cases e
  intro p hp
  have x : Ex H (upd H p (dictN p [])) := Ex.new hp
  refine P (.ref p) B (upd H p (dictN p [])) Fs [p] (R0.ext x) (ES.more R0.ex x fun a ha => by rw [List.mem_singleton.mp ha]; exact hp) (val_new R0.ex hp (fun x => R0.wf x) R0.lv) (fun a ha => by rw [List.mem_singleton.mp ha, upd_same]; exact fun z => nomatch z) ?_
  exact Own.dn (xs := []) (kd := []) (F := []) upd_same (fun _ hx => nomatch hx) rfl .nil
end
section
variable {X : Cx} {K : PySem.W.Frag} {W : WW} {pos : Pos}
theorem q_dnewN (hk : X.K = K := by rfl) : QC X K W (.Dict [] [] pos) tDNewN cDNewN := ⟨hk, pe_dnewN, jcDNewN⟩
end
end Dv

namespace Dv
open Enc (enc)
open PySem L2
/-! ### keys of dicts, as plain things -/
section
variable {κ κ' α β : Type} [DecidableEq κ] [DecidableEq κ']
theorem valA_map (f : κ → κ') (hf : ∀ a b, f a = f b → a = b) (g : α → β) : ∀ (l : List (κ × α)) (k : κ), valA (l.map fun e => (f e.1, g e.2)) (f k) = (valA l k).map g
  | [], k => rfl
  | e :: l, k => by
    rw [List.map_cons, valA_cons, valA_cons, valA_map f hf g l k]
    by_cases h : e.1 = k
    · rw [if_pos h, if_pos (by rw [h])]; rfl
    · rw [if_neg h, if_neg fun z => h (hf _ _ z)]
theorem putA_mp (f : κ → κ') (hf : ∀ a b, f a = f b → a = b) (g : α → β) (l : List (κ × α)) (k : κ) (v : α) : putA (l.map fun e => (f e.1, g e.2)) (f k) (g v) = (putA l k v).map fun e => (f e.1, g e.2) := by
  have e1 : ((l.map fun e => (f e.1, g e.2)).any fun e => decide (e.1 = f k)) = l.any fun e => decide (e.1 = k) := by
    rw [List.any_map]
    congr 1
    funext e
    show decide (f e.1 = f k) = decide (e.1 = k)
    exact decide_eq_decide.mpr ⟨hf _ _, fun z => by rw [z]⟩
  unfold putA
  rw [e1]
  split
  · rw [List.map_map, List.map_map]
    refine List.map_congr_left fun e _ => ?_
    show (if f e.1 = f k then (f e.1, g v) else (f e.1, g e.2)) = _
    by_cases h : e.1 = k
    · simp [h]
    · have : ¬ f e.1 = f k := fun z => h (hf _ _ z)
      simp [h, this]
  · simp
theorem nodup_map (f : κ → κ') (hf : ∀ a b, f a = f b → a = b) : ∀ {l : List κ}, l.Nodup → (l.map f).Nodup
  | [], _ => List.nodup_nil
  | a :: l, h => by
    obtain ⟨h1, h2⟩ := List.nodup_cons.mp h
    rw [List.map_cons]
    refine List.nodup_cons.mpr ⟨fun m => ?_, nodup_map f hf h2⟩
    obtain ⟨b, hb, e⟩ := List.mem_map.mp m
    exact h1 (hf _ _ e ▸ hb)
theorem putA_nodup {l : List (κ × α)} {k : κ} {v : α} (h : (l.map (·.1)).Nodup) : ((putA l k v).map (·.1)).Nodup := by
  cases e : plA (l.map (·.1)) k with
  | some j => rw [(putA_some v h e).1]; exact h
  | none =>
    rw [putA_none v e, List.map_append]
    refine List.nodup_append.mpr ⟨h, by simp, ?_⟩
    intro a ha b hb z
    simp only [List.map_cons, List.map_nil, List.mem_singleton] at hb
    rw [z, hb] at ha
    exact plA_none.mp e ha
theorem valA_put (l : List (κ × α)) (k j : κ) (v : α) : valA (putA l k v) j = if j = k then some v else valA l j := by
  have key : ∀ m : List (κ × α), valA (m.map fun e => if e.1 = k then (e.1, v) else e) j = if j = k then (if (plA (m.map (·.1)) k).isSome then some v else none) else valA m j := by
    intro m
    induction m with
    | nil => simp [plA, valA_nil]
    | cons e m ih =>
      rw [List.map_cons, valA_cons, ih, valA_cons, List.map_cons]
      have e2 : plA (e.1 :: m.map (·.1)) k = if e.1 = k then some 0 else (plA (m.map (·.1)) k).map (· + 1) := rfl
      rw [e2]
      by_cases h : e.1 = k
      · by_cases h2 : j = k
        · subst h2; simp [h]
        · have : ¬ k = j := fun z => h2 z.symm
          simp [h, h2, this]
      · by_cases h2 : e.1 = j
        · have : ¬ j = k := fun z => h (h2.trans z)
          simp [h, h2, this]
        · simp [h, h2]
  unfold putA
  rw [anyA]
  split
  · rename_i h
    rw [key]
    simp [h]
  · rename_i h
    have hn : plA (l.map (·.1)) k = none := by
      cases e : plA (l.map (·.1)) k with
      | none => rfl
      | some j => rw [e] at h; simp at h
    have app : ∀ m : List (κ × α), k ∉ m.map (·.1) → valA (m ++ [(k, v)]) j = if j = k then some v else valA m j := by
      intro m
      induction m with
      | nil =>
        intro _
        rw [List.nil_append, valA_cons, valA_nil]
        by_cases h2 : j = k
        · simp [h2]
        · have : ¬ k = j := fun z => h2 z.symm
          simp [h2, this]
      | cons e m ih =>
        intro hm
        rw [List.map_cons, List.mem_cons] at hm
        rw [List.cons_append, valA_cons, valA_cons, ih fun z => hm (.inr z)]
        by_cases h2 : e.1 = j
        · have : ¬ j = k := fun z => hm (.inl (z.symm.trans h2.symm))
          simp [h2, this]
        · simp [h2]
    exact app l (plA_none.mp hn)
theorem valA_some_mem {l : List (κ × α)} {k : κ} : (valA l k).isSome = true ↔ k ∈ l.map (·.1) := by
  rw [valA_pl]
  cases e : plA (l.map (·.1)) k with
  | none => exact ⟨fun z => (nomatch z), fun z => absurd z (plA_none.mp e)⟩
  | some j =>
    have h : j < (l.map (·.2)).length := by have := plA_lt e; simpa using this
    refine ⟨fun _ => List.mem_of_getElem? (plA_at e), fun _ => ?_⟩
    show ((l.map (·.2))[j]?).isSome = true
    rw [List.getElem?_eq_getElem h]; rfl
end
theorem dkey_D : ∀ k : Key, dkey (keyD k) = some k
  | .inl _ => rfl
  | .inr _ => rfl
theorem dkeys_D : ∀ ks : List Key, dkeys (ks.map keyD) = some ks
  | [] => rfl
  | k :: ks => by
    rw [List.map_cons]
    unfold dkeys
    rw [dkey_D, dkeys_D ks]
theorem imm_keyD : ∀ k : Key, imm (keyD k) = true
  | .inl _ => rfl
  | .inr _ => rfl
theorem immL_keys : ∀ ks : List Key, immL (ks.map keyD) = true
  | [] => rfl
  | k :: ks => by simp [immL, imm_keyD, immL_keys ks]
class KyT (κ : Type) [Enc κ] where
  kt : κ → List Key
  inj : ∀ a b, kt a = kt b → a = b
  tup : ∀ a : κ, enc a = .tup ((kt a).map keyD)
class KyK (κ : Type) [Enc κ] where
  kk : κ → Key
  inj : ∀ a b, kk a = kk b → a = b
  key : ∀ a : κ, enc a = keyD (kk a)
class Ky (κ : Type) [Enc κ] [DecidableEq κ] where
  dd : List (κ × D) → D
  look : ∀ l k, lookD (dd l) (enc k) = some (valA l k)
  put : ∀ l k v, l.length < 1000000 → (l.map (·.1)).Nodup → putD (dd l) (enc k) v = some (dd (putA l k v))
  ni : ∀ l, imm (dd l) = false
  ky : ∀ k : κ, imm (enc k) = true
theorem map_fst_map {κ κ' α : Type} (f : κ → κ') (l : List (κ × α)) : ((l.map fun e => (f e.1, e.2)).map (·.1)) = (l.map (·.1)).map f := by rw [List.map_map, List.map_map]; rfl
instance {κ : Type} [Enc κ] [DecidableEq κ] [KyT κ] : Ky κ where
  dd l := .dT (l.map fun e => (KyT.kt e.1, e.2))
  look l k := by
    rw [KyT.tup]
    show (dkeys _).map _ = _
    rw [dkeys_D]
    show some _ = some _
    rw [valA_map KyT.kt KyT.inj (fun x : D => x)]
    simp
  put l k v hl nd := by
    rw [KyT.tup]
    show (match dkeys _ with
      | some kk => if _ then some (D.dT (putA _ kk v)) else none
      | none => none) = _
    rw [dkeys_D]
    simp only [List.length_map, hl, true_and]
    rw [map_fst_map, if_pos (nodup_map _ KyT.inj nd), putA_mp KyT.kt KyT.inj (fun x : D => x)]
  ni _ := rfl
  ky k := by rw [KyT.tup]; simp only [imm]; exact immL_keys _
instance {κ : Type} [Enc κ] [DecidableEq κ] [KyK κ] : Ky κ where
  dd l := .dK (l.map fun e => (KyK.kk e.1, e.2))
  look l k := by
    rw [KyK.key]
    show (dkey _).map _ = _
    rw [dkey_D]
    show some _ = some _
    rw [valA_map KyK.kk KyK.inj (fun x : D => x)]
    simp
  put l k v hl nd := by
    rw [KyK.key]
    show (match dkey _ with
      | some kk => if _ then some (D.dK (putA _ kk v)) else none
      | none => none) = _
    rw [dkey_D]
    simp only [List.length_map, hl, true_and]
    rw [map_fst_map, if_pos (nodup_map _ KyK.inj nd), putA_mp KyK.kk KyK.inj (fun x : D => x)]
  ni _ := rfl
  ky k := by rw [KyK.key]; exact imm_keyD _
class KyD (κ : Type) [Enc κ] [DecidableEq κ] [Ky κ] : Prop where
  dct : ∀ l, isDct (Ky.dd (κ := κ) l) = true
instance {κ : Type} [Enc κ] [DecidableEq κ] [KyT κ] : KyD κ := ⟨fun _ => rfl⟩
instance {κ : Type} [Enc κ] [DecidableEq κ] [KyK κ] : KyD κ := ⟨fun _ => rfl⟩
/-- keys of any depth -/
class KnE (κ : Type) [Enc κ] where
  kn : κ → NestedKey
  inj : ∀ a b, kn a = kn b → a = b
  nk : ∀ a : κ, nkey (enc a) = some (kn a)
  im : ∀ a : κ, imm (enc a) = true
class KyN (κ : Type) [Enc κ] where
  kn : κ → List NestedKey
  inj : ∀ a b, kn a = kn b → a = b
  es : κ → List D
  en : ∀ a : κ, enc a = .tup (es a)
  nk : ∀ a : κ, nkeys (es a) = some (kn a)
  dp : ∀ a : κ, (NestedKey.tup (kn a)).depth ≤ 8
  im : ∀ a : κ, imm (enc a) = true
theorem ukey_enc {κ : Type} [Enc κ] [KyN κ] (a : κ) : ukey (enc a) = some (.tup (KyN.kn a)) := by
  rw [KyN.en]
  show (match nkeys (KyN.es a) with
    | some ks => if (NestedKey.tup ks).depth ≤ 8 then some (NestedKey.tup ks) else none
    | none => none) = _
  rw [KyN.nk]
  simp only
  rw [if_pos (KyN.dp a)]
theorem tup_inj {a b : List NestedKey} (h : NestedKey.tup a = NestedKey.tup b) : a = b := by cases h; rfl
instance {κ : Type} [Enc κ] [DecidableEq κ] [KyN κ] : Ky κ where
  dd l := .dN (l.map fun e => (.tup (KyN.kn e.1), e.2))
  look l k := by
    show (ukey _).map _ = _
    rw [ukey_enc]
    show some _ = some _
    rw [valA_map (fun k : κ => NestedKey.tup (KyN.kn k)) (fun a b h => KyN.inj a b (tup_inj h)) (fun x : D => x)]
    simp
  put l k v hl nd := by
    show (match ukey _ with
      | some kk => if _ then some (D.dN (putA _ kk v)) else none
      | none => none) = _
    rw [ukey_enc]
    simp only [List.length_map, hl, true_and]
    rw [map_fst_map (fun k : κ => NestedKey.tup (KyN.kn k)), if_pos (nodup_map _ (fun a b h => KyN.inj a b (tup_inj h)) nd), putA_mp (fun k : κ => NestedKey.tup (KyN.kn k)) (fun a b h => KyN.inj a b (tup_inj h)) (fun x : D => x)]
  ni _ := rfl
  ky k := KyN.im k
instance : KyK Int := ⟨Sum.inl, fun _ _ h => Sum.inl.inj h, fun _ => rfl⟩
instance : KyK Str := ⟨Sum.inr, fun _ _ h => Sum.inr.inj h, fun _ => rfl⟩
instance {α β : Type} [Enc α] [Enc β] [KyK α] [KyK β] : KyT (α × β) where
  kt p := [KyK.kk p.1, KyK.kk p.2]
  inj a b h := by
    simp only [List.cons.injEq, and_true] at h
    exact Prod.ext (KyK.inj _ _ h.1) (KyK.inj _ _ h.2)
  tup a := by
    show D.tup [enc a.1, enc a.2] = _
    rw [KyK.key, KyK.key]; rfl
theorem map_inj {α β : Type} {f : α → β} (hf : ∀ a b, f a = f b → a = b) : ∀ {l m : List α}, l.map f = m.map f → l = m
  | [], [], _ => rfl
  | [], _ :: _, h => by simp at h
  | _ :: _, [], h => by simp at h
  | a :: l, b :: m, h => by
    simp only [List.map_cons, List.cons.injEq] at h
    rw [hf _ _ h.1, map_inj hf h.2]
instance {α : Type} [Enc α] [KyK α] : KyT (Tv α) where
  kt t := t.l.map KyK.kk
  inj a b h := by
    cases a; cases b
    simp only [Tv.mk.injEq]
    exact map_inj KyK.inj h
  tup a := by
    show D.tup (a.l.map enc) = _
    rw [List.map_map]
    congr 1
    exact List.map_congr_left fun x _ => KyK.key x
/-- a dict -/
structure Dc (κ α : Type) where
  l : List (κ × α)
  nd : (l.map (·.1)).Nodup
instance {κ α : Type} [DecidableEq κ] [Enc κ] [Ky κ] [Enc α] : Enc (Dc κ α) := ⟨fun d => Ky.dd (d.l.map fun e => (e.1, enc e.2))⟩
section
variable {κ α β τ σ : Type} [DecidableEq κ] [Enc κ] [Ky κ] [Enc α] [Enc β] {ps ps1 ps2 ps3 : List Pt} {da db dk dz : DE D} {ca cz : DE (D × Ow)} {rest : DS} {Φ : τ → Out → Prop} {c : Oc}
def dgR (d : Dc κ α) (k : κ) : R α := ofO (valA d.l k)
def dhas (d : Dc κ α) (k : κ) : Bool := (valA d.l k).isSome
def dget2 (d : Dc κ α) (k : κ) (z : α) : α := (valA d.l k).getD z
def dput (d : Dc κ α) (k : κ) (v : α) : Dc κ α := ⟨putA d.l k v, putA_nodup d.nd⟩
noncomputable def dputR (d : Dc κ α) (k : κ) (v : α) : R (Dc κ α) := okIf (d.l.length < 1000000) (dput d k v)
noncomputable def dappR (d : Dc κ (List α)) (k : κ) (v : α) : R (Dc κ (List α)) := R.bind (dgR d k) fun l => R.bind (appR l v) fun l' => dputR d k l'
def dkeysL (d : Dc κ α) : List κ := d.l.map (·.1)
def dnew : Dc κ α := ⟨[], List.nodup_nil⟩
def done (k : κ) (v : α) : Dc κ α := ⟨[(k, v)], List.nodup_cons.mpr ⟨by simp, List.nodup_nil⟩⟩
theorem look_enc (d : Dc κ α) (k : κ) : lookD (enc d) (enc k) = some ((valA d.l k).map enc) := by
  show lookD (Ky.dd _) _ = _
  rw [Ky.look]
  rw [valA_map (fun x : κ => x) (fun _ _ h => h) (enc : α → D)]
theorem put_enc (d : Dc κ α) (k : κ) (v : α) (h : d.l.length < 1000000) : putD (enc d) (enc k) (enc v) = some (enc (dput d k v)) := by
  show putD (Ky.dd _) _ _ = some (Ky.dd _)
  rw [Ky.put _ _ _ (by simpa using h) (by rw [show ((d.l.map fun e => (e.1, (enc e.2 : D))).map (·.1)) = d.l.map (·.1) from by rw [List.map_map]; rfl]; exact d.nd)]
  rw [putA_mp (fun x : κ => x) (fun _ _ h => h) (enc : α → D)]
  rfl
theorem oe_dget : OpE fDGet (dgR : Dc κ α → κ → R α) := fun d k => ho_of fun w e => by
  unfold fDGet
  rw [look_enc, e]
  rfl
theorem oe_din : OpE fDIn fun (k : κ) (d : Dc κ α) => .ok (dhas d k) := fun k d => by
  show fDIn (enc k) (enc d) = some (.bl (dhas d k))
  unfold fDIn dhas
  rw [look_enc]
  simp
theorem oe_dnin : OpE fDNin fun (k : κ) (d : Dc κ α) => .ok (!dhas d k) := fun k d => by
  show fDNin (enc k) (enc d) = some (.bl (!dhas d k))
  unfold fDNin dhas
  rw [look_enc]
  simp
theorem isDct_enc [KyD κ] (d : Dc κ α) : isDct (enc d) = true := KyD.dct _
theorem imm_dc (d : Dc κ α) : imm (enc d) = false := Ky.ni _
theorem getD_map {γ δ : Type} (f : γ → δ) (o : Option γ) (z : γ) : (o.map f).getD (f z) = f (o.getD z) := by cases o <;> rfl
theorem rb_dget2 [KyD κ] {x : R (Dc κ α)} {y : R κ} {z : R α} (ha : RB ps da x ps1) (hb : RB ps1 dk y ps2) (hz : RB ps2 dz z ps3) : RB ps (bDGet2 da dk dz) (R.bind x fun d => R.bind y fun k => R.bind z fun w => .ok (dget2 d k w)) ps3 := by
  refine ⟨fun s hs => ?_⟩
  have h1 := ha s hs
  cases x with
  | bad => trivial
  | exc c =>
    obtain ⟨s1, e, l⟩ := h1
    exact ⟨s1, by unfold bDGet2; simp only [e], l⟩
  | ok d =>
    obtain ⟨b, s1, e, v, m, l⟩ := h1
    have v : b = enc d := v
    subst v
    simp only [ok_bind]
    have h2 := hb s1 m
    cases y with
    | bad => trivial
    | exc c =>
      obtain ⟨s2, e2, l2⟩ := h2
      exact ⟨s2, by unfold bDGet2; simp only [e, isDct_enc, if_true, e2], l2.trans l⟩
    | ok k =>
      obtain ⟨b2, s2, e2, v2, m2, l2⟩ := h2
      have v2 : b2 = enc k := v2
      subst v2
      simp only [ok_bind]
      have h3 := hz s2 m2
      cases z with
      | bad => trivial
      | exc c =>
        obtain ⟨s3, e3, l3⟩ := h3
        exact ⟨s3, by unfold bDGet2; simp only [e, isDct_enc, if_true, e2, e3], l3.trans (l2.trans l)⟩
      | ok w =>
        obtain ⟨b3, s3, e3, v3, m3, l3⟩ := h3
        have v3 : b3 = enc w := v3
        subst v3
        refine ⟨enc (dget2 d k w), s3, ?_, rfl, m3, l3.trans (l2.trans l)⟩
        unfold bDGet2
        simp only [e, isDct_enc, if_true, e2, e3, look_enc]
        show some (Er.ok (((valA d.l k).map enc).getD (enc w)) s3) = _
        rw [getD_map]
        rfl
theorem rc_dget2 [KyD κ] {x : R (Dc κ α)} {y : R κ} {z : R α} (ha : RC ps ca x .o ps1) (hb : RB ps1 dk y ps2) (hz : RC ps2 cz z c ps3) : RC ps (cDGet2 ca dk cz) (R.bind x fun d => R.bind y fun k => R.bind z fun w => .ok (dget2 d k w)) .o ps3 := by
  refine ⟨fun s hs => ?_⟩
  have h1 := ha s hs
  cases x with
  | bad => trivial
  | exc c =>
    obtain ⟨s1, e, l⟩ := h1
    exact ⟨s1, by unfold cDGet2; simp only [e], l⟩
  | ok d =>
    obtain ⟨⟨b, ow⟩, s1, e, ⟨v, v'⟩, m, l⟩ := h1
    have v : b = enc d := v
    subst v
    have v' : ow = .no := by
      rcases v' with h | h
      · exact h
      · rw [imm_dc] at h; exact absurd h.1 (by simp)
    subst v'
    simp only [ok_bind]
    have h2 := hb s1 m
    cases y with
    | bad => trivial
    | exc c =>
      obtain ⟨s2, e2, l2⟩ := h2
      exact ⟨s2, by unfold cDGet2; simp only [e, isDct_enc, if_true, e2], l2.trans l⟩
    | ok k =>
      obtain ⟨b2, s2, e2, v2, m2, l2⟩ := h2
      have v2 : b2 = enc k := v2
      subst v2
      simp only [ok_bind]
      have h3 := hz s2 m2
      cases z with
      | bad => trivial
      | exc c =>
        obtain ⟨s3, e3, l3⟩ := h3
        exact ⟨s3, by unfold cDGet2; simp only [e, isDct_enc, if_true, e2, e3], l3.trans (l2.trans l)⟩
      | ok w =>
        obtain ⟨⟨b3, ow3⟩, s3, e3, ⟨v3, _⟩, m3, l3⟩ := h3
        have v3 : b3 = enc w := v3
        subst v3
        refine ⟨(enc (dget2 d k w), .no), s3, ?_, ⟨rfl, .inl rfl⟩, m3, l3.trans (l2.trans l)⟩
        unfold cDGet2
        simp only [e, isDct_enc, if_true, e2, e3, look_enc]
        show some (Er.ok (((valA d.l k).map enc).getD (enc w), Ow.no) s3) = _
        rw [getD_map]
        rfl
theorem rs_dset {x : R α} {y : R κ} {d : Dc κ α} {k : Dc κ α → R τ} {d0 : D} {c0 : Oc} {W : R (Dc κ α)} (i : Nat) (hc : RC ps ca x .f ps1) (h1 : ps1.getD i .x = .h c0 d0) (hy : RB ps1 dk y ps2) (h2 : ps2.getD i .x = .h .f (enc d)) (e : (R.bind x fun a => R.bind y fun j => dputR d j a) = W) (hb : ∀ d', RSt (ps2.set i (.h .f (enc d'))) rest (k d') Φ) :
    RSt ps (sSeq (sDSet i dk ca) rest) (R.bind W k) Φ := by
  subst e
  refine ⟨fun s h0 => ?_⟩
  have h := hc s h0
  cases x with
  | bad => trivial
  | exc c =>
    obtain ⟨s1, e, l1⟩ := h
    exact ⟨s1, by unfold sSeq sDSet; rw [e], l1⟩
  | ok u =>
    obtain ⟨⟨b, ow⟩, s1, e, ⟨v1, v2⟩, m, l1⟩ := h
    have v1 : b = enc u := v1
    have v2 : ow = .full := v2
    subst v1 v2
    obtain ⟨ow1, g1, q1⟩ := m.get h1
    have j1 : (s1[i]?).join.isSome = true := by rw [g1]; rfl
    have hy := hy s1 m
    simp only [ok_bind]
    cases y with
    | bad => trivial
    | exc c =>
      obtain ⟨s3, e3, l3⟩ := hy
      exact ⟨s3, by unfold sSeq sDSet; simp only [e, if_pos j1, e3], l3.trans l1⟩
    | ok j =>
      obtain ⟨d3, s3, e3, v3, m3, l3⟩ := hy
      have v3 : d3 = enc j := v3
      subst v3
      obtain ⟨ow3, g3, q3⟩ := m3.get h2
      have q3 : ow3 = .full := q3
      subst q3
      simp only [ok_bind]
      unfold dputR okIf
      by_cases hz : d.l.length < 1000000
      · rw [if_pos hz, ok_bind]
        refine (hb (dput d j u)).at (m3.set i ⟨.full, rfl, rfl⟩) (by simp [l3, l1]) ?_
        unfold sSeq sDSet
        simp only [e, if_pos j1, e3, g3, if_true, put_enc d j u hz, Option.map_some]
      · rw [if_neg hz]; trivial
theorem rs_dapp [KyD κ] {x : R α} {y : R κ} {d : Dc κ (List α)} {k : Dc κ (List α) → R τ} {d0 : D} {c0 : Oc} {W : R (Dc κ (List α))} (i : Nat) (h0 : ps.getD i .x = .h c0 d0) (hy : RB ps dk y ps1) (h1 : ps1.getD i .x = .h .f (enc d)) (hc : RC ps1 ca x .f ps2) (h2 : ps2.getD i .x = .h .f (enc d)) (e : (R.bind y fun j => R.bind (dgR d j) fun l => R.bind x fun a => R.bind (appR l a) fun l' => dputR d j l') = W) (hb : ∀ d', RSt (ps2.set i (.h .f (enc d'))) rest (k d') Φ) :
    RSt ps (sSeq (sDApp i dk ca) rest) (R.bind W k) Φ := by
  subst e
  refine ⟨fun s hs => ?_⟩
  obtain ⟨ow0, g0, q0⟩ := hs.get h0
  have j0 : (s[i]?).join.isSome = true := by rw [g0]; rfl
  have hy := hy s hs
  cases y with
  | bad => trivial
  | exc c =>
    obtain ⟨s1, e1, l1⟩ := hy
    exact ⟨s1, by unfold sSeq sDApp; simp only [if_pos j0, e1], l1⟩
  | ok j =>
    obtain ⟨dj, s1, e1, v1, m1, l1⟩ := hy
    have v1 : dj = enc j := v1
    subst v1
    obtain ⟨ow1, g1, q1⟩ := m1.get h1
    have q1 : ow1 = .full := q1
    subst q1
    simp only [ok_bind]
    unfold dgR
    cases hl : valA d.l j with
    | none => trivial
    | some l =>
      have hlk : lookD (enc d) (enc j) = some (some (.lst (l.map enc))) := by rw [look_enc, hl]; rfl
      show Sat (R.bind (R.bind (R.ok l) _) k) _ _ _
      simp only [ok_bind]
      have h := hc s1 m1
      cases x with
      | bad => trivial
      | exc c =>
        obtain ⟨s2, e2, l2⟩ := h
        exact ⟨s2, by unfold sSeq sDApp; simp only [if_pos j0, e1, g1, hlk, e2, isDct_enc, if_true], l2.trans l1⟩
      | ok u =>
        obtain ⟨⟨b, ow⟩, s2, e2, ⟨v2, v3⟩, m2, l2⟩ := h
        have v2 : b = enc u := v2
        have v3 : ow = .full := v3
        subst v2 v3
        obtain ⟨ow2, g2, q2⟩ := m2.get h2
        have q2 : ow2 = .full := q2
        subst q2
        simp only [ok_bind]
        unfold appR dputR okIf
        by_cases hz : l.length < 1000000
        · rw [if_pos hz]
          simp only [ok_bind]
          by_cases hz2 : d.l.length < 1000000
          · rw [if_pos hz2, ok_bind]
            refine (hb (dput d j (l ++ [u]))).at (m2.set i ⟨.full, rfl, rfl⟩) (by simp [l2, l1]) ?_
            have hput : putD (enc d) (enc j) (.lst (l.map enc ++ [enc u])) = some (enc (dput d j (l ++ [u]))) := by
              have := put_enc d j (l ++ [u]) hz2
              rw [← this]
              show _ = putD _ _ (D.lst ((l ++ [u]).map enc))
              rw [List.map_append]
              rfl
            unfold sSeq sDApp
            simp only [if_pos j0, e1, g1, hlk, e2, g2, List.length_map, hz, and_self, if_true, hput, Option.map_some, isDct_enc]
          · rw [if_neg hz2]; trivial
        · rw [if_neg hz]; trivial
end
section
variable {κ α : Type} [DecidableEq κ] [Enc κ] [Enc α] {ps ps1 ps2 : List Pt} {dk : DE D} {ca : DE (D × Ow)}
theorem rc_dnewT [KyT κ] : RC ps cDNewT (.ok (dnew : Dc κ α)) .f ps := ⟨fun s hs => ⟨(.dT [], .full), s, rfl, ⟨rfl, rfl⟩, hs, rfl⟩⟩
theorem rc_dnewN [DecidableEq κ] [KyN κ] : RC ps cDNewN (.ok (dnew : Dc κ α)) .f ps := ⟨fun s hs => ⟨(.dN [], .full), s, rfl, ⟨rfl, rfl⟩, hs, rfl⟩⟩
theorem rc_dnewK [KyK κ] : RC ps cDNewK (.ok (dnew : Dc κ α)) .f ps := ⟨fun s hs => ⟨(.dK [], .full), s, rfl, ⟨rfl, rfl⟩, hs, rfl⟩⟩
theorem keys_enc [KyT κ] (d : Dc κ α) : ((d.l.map fun e => (e.1, (enc e.2 : D))).map fun e => (KyT.kt e.1, e.2)).map (fun e => D.tup (e.1.map keyD)) = (dkeysL d).map enc := by
  unfold dkeysL
  rw [List.map_map, List.map_map, List.map_map]
  exact List.map_congr_left fun e _ => (KyT.tup e.1).symm
theorem rc_listT [KyT κ] {x : R (Dc κ α × Unit)} {dr : DE (List D)} (ha : RA ps dr x (e1 (Dc κ α)) ps1) : RC ps (cListT dr) (R.bind x fun g => .ok (dkeysL g.1)) .f ps1 :=
  rc_one ha fun u s hs => ⟨.full, s, by
    show some (mkL (((u.1.l.map fun e => (e.1, (enc e.2 : D))).map fun e => (KyT.kt e.1, e.2)).map fun e => D.tup (e.1.map keyD)) s) = _
    rw [keys_enc]
    unfold mkL
    rw [if_pos]
    · rfl
    · have hI : Imm κ := ⟨fun k => by rw [KyT.tup]; simp only [imm]; exact immL_keys _⟩
      exact immL_map _, rfl, hs, rfl⟩
theorem rc_disp1 [KyT κ] {x : R α} {y : R κ} (hy : RB ps dk y ps1) (hc : RC ps1 ca x .f ps2) : RC ps (cDisp1 dk ca) (R.bind y fun k => R.bind x fun a => .ok (done k a)) .f ps2 := by
  refine ⟨fun s hs => ?_⟩
  have h1 := hy s hs
  cases y with
  | bad => trivial
  | exc c =>
    obtain ⟨s1, e, l⟩ := h1
    exact ⟨s1, by unfold cDisp1; simp only [e], l⟩
  | ok k =>
    obtain ⟨b, s1, e, v, m, l⟩ := h1
    have v : b = enc k := v
    subst v
    have hk : tkey (enc k) = some (KyT.kt k) := by rw [KyT.tup]; exact dkeys_D _
    simp only [ok_bind]
    have h2 := hc s1 m
    cases x with
    | bad => trivial
    | exc c =>
      obtain ⟨s2, e2, l2⟩ := h2
      exact ⟨s2, by unfold cDisp1; simp only [e, hk, e2], l2.trans l⟩
    | ok a =>
      obtain ⟨⟨b2, ow⟩, s2, e2, ⟨v2, v3⟩, m2, l2⟩ := h2
      have v2 : b2 = enc a := v2
      have v3 : ow = .full := v3
      subst v2 v3
      exact ⟨(.dT [(KyT.kt k, enc a)], .full), s2, by unfold cDisp1; simp only [e, hk, e2], ⟨rfl, rfl⟩, m2, l2.trans l⟩
end
section
variable {α β : Type} [Enc α] [Enc β] [KnE α] [KnE β]
instance : KnE Int := ⟨.num, fun _ _ h => by cases h; rfl, fun a => by show nkey (.int a) = _; simp [nkey], fun _ => rfl⟩
theorem nkeys_map (l : List α) : nkeys (l.map enc) = some (l.map KnE.kn) := by
  induction l with
  | nil => simp [nkeys]
  | cons a l ih => simp [nkeys, ih, KnE.nk]
theorem immL_mapN (l : List α) : immL (l.map (enc : α → D)) = true := by
  induction l with
  | nil => rfl
  | cons a l ih => simp [immL, ih, KnE.im]
/-- depth one -/
theorem dep_ints : ∀ l : List Int, NestedKey.depthAll (l.map (KnE.kn : Int → NestedKey)) = 0
  | [] => rfl
  | a :: l => by
    rw [List.map_cons, NestedKey.depthAll, dep_ints l]
    rfl
theorem map_injN {f : α → NestedKey} (hf : ∀ a b, f a = f b → a = b) {l m : List α} (h : l.map f = m.map f) : l = m := map_inj hf h
instance : KyN (Tv Int × Tv Int) where
  kn p := [.tup (p.1.l.map KnE.kn), .tup (p.2.l.map KnE.kn)]
  inj a b h := by
    simp only [List.cons.injEq, NestedKey.tup.injEq, and_true] at h
    obtain ⟨⟨a1⟩, ⟨a2⟩⟩ := a
    obtain ⟨⟨b1⟩, ⟨b2⟩⟩ := b
    have h1 := map_inj (KnE.inj (κ := Int)) h.1
    have h2 := map_inj (KnE.inj (κ := Int)) h.2
    simp only at h1 h2
    rw [h1, h2]
  es p := [.tup (p.1.l.map enc), .tup (p.2.l.map enc)]
  en _ := rfl
  nk p := by simp [nkeys, nkey, nkeys_map]
  dp p := by
    simp only [NestedKey.depth, NestedKey.depthAll, dep_ints]
    decide
  im p := by
    show immL [D.tup (p.1.l.map enc), D.tup (p.2.l.map enc)] = true
    simp [immL, imm, immL_mapN]
instance : KyN (Int × Tv Int) where
  kn p := [.num p.1, .tup (p.2.l.map KnE.kn)]
  inj a b h := by
    simp only [List.cons.injEq, NestedKey.tup.injEq, NestedKey.num.injEq, and_true] at h
    obtain ⟨a1, ⟨a2⟩⟩ := a
    obtain ⟨b1, ⟨b2⟩⟩ := b
    have h2 := map_inj (KnE.inj (κ := Int)) h.2
    simp only at h
    simp only at h2
    rw [h.1, h2]
  es p := [.int p.1, .tup (p.2.l.map enc)]
  en _ := rfl
  nk p := by simp [nkeys, nkey, nkeys_map]
  dp p := by
    simp only [NestedKey.depth, NestedKey.depthAll, dep_ints]
    decide
  im p := by
    show immL [D.int p.1, D.tup (p.2.l.map enc)] = true
    simp [immL, imm, immL_mapN]
end
end Dv

namespace Dv
open PySem PySem.Spec PyProof.Rows L2 Evl
/-! ### x in a list, by == of data -/
def fInT (b : Bool) (x y : D) : Option D := match x.py, y with
  | some p, .lst ds => match D.pyL ds with
    | some ps => if (SeqAt.shaped p && SeqAt.shaped (.list ps)) = true then some (.bl (b.xor (ps.any fun z => PyData.eqv z p))) else none
    | none => none
  | _, _ => none
section
variable {K : PySem.W.Frag} {W : WW}
theorem rvInT : RV K (rInD K) (fInT false) := by
  intro G H x y dx dy d g rx ry e Q q
  unfold fInT at e
  split at e
  · rename_i p ds h1
    split at e
    · rename_i ps h2
      split at e
      · rename_i h3
        rw [Bool.and_eq_true] at h3
        cases e
        cases ry with
        | lst hp hr => exact ⟨p, ps, rx.dp g h1, .lst (sq_of (g _ _ hp)) (hr.dp g h2), h3.1, h3.2, by simpa using q _ (.bl _)⟩
      · cases e
    · cases e
  · cases e
theorem rvNinT : RV K (rNotInD K) (fInT true) := by
  intro G H x y dx dy d g rx ry e Q q
  unfold fInT at e
  split at e
  · rename_i p ds h1
    split at e
    · rename_i ps h2
      split at e
      · rename_i h3
        rw [Bool.and_eq_true] at h3
        cases e
        cases ry with
        | lst hp hr => exact ⟨p, ps, rx.dp g h1, .lst (sq_of (g _ _ hp)) (hr.dp g h2), h3.1, h3.2, by simpa using q _ (.bl _)⟩
      · cases e
    · cases e
  · cases e
/-! ### order of data that are alike -/
def isNo : PyData → Bool
  | .none => true
  | _ => false
def cmpOk (p q : PyData) : Bool := PySem.W.alike p q && !isNo p && decide (p.depth ≤ 60)
def rCmpD (K : PySem.W.Frag) (c : PyData → PyData → Bool) : R2 := fun x y H Q => ∃ p q, Dp K H x p ∧ Dp K H y q ∧ cmpOk p q = true ∧ Q (.bl (c p q)) H
def fCmpD (c : PyData → PyData → Bool) (x y : D) : Option D := match x.py, y.py with
  | some p, some q => if cmpOk p q = true then some (.bl (c p q)) else none
  | _, _ => none
theorem rvCmpD (c : PyData → PyData → Bool) : RV K (rCmpD K c) (fCmpD c) := by
  intro G H x y dx dy d g rx ry e Q q
  unfold fCmpD at e
  split at e
  · rename_i a b h1 h2
    split at e
    · rename_i h3
      cases e
      exact ⟨a, b, rx.dp g h1, ry.dp g h2, h3, q _ (.bl _)⟩
    · cases e
  · cases e
theorem cmpOk_of {p q : PyData} (h : cmpOk p q = true) : PySem.W.alike p q = true ∧ p ≠ .none ∧ p.depth ≤ 60 := by
  unfold cmpOk at h
  rw [Bool.and_eq_true, Bool.and_eq_true] at h
  refine ⟨h.1.1, fun z => ?_, of_decide_eq_true h.2⟩
  subst z
  simp [isNo] at h
end
section
variable {X : Cx}
theorem op_ltD (hu : X.A.units + 64 < cLine) : OpR X (compareOp .Lt) (rCmpD X.K PySem.W.dataLt) := by
  intro pins s σ H x y v u Q I rx ry h
  obtain ⟨p, q, h1, h2, h3, k⟩ := h
  obtain ⟨e1, e2, e3⟩ := cmpOk_of h3
  obtain ⟨as, r1⟩ := Dp.reads I p x v h1 rx
  obtain ⟨bs, r2⟩ := Dp.reads I q y u h2 ry
  exact PySem.W.lt_data r1 r2 e1 e2 (by have := Nat.min_le_left p.depth q.depth; omega) ⟨.bl _, H, I, rfl, k⟩
theorem op_gtD (hu : X.A.units + 64 < cLine) : OpR X (compareOp .Gt) (rCmpD X.K fun a b => PySem.W.dataLt b a) := by
  intro pins s σ H x y v u Q I rx ry h
  obtain ⟨p, q, h1, h2, h3, k⟩ := h
  obtain ⟨e1, e2, e3⟩ := cmpOk_of h3
  obtain ⟨as, r1⟩ := Dp.reads I p x v h1 rx
  obtain ⟨bs, r2⟩ := Dp.reads I q y u h2 ry
  exact PySem.W.gt_data r1 r2 e1 e2 (by have := Nat.min_le_left p.depth q.depth; omega) ⟨.bl _, H, I, rfl, k⟩
theorem op_leD (hu : X.A.units + 64 < cLine) : OpR X (compareOp .LtE) (rCmpD X.K fun a b => !PySem.W.dataLt b a) := by
  intro pins s σ H x y v u Q I rx ry h
  obtain ⟨p, q, h1, h2, h3, k⟩ := h
  obtain ⟨e1, e2, e3⟩ := cmpOk_of h3
  obtain ⟨as, r1⟩ := Dp.reads I p x v h1 rx
  obtain ⟨bs, r2⟩ := Dp.reads I q y u h2 ry
  exact PySem.W.le_data r1 r2 e1 e2 (by have := Nat.min_le_left p.depth q.depth; omega) ⟨.bl _, H, I, rfl, k⟩
theorem op_geD (hu : X.A.units + 64 < cLine) : OpR X (compareOp .GtE) (rCmpD X.K fun a b => !PySem.W.dataLt a b) := by
  intro pins s σ H x y v u Q I rx ry h
  obtain ⟨p, q, h1, h2, h3, k⟩ := h
  obtain ⟨e1, e2, e3⟩ := cmpOk_of h3
  obtain ⟨as, r1⟩ := Dp.reads I p x v h1 rx
  obtain ⟨bs, r2⟩ := Dp.reads I q y u h2 ry
  exact PySem.W.ge_data r1 r2 e1 e2 (by have := Nat.min_le_left p.depth q.depth; omega) ⟨.bl _, H, I, rfl, k⟩
end
abbrev cLtD : PyData → PyData → Bool := PySem.W.dataLt
abbrev cGtD : PyData → PyData → Bool := fun a b => PySem.W.dataLt b a
abbrev cLeD : PyData → PyData → Bool := fun a b => !PySem.W.dataLt b a
abbrev cGeD : PyData → PyData → Bool := fun a b => !PySem.W.dataLt a b
section
variable {X : Cx} {K : PySem.W.Frag} {W : WW} {pos : Pos} {a b c e : Expr} {ta tb tc te : TE} {da db dc de : DE D}
theorem q_inT (hu : X.A.units + 65 < cLine) (ha : QB X K W a ta da) (hb : QB X K W b tb db) (hm : behindInMarks .In b = false := by rfl) : QB X K W (.Compare a [.In] [b] pos) (tOp (rInD K) ta tb) (dOp (fInT false) da db) := q_cmp (r := rInD) (op_inD hu) rvInT hm ha hb
theorem qt_inT (hu : X.A.units + 65 < cLine) (ha : QB X K W a ta da) (hb : QB X K W b tb db) (hm : behindInMarks .In b = false := by rfl) : QT X K W (.Compare a [.In] [b] pos) (tTest (tOp (rInD K) ta tb)) (dTest (dOp (fInT false) da db)) := qt_cmp (r := rInD) (op_inD hu) rvInT hm ha hb
theorem q_ninT (hu : X.A.units + 65 < cLine) (ha : QB X K W a ta da) (hb : QB X K W b tb db) (hm : behindInMarks .NotIn b = false := by rfl) : QB X K W (.Compare a [.NotIn] [b] pos) (tOp (rNotInD K) ta tb) (dOp (fInT true) da db) := q_cmp (r := rNotInD) (op_notInD hu) rvNinT hm ha hb
theorem qt_ninT (hu : X.A.units + 65 < cLine) (ha : QB X K W a ta da) (hb : QB X K W b tb db) (hm : behindInMarks .NotIn b = false := by rfl) : QT X K W (.Compare a [.NotIn] [b] pos) (tTest (tOp (rNotInD K) ta tb)) (dTest (dOp (fInT true) da db)) := qt_cmp (r := rNotInD) (op_notInD hu) rvNinT hm ha hb
theorem q_ltD (hu : X.A.units + 64 < cLine) (ha : QB X K W a ta da) (hb : QB X K W b tb db) : QB X K W (.Compare a [.Lt] [b] pos) (tOp (rCmpD K cLtD) ta tb) (dOp (fCmpD cLtD) da db) := q_cmp (r := fun K => rCmpD K cLtD) (op_ltD hu) (rvCmpD _) (nomark _) ha hb
theorem qt_ltD (hu : X.A.units + 64 < cLine) (ha : QB X K W a ta da) (hb : QB X K W b tb db) : QT X K W (.Compare a [.Lt] [b] pos) (tTest (tOp (rCmpD K cLtD) ta tb)) (dTest (dOp (fCmpD cLtD) da db)) := qt_cmp (r := fun K => rCmpD K cLtD) (op_ltD hu) (rvCmpD _) (nomark _) ha hb
theorem q_gtD (hu : X.A.units + 64 < cLine) (ha : QB X K W a ta da) (hb : QB X K W b tb db) : QB X K W (.Compare a [.Gt] [b] pos) (tOp (rCmpD K cGtD) ta tb) (dOp (fCmpD cGtD) da db) := q_cmp (r := fun K => rCmpD K cGtD) (op_gtD hu) (rvCmpD _) (nomark _) ha hb
theorem qt_gtD (hu : X.A.units + 64 < cLine) (ha : QB X K W a ta da) (hb : QB X K W b tb db) : QT X K W (.Compare a [.Gt] [b] pos) (tTest (tOp (rCmpD K cGtD) ta tb)) (dTest (dOp (fCmpD cGtD) da db)) := qt_cmp (r := fun K => rCmpD K cGtD) (op_gtD hu) (rvCmpD _) (nomark _) ha hb
theorem q_leD (hu : X.A.units + 64 < cLine) (ha : QB X K W a ta da) (hb : QB X K W b tb db) : QB X K W (.Compare a [.LtE] [b] pos) (tOp (rCmpD K cLeD) ta tb) (dOp (fCmpD cLeD) da db) := q_cmp (r := fun K => rCmpD K cLeD) (op_leD hu) (rvCmpD _) (nomark _) ha hb
theorem qt_leD (hu : X.A.units + 64 < cLine) (ha : QB X K W a ta da) (hb : QB X K W b tb db) : QT X K W (.Compare a [.LtE] [b] pos) (tTest (tOp (rCmpD K cLeD) ta tb)) (dTest (dOp (fCmpD cLeD) da db)) := qt_cmp (r := fun K => rCmpD K cLeD) (op_leD hu) (rvCmpD _) (nomark _) ha hb
theorem q_geD (hu : X.A.units + 64 < cLine) (ha : QB X K W a ta da) (hb : QB X K W b tb db) : QB X K W (.Compare a [.GtE] [b] pos) (tOp (rCmpD K cGeD) ta tb) (dOp (fCmpD cGeD) da db) := q_cmp (r := fun K => rCmpD K cGeD) (op_geD hu) (rvCmpD _) (nomark _) ha hb
theorem qt_geD (hu : X.A.units + 64 < cLine) (ha : QB X K W a ta da) (hb : QB X K W b tb db) : QT X K W (.Compare a [.GtE] [b] pos) (tTest (tOp (rCmpD K cGeD) ta tb)) (dTest (dOp (fCmpD cGeD) da db)) := qt_cmp (r := fun K => rCmpD K cGeD) (op_geD hu) (rvCmpD _) (nomark _) ha hb
end
/-! ### a < b < c < d -/
def tCh : List (R2 × TE) → V → TE
  | [], _ => fun _ H Q => Q (.bl true) H
  | [(r, tb)], x => fun σ H Q => tb σ H fun y H1 => r x y H1 Q
  | (r, tb) :: p :: l, x => fun σ H Q => tb σ H fun y H1 => r x y H1 fun z H2 => ∃ k, z = .bl k ∧ (if k = true then tCh (p :: l) y σ H2 Q else Q (.bl false) H2)
def dCh : List ((D → D → Option D) × DE D) → D → DE D
  | [], _ => fun s => some (.ok (.bl true) s)
  | [(f, db)], x => bnd db fun y s => (f x y).map fun d => .ok d s
  | (f, db) :: p :: l, x => bnd db fun y s => match f x y with
    | some (.bl true) => dCh (p :: l) y s
    | some (.bl false) => some (.ok (.bl false) s)
    | _ => none
inductive JCh (K : PySem.W.Frag) (W : WW) : List (R2 × TE) → List ((D → D → Option D) × DE D) → Prop
  | nil : JCh K W [] []
  | cons {r : R2} {f : D → D → Option D} {t : TE} {d : DE D} {ts : List (R2 × TE)} {ds : List ((D → D → Option D) × DE D)} : RV K r f → JB K W t d → JCh K W ts ds → JCh K W ((r, t) :: ts) ((f, d) :: ds)
section
variable {K : PySem.W.Frag} {W : WW}
theorem jCh {ts : List (R2 × TE)} {ds : List ((D → D → Option D) × DE D)} (h : JCh K W ts ds) : ∀ (x : V) (d : D) (s : SD) (r : Er D), dCh ds d s = some r → ∀ B H σ Fs, Rel K B H σ s Fs → Re K (frz B H Fs.flatten) H x d → ∀ Q, Post (rB K) K W B H Fs.flatten σ Q r → tCh ts x σ H Q := by
  induction h with
  | nil =>
    intro x d s r e B H σ Fs R0 rx Q p
    cases e
    exact Post.here R0 ⟨.bl _, rfl⟩ p
  | @cons rr f t db ts ds hr hb hl ih =>
    intro x d s r e B H σ Fs R0 rx Q p
    cases hl with
    | nil =>
      have e : bnd db (fun y s => (f d y).map fun d => .ok d s) s = some r := e
      show t σ H _
      unfold bnd at e
      cases e1 : db s with
      | none => rw [e1] at e; cases e
      | some r1 =>
        rw [e1] at e
        refine hb s r1 e1 B H σ Fs R0 _ ?_
        cases r1 with
        | exc c s1 => cases e; exact p
        | ok y s1 =>
          intro v B1 H1 Fs1 F R1 y1 z1 l1 q1
          obtain ⟨q1, rfl⟩ := q1
          obtain ⟨d2, h1, rfl⟩ := Option.map_eq_some_iff.mp (show (f d y).map (fun d => Er.ok d s1) = some r from e)
          exact hr _ H1 x v d y d2 (frz_le R1.ex) (rx.mono y1.vw (Tk.of_ex y1.exH)) q1 h1 Q fun w h => Post.here R1 ⟨h, rfl⟩ (p.step y1)
    | @cons r2 f2 t2 d2 ts2 ds2 hr2 hb2 hl2 =>
      have e : bnd db (fun y s => match f d y with
        | some (.bl true) => dCh ((f2, d2) :: ds2) y s
        | some (.bl false) => some (.ok (.bl false) s)
        | _ => none) s = some r := e
      show t σ H _
      unfold bnd at e
      cases e1 : db s with
      | none => rw [e1] at e; cases e
      | some r1 =>
        rw [e1] at e
        refine hb s r1 e1 B H σ Fs R0 _ ?_
        cases r1 with
        | exc c s1 => cases e; exact p
        | ok y s1 =>
          intro v B1 H1 Fs1 F R1 y1 z1 l1 q1
          obtain ⟨q1, rfl⟩ := q1
          simp only at e
          cases ef : f d y with
          | none => rw [ef] at e; cases e
          | some dd =>
            rw [ef] at e
            refine hr _ H1 x v d y dd (frz_le R1.ex) (rx.mono y1.vw (Tk.of_ex y1.exH)) q1 ef _ fun w h => ?_
            cases h with
            | bl b =>
              refine ⟨b, rfl, ?_⟩
              cases b with
              | false =>
                cases e
                exact Post.here R1 ⟨.bl _, rfl⟩ (p.step y1)
              | true => exact ih v y s1 r e B1 H1 σ Fs1 R1 q1 Q (p.step y1)
            | _ => cases e
theorem jChain3 {ta : TE} {da : DE D} {ts : List (R2 × TE)} {ds : List ((D → D → Option D) × DE D)} (ha : JB K W ta da) (h : JCh K W ts ds) : JB K W (fun σ H Q => ta σ H fun x H1 => tCh ts x σ H1 Q) (bnd da fun x => dCh ds x) := by
  refine J.one (k := fun x σ H Q => tCh ts x σ H Q) ha zB fun x s r0 e vx B H σ Fs R0 q1 Q p => ?_
  exact jCh h vx x s r0 e B H σ Fs R0 q1.1 Q p
end
section
variable {X : Cx} {K : PySem.W.Frag} {W : WW} {pos : Pos} {a b c d : Expr} {ta tb tc td : TE} {da db dc dd : DE D} {op1 op2 op3 : CmpOp} {r1 r2 r3 : R2} {f1 f2 f3 : D → D → Option D}
theorem pe_chain3 (h1 : OpR X (compareOp op1) r1) (h2 : OpR X (compareOp op2) r2) (h3 : OpR X (compareOp op3) r3) (ha : PE X a ta) (hb : PE X b tb) (hc : PE X c tc) (hd : PE X d td)
    (hm : lastMarks [op1, op2, op3] [b, c, d] = false) : PE X (.Compare a [op1, op2, op3] [b, c, d] pos) (fun σ H Q => ta σ H fun x H1 => tCh [(r1, tb), (r2, tc), (r3, td)] x σ H1 Q) := by
  refine ⟨fun pins s σ H Q I h => ?_⟩
  refine Compare_chain (thn (ha.run pins s σ H _ I h) fun v s1 ⟨x, H1, I1, g1, q1⟩ => chain_link (thn (hb.run pins s1 σ H1 _ I1 q1) fun u s2 ⟨y, H2, I2, g2, q2⟩ =>
    thn (h1 pins s2 σ H2 x y v u _ I2 g1 g2 q2) fun e s3 ⟨z, H3, I3, g3, k, ek, q3⟩ => ?_)) hm
  subst ek
  cases g3
  refine wpAny_truthy_bool ?_
  cases k with
  | false => exact ite_ff ⟨.bl false, H3, I3, rfl, q3⟩
  | true =>
    refine ite_tt (chain_link (thn (hc.run pins s3 σ H3 _ I3 q3) fun w' s4 ⟨z', H4, I4, g4, q4⟩ => thn (h2 pins s4 σ H4 y z' u w' _ I4 g2 g4 q4) fun e s5 ⟨z2, H5, I5, g5, k2, ek2, q5⟩ => ?_))
    subst ek2
    cases g5
    refine wpAny_truthy_bool ?_
    cases k2 with
    | false => exact ite_ff ⟨.bl false, H5, I5, rfl, q5⟩
    | true => exact ite_tt (chain_last (thn (hd.run pins s5 σ H5 _ I5 q5) fun w2 s6 ⟨z3, H6, I6, g6, q6⟩ => h3 pins s6 σ H6 z' z3 w' w2 Q I6 g4 g6 q6))
theorem q_chain3 (h1 : OpR X (compareOp op1) r1) (h2 : OpR X (compareOp op2) r2) (h3 : OpR X (compareOp op3) r3) (v1 : RV K r1 f1) (v2 : RV K r2 f2) (v3 : RV K r3 f3) (ha : QB X K W a ta da) (hb : QB X K W b tb db) (hc : QB X K W c tc dc) (hd : QB X K W d td dd) (hm : lastMarks [op1, op2, op3] [b, c, d] = false := by rfl) :
    QB X K W (.Compare a [op1, op2, op3] [b, c, d] pos) (fun σ H Q => ta σ H fun x H1 => tCh [(r1, tb), (r2, tc), (r3, td)] x σ H1 Q) (bnd da fun x => dCh [(f1, db), (f2, dc), (f3, dd)] x) :=
  ⟨ha.hk, pe_chain3 h1 h2 h3 ha.p hb.p hc.p hd.p hm, jChain3 ha.j (.cons v1 hb.j (.cons v2 hc.j (.cons v3 hd.j .nil)))⟩
theorem pt_chain3 (h1 : OpR X (compareOp op1) r1) (h2 : OpR X (compareOp op2) r2) (h3 : OpR X (compareOp op3) r3) (ha : PE X a ta) (hb : PE X b tb) (hc : PE X c tc) (hd : PE X d td)
    (hm : lastMarks [op1, op2, op3] [b, c, d] = false) : PT X (.Compare a [op1, op2, op3] [b, c, d] pos) (tTest fun σ H Q => ta σ H fun x H1 => tCh [(r1, tb), (r2, tc), (r3, td)] x σ H1 Q) := by
  refine ⟨fun pins s σ H Q I h => ?_⟩
  refine isTrue_chain (thn (ha.run pins s σ H _ I h) fun v s1 ⟨x, H1, I1, g1, q1⟩ => test_link (thn (hb.run pins s1 σ H1 _ I1 q1) fun u s2 ⟨y, H2, I2, g2, q2⟩ =>
    thn (h1 pins s2 σ H2 x y v u _ I2 g1 g2 q2) fun e s3 ⟨z, H3, I3, g3, k, ek, q3⟩ => ?_)) hm
  subst ek
  cases g3
  refine wpAny_truthy_bool ?_
  cases k with
  | false =>
    obtain ⟨k', e', q'⟩ := q3
    cases e'
    exact ite_ff ⟨H3, I3, q'⟩
  | true =>
    refine ite_tt (test_link (thn (hc.run pins s3 σ H3 _ I3 q3) fun w' s4 ⟨z', H4, I4, g4, q4⟩ => thn (h2 pins s4 σ H4 y z' u w' _ I4 g2 g4 q4) fun e s5 ⟨z2, H5, I5, g5, k2, ek2, q5⟩ => ?_))
    subst ek2
    cases g5
    refine wpAny_truthy_bool ?_
    cases k2 with
    | false =>
      obtain ⟨k', e', q'⟩ := q5
      cases e'
      exact ite_ff ⟨H5, I5, q'⟩
    | true =>
      refine ite_tt (test_last (thn (hd.run pins s5 σ H5 _ I5 q5) fun w2 s6 ⟨z3, H6, I6, g6, q6⟩ => thn (h3 pins s6 σ H6 z' z3 w' w2 _ I6 g4 g6 q6) fun e s7 ⟨z4, H7, I7, g7, k3, ek3, q7⟩ => ?_))
      subst ek3
      cases g7
      exact wpAny_truthy_bool ⟨H7, I7, q7⟩
theorem qt_chain3 (h1 : OpR X (compareOp op1) r1) (h2 : OpR X (compareOp op2) r2) (h3 : OpR X (compareOp op3) r3) (v1 : RV K r1 f1) (v2 : RV K r2 f2) (v3 : RV K r3 f3) (ha : QB X K W a ta da) (hb : QB X K W b tb db) (hc : QB X K W c tc dc) (hd : QB X K W d td dd) (hm : lastMarks [op1, op2, op3] [b, c, d] = false := by rfl) :
    QT X K W (.Compare a [op1, op2, op3] [b, c, d] pos) (tTest fun σ H Q => ta σ H fun x H1 => tCh [(r1, tb), (r2, tc), (r3, td)] x σ H1 Q) (dTest (bnd da fun x => dCh [(f1, db), (f2, dc), (f3, dd)] x)) :=
  ⟨ha.hk, pt_chain3 h1 h2 h3 ha.p hb.p hc.p hd.p hm, jTest (jChain3 ha.j (.cons v1 hb.j (.cons v2 hc.j (.cons v3 hd.j .nil))))⟩
end
end Dv

namespace Dv
open PySem PySem.Spec PyProof.Rows L2 Evl
/-! ### a slot let down to its top ahead of a statement -/
def sLow (i : Nat) (d : DS) : DS := fun s => d (lowS i s)
section
variable {K : PySem.W.Frag} {W : WW} {t : TS} {d : DS}
theorem jsLow (i : Nat) (h : JS K W t d) : JS K W t (sLow i d) := by
  intro s o e B H σ Fs R0 En p
  obtain ⟨B1, Fs1, R1, y⟩ := R0.low i
  exact h (lowS i s) o e B1 H σ Fs1 R1 En (p.step y.ss)
end
section
variable {X : Cx} {K : PySem.W.Frag} {W : WW} {st : Stmt} {t : TS} {d : DS}
theorem qs_low (i : Nat) (h : QS X K W st t d) : QS X K W st t (sLow i d) := ⟨h.hk, h.p, jsLow i h.j⟩
end
end Dv

namespace Dv
open Enc (enc)
open PySem L2
section
variable {α β γ δ : Type} [Enc α] [Enc β] [Enc γ] [Enc δ]
def memB {α : Type} [DecidableEq α] (a : α) (l : List α) : Bool := decide (a ∈ l)
theorem memB_iff {α : Type} [DecidableEq α] {a : α} {l : List α} : memB a l = true ↔ a ∈ l := decide_eq_true_iff
theorem pyL_any {q : PyData} {y : D} (hy : y.py = some q) : ∀ {ds : List D} {ps : List PyData}, D.pyL ds = some ps → (ps.any fun z => PyData.eqv z q) = ds.any fun d => eqD d y
  | [], ps, e => by cases e; rfl
  | d :: ds, ps, e => by
    have e : (match D.py d, D.pyL ds with
      | some a, some b => some (a :: b)
      | _, _ => none) = some ps := e
    cases h1 : D.py d with
    | none => rw [h1] at e; cases e
    | some a =>
      cases h2 : D.pyL ds with
      | none => rw [h1, h2] at e; cases e
      | some b =>
        rw [h1, h2] at e
        cases e
        rw [List.any_cons, List.any_cons, pyL_any hy h2, eqv_D h1 hy]
theorem any_mem [DecidableEq α] (a : α) : ∀ l : List α, (l.any fun z => decide (z = a)) = decide (a ∈ l)
  | [] => by simp
  | x :: l => by
    rw [List.any_cons, any_mem a l]
    by_cases h : x = a
    · simp [h]
    · have : ¬ a = x := fun z => h z.symm
      simp [h, this]
theorem fInT_enc [DecidableEq α] [Eqv α] (h : Eqv.dep α ≤ 63) (b : Bool) (a : α) (l : List α) : fInT b (enc a) (enc l) = some (.bl (b.xor (decide (a ∈ l)))) := by
  have n1 : nice (Eqv.dep α + 1) (enc l) = true := Eqv.nice (α := List α) l
  have n2 : nice (Eqv.dep α) (enc a) = true := Eqv.nice a
  obtain ⟨p, e1, c1, d1⟩ := nice_py n1
  obtain ⟨q, e2, c2, d2⟩ := nice_py n2
  have e1 : (D.pyL (l.map enc)).map PyData.list = some p := e1
  obtain ⟨ps, e3, rfl⟩ := Option.map_eq_some_iff.mp e1
  have s1 : SeqAt.shaped (.list ps) = true := by simp only [SeqAt.shaped, c1]; simp; omega
  have s2 : SeqAt.shaped q = true := by simp only [SeqAt.shaped, c2]; simp; omega
  have e4 : (enc l : D) = .lst (l.map enc) := rfl
  unfold fInT
  rw [e2, e4]
  simp only [e3, s1, s2, Bool.and_self, if_true]
  rw [pyL_any e2 e3, List.any_map]
  have : ((fun d => eqD d (enc a)) ∘ enc) = fun z : α => decide (z = a) := by
    funext z
    exact Eqv.eqv z a
  rw [this, any_mem]
theorem oe_inT [DecidableEq α] [Eqv α] (h : Eqv.dep α ≤ 63) : OpE (fInT false) fun (a : α) (l : List α) => .ok (memB a l) := fun a l => by
  show fInT false (enc a) (enc l) = _
  rw [fInT_enc h, Bool.false_xor]
  rfl
theorem oe_ninT [DecidableEq α] [Eqv α] (h : Eqv.dep α ≤ 63) : OpE (fInT true) fun (a : α) (l : List α) => .ok (!memB a l) := fun a l => by
  show fInT true (enc a) (enc l) = _
  rw [fInT_enc h, Bool.true_xor]
  rfl
end
/-! ### order -/
class Dlt (α : Type) [Enc α] [DecidableEq α] where
  dlt : α → α → Bool
  dd : Nat
  py : α → PyData
  hpy : ∀ a : α, (enc a : D).py = some (py a)
  al : ∀ a b, PySem.W.alike (py a) (py b) = true
  nn : ∀ a, isNo (py a) = false
  dp : ∀ a, (py a).depth ≤ dd
  lt : ∀ a b, PySem.W.dataLt (py a) (py b) = dlt a b
  eq : ∀ a b, PyData.eqv (py a) (py b) = decide (a = b)
open Dlt (dlt)
instance : Dlt Int where
  dlt a b := decide (a < b)
  dd := 0
  py := .int
  hpy _ := rfl
  al _ _ := rfl
  nn _ := rfl
  dp _ := Nat.le_refl _
  lt a b := PySem.W.dataLt_int a b
  eq a b := by
    show (a == b) = _
    rw [Bool.eq_iff_iff]
    simp
section
variable {α β : Type} [Enc α] [Enc β] [DecidableEq α] [DecidableEq β] [Dlt α] [Dlt β]
theorem eqv_pair (a c : PyData) (b d : PyData) : PyData.eqv (.tuple [a, b]) (.tuple [c, d]) = (PyData.eqv a c && PyData.eqv b d) := by
  simp [PyData.eqv, PyData.eqvAll]
instance : Dlt (α × β) where
  dlt p q := if p.1 = q.1 then (if p.2 = q.2 then false else dlt p.2 q.2) else dlt p.1 q.1
  dd := max (Dlt.dd α) (Dlt.dd β) + 1
  py p := .tuple [Dlt.py p.1, Dlt.py p.2]
  hpy p := by
    show (D.pyL [enc p.1, enc p.2]).map PyData.tuple = _
    simp [D.pyL, Dlt.hpy]
  al p q := by simp [PySem.W.alike, PySem.W.alikeAll, Dlt.al]
  nn _ := rfl
  dp p := by
    have h1 := Dlt.dp p.1
    have h2 := Dlt.dp p.2
    simp only [PyData.depth, PyData.depthAll]
    omega
  lt p q := by
    rw [PySem.W.dataLt_pair (Dlt.al _ _) (Dlt.al _ _), Dlt.eq, Dlt.eq, Dlt.lt, Dlt.lt]
    simp
  eq p q := by
    rw [eqv_pair, Dlt.eq, Dlt.eq, Bool.eq_iff_iff]
    simp [Prod.ext_iff]
def lexB (lt : α → α → Bool) : List α → List α → Bool
  | [], [] => false
  | [], _ :: _ => true
  | _ :: _, [] => false
  | x :: xs, y :: ys => if x = y then lexB lt xs ys else lt x y
theorem lex_nil : PyProof.Rows.lexLt PyProof.Rows.itemOrd (PySem.W.keyToksAll []) (PySem.W.keyToksAll []) = false := by
  show PyProof.Rows.lexLt PyProof.Rows.itemOrd [.inl 0] [.inl 0] = false
  rw [PySem.W.lex_one]
  decide
theorem toks_lt : ∀ xs ys : List α, PyProof.Rows.lexLt PyProof.Rows.itemOrd (PySem.W.keyToksAll (xs.map Dlt.py)) (PySem.W.keyToksAll (ys.map Dlt.py)) = lexB dlt xs ys
  | [], [] => lex_nil
  | [], y :: ys => by
    rw [List.map_cons, PySem.W.toks_all_cons]
    show PyProof.Rows.lexLt PyProof.Rows.itemOrd [.inl 0] _ = true
    exact (PySem.W.lex_atom (p := Sum.inl 0) (q := Sum.inl 1) (by simp) [] _).trans (by rw [PySem.W.lex_one]; decide)
  | x :: xs, [] => by
    rw [List.map_cons, PySem.W.toks_all_cons]
    show PyProof.Rows.lexLt PyProof.Rows.itemOrd _ [.inl 0] = false
    exact (PySem.W.lex_atom (p := Sum.inl 1) (q := Sum.inl 0) (by simp) _ []).trans (by rw [PySem.W.lex_one]; decide)
  | x :: xs, y :: ys => by
    rw [List.map_cons, List.map_cons, PySem.W.dataLt_cons (Dlt.al x y), Dlt.eq, Dlt.lt, toks_lt xs ys]
    show _ = if x = y then _ else _
    simp
theorem al_all : ∀ xs ys : List α, PySem.W.alikeAll (xs.map Dlt.py) (ys.map Dlt.py) = true
  | [], _ => by simp [PySem.W.alikeAll]
  | x :: xs, [] => by simp [PySem.W.alikeAll]
  | x :: xs, y :: ys => by simp [PySem.W.alikeAll, Dlt.al, al_all xs ys]
theorem py_all : ∀ xs : List α, D.pyL (xs.map enc) = some (xs.map Dlt.py)
  | [] => rfl
  | x :: xs => by
    rw [List.map_cons, List.map_cons]
    unfold D.pyL
    rw [Dlt.hpy, py_all xs]
theorem dp_all : ∀ xs : List α, PyData.depthAll (xs.map Dlt.py) ≤ Dlt.dd α
  | [] => Nat.zero_le _
  | x :: xs => by
    have h1 := Dlt.dp x
    have h2 := dp_all xs
    rw [List.map_cons, PyData.depthAll]
    omega
theorem eq_all : ∀ xs ys : List α, PyData.eqvAll (xs.map Dlt.py) (ys.map Dlt.py) = decide (xs = ys)
  | [], [] => by simp [PyData.eqvAll]
  | [], y :: ys => by simp [PyData.eqvAll]
  | x :: xs, [] => by simp [PyData.eqvAll]
  | x :: xs, y :: ys => by
    rw [List.map_cons, List.map_cons, PySem.W.eqv_all_cons, Dlt.eq, eq_all xs ys, Bool.eq_iff_iff]
    simp
instance : Dlt (List α) where
  dlt := lexB dlt
  dd := Dlt.dd α + 1
  py l := .list (l.map Dlt.py)
  hpy l := by
    show (D.pyL (l.map enc)).map PyData.list = _
    rw [py_all]; rfl
  al a b := by simp only [PySem.W.alike]; exact al_all a b
  nn _ := rfl
  dp l := by
    have := dp_all l
    simp only [PyData.depth]
    omega
  lt a b := by rw [PySem.W.dataLt_list]; exact toks_lt a b
  eq a b := by rw [PyData.eqv]; exact eq_all a b
instance : Dlt (Tv α) where
  dlt a b := lexB dlt a.l b.l
  dd := Dlt.dd α + 1
  py l := .tuple (l.l.map Dlt.py)
  hpy l := by
    show (D.pyL (l.l.map enc)).map PyData.tuple = _
    rw [py_all]; rfl
  al a b := by simp only [PySem.W.alike]; exact al_all a.l b.l
  nn _ := rfl
  dp l := by
    have := dp_all l.l
    simp only [PyData.depth]
    omega
  lt a b := by rw [PySem.W.dataLt_tuple]; exact toks_lt a.l b.l
  eq a b := by
    rw [PyData.eqv, eq_all]
    cases a; cases b
    simp
theorem cmpOk_enc (h : Dlt.dd α ≤ 60) (a b : α) : cmpOk (Dlt.py a) (Dlt.py b) = true := by
  unfold cmpOk
  rw [Dlt.al, Dlt.nn, decide_eq_true (Nat.le_trans (Dlt.dp a) h)]
  rfl
theorem fCmp_enc (h : Dlt.dd α ≤ 60) (c : PyData → PyData → Bool) (a b : α) : fCmpD c (enc a) (enc b) = some (.bl (c (Dlt.py a) (Dlt.py b))) := by
  unfold fCmpD
  rw [Dlt.hpy, Dlt.hpy]
  simp only [cmpOk_enc h, if_true]
theorem oe_ltD (h : Dlt.dd α ≤ 60) : OpE (fCmpD cLtD) fun a b : α => .ok (dlt a b) := fun a b => by
  show fCmpD _ (enc a) (enc b) = _
  rw [fCmp_enc h, show cLtD (Dlt.py a) (Dlt.py b) = dlt a b from Dlt.lt a b]
  rfl
theorem oe_gtD (h : Dlt.dd α ≤ 60) : OpE (fCmpD cGtD) fun a b : α => .ok (dlt b a) := fun a b => by
  show fCmpD _ (enc a) (enc b) = _
  rw [fCmp_enc h, show cGtD (Dlt.py a) (Dlt.py b) = dlt b a from Dlt.lt b a]
  rfl
theorem oe_leD (h : Dlt.dd α ≤ 60) : OpE (fCmpD cLeD) fun a b : α => .ok (!dlt b a) := fun a b => by
  show fCmpD _ (enc a) (enc b) = _
  rw [fCmp_enc h, show cLeD (Dlt.py a) (Dlt.py b) = !dlt b a from congrArg _ (Dlt.lt b a)]
  rfl
theorem oe_geD (h : Dlt.dd α ≤ 60) : OpE (fCmpD cGeD) fun a b : α => .ok (!dlt a b) := fun a b => by
  show fCmpD _ (enc a) (enc b) = _
  rw [fCmp_enc h, show cGeD (Dlt.py a) (Dlt.py b) = !dlt a b from congrArg _ (Dlt.lt a b)]
  rfl
end
section
variable {α β γ δ τ : Type} [Enc α] [Enc β] [Enc γ] [Enc δ] {ps ps1 ps2 ps3 : List Pt} {da db dc dd dk : DE D} {ca : DE (D × Ow)} {rest d : DS} {Φ : τ → Out → Prop} {c : Oc}
/-! ### a < b < c < d, the last two pure -/
theorem rb_chain3P {f g h : D → D → Option D} {x : R α} {y : R β} {z : γ} {w : δ} {p : α → β → Bool} {q : β → γ → Bool} {r : γ → δ → Bool} (hf : OpE f fun u v => .ok (p u v)) (hg : OpE g fun u v => .ok (q u v)) (hh : OpE h fun u v => .ok (r u v)) (ha : RB ps da x ps1) (hb : RB ps1 db y ps2) (hc : RB ps2 dc (.ok z) ps2) (hd : RB ps2 dd (.ok w) ps2) :
    RB ps (bnd da fun x => dCh [(f, db), (g, dc), (h, dd)] x) (R.bind x fun u => R.bind y fun v => .ok (p u v && q v z && r z w)) ps2 := by
  refine RG.bnd ha fun u d1 v1 => ?_
  show RG ps1 (bnd db fun y s => match f d1 y with
    | some (.bl true) => dCh [(g, dc), (h, dd)] y s
    | some (.bl false) => some (.ok (.bl false) s)
    | _ => none) _ _ _
  refine RG.bnd hb fun v d2 v2 => ?_
  subst v1 v2
  refine ⟨fun s hs => ?_⟩
  have e1 : f (enc u) (enc v) = some (.bl (p u v)) := hf u v
  have e2 : g (enc v) (enc z) = some (.bl (q v z)) := hg v z
  have e3 : h (enc z) (enc w) = some (.bl (r z w)) := hh z w
  obtain ⟨b3, s3, h3, v3, m3, l3⟩ := hc s hs
  have v3 : b3 = enc z := v3
  subst v3
  obtain ⟨b4, s4, h4, v4, m4, l4⟩ := hd s3 m3
  have v4 : b4 = enc w := v4
  subst v4
  show RGs _ _ (R.ok (p u v && q v z && r z w)) _ _ s
  cases hp : p u v with
  | false =>
    refine ⟨.bl false, s, ?_, rfl, hs, rfl⟩
    rw [hp] at e1
    simp only [e1]
  | true =>
    rw [hp] at e1
    cases hq : q v z with
    | false =>
      refine ⟨.bl false, s3, ?_, rfl, m3, l3⟩
      rw [hq] at e2
      simp only [e1, dCh, bnd, h3, e2]
    | true =>
      rw [hq] at e2
      refine ⟨.bl (r z w), s4, ?_, rfl, m4, l4.trans l3⟩
      simp only [e1, dCh, bnd, h3, e2, h4, e3, Option.map_some]
theorem rb_chain3 {f g h : D → D → Option D} {x : R α} {y : R β} {z : R γ} {w : R δ} {p : α → β → Bool} {q : β → γ → Bool} {r : γ → δ → Bool} (hf : OpE f fun u v => .ok (p u v)) (hg : OpE g fun u v => .ok (q u v)) (hh : OpE h fun u v => .ok (r u v)) (ha : RB ps da x ps1) (hb : RB ps1 db y ps2) (hc : RB ps2 dc z ps2) (hd : RB ps2 dd w ps2) :
    RB ps (bnd da fun x => dCh [(f, db), (g, dc), (h, dd)] x) (R.bind x fun u => R.bind y fun v => if p u v = true then R.bind z fun a => if q v a = true then R.bind w fun b => .ok (r a b) else .ok false else .ok false) ps2 := by
  refine RG.bnd ha fun u d1 v1 => ?_
  show RG ps1 (bnd db fun y s => match f d1 y with
    | some (.bl true) => dCh [(g, dc), (h, dd)] y s
    | some (.bl false) => some (.ok (.bl false) s)
    | _ => none) _ _ _
  refine RG.bnd hb fun v d2 v2 => ?_
  subst v1 v2
  have e1 : f (enc u) (enc v) = some (.bl (p u v)) := hf u v
  cases hp : p u v with
  | false =>
    rw [hp] at e1
    refine ⟨fun s hs => ?_⟩
    rw [if_neg Bool.false_ne_true]
    exact ⟨.bl false, s, by simp only [e1], rfl, hs, rfl⟩
  | true =>
    rw [hp] at e1
    rw [if_pos rfl]
    have : (fun s => match f (enc u) (enc v) with
      | some (.bl true) => dCh [(g, dc), (h, dd)] (enc v) s
      | some (.bl false) => some (.ok (.bl false) s)
      | _ => none) = bnd dc fun y s => match g (enc v) y with
        | some (.bl true) => dCh [(h, dd)] y s
        | some (.bl false) => some (.ok (.bl false) s)
        | _ => none := by
      funext s
      simp only [e1]
      rfl
    rw [this]
    refine RG.bnd hc fun a d3 v3 => ?_
    subst v3
    have e2 : g (enc v) (enc a) = some (.bl (q v a)) := hg v a
    cases hq : q v a with
    | false =>
      rw [hq] at e2
      refine ⟨fun s hs => ?_⟩
      rw [if_neg Bool.false_ne_true]
      exact ⟨.bl false, s, by simp only [e2], rfl, hs, rfl⟩
    | true =>
      rw [hq] at e2
      rw [if_pos rfl]
      have : (fun s => match g (enc v) (enc a) with
        | some (.bl true) => dCh [(h, dd)] (enc a) s
        | some (.bl false) => some (.ok (.bl false) s)
        | _ => none) = bnd dd fun y s => (h (enc a) y).map fun d => .ok d s := by
        funext s
        simp only [e2]
        rfl
      rw [this]
      refine RG.bnd hd fun b d4 v4 => ?_
      subst v4
      have e3 : h (enc a) (enc b) = some (.bl (r a b)) := hh a b
      exact ⟨fun s hs => ⟨.bl (r a b), s, by simp only [e3, Option.map_some], rfl, hs, rfl⟩⟩
/-! ### lists held by their top -/
theorem rc_topO {x : R α} {i : Nat} (h : RC ps (cTopAt i dk) x .n ps1) : RC ps (cTopAt i dk) x .o ps1 := by
  refine ⟨fun s hs => ?_⟩
  have h := h s hs
  cases x with
  | bad => trivial
  | exc c => exact h
  | ok u =>
    obtain ⟨⟨b, ow⟩, s1, e, ⟨v1, _⟩, m, l⟩ := h
    refine ⟨(b, ow), s1, e, ⟨v1, .inl ?_⟩, m, l⟩
    unfold cTopAt at e
    split at e
    · split at e
      · split at e
        · obtain ⟨d, _, z⟩ := Option.map_eq_some_iff.mp e
          cases z
          rfl
        · cases e
      · cases e
      · cases e
    · cases e
theorem rs_low {x : R τ} {l : List α} (i : Nat) (h0 : ps.getD i .x = .h .f (enc l)) (h : RSt (ps.set i (.h .t (enc l))) (sSeq d rest) x Φ) : RSt ps (sSeq (sLow i d) rest) x Φ := by
  refine ⟨fun s hs => ?_⟩
  obtain ⟨ow0, g0, q0⟩ := hs.get h0
  have q0 : ow0 = .full := q0
  subst q0
  have e : lowS i s = s.set i (some (enc l, .top)) := by
    unfold lowS
    rw [g0]
    rfl
  have hl : (lowS i s).length = s.length := by rw [e, List.length_set]
  exact h.at (s1 := lowS i s) (by rw [e]; exact hs.set i ⟨.top, rfl, rfl⟩) hl rfl
end
end Dv

namespace Dv
open PySem PySem.Spec PyProof.Rows L2 Evl
/-! ### sorted, of data that are alike -/
def tupC : PyData → Bool
  | .tuple (_ :: _) => true
  | _ => false
def tupN : PyData → Bool
  | .tuple _ => true
  | .none => true
  | _ => false
def srtOk (ps : List PyData) : Bool := (ps.all fun p => ps.all fun q => PySem.W.alike p q) && (decide (ps.length ≤ 1) || ps.all tupC || ps.all fun p => !tupN p) && ps.all fun p => decide (p.depth ≤ 50)
theorem srtOk_of {ps : List PyData} (h : srtOk ps = true) : PySem.W.AllAlike ps ∧ (ps.length ≤ 1 ∨ PySem.W.Sortable ps) ∧ ∀ p ∈ ps, p.depth ≤ 50 := by
  unfold srtOk at h
  simp only [Bool.and_eq_true, Bool.or_eq_true, List.all_eq_true, decide_eq_true_eq] at h
  obtain ⟨⟨h1, h2⟩, h3⟩ := h
  refine ⟨fun d hd d' hd' => h1 d hd d' hd', ?_, h3⟩
  rcases h2 with (h2 | h2) | h2
  · exact .inl h2
  · refine .inr (.inl fun d hd => ?_)
    have := h2 d hd
    cases d <;> simp [tupC] at this
    rename_i xs
    cases xs with
    | nil => simp at this
    | cons x r => exact ⟨x, r, rfl⟩
  · refine .inr (.inr fun d hd => ?_)
    have := h2 d hd
    refine ⟨fun e => ?_, fun xs e => ?_⟩
    · subst e; simp [tupN] at this
    · subst e; simp [tupN] at this
abbrev dle (a b : PyData) : Bool := !PySem.W.dataLt b a
def rSortD (K : PySem.W.Frag) : List V → Hp → VK → Prop := fun vs H Q => ∃ (a : Addr) (zs : List (V × PyData)), vs = [V.ref a] ∧ SqL K H a (zs.map (·.1)) ∧ (∀ z ∈ zs, Dp K H z.1 z.2) ∧ srtOk (zs.map (·.2)) = true ∧
  ∀ p, H p = none → Q (.ref p) (upd H p (.lst ((zs.mergeSort fun x y => dle x.2 y.2).map (·.1))))
theorem each_fst {β : Type} {R : Value → V × β → Prop} {S : Value → V → Prop} (h : ∀ v z, R v z → S v z.1) : ∀ {us : List Value} {zs : List (V × β)}, PySem.W.EachIs R us zs → PySem.W.EachIs S us (zs.map (·.1))
  | _, _, .nil => .nil
  | _, _, .cons a t => .cons (h _ _ a) (each_fst h t)
theorem vals_of_each : ∀ {xs : List V} {us : List Value}, PySem.W.EachIs (fun u x => RelV x u) us xs → Vals xs us
  | _, _, .nil => .nil
  | _, _, .cons a t => .cons a (vals_of_each t)
theorem each_of_vals {β : Type} : ∀ {zs : List (V × β)} {us : List Value}, Vals (zs.map (·.1)) us → PySem.W.EachIs (fun u z => RelV z.1 u) us zs
  | [], _, h => by cases h; exact .nil
  | z :: zs, _, h => by
    rw [List.map_cons] at h
    cases h with
    | cons a t => exact .cons a (each_of_vals t)
theorem each_dp {X : Cx} {pins : List (Addr × Obj)} {σ : L2.St} {H : Hp} {s : Shared} (I : Inv X pins σ H s) : ∀ {zs : List (V × PyData)} {us : List Value}, (∀ z ∈ zs, Dp X.K H z.1 z.2) → PySem.W.EachIs (fun u z => RelV z.1 u) us zs → PySem.W.EachIs (fun u (z : V × PyData) => ∃ as, Reads s.heap u z.2 as) us zs
  | _, _, _, .nil => .nil
  | _, _, h, .cons a t => .cons (Dp.reads I _ _ _ (h _ List.mem_cons_self) a) (each_dp I (fun z hz => h z (List.mem_cons_of_mem _ hz)) t)
theorem swo0 : SrtO.Swo (fun _ _ : Value => false) := by constructor <;> intros <;> first | rfl | assumption | (rename_i h; cases h)
theorem cr_sortD {X : Cx} (hu : X.A.units + 64 < cLine) : CallR X (.builtin "sorted") (rSortD X.K) := by
  intro pins s σ H vs us Q I r h
  obtain ⟨a, zs, rfl, hs, hd, ok, q⟩ := h
  obtain ⟨its, rv, hl, hz⟩ := I.list hs
  rw [Vals.ref1 r]
  obtain ⟨o1, o2, o3⟩ := srtOk_of ok
  have e1 := each_of_vals rv
  have e2 := each_dp I hd e1
  have hz : zs.length ≤ sizeLine := by
    rw [List.length_map] at hz
    exact hz
  have fin : ∀ out : List Value, out.length = zs.length → PySem.W.EachIs (fun u (z : V × PyData) => RelV z.1 u) out (zs.mergeSort fun x y => dle x.2 y.2) → EP X pins σ Q (.ref (s.heap.objs.size + 1)) { s with heap := sortedAll s.heap its (List.toArray out) } := by
    intro out hlen he
    obtain ⟨ep, he'⟩ := PyProof.Rows.sortedAll_at s.heap its out.toArray
    have ml : ((zs.mergeSort fun x y => dle x.2 y.2).map (·.1)).length ≤ sizeLine := by rw [List.length_map, List.length_mergeSort]; exact hz
    exact ⟨.ref _, upd H (s.heap.objs.size + 1) (.lst ((zs.mergeSort fun x y => dle x.2 y.2).map (·.1))), I.laid (t' := s.toks) (fun _ _ => PyProof.Rows.sortedAll_old) (Nat.le_succ _) ⟨ml, out, ep, vals_of_each (each_fst (fun _ _ h => h) he), he'⟩, rfl, q _ (I.hok.fresh (Nat.le_succ _))⟩
  rcases o2 with o2 | o2
  · rw [List.length_map] at o2
    have hil : its.length = zs.length := by rw [← rv.length, List.length_map]
    refine SrtO.sorted_ord (ltv := fun _ _ => false) (swo0) hl.isList (by rw [hil]; exact hz) (fun h2 => by omega) fun out _ st => ?_
    have hp := st.perm
    have eo : out = its := by
      cases its with
      | nil => exact List.Perm.eq_nil hp
      | cons u t =>
        cases t with
        | nil => exact List.perm_singleton.mp hp
        | cons v t => simp at hil; omega
    subst eo
    refine fin out hil ?_
    have ez : (zs.mergeSort fun x y => dle x.2 y.2) = zs := by
      cases zs with
      | nil => simp
      | cons z t =>
        cases t with
        | nil => simp
        | cons v t => simp at o2
    rw [ez]
    exact e1
  · exact PySem.W.sorted_data (R := fun u (z : V × PyData) => RelV z.1 u) (enc := fun z => z.2) hl.isList e1 e2 o1 o2 hz (fun b hb => by have := o3 _ (List.mem_map_of_mem hb); omega) fun out hlen he => by rw [PySem.W.dataLe_eq] at he; exact fin out hlen he
/-- the sorted list -/
def sortD (ds : List D) : Option (List D) := match D.pyL ds with
  | some ps => if srtOk ps = true then some (((ds.zip ps).mergeSort fun x y => dle x.2 y.2).map (·.1)) else none
  | none => none
def cSortD (dr : DE (List D)) : DE (D × Ow) := bnd dr fun ds s => match ds with
  | [.lst xs] => (sortD xs).map fun ys => mkL ys s
  | _ => none
section
variable {K : PySem.W.Frag} {W : WW} {G H : Hp}
/-- the things, what they stand for, what they are as data -/
theorem trip : ∀ {vs : List V} {ds : List D} {ps : List PyData}, ReL K G H vs ds → Ex G H → D.pyL ds = some ps → ∃ ts : List ((V × D) × PyData), ts.map (·.1.1) = vs ∧ ts.map (fun t => (t.1.2, t.2)) = ds.zip ps ∧ ts.map (·.2) = ps ∧ ∀ t ∈ ts, Re K G H t.1.1 t.1.2 ∧ Dp K H t.1.1 t.2
  | _, _, _, .nil, _, e => by cases e; exact ⟨[], rfl, rfl, rfl, fun _ h => by simp at h⟩
  | _, _, _, .cons (v := v) (d := d) (ds := ds) a b, g, e => by
    have e : (match D.py d, D.pyL ds with
      | some a, some b => some (a :: b)
      | _, _ => none) = some _ := e
    cases h1 : D.py d with
    | none => rw [h1] at e; cases e
    | some p =>
      cases h2 : D.pyL ds with
      | none => rw [h1, h2] at e; cases e
      | some ps =>
        rw [h1, h2] at e
        cases e
        obtain ⟨ts, e1, e2, e3, e4⟩ := trip b g h2
        refine ⟨((v, d), p) :: ts, by simp [e1], by simp [e2], by simp [e3], fun t ht => ?_⟩
        rcases List.mem_cons.mp ht with rfl | ht
        · exact ⟨a, a.dp g h1⟩
        · exact e4 t ht
theorem reL_of : ∀ {ts : List ((V × D) × PyData)}, (∀ t ∈ ts, Re K G H t.1.1 t.1.2) → ReL K G H (ts.map (·.1.1)) (ts.map (·.1.2))
  | [], _ => .nil
  | t :: ts, h => .cons (h t List.mem_cons_self) (reL_of fun x hx => h x (List.mem_cons_of_mem _ hx))
theorem jcSortD {tr : TA} {dr : DE (List D)} (h : JA K W tr dr) : JC K W (tCB (rSortD K) tr) (cSortD dr) := by
  refine J.one (k := fun x _ H Q => rSortD K x H Q) h zL fun x s r0 e vx B H σ Fs R0 q1 Q p => ?_
  obtain ⟨q1, -⟩ := q1
  split at e
  · rename_i xs
    obtain ⟨ys, e1, rfl⟩ := Option.map_eq_some_iff.mp e
    obtain ⟨v, rfl, q⟩ := reL1c q1
    obtain ⟨a, vs, rfl, h1, h2⟩ := re_lst q
    unfold sortD at e1
    split at e1
    · rename_i ps hp
      split at e1
      · rename_i ok
        cases e1
        obtain ⟨ts, t1, t2, t3, t4⟩ := trip h2 (frz_le R0.ex) hp
        refine ⟨a, ts.map fun t => (t.1.1, t.2), rfl, ?_, ?_, ?_, fun c hc => ?_⟩
        · rw [List.map_map]
          show SqL K H a (ts.map fun t => t.1.1)
          rw [t1]
          exact sq_of (frz_le R0.ex _ _ h1)
        · intro z hz
          obtain ⟨t, ht, rfl⟩ := List.mem_map.mp hz
          exact (t4 t ht).2
        · rw [List.map_map]
          show srtOk (ts.map fun t => t.2) = true
          rw [t3]
          exact ok
        · have m1 : (ts.map fun t => (t.1.1, t.2)).mergeSort (fun x y => dle x.2 y.2) = (ts.mergeSort fun x y => dle x.2 y.2).map fun t => (t.1.1, t.2) := by
            symm
            exact List.map_mergeSort fun a _ b _ => rfl
          have m2 : (xs.zip ps).mergeSort (fun x y => dle x.2 y.2) = (ts.mergeSort fun x y => dle x.2 y.2).map fun t => (t.1.2, t.2) := by
            rw [← t2]
            symm
            exact List.map_mergeSort fun a _ b _ => rfl
          rw [m1, List.map_map]
          rw [m2, List.map_map] at p
          refine newL R0 (reL_of fun t ht => (t4 t ?_).1) hc p
          exact List.mem_mergeSort.mp ht
      · cases e1
    · cases e1
  · cases e
end
section
variable {X : Cx} {K : PySem.W.Frag} {W : WW} {p pos : Pos} {e : Expr} {es : List Expr} {t : TA} {dA : DE (List D)}
theorem q_sortD (hu : X.A.units + 64 < cLine) (hg : Gl X "sorted") (hm : X.mg "sorted" = none) (h : QA X K W (e :: es) t dA) (he : starEach (e :: es) X.env = (false, eval e X.env) :: starEach es X.env := by rfl) (hpl : (backTo pos (starEach es X.env)).any (·.1) = false := by rfl) : QC X K W (.Call (.Name "sorted" p) (e :: es) [] pos) (tCB (rSortD K) t) (cSortD dA) := by
  obtain ⟨rfl, pa, ja⟩ := h
  exact ⟨rfl, pe_callB (cr_sortD hu) hg hm (by rfl) pa (by decide) (by decide) he hpl, jcSortD ja⟩
end
end Dv

namespace Dv
open Enc (enc)
open PySem L2
/-! ### sorted -/
section
variable {α β : Type} [Enc α] [DecidableEq α] [Dlt α] [Enc β] [DecidableEq β] [Dlt β] {ps ps1 : List Pt} {dr : DE (List D)}
def sortL (l : List α) : List α := l.mergeSort fun a b => !Dlt.dlt b a
noncomputable def sortR (l : List α) : R (List α) := okIf (srtOk (l.map Dlt.py) = true) (sortL l)
theorem sortD_enc (l : List α) (h : srtOk (l.map Dlt.py) = true) : sortD (l.map enc) = some ((sortL l).map enc) := by
  unfold sortD
  rw [py_all]
  simp only [h, if_true]
  have z : (l.map (enc : α → D)).zip (l.map Dlt.py) = l.map fun a => (enc a, Dlt.py a) := by
    clear h
    induction l with
    | nil => rfl
    | cons a l ih => simp [ih]
  have m : (l.map fun a => ((enc a : D), Dlt.py a)).mergeSort (fun x y => dle x.2 y.2) = (sortL l).map fun a => (enc a, Dlt.py a) := by
    symm
    refine List.map_mergeSort fun a _ b _ => ?_
    show (!Dlt.dlt b a) = !PySem.W.dataLt (Dlt.py b) (Dlt.py a)
    rw [Dlt.lt]
  rw [z, m, List.map_map]
  rfl
theorem rc_sort [Imm α] {x : R (List α × Unit)} (ha : RA ps dr x (e1 (List α)) ps1) : RC ps (cSortD dr) (R.bind x fun g => sortR g.1) .f ps1 :=
  rc_one ha fun u s hs => ho_if fun h => ⟨.full, s, by
    show (sortD (u.1.map enc)).map (fun ys => mkL ys s) = _
    rw [sortD_enc _ h]
    show some (mkL ((sortL u.1).map enc) s) = _
    rw [mkL_im], rfl, hs, rfl⟩
theorem rc_sortn {x : R (List α × Unit)} (ha : RA ps dr x (e1 (List α)) ps1) : RC ps (cSortD dr) (R.bind x fun g => sortR g.1) .n (fzP ps1) :=
  rc_one ha fun u s hs => ho_if fun h => by
    obtain ⟨ow, s', e, m, q⟩ := mkL_any (sortL u.1) hs
    exact ⟨ow, s', by
      show (sortD (u.1.map enc)).map (fun ys => mkL ys s) = _
      rw [sortD_enc _ h]
      show some (mkL ((sortL u.1).map enc) s) = _
      rw [e], trivial, m, q⟩
/-! which things can be sorted -/
class So (α : Type) [Enc α] [DecidableEq α] [Dlt α] : Prop where
  so : (∀ a : α, tupC (Dlt.py a) = true) ∨ ∀ a : α, tupN (Dlt.py a) = false
  d5 : Dlt.dd α ≤ 50
instance : So Int := ⟨.inr fun _ => rfl, Nat.zero_le _⟩
instance : So (Int × Int) := ⟨.inl fun _ => rfl, Nat.le_of_ble_eq_true rfl⟩
instance : So (List Int) := ⟨.inr fun _ => rfl, Nat.le_of_ble_eq_true rfl⟩
instance : So (Int × List Int) := ⟨.inl fun _ => rfl, Nat.le_of_ble_eq_true rfl⟩
theorem srtOk_so [So α] (l : List α) : srtOk (l.map Dlt.py) = true := by
  unfold srtOk
  rw [Bool.and_eq_true, Bool.and_eq_true]
  refine ⟨⟨?_, ?_⟩, ?_⟩
  · rw [List.all_eq_true]
    intro p hp
    rw [List.all_eq_true]
    intro q hq
    obtain ⟨a, _, rfl⟩ := List.mem_map.mp hp
    obtain ⟨b, _, rfl⟩ := List.mem_map.mp hq
    exact Dlt.al a b
  · rcases So.so (α := α) with h | h
    · have : (l.map Dlt.py).all tupC = true := by
        rw [List.all_eq_true]
        intro p hp
        obtain ⟨a, _, rfl⟩ := List.mem_map.mp hp
        exact h a
      rw [this]; simp
    · have : ((l.map Dlt.py).all fun p => !tupN p) = true := by
        rw [List.all_eq_true]
        intro p hp
        obtain ⟨a, _, rfl⟩ := List.mem_map.mp hp
        rw [h a]; rfl
      rw [this]; simp
  · rw [List.all_eq_true]
    intro p hp
    obtain ⟨a, _, rfl⟩ := List.mem_map.mp hp
    exact decide_eq_true (Nat.le_trans (Dlt.dp a) So.d5)
theorem sortR_so [So α] (l : List α) : sortR l = .ok (sortL l) := by unfold sortR okIf; rw [if_pos (srtOk_so l)]
end
end Dv

namespace Dv
open PySem PySem.Spec PyProof.Rows L2 Evl
section
variable {P : Program} {w : World} {A : Around} {E : Value → Shared → Prop} {s : Shared}
/-- the empty set -/
abbrev set0 (w : World) : Obj := ⟨.type "set", none, .set #[] 0 (.fresh 0 0 (!w.params.followText "set-order")), #[]⟩
abbrev hp0 (w : World) (s : Shared) : Heap := s.heap.push (set0 w)
/-- what set(l) leaves -/
def AfterSet (w : World) (s : Shared) (ns : List Int) (v : Value) (s' : Shared) : Prop :=
  ∃ (g : Heap) (tk c : Nat), v = .none ∧ s' = { s with heap := g, toks := tk } ∧ SetR w g s.heap.objs.size (fun j => decide (j ∈ ns)) c ∧ c ≤ ns.length ∧ ∀ b o, s.heap.get? b = some o → g.get? b = some o
theorem hp0_self : (hp0 w s).get? s.heap.objs.size = some (set0 w) := Heap.get?_push_size _ rfl
theorem int_vals {its : Array Value} {ns : List Int} (hi : IntsAre its.toList ns) : ∀ (i : Nat) (v : Value), its[i]? = some v → ∃ k t, ns[i]? = some k ∧ v = .int k t := fun i v hv => by
  have e1 := IntsAre.length hi
  rw [Array.length_toList] at e1
  have h1 : i < ns.length := e1 ▸ (Array.getElem?_eq_some_iff.mp hv).1
  obtain ⟨t, e⟩ := IntsAre.int_at hi i v (by rw [Array.getElem?_toList]; exact hv)
  exact ⟨ns[i], t, List.getElem?_eq_getElem h1, by rw [e, List.getD_eq_getElem?_getD, List.getElem?_eq_getElem h1]; rfl⟩
theorem set_init_of {l : Addr} {its : Array Value} (ns : List Int) (hh : A.handled = none) (hl : s.heap.IsList l its) (hi : IntsAre its.toList ns) (hb : ns.length + 1 < scanBound) :
    codeAny (model P w) A (.call (.builtin "set.__init__") ⟨[.ref s.heap.objs.size, .ref l], []⟩) (wants (AfterSet w s ns) E) { s with heap := hp0 w s } := by
  have ty : Shared.TypeIs { s with heap := hp0 w s } (.ref s.heap.objs.size) "set" := ⟨set0 w, hp0_self, rfl⟩
  refine codeAny_call_builtin F.called_set.init.plain F.entry_set_init (check_set_init_1 ty ?_)
  obtain ⟨ob, g1, g2, n, g3⟩ := hl
  obtain ⟨c0, d0, b0, z0⟩ := ob
  simp only at g2 g3
  cases g2
  cases g3
  have lt1 := Heap.lt_size g1
  have il : (hp0 w s).IsList l its := ⟨_, Heap.get?_push_of_some _ g1, rfl, n, rfl⟩
  have gl := Heap.get?_push_of_some (set0 w) g1
  have k1 := F.sub_list_set
  have k2 := F.sub_list_frozenset
  have k3 : (Value.type "list" == .type "dict") = false := by decide
  have sz : (hp0 w s).objs.size = s.heap.objs.size + 1 := Heap.size_push ..
  have e1 : ns.length = its.size := by rw [← IntsAre.length hi, Array.length_toList]
  unfold Builtin.«set.__init__» noKeywords Builtin.Frozenset.updateFrom
  generalize hp : pyIter = it
  wp_walk
  subst hp
  refine wpAny_pyIter_list il (wpAny_bind (wpAny_runValue ?_))
  have nq : l ≠ (hp0 w s).objs.size := sz ▸ Nat.ne_of_lt (Nat.lt_succ_of_lt lt1)
  have nq2 : s.heap.objs.size ∉ [(hp0 w s).objs.size, l] := by
    simp only [List.mem_cons, List.not_mem_nil, or_false, not_or]
    exact ⟨sz ▸ Nat.ne_of_lt (Nat.lt_succ_self _), Nat.ne_of_gt lt1⟩
  refine set_update_ints ((Walks.list (by simp [hh]) _ l nq its).toS) s.heap.objs.size nq2 ns e1.symm hb (int_vals hi) (its.size - 0) 0 _ (by omega) (Nat.zero_le _) ⟨⟨_, Heap.get?_push_size _ rfl, rfl, rfl⟩, il.push _⟩
    ⟨0, Nat.le_refl 0, setR_new_at (Heap.get?_push_of_some _ hp0_self)⟩ ?_
  intro t c mv hc new
  obtain ⟨th, tg, td, tt, tos⟩ := t
  obtain rfl : tg = s.gens := mv.gens
  obtain rfl : td = s.drawn := mv.drawn
  obtain rfl : tos = s.os := mv.os
  show wpAny _ _ _ _ _ _
  refine wpAny_pure ?_
  show wpAny _ _ (ret Value.none) _ _ _
  refine wpAny_pure ⟨th, tt, c, rfl, rfl, new, e1 ▸ hc, fun b o e => ?_⟩
  have lb := Heap.lt_size e
  refine mv.heap b o ?_ (Heap.get?_push_of_some _ (Heap.get?_push_of_some _ e))
  simp only [List.mem_cons, List.not_mem_nil, or_false, not_or]
  exact ⟨Nat.ne_of_lt lb, sz ▸ Nat.ne_of_lt (Nat.lt_succ_of_lt lb)⟩
theorem set_of_list {l : Addr} {its : Array Value} (ns : List Int) {Q : Value → Shared → Prop} (hh : A.handled = none) (hl : s.heap.IsList l its) (hi : IntsAre its.toList ns) (hb : ns.length + 1 < scanBound)
    (h : ∀ (g : Heap) (tk c : Nat), SetR w g s.heap.objs.size (fun j => decide (j ∈ ns)) c → c ≤ ns.length → (∀ b o, s.heap.get? b = some o → g.get? b = some o) → Q (.ref s.heap.objs.size) { s with heap := g, toks := tk }) :
    wpAny (model P w) A (call (.type "set") [.ref l]) Q E s := by
  obtain ⟨cc, tt, m1⟩ := F.called_set.mro
  have m2 := F.called_set.made; have m3 := F.called_set.sub
  refine wpAny_call (codeAny_of_tree ?_)
  show wpAny _ _ (callAny (.type "set") _) _ _ _
  refine wpAny_pure ⟨Code.quiet_builtin _ (by decide +kernel), codeAny_builtin F.entry_type_call ?_⟩
  rw [Around.under_plain (weight_type_call_type "set" [.ref l] []) rfl]
  have m4 := F.called_set.notType; have m5 := F.called_set.canCreate; have m6 := F.typeCall_set_1 (.ref l)
  repeat' (first | assumption | wp_step)
  refine codeAny_mono (code_set_led1 (.ref l) (E := E) (Q₁ := fun o t => o = .ref s.heap.objs.size ∧ t = { s with heap := hp0 w s }) ⟨rfl, rfl⟩) fun r t hr => ?_
  match r, hr with
  | .ok (.ret o), ⟨ho, ht⟩ =>
    subst ho ht
    have ty : Shared.TypeIs { s with heap := hp0 w s } (.ref s.heap.objs.size) "set" := ⟨set0 w, hp0_self, rfl⟩
    have n1 := F.called_set.init.lookup; have n2 := F.called_set.init.bind (.ref s.heap.objs.size)
    repeat' (first | assumption | wp_step)
    refine codeAny_mono (set_init_of (P := P) (E := E) ns (by simp [hh]) hl hi hb) fun r t hr => ?_
    match r, hr with
    | .ok (.ret v), ⟨g, tk, c, e1, e2, e3, e4, e5⟩ =>
      subst e1 e2
      repeat' (first | assumption | wp_step)
      exact h _ _ _ e3 e4 e5
    | .error _, q => exact q
  | .error _, q => exact q
/-- set(l), l a list of whole numbers, fewer than 64 -/
def rSetI (w : World) (K : PySem.W.Frag) : List V → Hp → VK → Prop := fun vs H Q => ∃ (a : Addr) (ns : List Int), vs = [V.ref a] ∧ SqL K H a (ns.map V.int) ∧ ns.length < 64 ∧
  ∀ p c, H p = none → c ≤ ns.length → Q (.ref p) (upd H p (SetO w p (fun j => decide (j ∈ ns)) c))
theorem ints_of_vals : ∀ {ns : List Int} {us : List Value}, Vals (ns.map V.int) us → IntsAre us ns
  | [], _, h => by cases h; exact .nil
  | n :: ns, _, h => by
    rw [List.map_cons] at h
    cases h with
    | cons a t =>
      obtain ⟨t0, rfl⟩ := a
      exact .cons _ _ (ints_of_vals t)
theorem cr_setI {X : Cx} (hc : X.calm = true) : CallR X (.type "set") (rSetI X.w X.K) := by
  intro pins s σ H vs us Q I r h
  obtain ⟨a, ns, rfl, hs, h64, q⟩ := h
  obtain ⟨its, rv, hl, hz⟩ := I.list hs
  rw [Vals.ref1 r]
  refine set_of_list ns (I.ok.hd hc) hl.isList (ints_of_vals (by simpa using rv)) (by unfold scanBound; omega) fun g tk c new hc2 keep => ?_
  exact ⟨.ref _, upd H s.heap.objs.size (SetO X.w s.heap.objs.size (fun j => decide (j ∈ ns)) c), I.laid (t' := tk) keep (Nat.le_refl _) (setO_new new), rfl, q _ _ (I.hok.fresh (Nat.le_refl _)) hc2⟩
/-- sorted(set(l)) -/
def insI (x : Int) : List Int → List Int
  | [] => [x]
  | y :: l => if x < y then x :: y :: l else if x = y then y :: l else y :: insI x l
def srtSet (ns : List Int) : List Int := ns.foldr insI []
theorem insI_mem (x k : Int) : ∀ l, k ∈ insI x l ↔ k = x ∨ k ∈ l
  | [] => by simp [insI]
  | y :: l => by
    unfold insI
    split
    · simp
    · split
      · rename_i e
        subst e
        simp only [List.mem_cons]
        constructor
        · exact .inr
        · rintro (h | h)
          · exact .inl h
          · exact h
      · simp only [List.mem_cons, insI_mem x k l]
        constructor
        · rintro (h | h | h)
          · exact .inr (.inl h)
          · exact .inl h
          · exact .inr (.inr h)
        · rintro (h | h | h)
          · exact .inr (.inl h)
          · exact .inl h
          · exact .inr (.inr h)
theorem insI_lt (x : Int) : ∀ l : List Int, l.Pairwise (· < ·) → (insI x l).Pairwise (· < ·)
  | [], _ => by simp [insI]
  | y :: l, h => by
    have h0 := h
    rw [List.pairwise_cons] at h
    unfold insI
    split
    · rename_i e
      refine List.pairwise_cons.mpr ⟨fun z hz => ?_, h0⟩
      rcases List.mem_cons.mp hz with rfl | hz
      · exact e
      · exact Int.lt_trans e (h.1 z hz)
    · split
      · exact h0
      · refine List.pairwise_cons.mpr ⟨fun z hz => ?_, insI_lt x l h.2⟩
        rcases (insI_mem x z l).mp hz with rfl | hz
        · omega
        · exact h.1 z hz
theorem srtSet_mem (ns : List Int) (k : Int) : k ∈ srtSet ns ↔ k ∈ ns := by
  unfold srtSet
  induction ns with
  | nil => rfl
  | cons n ns ih => rw [List.foldr_cons, insI_mem, ih, List.mem_cons]
theorem srtSet_lt (ns : List Int) : (srtSet ns).Pairwise (· < ·) := by
  unfold srtSet
  induction ns with
  | nil => exact .nil
  | cons n ns ih => exact insI_lt _ _ ih
theorem lt_uniq : ∀ {a b : List Int}, a.Pairwise (· < ·) → b.Pairwise (· < ·) → (∀ k, k ∈ a ↔ k ∈ b) → a = b
  | [], [], _, _, _ => rfl
  | [], y :: b, _, _, h => by have := (h y).mpr (by simp); simp at this
  | x :: a, [], _, _, h => by have := (h x).mp (by simp); simp at this
  | x :: a, y :: b, ha, hb, h => by
    rw [List.pairwise_cons] at ha hb
    have e : x = y := by
      have h1 := (h x).mp (by simp)
      have h2 := (h y).mpr (by simp)
      rcases List.mem_cons.mp h1 with e | h1
      · exact e
      · rcases List.mem_cons.mp h2 with e | h2
        · exact e.symm
        · have := hb.1 x h1; have := ha.1 y h2; omega
    subst e
    rw [lt_uniq ha.2 hb.2 fun k => ?_]
    have := h k
    simp only [List.mem_cons] at this
    constructor
    · intro hk
      have := ha.1 k hk
      rcases (h k).mp (List.mem_cons_of_mem _ hk) with _ | ⟨_, z⟩
      · omega
      · assumption
    · intro hk
      have := hb.1 k hk
      rcases (h k).mpr (List.mem_cons_of_mem _ hk) with _ | ⟨_, z⟩
      · omega
      · assumption
def allInt : List D → Option (List Int)
  | [] => some []
  | .int i :: xs => (allInt xs).map (i :: ·)
  | _ => none
theorem allInt_rel {K : PySem.W.Frag} {G H : Hp} : ∀ {vs : List V} {ds : List D} {ns : List Int}, ReL K G H vs ds → allInt ds = some ns → vs = ns.map V.int
  | _, _, _, .nil, e => by cases e; rfl
  | v :: vs, d :: ds, ns, .cons a t, e => by
    cases a with
    | int i =>
      obtain ⟨m, e1, rfl⟩ := Option.map_eq_some_iff.mp (show (allInt ds).map (i :: ·) = some ns from e)
      rw [allInt_rel t e1]; rfl
    | _ => cases e
theorem reL_ints {K : PySem.W.Frag} {G H : Hp} : ∀ ns : List Int, ReL K G H (ns.map V.int) (ns.map D.int)
  | [] => .nil
  | n :: ns => .cons (.int n) (reL_ints ns)
theorem allInt_map : ∀ ns : List Int, allInt (ns.map D.int) = some ns
  | [] => rfl
  | n :: ns => by show (allInt (ns.map D.int)).map (n :: ·) = _; rw [allInt_map ns]; rfl
def cSortSet (dr : DE (List D)) : DE (D × Ow) := bnd dr fun ds s => match ds with
  | [.lst xs] => match allInt xs with
    | some ns => if ns.length < 64 then some (mkL ((srtSet ns).map D.int) s) else none
    | none => none
  | _ => none
variable {K : PySem.W.Frag} {W : WW}
theorem Post.pre {R α : Type} {rel : RelT R α} {B H B1 H1 : Hp} {t t1 : List Addr} {σ : L2.St} {Q : R → Hp → Prop} {r : Er α} (x : ES B H t B1 H1 t1) (p : Post rel K W B H t σ Q r) : Post rel K W B1 H1 t1 σ Q r := by
  cases r with
  | ok a s' => exact fun v B' H' Fs' F a1 a2 a3 a4 a5 => p v B' H' Fs' F a1 (x.trans a2) a3 a4 a5
  | exc c s' => exact fun B' H' Fs' a1 a2 => p B' H' Fs' a1 (x.trans a2)
theorem jcSortSet {tr : TA} {dr : DE (List D)} (h : JA K W tr dr) : JC K W (tCB (rSortedSet w) (tCons (tCB (rSetI w K) tr) tNil)) (cSortSet dr) := by
  refine J.one (k := fun x _ H Q => rSetI w K x H fun v H1 => rSortedSet w [v] H1 Q) h zL fun x s r0 e vx B H σ Fs R0 q1 Q p => ?_
  obtain ⟨q1, -⟩ := q1
  split at e
  · rename_i xs
    split at e
    · rename_i ns e1
      split at e
      · rename_i hn
        cases e
        obtain ⟨v, rfl, q⟩ := reL1c q1
        obtain ⟨a, vs, rfl, h1, h2⟩ := re_lst q
        have ev := allInt_rel h2 e1
        subst ev
        refine ⟨a, ns, rfl, sq_of (frz_le R0.ex _ _ h1), hn, fun p1 c hp hc => ?_⟩
        refine ⟨p1, _, c, rfl, upd_same, by omega, fun ms p2 hs hm hl hp2 => ?_⟩
        have eq : ms = srtSet ns := lt_uniq hs (srtSet_lt ns) fun k => by rw [hm, srtSet_mem, decide_eq_true_eq]
        subst eq
        have ex : Ex H (upd H p1 (SetO w p1 (fun j => decide (j ∈ ns)) c)) := Ex.new hp
        exact newL (R0.ext ex) (reL_ints _) hp2 (p.pre (ES.ext R0.ex ex))
      · cases e
    · cases e
  · cases e
end
section
variable {X : Cx} {K : PySem.W.Frag} {W : WW} {p pos p2 pos2 : Pos} {e : Expr} {es : List Expr} {t : TA} {dA : DE (List D)}
theorem q_sortSet (hc : X.calm = true) (hg : Gl X "sorted") (hm : X.mg "sorted" = none) (hg2 : Gl X "set") (hm2 : X.mg "set" = none) (h : QA X K W [e] t dA)
    (he : starEach [e] X.env = (false, eval e X.env) :: starEach [] X.env := by rfl)
    (he2 : starEach [.Call (.Name "set" p2) [e] [] pos2] X.env = (false, eval (.Call (.Name "set" p2) [e] [] pos2) X.env) :: starEach [] X.env := by rfl) :
    QC X K W (.Call (.Name "sorted" p) [.Call (.Name "set" p2) [e] [] pos2] [] pos) (tCB (rSortedSet X.w) (tCons (tCB (rSetI X.w K) t) tNil)) (cSortSet dA) := by
  obtain ⟨rfl, pa, ja⟩ := h
  exact ⟨rfl, pe_callB (cr_sortedSet hc) hg hm (by rfl) (pa_cons (pe_callTy (cr_setI hc) hg2 hm2 (by rfl) pa (by decide) (by decide) he (by rfl)) pa_nil he2) (by decide) (by decide) he2 (by rfl), jcSortSet ja⟩
end
/-! ### list(range(n)) -/
def rgD (n : Int) : List D := (List.range (n - 0).toNat).map fun i => D.int (0 + ((i : Nat) : Int))
def cListRg (da : DE D) : DE (D × Ow) := bnd da fun d s => match d with
  | .int n => if -(2 ^ 62) ≤ n ∧ n < 2 ^ 62 ∧ (n - 0).toNat ≤ 2 ^ 24 then some (mkL (rgD n) s) else none
  | _ => none
section
variable {K : PySem.W.Frag} {W : WW}
theorem jcListRg {ta : TE} {da : DE D} (h : JB K W ta da) : JC K W (tLstRg (tRg1 ta)) (cListRg da) := by
  refine J.one (k := fun x _ H Q => ∃ n, x = .int n ∧ (RgOk 0 n ∧ ∀ q, H q = none → Q (V.ref q) (upd H q (.lst (rgV 0 n))))) h zB fun x s r0 e vx B H σ Fs R0 q1 Q p => ?_
  obtain ⟨q1, -⟩ := q1
  split at e
  · rename_i n
    split at e
    · rename_i hn
      cases e
      cases q1
      refine ⟨n, rfl, ⟨by omega, by omega, hn.1, hn.2.1, hn.2.2⟩, fun q hq => ?_⟩
      refine newL R0 ?_ hq p
      have := reL_ints (K := K) (G := frz B H Fs.flatten) (H := H) ((List.range (n - 0).toNat).map fun i => (0 + ((i : Nat) : Int)))
      rw [List.map_map, List.map_map] at this
      exact this
    · cases e
  · cases e
end
section
variable {X : Cx} {K : PySem.W.Frag} {W : WW} {p pos p2 pos2 : Pos} {e : Expr} {ta : TE} {da : DE D}
theorem q_listRg (hc : X.calm = true) (hg : Gl X "list") (hm : X.mg "list" = none) (hg2 : Gl X "range") (hm2 : X.mg "range" = none) (h : QB X K W e ta da)
    (he : starEach [e] X.env = (false, eval e X.env) :: starEach [] X.env := by rfl)
    (he2 : starEach [.Call (.Name "range" p2) [e] [] pos2] X.env = (false, eval (.Call (.Name "range" p2) [e] [] pos2) X.env) :: starEach [] X.env := by rfl) :
    QC X K W (.Call (.Name "list" p) [.Call (.Name "range" p2) [e] [] pos2] [] pos) (tLstRg (tRg1 ta)) (cListRg da) := by
  obtain ⟨rfl, pa, ja⟩ := h
  exact ⟨rfl, pe_listRg hc hg hm (prg_1 hg2 hm2 pa he) he2, jcListRg ja⟩
end
end Dv

namespace Dv
open Enc (enc)
open PySem L2
/-! ### sorted(set(l)), list(range(n)) -/
section
variable {ps ps1 : List Pt} {dr : DE (List D)}
noncomputable def sortSetR (l : List Int) : R (List Int) := okIf (l.length < 64) (srtSet l)
theorem rc_sortSet {x : R (List Int × Unit)} (ha : RA ps dr x (e1 (List Int)) ps1) : RC ps (cSortSet dr) (R.bind x fun g => sortSetR g.1) .f ps1 :=
  rc_one ha fun u s hs => ho_if fun h => ⟨.full, s, by
    show (match allInt (u.1.map D.int) with
      | some ns => if ns.length < 64 then some (mkL ((srtSet ns).map D.int) s) else none
      | none => none) = _
    rw [allInt_map]
    show (if u.1.length < 64 then some (mkL ((srtSet u.1).map (enc : Int → D)) s) else none) = _
    rw [if_pos h, mkL_im], rfl, hs, rfl⟩
noncomputable def listRg (n : Int) : R (List Int) := okIf (-(2 ^ 62) ≤ n ∧ n < 2 ^ 62 ∧ n.toNat ≤ 2 ^ 24) (rngL 0 n.toNat)
theorem rngD0 (n : Int) : rgD n = (rngL 0 n.toNat).map (enc : Int → D) := by
  unfold rgD rngL
  rw [List.map_map, Int.sub_zero]
  rfl
theorem rc_listRg {x : R Int} {da : DE D} (ha : RB ps da x ps1) : RC ps (cListRg da) (R.bind x fun n => listRg n) .f ps1 :=
  RG.bnd ha fun u d1 v1 => by
    subst v1
    refine ⟨fun s hs => ?_⟩
    show RGs ps1 (fun s => if -(2 ^ 62) ≤ u ∧ u < 2 ^ 62 ∧ (u - 0).toNat ≤ 2 ^ 24 then some (mkL (rgD u) s) else none) (listRg u) _ ps1 s
    unfold listRg okIf
    by_cases h : -(2 ^ 62) ≤ u ∧ u < 2 ^ 62 ∧ u.toNat ≤ 2 ^ 24
    · rw [if_pos h]
      refine ⟨(enc (rngL 0 u.toNat), .full), s, ?_, ⟨rfl, rfl⟩, hs, rfl⟩
      show (if _ then some (mkL (rgD u) s) else none) = _
      rw [if_pos (by simpa using h), rngD0, mkL_im]
    · rw [if_neg h]; trivial
theorem listRg_ok {n : Int} (h : 0 ≤ n) (h2 : n ≤ 16777216) : listRg n = .ok (rngL 0 n.toNat) := by unfold listRg okIf; rw [if_pos (by omega)]
theorem sortSetR_ok {l : List Int} (h : l.length < 64) : sortSetR l = .ok (srtSet l) := by unfold sortSetR okIf; rw [if_pos h]
/-- what may be None is not None from here on -/
theorem rs_un {α τ : Type} [Enc α] {N : Option α → List Pt} {b : DS} {a : Option α} {k : α → R τ} {Φ : τ → Out → Prop} (h : ∀ l, RSt (N (some l)) b (k l) Φ) : RSt (N a) b (R.bind (unO a) k) Φ := by
  cases a with
  | none => exact ⟨fun _ _ => trivial⟩
  | some l => exact h l
end
end Dv

namespace Dv
open PySem PySem.Spec PyProof.Rows L2 Evl
/-! ### {k: v}, k a number or a text -/
section
variable {K : PySem.W.Frag} {W : WW} {tk te : TE} {dk : DE D} {c : DE (D × Ow)} {B H : Hp} {σ : L2.St} {s : SD} {Fs : List (List Addr)}
def cDispK (dk : DE D) (c : DE (D × Ow)) : DE (D × Ow) := fun s => match dk s with
  | some (.ok k s1) => match dkey k with
    | some kk => match c s1 with
      | some (.ok (e, .full) s2) => some (.ok (.dK [(kk, e)], .full) s2)
      | some (.exc x s2) => some (.exc x s2)
      | _ => none
    | none => none
  | some (.exc x s1) => some (.exc x s1)
  | none => none
theorem jcDispK (hk : JB K W tk dk) (hc : JC K W te c) : JC K W (tDisp [(tk, te)]) (cDispK dk c) := by
  intro s r e B H σ Fs R0 Q p
  intro q hq
  have x0 : Ex H (upd H q (.dK [])) := Ex.new hq
  have hBq : B q = none := by
    cases h : B q with
    | none => rfl
    | some o => have := R0.ex _ _ h; rw [hq] at this; cases this
  have hLq : q ∉ Fs.flatten := fun m => R0.lv q m hq
  have R1 : Rel K B (upd H q (.dK [])) σ s Fs := R0.ext x0
  have y1 : ES B H Fs.flatten B (upd H q (.dK [])) ([q] ++ Fs.flatten) := ES.more (F := [q]) R0.ex x0 fun a ha => by rw [List.mem_singleton.mp ha]; exact hq
  have z1 : ∀ x, w B x + ([q] ++ Fs.flatten).count x ≤ 1 := val_new (L := Fs.flatten) R0.ex hq R0.wf R0.lv
  have l1 : ∀ x ∈ [q], upd H q (.dK []) x ≠ none := fun a ha => by rw [List.mem_singleton.mp ha, upd_same]; exact fun z => nomatch z
  unfold cDispK at e
  cases e1 : dk s with
  | none => rw [e1] at e; cases e
  | some r1 =>
    rw [e1] at e
    refine hk.pend (F := [q]) e1 R1 z1 l1 ?_ ?_
    · intro k s2 er yv B2 H2 Fs2 G R2 y2 z2 l2 q2
      obtain ⟨q2, rfl⟩ := q2
      cases er
      simp only at e
      have z2' : ∀ x, w B2 x + ([q] ++ Fs2.flatten).count x ≤ 1 := fun x => by simpa using z2 x
      have y2' : ES B (upd H q (.dK [])) ([q] ++ Fs.flatten) B2 H2 ([q] ++ Fs2.flatten) := by simpa using y2
      have l2' : ∀ a ∈ [q], H2 a ≠ none := ne_keep y2.exH l1
      cases ek : dkey k with
      | none => rw [ek] at e; cases e
      | some kk =>
        rw [ek] at e
        simp only at e
        cases e3 : c s2 with
        | none => rw [e3] at e; cases e
        | some r3 =>
          rw [e3] at e
          refine hc.pend (F := [q]) e3 R2 z2' l2' ?_ ?_
          · intro zz s3 er v B3 H3 Fs3 F R3 y3 z3 l3 qv
            obtain ⟨ed, eo⟩ := zz
            cases er
            cases eo with
            | full =>
              cases e
              have qv : Own K H3 v ed F := qv
              have hq3 : H3 q = some (.dK []) := y3.exH _ _ (y2.exH _ _ upd_same)
              have ey := dkey_v q2 ek
              subst ey
              refine ⟨hq3, [(kk, v)], rfl, by simp, ?_⟩
              rw [show mergeK [] [(kk, v)] = [(kk, v)] from rfl]
              have nq : ∀ a, a = q → w B3 a = 0 ∧ F.count a = 0 ∧ Fs3.flatten.count a = 0 := fun a ha => by
                subst ha
                have := z3 a
                simp only [List.count_append, List.count_singleton_self] at this
                omega
              have hBq3 : B3 q = none := w_zero (nq q rfl).1
              have tk : Tk H3 (upd H3 q (.dK [(kk, v)])) := tk_ne hq3 (fun _ z => nomatch z) (fun _ _ z => nomatch z)
              have nF : ∀ a ∈ F, upd H3 q (.dK [(kk, v)]) a = H3 a := fun a ha => upd_ne fun z => by
                have := mem_count ha
                have := (nq a z).2.1
                omega
              have yy : ES B H Fs.flatten B3 H3 ([q] ++ (F ++ Fs3.flatten)) := (y1.trans y2').trans y3
              refine p _ B3 _ Fs3 (q :: (F ++ [])) (R3.touch hBq3 (nq q rfl).2.2 tk) ?_ (fun a => ?_) (fun a ha => ?_) ?_
              · have := ES.touch (o := .dK [(kk, v)]) yy hq hBq hLq
                simpa using this
              · have := z3 a
                simpa using this
              · rcases List.mem_cons.mp ha with h | h
                · rw [h, upd_same]; exact fun z => nomatch z
                · rw [List.append_nil] at h
                  exact live_upd (l3 a h)
              · show Own K _ _ _ _
                exact .dk upd_same rfl (.cons (Own.mono tk qv nF) .nil)
            | _ => cases e
          · intro x s3 er B3 H3 Fs3 R3 y3 z3
            cases er
            cases e
            have l3 : ∀ a ∈ [q], H3 a ≠ none := ne_keep y3.exH l2'
            exact p _ H3 Fs3 (R3.know z3) (((y1.trans y2').trans y3).let_go [q] Fs3.flatten l3 (fun a => List.count_append) R3.ex)
    · intro x s2 er B2 H2 Fs2 R2 y2 z2
      cases er
      cases e
      exact p _ H2 Fs2 (R2.know z2) ((y1.trans y2).let_go [q] Fs2.flatten (ne_keep y2.exH l1) (fun a => List.count_append) R2.ex)
end
section
variable {X : Cx} {K : PySem.W.Frag} {W : WW} {pos : Pos} {k e : Expr} {te tk : TE} {dk : DE D} {ca : DE (D × Ow)}
theorem q_dispK (hk : QB X K W k tk dk) (hc : QC X K W e te ca) : QC X K W (.Dict [some k] [e] pos) (tDisp [(tk, te)]) (cDispK dk ca) := ⟨hc.hk, pe_disp (pps_cons hk.p hc.p pps_nil) rfl rfl (by simp) (by simp), jcDispK hk.j hc.j⟩
end
end Dv

namespace Dv
open Enc (enc)
open PySem L2
section
variable {ps : List Pt} {α : Type} [Enc α]
/-- () -/
theorem rc_tup0 : RC ps (cTup cNil) (.ok (Tv.mk ([] : List α))) .f ps := rc_tup (fun _ : Unit => Tv.mk ([] : List α)) (fun _ => rfl) ru_nil (by decide) trivial
end
section
variable {κ α : Type} [DecidableEq κ] [Enc κ] [Enc α] {ps ps1 ps2 : List Pt} {dk : DE D} {ca : DE (D × Ow)}
theorem rc_dispK [KyK κ] {x : R α} {y : R κ} (hy : RB ps dk y ps1) (hc : RC ps1 ca x .f ps2) : RC ps (cDispK dk ca) (R.bind y fun k => R.bind x fun a => .ok (done k a)) .f ps2 := by
  refine ⟨fun s hs => ?_⟩
  have h1 := hy s hs
  cases y with
  | bad => trivial
  | exc c =>
    obtain ⟨s1, e, l⟩ := h1
    exact ⟨s1, by unfold cDispK; simp only [e], l⟩
  | ok k =>
    obtain ⟨b, s1, e, v, m, l⟩ := h1
    have v : b = enc k := v
    subst v
    have hk : dkey (enc k) = some (KyK.kk k) := by rw [KyK.key]; exact dkey_D _
    simp only [ok_bind]
    have h2 := hc s1 m
    cases x with
    | bad => trivial
    | exc c =>
      obtain ⟨s2, e2, l2⟩ := h2
      exact ⟨s2, by unfold cDispK; simp only [e, hk, e2], l2.trans l⟩
    | ok a =>
      obtain ⟨⟨b2, ow⟩, s2, e2, ⟨v2, v3⟩, m2, l2⟩ := h2
      have v2 : b2 = enc a := v2
      have v3 : ow = .full := v3
      subst v2 v3
      exact ⟨(.dK [(KyK.kk k, enc a)], .full), s2, by unfold cDispK; simp only [e, hk, e2], ⟨rfl, rfl⟩, m2, l2.trans l⟩
end
end Dv

namespace Dv
open PySem L2 PySem.Spec PyProof.Rows
/-! ### try: .. except C as n: m = n, and what stands behind reads m -/
section
variable {X : Cx} {pins : List (Addr × Obj)} {σ : L2.St} {H : Hp} {s : Shared} {a : Addr} {oe : Obj}
theorem pin_in (I : Inv (X.suite a ((a, oe) :: (X.pn ++ pins))) [] σ H s) (ok : X.Ok) : Inv X ((a, oe) :: pins) σ H s :=
  ⟨ok, I.os, I.bare, I.base, I.loc, I.cell, I.free, I.freeC, fun p hp => I.pin p (by
    rw [List.append_nil]
    rcases List.mem_append.mp hp with h | h
    · exact List.mem_cons_of_mem _ (List.mem_append_left _ h)
    · rcases List.mem_cons.mp h with rfl | h
      · exact List.mem_cons_self
      · exact List.mem_cons_of_mem _ (List.mem_append_right _ h)), I.hok, I.len⟩
theorem pin_out (I : Inv X ((a, oe) :: pins) σ H s) : Inv X pins σ H s :=
  ⟨I.ok, I.os, I.bare, I.base, I.loc, I.cell, I.free, I.freeC, fun p hp => I.pin p (by
    rcases List.mem_append.mp hp with h | h
    · exact List.mem_append_left _ h
    · exact List.mem_append_right _ (List.mem_cons_of_mem _ h)), I.hok, I.len⟩
theorem SP.pin_out {D : Ends} {f : Flow} (h : SP X ((a, oe) :: pins) D f s) : SP X pins D f s := by
  cases f with
  | ret u => obtain ⟨v, σ', H', I, q⟩ := h; exact ⟨v, σ', H', Dv.pin_out I, q⟩
  | next => obtain ⟨σ', H', I, q⟩ := h; exact ⟨σ', H', Dv.pin_out I, q⟩
  | brk => obtain ⟨σ', H', I, q⟩ := h; exact ⟨σ', H', Dv.pin_out I, q⟩
  | cont => obtain ⟨σ', H', I, q⟩ := h; exact ⟨σ', H', Dv.pin_out I, q⟩
/-- the wish: what is caught is of a class that the clause takes, and C holds of it -/
def wKeep (K : PySem.W.Frag) (c : Value) (C : Value → L2.St → Hp → Prop) : WX := fun cls d σ H => PySem.W.exmOne K cls c = some true ∧ d = none ∧ C cls σ H
end
section
variable {X : Cx} {x n : Str} {c : Value} {i j : Nat} {body suite : List Stmt} {b0 : Stmt} {np pos pos' : Pos} {tb : WX → TS}
/-- what the statement leaves: its own ways out, or the one that is kept, in the slots that the suite has made -/
def EndK (X : Cx) (pins : List (Addr × Obj)) (i : Nat) (C : Value → L2.St → Hp → Prop) (g : Addr → L2.St → L2.St) (D : Ends) (f : Flow) (s' : Shared) : Prop :=
  SP X pins D f s' ∨ f = .next ∧ ∃ a oe cls σ0 H0, Inv X ((a, oe) :: pins) ((g a (σ0.set i (some (.ref a)))).set i none) H0 s' ∧ Zc cls none oe ∧ (∃ vs, oe.data = .fields vs) ∧ C cls σ0 H0 ∧ σ0.length = X.N.length
theorem try_keep (hs : X.stack = X.env :: X.outer) (hf : X.env.frame = some X.env.locals) (hN : X.N.Nodup) (hi : X.N[i]? = some n) (hln : X.env.kindOf n = some .local) (hc : Names X x c) (C : Value → L2.St → Hp → Prop) (g : Addr → L2.St → L2.St)
    (hb : ∀ (W : WX) (pn : List (Addr × Obj)) (xe : Value → Shared → Prop), Takes (X.tr pn xe) W → PassesOwn (model X.prog X.w) X.A X.env xe → PSs (X.tr pn xe) body (tb W))
    (hsu : ∀ (a : Addr) (oe : Obj) (pn : List (Addr × Obj)), ∃ ts, PSs (X.suite a ((a, oe) :: pn)) (b0 :: suite) ts ∧ ∀ (D : Ends) (σ : L2.St) (H : Hp), σ[i]? = some (some (.ref a)) → D.nx (g a σ) H → ts D σ H)
    {pins : List (Addr × Obj)} {s : Shared} {σ : L2.St} {H : Hp} {D : Ends} (I : Inv X pins σ H s) (h : tb (wKeep X.K c C) D σ H) :
    wpAny (model X.prog X.w) X.A (exec (.Try body [.ExceptHandler (some (.Name x np)) (some n) (b0 :: suite) pos'] [] [] pos) X.env) (EndK X pins i C g D) X.xe s := by
  have ok := I.ok
  have frs1 : X.A.frames = some (X.env :: X.outer) := ok.frames.trans (congrArg some hs)
  refine wpAny_Try_except (wpAny_mono ((hb (wKeep X.K c C) (X.pn ++ pins) (fun e t => wpAny (model X.prog X.w) X.A (noteFrame e X.env) (fun _ t2 => wpAny (model X.prog X.w) X.A (setFlight e none)
    (fun _ t3 => wpAny (model X.prog X.w) X.A (handleBy e X.env [.ExceptHandler (some (.Name x np)) (some n) (b0 :: suite) pos']) (EndK X pins i C g D) X.xe t3) X.xe t2) X.xe t) ?_ PassesOwn.looking).run [] s σ H D (I.toTry _) h) ?_ fun _ _ z => z)
  · intro u t q
    obtain ⟨a, B, s1, pins1, σ1, H1, cls, d, rfl, J1, nb, up, sky, na, os, ag, exm, rfl, hC⟩ := q
    have J := J1.ofTry ok
    rw [hs] at sky
    show wpAny (model X.prog X.w) X.A (noteFrame (.ref a) X.env) _ _ _
    refine Sky.land Zc.steady frs1 hf sky fun g3 fl3 u3 => ?_
    have J3 : Inv X pins σ1 H1 { t with heap := g3 } := J.landed nb fl3.1 (up.trans u3) os ag
    obtain ⟨o3, v3, k3, z3, d3⟩ := fl3.there
    have out : a ∉ frs (X.env :: X.outer) := fun m => by
      obtain ⟨_, o', k', nf⟩ := fl3.2.2.1.mem m
      cases k3.symm.trans k'
      exact nf _ d3
    have o1 : a ≠ X.env.locals := fun z => out (List.mem_filterMap.mpr ⟨X.env, by simp, hf.trans (congrArg some z.symm)⟩)
    have o2 : a ∉ X.fs := fun m => by
      obtain ⟨e, he, q⟩ := List.mem_filterMap.mp m
      exact out (List.mem_filterMap.mpr ⟨e, by simp [he], q⟩)
    have S3 := J3.suite k3 d3 na o1 o2
    refine wpAny_handleBy_cons (codeAny_handlers_test ?_) fun z => nomatch z
    have looks : PySem.W.Looks (model X.prog X.w) g3 (typeOf (.ref a)) cls := fun A Q E t k q => wpAny_typeOf_ref (k _ _ k3) (by rw [z3.1]; exact q)
    have ask : ∀ {Q E : Value → Shared → Prop}, Q c { t with heap := g3 } → wpAny (model X.prog X.w) (X.A.mark (some (.ref a))) (eval (.Name x np) X.env) Q E { t with heap := g3 } := fun {Q E} q => by
      obtain ⟨h1, h2, h3⟩ := hc
      rcases h3 with h3 | ⟨h3, h4, h5⟩
      · exact ld_glob (X := X.suite a ((a, o3) :: (X.pn ++ pins))) S3 h1 h3 q h2
      · exact ld_blt (X := X.suite a ((a, o3) :: (X.pn ++ pins))) S3 h1 h3 h4 q h5 h2
    refine ask ((PySem.W.exm_one (M := model X.prog X.w) J3.kIn looks exm).here (codeAny_handlers_suite_as (HandSPX.lands_againZ fl3 fun g4 fl4 u4 => ?_)))
    have J4 : Inv X pins σ1 H1 { t with heap := g4 } := J.landed nb fl4.1 ((up.trans u3).trans u4) os ag
    obtain ⟨o4, v4, k4, z4, d4⟩ := fl4.there
    obtain ⟨ts, sp, sj⟩ := hsu a o4 (X.pn ++ pins)
    refine store_ok (X := X.suite a ((a, o4) :: (X.pn ++ pins))) (v := .ref a) (J4.suite k4 d4 na o1 o2) hN hi (.inl hln) rfl (fun s5 S5 => ?_) (.inr hln)
    have li : i < σ1.length := by
      have := (List.getElem?_eq_some_iff.mp hi).1
      rw [J.len]; exact this
    refine wpAny_mono (sp.run [] s5 _ H1 { nx := fun σ' H' => σ' = g a (σ1.set i (some (.ref a))) ∧ H' = H1, rt := fun _ _ => False, bk := fun _ _ => False, ct := fun _ _ => False } S5 (sj _ _ _ (List.getElem?_set_self li) ⟨rfl, rfl⟩)) ?_ fun _ _ z => z.elim
    intro f s6 q
    cases f with
    | next =>
      obtain ⟨σ6, H6, S6, rfl, rfl⟩ := q
      exact gone_ok (pin_in S6 ok) hN hi hln fun s7 J7 => .inr ⟨rfl, a, o4, cls, σ1, H6, J7, z4, ⟨_, d4⟩, hC, J.len⟩
    | ret u => obtain ⟨_, _, _, _, _, z⟩ := q; exact z.elim
    | brk => obtain ⟨_, _, _, z⟩ := q; exact z.elim
    | cont => obtain ⟨_, _, _, z⟩ := q; exact z.elim
  · intro f s1 q
    cases f with
    | next => obtain ⟨σ', H', J, q⟩ := q; exact wpAny_execs_nil (.inl ⟨σ', H', J.ofTry ok, q⟩)
    | ret u => obtain ⟨v, σ', H', J, q⟩ := q; exact .inl ⟨v, σ', H', J.ofTry ok, q⟩
    | brk => obtain ⟨σ', H', J, q⟩ := q; exact .inl ⟨σ', H', J.ofTry ok, q⟩
    | cont => obtain ⟨σ', H', J, q⟩ := q; exact .inl ⟨σ', H', J.ofTry ok, q⟩
end
end Dv

namespace Dv
open PySem L2 PySem.Spec PyProof.Rows Evl
/-! ### what stands behind and asks of the kept one alone -/
structure QKB (X : Cx) (i : Nat) (a : Addr) (e : Expr) (t : TE) (b : Bool) : Prop where
  p : PE X e t
  j : ∀ (σ : L2.St) (H : Hp) (Q : VK), σ[i]? = some (some (.ref a)) → (∀ H', Ex H H' → Q (.bl b) H') → t σ H Q
structure QKT (X : Cx) (i : Nat) (a : Addr) (e : Expr) (t : TT) (b : Bool) : Prop where
  p : PT X e t
  j : ∀ (σ : L2.St) (H : Hp) (Q : Bool → Hp → Prop), σ[i]? = some (some (.ref a)) → (∀ H', Ex H H' → Q b H') → t σ H Q
structure QKW (X : Cx) (i : Nat) (a : Addr) (e : Expr) (t : TT) (b : Bool) : Prop where
  p : PW X e t
  j : ∀ (σ : L2.St) (H : Hp) (Q : Bool → Hp → Prop), σ[i]? = some (some (.ref a)) → (∀ H', Ex H H' → Q b H') → t σ H Q
def endK (En : Ends) (σ : L2.St) (H : Hp) (o : Option Bool) : Prop := ∀ H', Ex H H' → endH En σ H' o
structure QKS (X : Cx) (i : Nat) (a : Addr) (st : Stmt) (t : TS) (o : Option Bool) : Prop where
  p : PS X st t
  j : ∀ (σ : L2.St) (H : Hp) (En : Ends), σ[i]? = some (some (.ref a)) → endK En σ H o → t En σ H
structure QKSs (X : Cx) (i : Nat) (a : Addr) (st : List Stmt) (t : TS) (o : Option Bool) : Prop where
  p : PSs X st t
  j : ∀ (σ : L2.St) (H : Hp) (En : Ends), σ[i]? = some (some (.ref a)) → endK En σ H o → t En σ H
section
variable {X : Cx} {i : Nat} {a : Addr} {e e1 e2 : Expr} {es : List Expr} {t u : TE} {tt tu : TT} {b c : Bool} {pos p p2 p3 : Pos} {st : Stmt} {sts s1 s2 : List Stmt} {ts us : TS} {o o2 : Option Bool} {x : Str}
theorem qk_bl {jj} : QKB X i a (.Constant (.bool b) jj pos) (tC (.bl b)) b := ⟨pe_bl, fun _ H _ _ q => q H (Ex.refl _)⟩
theorem qk_one {op} (h : QKB X i a e t b) : QKB X i a (.BoolOp op [e] pos) t b := ⟨pe_one h.p, h.j⟩
theorem qk_and (h : QKB X i a e1 t b) (g : QKB X i a (.BoolOp .And (e2 :: es) pos) u c) : QKB X i a (.BoolOp .And (e1 :: e2 :: es) pos) (tAndV t u) (b && c) := by
  refine ⟨pe_and h.p g.p, fun σ H Q hs q => h.j σ H _ hs fun H1 x1 => ⟨b, rfl, ?_⟩⟩
  cases b with
  | true => exact g.j σ H1 Q hs fun H2 x2 => q H2 (x1.trans x2)
  | false => exact q H1 x1
theorem qk_or (h : QKB X i a e1 t b) (g : QKB X i a (.BoolOp .Or (e2 :: es) pos) u c) : QKB X i a (.BoolOp .Or (e1 :: e2 :: es) pos) (tOrV t u) (b || c) := by
  refine ⟨pe_or h.p g.p, fun σ H Q hs q => h.j σ H _ hs fun H1 x1 => ⟨b, rfl, ?_⟩⟩
  cases b with
  | true => exact q H1 x1
  | false => exact g.j σ H1 Q hs fun H2 x2 => q H2 (x1.trans x2)
theorem qk_not (h : QKB X i a e t b) : QKB X i a (.UnaryOp .Not e pos) (tNotV t) (!b) := ⟨pe_not h.p, fun σ H Q hs q => h.j σ H _ hs fun H1 x1 => ⟨b, rfl, q H1 x1⟩⟩
theorem qkt_val (h : QKB X i a e t b) (he : ∀ whole, isTrue e X.env whole = (do let v ← whole; standAt e.pos; holding [v] (truthy v)) := by intro _; rfl) : QKT X i a e (tB t) b := ⟨pt_val h.p he, fun σ H Q hs q => h.j σ H _ hs fun H1 x1 => ⟨b, rfl, q H1 x1⟩⟩
theorem qkt_not (h : QKT X i a e tt b) : QKT X i a (.UnaryOp .Not e pos) (tNot tt) (!b) := ⟨pt_not h.p, fun σ H Q hs q => h.j σ H _ hs q⟩
theorem qkw_pt (h : QKW X i a e tt b) : QKT X i a e tt b := ⟨h.p.pt, h.j⟩
theorem qkw_and1 (h : QKT X i a e tt b) : QKW X i a (.BoolOp .And [e] pos) tt b := ⟨pw_and1 h.p, h.j⟩
theorem qkw_or1 (h : QKT X i a e tt b) : QKW X i a (.BoolOp .Or [e] pos) tt b := ⟨pw_or1 h.p, h.j⟩
theorem qkw_and (h : QKT X i a e1 tt b) (g : QKW X i a (.BoolOp .And (e2 :: es) pos) tu c) : QKW X i a (.BoolOp .And (e1 :: e2 :: es) pos) (tAnd tt tu) (b && c) := by
  refine ⟨pw_and h.p g.p, fun σ H Q hs q => h.j σ H _ hs fun H1 x1 => ?_⟩
  cases b with
  | true => exact g.j σ H1 Q hs fun H2 x2 => q H2 (x1.trans x2)
  | false => exact q H1 x1
theorem qkw_or (h : QKT X i a e1 tt b) (g : QKW X i a (.BoolOp .Or (e2 :: es) pos) tu c) : QKW X i a (.BoolOp .Or (e1 :: e2 :: es) pos) (tOr tt tu) (b || c) := by
  refine ⟨pw_or h.p g.p, fun σ H Q hs q => h.j σ H _ hs fun H1 x1 => ?_⟩
  cases b with
  | true => exact q H1 x1
  | false => exact g.j σ H1 Q hs fun H2 x2 => q H2 (x1.trans x2)
theorem qks_ret (h : QKB X i a e t b) : QKS X i a (.Return (some e) pos) (tRet t) (some b) := ⟨ps_ret h.p, fun σ H En hs q => h.j σ H _ hs fun H1 x1 => q H1 x1⟩
theorem qks_if (h : QKT X i a e tt b) (g1 : QKSs X i a s1 ts o) (g2 : QKSs X i a s2 us o2) : QKS X i a (.If e s1 s2 pos) (tIfS tt ts us) (if b then o else o2) := by
  refine ⟨ps_if h.p g1.p g2.p, fun σ H En hs q => h.j σ H _ hs fun H1 x1 => ?_⟩
  cases b with
  | true => exact g1.j σ H1 En hs fun H2 x2 => q H2 (x1.trans x2)
  | false => exact g2.j σ H1 En hs fun H2 x2 => q H2 (x1.trans x2)
theorem qkss_nil : QKSs X i a [] tNext none := ⟨pss_nil, fun _ H _ _ q => q H (Ex.refl _)⟩
theorem qkss_one (h : QKS X i a st ts o) : QKSs X i a [st] ts o := ⟨pss_one h.p, h.j⟩
theorem qkss_cons (h : QKS X i a st ts o) (g : QKSs X i a sts us o2) : QKSs X i a (st :: sts) (tSeq ts us) (nxH o o2) := by
  refine ⟨pss_cons h.p g.p, fun σ H En hs q => h.j σ H _ hs fun H1 x1 => ?_⟩
  cases o with
  | some b => exact q H1 x1
  | none => exact g.j σ H1 En hs fun H2 x2 => q H2 (x1.trans x2)
end
/-! isinstance of the kept one -/
section
variable {X : Cx} {K : PySem.W.Frag} {oe : Obj} {pn : List (Addr × Obj)} {xs : List Str} {k n x : Str} {i : Nat} {a : Addr} {p p2 p3 p4 : Pos} {es : List Expr} {x1 : Nat}
theorem inst_at {h : Heap} {C : Addr} (hget : h.get? a = some oe) (hz : Zc (.ref C) none oe) (hf : ∃ vs, oe.data = .fields vs) : PySem.W.InstAt h a oe C none := by
  obtain ⟨vs, hv⟩ := hf
  cases oe
  obtain ⟨h1, h2⟩ := hz
  simp only at h1 h2 hv
  subst h1 h2 hv
  exact ⟨hget, rfl, rfl, trivial⟩
theorem call_isK {C : Addr} (hm : (a, oe) ∈ X.pn) (E : ExcC X.K C) (hz : Zc (.ref C) none oe) (hf : ∃ vs, oe.data = .fields vs) : CallR X (.builtin "isinstance") (rIsE X.K C a) := by
  intro pins s σ H us vs Q I r h
  obtain ⟨c, cv, b, rfl, hcv, e, q⟩ := h
  cases r with
  | cons r1 r0 =>
    cases r0 with
    | cons r2 r0 =>
    cases r0
    cases r1
    cases hcv _ r2
    have J := inst_at (I.pin (a, oe) (List.mem_append_left _ hm)).1 hz hf
    exact PySem.W.kia_one (PySem.W.handS_kitx_exc E.hg E.hk E.hs E.hd E.ha E.hn E.ht E.hm) I.kIn J e (fun z => nomatch z) fun tk => ⟨.bl b, H, I.kept (t' := tk) fun _ _ z => z, rfl, q⟩
/-- isinstance(m, (A, B, ..)) -/
def rIsT (K : PySem.W.Frag) (C a : Addr) : List V → Hp → VK → Prop := fun us H Q => ∃ (tp : Addr) (cs : List Addr) (b : Bool), us = [.ref a, .ref tp] ∧ H tp = some (.tup (cs.map V.ref)) ∧ PySem.W.kitAny K (.ref C) (cs.map Value.ref) = some b ∧ Q (.bl b) H
theorem vals_refs : ∀ {cs : List Addr} {us : List Value}, Vals (cs.map V.ref) us → us = cs.map Value.ref
  | [], _, h => by cases h; rfl
  | c :: cs, _, h => by
    rw [List.map_cons] at h
    cases h with
    | cons r t => cases r; rw [vals_refs t]; rfl
theorem call_isKT {C : Addr} (hm : (a, oe) ∈ X.pn) (E : ExcC X.K C) (hz : Zc (.ref C) none oe) (hf : ∃ vs, oe.data = .fields vs) : CallR X (.builtin "isinstance") (rIsT X.K C a) := by
  intro pins s σ H us vs Q I r h
  obtain ⟨tp, cs, b, rfl, ht, e, q⟩ := h
  cases r with
  | cons r1 r0 =>
    cases r0 with
    | cons r2 r0 =>
    cases r0
    cases r1
    cases r2
    have J := inst_at (I.pin (a, oe) (List.mem_append_left _ hm)).1 hz hf
    obtain ⟨its, rv, ⟨o, g1, g2, n, g3⟩, _⟩ := I.tuple (.inl (.inl ht))
    have ev := vals_refs rv
    subst ev
    obtain ⟨oc, od, oda, osl⟩ := o
    simp only at g2 g3
    subst g2 g3
    exact PySem.W.kia_tup (PySem.W.handS_kitx_exc E.hg E.hk E.hs E.hd E.ha E.hn E.ht E.hm) I.kIn J g1 e (fun z => nomatch z) fun tk => ⟨.bl b, H, I.kept (t' := tk) fun _ _ z => z, rfl, q⟩
/-- isinstance(m, C) -/
theorem qk_is (F : ExAll K X.mg xs) (hk : k ∈ xs) (hx : x ∈ xs) (hz : Zc (.ref (He.ga K k)) none oe) (hf : ∃ vs, oe.data = .fields vs) (hm' : (a, oe) ∈ X.pn) (hK : X.K = K) (hN : X.N[i]? = some n) (hv : Vis X.env.scope n)
    (hg : Gl X "isinstance") (hm : X.mg "isinstance" = none) (hgx : Gl X x) (hn : (n == ("__debug__" : Str)) = false := by decide) (hn2 : (n == ("__classdict__" : Str)) = false := by decide) (hdb : (x == ("__debug__" : Str)) = false := by decide) :
    QKB X i a (.Call (.Name "isinstance" p) [.Name n p2, .Name x p3] [] p4) (tCB (rIsE K (He.ga K k) a) (tCons (tVar i) (tCons (tC (.ref (He.ga K x))) tNil))) (isaB k x) := by
  subst hK
  have f := F.all k hk
  refine ⟨pe_callB (call_isK hm' f.ec hz hf) hg hm (by rfl) (pa_cons (pe_var hN hv hn hn2) (pa_cons (pe_glob hgx (F.all x hx).gC rfl hdb) pa_nil (by rfl)) (by rfl)) (by decide) (by decide) (by rfl) (by rfl), ?_⟩
  intro σ H Q hs q
  exact ⟨_, hs, .ref (He.ga X.K x), .ref (He.ga X.K x), isaB k x, rfl, fun u h => h, f.kit x hx, q H (Ex.refl _)⟩
/-- isinstance(m, ValueError) -/
theorem qk_isV (F : ExAll K X.mg xs) (hk : k ∈ xs) (hz : Zc (.ref (He.ga K k)) none oe) (hf : ∃ vs, oe.data = .fields vs) (hm' : (a, oe) ∈ X.pn) (hK : X.K = K) (hN : X.N[i]? = some n) (hv : Vis X.env.scope n)
    (hg : Gl X "isinstance") (hm : X.mg "isinstance" = none) (hgx : Gl X "ValueError") (hmx : X.mg "ValueError" = none) (hn : (n == ("__debug__" : Str)) = false := by decide) (hn2 : (n == ("__classdict__" : Str)) = false := by decide) :
    QKB X i a (.Call (.Name "isinstance" p) [.Name n p2, .Name "ValueError" p3] [] p4) (tCB (rIsE K (He.ga K k) a) (tCons (tVar i) (tCons (tC (.ty "ValueError")) tNil))) true := by
  subst hK
  have f := F.all k hk
  refine ⟨pe_callB (call_isK hm' f.ec hz hf) hg hm (by rfl) (pa_cons (pe_var hN hv hn hn2) (pa_cons (pe_bltn hgx hmx (by rfl) rfl (by decide) (by decide)) pa_nil (by rfl)) (by rfl)) (by decide) (by decide) (by rfl) (by rfl), ?_⟩
  intro σ H Q hs q
  exact ⟨_, hs, .ty "ValueError", .type "ValueError", true, rfl, fun u h => h, f.kitV, q H (Ex.refl _)⟩
/-- the classes of a tuple, read one by one -/
structure QCl (X : Cx) (K : PySem.W.Frag) (es : List Expr) (t : TA) (cs : List Str) : Prop where
  p : PA X es t
  j : ∀ (σ : L2.St) (H : Hp) (Q : List V → Hp → Prop), Q (cs.map fun c => V.ref (He.ga K c)) H → t σ H Q
theorem qcl_nil : QCl X K [] tNil [] := ⟨pa_nil, fun _ _ _ q => q⟩
theorem qcl_cons {t : TA} {cs : List Str} (F : ExAll K X.mg xs) (hx : x ∈ xs) (hgx : Gl X x) (h : QCl X K es t cs) (he : starEach (.Name x p :: es) X.env = (false, eval (.Name x p) X.env) :: starEach es X.env := by rfl) (hdb : (x == ("__debug__" : Str)) = false := by decide) :
    QCl X K (.Name x p :: es) (tCons (tC (.ref (He.ga K x))) t) (x :: cs) := ⟨pa_cons (pe_glob hgx (F.all x hx).gC rfl hdb) h.p he, fun σ H Q q => h.j σ H _ q⟩
theorem kitAny_of (F : ExAll K X.mg xs) (hk : k ∈ xs) : ∀ {cs : List Str}, (∀ c ∈ cs, c ∈ xs) → PySem.W.kitAny K (.ref (He.ga K k)) ((cs.map (He.ga K)).map Value.ref) = some (cs.any (isaB k))
  | [], _ => rfl
  | c :: cs, h => by
    rw [List.map_cons, List.map_cons, PySem.W.kitAny, (F.all k hk).kit c (h c List.mem_cons_self), List.any_cons]
    cases isaB k c with
    | true => rfl
    | false => exact kitAny_of F hk fun d hd => h d (List.mem_cons_of_mem _ hd)
theorem qk_isT {t : TA} {cs : List Str} (F : ExAll K X.mg xs) (hk : k ∈ xs) (hcs : ∀ c ∈ cs, c ∈ xs) (hz : Zc (.ref (He.ga K k)) none oe) (hf : ∃ vs, oe.data = .fields vs) (hm' : (a, oe) ∈ X.pn) (hK : X.K = K) (hN : X.N[i]? = some n) (hv : Vis X.env.scope n)
    (hg : Gl X "isinstance") (hm : X.mg "isinstance" = none) (h : QCl X K es t cs) (hl : cs.length ≤ 1000) (hn : (n == ("__debug__" : Str)) = false := by decide) (hn2 : (n == ("__classdict__" : Str)) = false := by decide) :
    QKB X i a (.Call (.Name "isinstance" p) [.Name n p2, .Tuple es x1 p3] [] p4) (tCB (rIsT K (He.ga K k) a) (tCons (tVar i) (tCons (tTup t) tNil))) (cs.any (isaB k)) := by
  subst hK
  have f := F.all k hk
  refine ⟨pe_callB (call_isKT hm' f.ec hz hf) hg hm (by rfl) (pa_cons (pe_var hN hv hn hn2) (pa_cons (pe_tup h.p) pa_nil (by rfl)) (by rfl)) (by decide) (by decide) (by rfl) (by rfl), ?_⟩
  intro σ H Q hs q
  refine ⟨_, hs, ?_⟩
  refine h.j σ H _ ⟨by rw [List.length_map, sizeLine_eq]; omega, fun p hp => ?_⟩
  refine ⟨p, cs.map (He.ga X.K), cs.any (isaB k), rfl, ?_, kitAny_of F hk hcs, q _ (Ex.new hp)⟩
  rw [upd_same, List.map_map]
  rfl
end
/-! the whole: try, and what stands behind -/
def sKeep (xs : List Str) (i j : Nat) (hd : Str → Option Bool) (d dr : DS) : DS := fun s => match d s with
  | some (.exc c s1) => if c ∈ xs ∧ i < s1.length ∧ j < s1.length then (hd c).map fun b => .ret (.bl b) .full else none
  | some (.next s1) => dr s1
  | r => r
section
variable {X : Cx} {K : PySem.W.Frag} {Wx : WX} {xs : List Str} {i j : Nat} {n m : Str} {hd : Str → Option Bool} {body rest : List Stmt} {np p p2 pos pos' pos2 : Pos} {tb : WX → TS} {tr : TS} {d dr : DS} {tk : Addr → Str → TS}
/-- what is wished when one is kept -/
def cKeep (K : PySem.W.Frag) (xs : List Str) (i j : Nat) (tk : Addr → Str → TS) (D : Ends) (cls : Value) (σ : L2.St) (H : Hp) : Prop := ∃ k, k ∈ xs ∧ cls = .ref (He.ga K k) ∧ ∀ a, tk a k D (((σ.set i (some (.ref a))).set j (some (.ref a))).set i none) H
theorem qss_keep (hN : X.N.Nodup) (hp : PassesOwn (model X.prog X.w) X.A X.env X.xe) (F : ExAll K X.mg xs) (hgP : Gl X "ProbeError")
    (hb : ∀ (W : WX) (pn : List (Addr × Obj)) (xe : Value → Shared → Prop), Takes (X.tr pn xe) W → QSs (X.tr pn xe) K (wOf (clK K) W) body (tb W) d)
    (hr : QSs X K (wOf (clK K) Wx) rest tr dr)
    (hx : ∀ (a : Addr) (oe : Obj) (pn : List (Addr × Obj)) (k : Str), k ∈ xs → Zc (.ref (He.ga K k)) none oe → (∃ vs, oe.data = .fields vs) → (a, oe) ∈ pn → QKSs (X.tr pn X.xe) j a rest (tk a k) (hd k))
    (hs : X.stack = X.env :: X.outer := by rfl) (hf : X.env.frame = some X.env.locals := by rfl) (hi : X.N[i]? = some n := by rfl) (hln : X.env.kindOf n = some .local := by rfl) (hk : X.K = K := by rfl) (hij : i ≠ j := by decide) (hjl : j < X.N.length := by decide)
    (hsu : ∀ (a : Addr) (oe : Obj) (pn : List (Addr × Obj)), PSs (X.suite a ((a, oe) :: pn)) [.Assign [.Name m p] (.Name n p2) pos2] (tAsg (tVar i) (gName j))) :
    QSs X K (wOf (clK K) Wx) (.Try body [.ExceptHandler (some (.Name "ProbeError" np)) (some n) [.Assign [.Name m p] (.Name n p2) pos2] pos'] [] [] pos :: rest)
      (fun D σ H => tb (wKeep K (clK K "ProbeError") (cKeep K xs i j tk D)) { D with nx := tr D } σ H) (sKeep xs i j hd d dr) := by
  subst hk
  refine ⟨rfl, ⟨fun pins s σ H D I h => ?_⟩, ?_⟩
  · refine wpAny_execs_cons (thn (try_keep (g := fun a σ => σ.set j (some (.ref a))) (D := { D with nx := tr D }) (C := cKeep X.K xs i j tk D) (tb := tb) hs hf hN hi hln ⟨hgP, by decide, .inl (F.all _ F.pe).gC⟩
      (fun W pn xe t q => (hb W pn xe t).p) (fun a oe pn => ⟨_, hsu a oe pn, fun D σ H h1 h2 => ⟨_, h1, h2⟩⟩) I h) fun f s1 q => ?_)
    rcases q with q | ⟨rfl, a, oe, cls, σ0, H0, J, hz, hfl, ⟨k, hk, rfl, ht⟩, _⟩
    · cases f with
      | next => obtain ⟨σ', H', J, q⟩ := q; exact hr.p.run pins s1 σ' H' D J q
      | ret v => exact q
      | brk => exact q
      | cont => exact q
    · have ok := J.ok
      refine thn ((hx a oe (X.pn ++ ((a, oe) :: pins)) k hk hz hfl (by simp)).p.run [] s1 _ H0 D (J.toTry _) (ht a)) fun f s2 q => SP.pin_out (a := a) (oe := oe) ?_
      cases f with
      | ret v => obtain ⟨v, σ', H', J2, q⟩ := q; exact ⟨v, σ', H', J2.ofTry ok, q⟩
      | next => obtain ⟨σ', H', J2, q⟩ := q; exact ⟨σ', H', J2.ofTry ok, q⟩
      | brk => obtain ⟨σ', H', J2, q⟩ := q; exact ⟨σ', H', J2.ofTry ok, q⟩
      | cont => obtain ⟨σ', H', J2, q⟩ := q; exact ⟨σ', H', J2.ofTry ok, q⟩
  · intro s o e B H σ Fs R0 En p
    have js := (hb (wKeep X.K (clK X.K "ProbeError") (cKeep X.K xs i j tk En)) [] _ (takes_any [] _)).j
    unfold sKeep at e
    cases e1 : d s with
    | none => rw [e1] at e; cases e
    | some r =>
      rw [e1] at e
      refine js s r e1 B H σ Fs R0 { En with nx := tr En } ?_
      cases r with
      | next s1 => exact fun σ' B' H' Fs' R1 y1 => hr.j s1 o e B' H' σ' Fs' R1 En (p.step y1)
      | brk s1 => cases e; exact p
      | cont s1 => cases e; exact p
      | ret dd ow => cases e; exact p
      | exc c s1 =>
        simp only at e
        split at e
        · rename_i hc
          obtain ⟨hc, hl1, hl2⟩ := hc
          obtain ⟨b, hb1, rfl⟩ := Option.map_eq_some_iff.mp e
          intro σ' B' H' Fs' R1 y1
          refine ⟨(F.all c hc).exm, rfl, c, hc, rfl, fun a => ?_⟩
          have l2 : j < σ'.length := by
            rw [← R1.l1]
            exact hl2
          refine (hx a { cls := .ref (He.ga X.K c), dict := none, data := .fields #[], slots := #[] } [(a, _)] c hc ⟨rfl, rfl⟩ ⟨_, rfl⟩ List.mem_cons_self).j _ H' En ?_ fun H2 x2 => ?_
          · rw [List.getElem?_set_ne hij, List.getElem?_set_self (by rw [List.length_set]; exact l2)]
          · rw [hb1]
            exact p (.bl b) B' H2 [] (fun q o h => x2 _ _ (R1.ex _ _ h)) ((y1.trans (ES.ext R1.ex x2).ss).le fun a => Nat.zero_le _) (fun a => w_le) (Own.im rfl (.bl b))
        · cases e
end
end Dv

namespace Dv
open Enc (enc)
open PySem L2
/-! ### what is refused -/
section
variable {β τ : Type} {ps : List Pt} {d dr : DS} {xs : List Str} {i j : Nat} {hd : Str → Option Bool} {x : R β} {y : β → R τ} {w : Bool → τ} {Φ : τ → Out → Prop} {N : β → List Pt}
/-- x, then y; a refusal of x is told by hd -/
def keepR (xs : List Str) (hd : Str → Option Bool) (x : R β) (y : β → R τ) (w : Bool → τ) : R τ := match x with
  | .ok v => y v
  | .exc c => if c ∈ xs then match hd c with
    | some b => .ok (w b)
    | none => .bad
    else .bad
  | .bad => .bad
theorem rs_keep (h1 : RSt ps d x (ΦN N)) (h2 : ∀ v, RSt (N v) dr (y v) Φ) (hw : AcR Φ .f w) (hi : i < ps.length) (hj : j < ps.length) (hl : ∀ v, (N v).length = ps.length) : RSt ps (sKeep xs i j hd d dr) (keepR xs hd x y w) Φ := by
  refine ⟨fun s hs => ?_⟩
  have h := h1 s hs
  cases x with
  | bad => trivial
  | exc c =>
    obtain ⟨s1, e, l⟩ := h
    have ln := hs.len
    show Sat (if c ∈ xs then match hd c with
      | some b => .ok (w b)
      | none => .bad
      else .bad) _ _ _
    split
    · rename_i hc
      cases e2 : hd c with
      | none => trivial
      | some b => exact ⟨.ret (.bl b) .full, by unfold sKeep; simp only [e]; rw [if_pos ⟨hc, by omega, by omega⟩, e2]; rfl, hw b .full rfl⟩
    · trivial
  | ok u =>
    obtain ⟨o, e, s1, rfl, m⟩ := h
    refine (h2 u).at m ?_ ?_
    · rw [m.len, hs.len, hl]
    · unfold sKeep
      simp only [e]
theorem rs_try {rest : DS} (h1 : RSt ps d x (ΦN N)) (h2 : ∀ v, RSt (N v) rest (y v) Φ) (hw : AcR Φ .f w) (hi : i < ps.length) (hl : ∀ v, (N v).length = ps.length) : RSt ps (sSeq (sTry xs i hd d) rest) (keepR xs hd x y w) Φ := by
  refine ⟨fun s hs => ?_⟩
  have h := h1 s hs
  cases x with
  | bad => trivial
  | exc c =>
    obtain ⟨s1, e, l⟩ := h
    have ln := hs.len
    show Sat (if c ∈ xs then match hd c with
      | some b => .ok (w b)
      | none => .bad
      else .bad) _ _ _
    split
    · rename_i hc
      cases e2 : hd c with
      | none => trivial
      | some b => exact ⟨.ret (.bl b) .full, by unfold sSeq sTry; simp only [e]; rw [if_pos ⟨hc, by omega⟩, e2], hw b .full rfl⟩
    · trivial
  | ok u =>
    obtain ⟨o, e, s1, rfl, m⟩ := h
    refine (h2 u).at m ?_ ?_
    · rw [m.len, hs.len, hl]
    · unfold sSeq sTry
      simp only [e]
end
section
variable {X : Cx} {K : PySem.W.Frag} {W : WW} {sts : List Stmt}
/-- what is never come to -/
def sNvr : DS := fun _ => none
theorem qss_nvr (hk : X.K = K := by rfl) : QSs X K W sts (fun _ _ _ => False) sNvr := ⟨hk, ⟨fun _ _ _ _ _ _ h => h.elim⟩, fun _ _ e => nomatch e⟩
end
end Dv

namespace Dv
open PySem L2 PySem.Spec PyProof.Rows Evl
/-! ### .. and tells more than a truth -/
/-- a thing told: data that nothing holds -/
structure QKR (X : Cx) (K : PySem.W.Frag) (i : Nat) (a : Addr) (e : Expr) (t : TE) (d : D) : Prop where
  p : PE X e t
  j : ∀ (σ : L2.St) (H : Hp) (Q : VK), σ[i]? = some (some (.ref a)) → (∀ H' v, Ex H H' → (∀ G, Re K G H' v d) → Q v H') → t σ H Q
structure QKL (X : Cx) (K : PySem.W.Frag) (i : Nat) (a : Addr) (es : List Expr) (t : TA) (ds : List D) : Prop where
  p : PA X es t
  j : ∀ (σ : L2.St) (H : Hp) (Q : List V → Hp → Prop), σ[i]? = some (some (.ref a)) → (∀ H' vs, Ex H H' → (∀ G, ReL K G H' vs ds) → Q vs H') → t σ H Q
def endD (K : PySem.W.Frag) (En : Ends) (σ : L2.St) (H : Hp) : Option D → Prop
  | some d => ∀ H' v, Ex H H' → (∀ G, Re K G H' v d) → En.rt v H'
  | none => ∀ H', Ex H H' → En.nx σ H'
structure QDS (X : Cx) (K : PySem.W.Frag) (i : Nat) (a : Addr) (st : Stmt) (t : TS) (o : Option D) : Prop where
  p : PS X st t
  j : ∀ (σ : L2.St) (H : Hp) (En : Ends), σ[i]? = some (some (.ref a)) → endD K En σ H o → t En σ H
structure QDSs (X : Cx) (K : PySem.W.Frag) (i : Nat) (a : Addr) (st : List Stmt) (t : TS) (o : Option D) : Prop where
  p : PSs X st t
  j : ∀ (σ : L2.St) (H : Hp) (En : Ends), σ[i]? = some (some (.ref a)) → endD K En σ H o → t En σ H
theorem endD.wide {K : PySem.W.Frag} {En : Ends} {σ : L2.St} {H H' : Hp} {o : Option D} (h : endD K En σ H o) (x : Ex H H') : endD K En σ H' o := by
  cases o with
  | some d => exact fun H2 v y r => h H2 v (x.trans y) r
  | none => exact fun H2 y => h H2 (x.trans y)
def nxD (o o2 : Option D) : Option D := match o with
  | some b => some b
  | none => o2
section
variable {X : Cx} {K : PySem.W.Frag} {i : Nat} {a : Addr} {e : Expr} {es : List Expr} {t : TE} {tt : TT} {ta : TA} {b : Bool} {d : D} {ds : List D} {pos : Pos} {st : Stmt} {sts s1 s2 : List Stmt} {ts us : TS} {o o2 : Option D} {x : Str}
theorem qr_b (h : QKB X i a e t b) : QKR X K i a e t (.bl b) := ⟨h.p, fun σ H Q hs q => h.j σ H Q hs fun H1 x1 => q H1 _ x1 fun _ => .bl b⟩
theorem qr_str {jj} : QKR X K i a (.Constant (.str x) jj pos) (tC (.str x)) (.str x) := ⟨pe_str, fun σ H Q hs q => q H _ (Ex.refl _) fun _ => .str x⟩
theorem ql_nil0 : QKL X K i a [] tNil [] := ⟨pa_nil, fun σ H Q hs q => q H [] (Ex.refl _) fun _ => .nil⟩
theorem ql_cons0 (h : QKR X K i a e t d) (g : QKL X K i a es ta ds) (he : starEach (e :: es) X.env = (false, eval e X.env) :: starEach es X.env := by rfl) : QKL X K i a (e :: es) (tCons t ta) (d :: ds) := by
  refine ⟨pa_cons h.p g.p he, fun σ H Q hs q => h.j σ H _ hs fun H1 v x1 r1 => g.j σ H1 _ hs fun H2 vs x2 r2 => q H2 _ (x1.trans x2) fun G => .cons ?_ (r2 G)⟩
  exact (r1 G).mono (Ex.refl _) (Tk.of_ex x2)
theorem qr_tup {x1 : Nat} (h : QKL X K i a es ta ds) (hl : ds.length ≤ 1000) : QKR X K i a (.Tuple es x1 pos) (tTup ta) (.tup ds) := by
  refine ⟨pe_tup h.p, fun σ H Q hs q => h.j σ H _ hs fun H1 vs x1 r1 => ⟨?_, fun p hp => ?_⟩⟩
  · have := (r1 H1).length
    rw [sizeLine_eq]; omega
  · have x2 : Ex H1 (upd H1 p (.tup vs)) := Ex.new hp
    exact q _ _ (x1.trans x2) fun G => .tup upd_same ((r1 G).mono (Ex.refl _) (Tk.of_ex x2))
theorem qds_ret (h : QKR X K i a e t d) : QDS X K i a (.Return (some e) pos) (tRet t) (some d) := ⟨ps_ret h.p, fun σ H En hs q => h.j σ H _ hs fun H1 v x1 r1 => q H1 v x1 r1⟩
theorem qds_if (h : QKT X i a e tt b) (g1 : QDSs X K i a s1 ts o) (g2 : QDSs X K i a s2 us o2) : QDS X K i a (.If e s1 s2 pos) (tIfS tt ts us) (if b then o else o2) := by
  refine ⟨ps_if h.p g1.p g2.p, fun σ H En hs q => h.j σ H _ hs fun H1 x1 => ?_⟩
  cases b with
  | true => exact g1.j σ H1 En hs (q.wide x1)
  | false => exact g2.j σ H1 En hs (q.wide x1)
theorem qdss_nil : QDSs X K i a [] tNext none := ⟨pss_nil, fun σ H En hs q => q H (Ex.refl _)⟩
theorem qdss_one (h : QDS X K i a st ts o) : QDSs X K i a [st] ts o := ⟨pss_one h.p, h.j⟩
theorem qdss_cons (h : QDS X K i a st ts o) (g : QDSs X K i a sts us o2) : QDSs X K i a (st :: sts) (tSeq ts us) (nxD o o2) := by
  refine ⟨pss_cons h.p g.p, fun σ H En hs q => h.j σ H _ hs ?_⟩
  cases o with
  | some d => exact q
  | none => exact fun H1 x1 => g.j σ H1 En hs (q.wide x1)
end
def sKeepD (xs : List Str) (i j : Nat) (hd : Str → Option D) (d dr : DS) : DS := fun s => match d s with
  | some (.exc c s1) => if c ∈ xs ∧ i < s1.length ∧ j < s1.length then match hd c with
      | some b => if imm b = true then some (.ret b .full) else none
      | none => none
    else none
  | some (.next s1) => dr s1
  | r => r
section
variable {X : Cx} {K : PySem.W.Frag} {Wx : WX} {xs : List Str} {i j : Nat} {n m : Str} {hd : Str → Option D} {body rest : List Stmt} {np p p2 pos pos' pos2 : Pos} {tb : WX → TS} {tr : TS} {d dr : DS} {tk : Addr → Str → TS}
theorem qss_keepD (hN : X.N.Nodup) (hp : PassesOwn (model X.prog X.w) X.A X.env X.xe) (F : ExAll K X.mg xs) (hgP : Gl X "ProbeError")
    (hb : ∀ (W : WX) (pn : List (Addr × Obj)) (xe : Value → Shared → Prop), Takes (X.tr pn xe) W → QSs (X.tr pn xe) K (wOf (clK K) W) body (tb W) d)
    (hr : QSs X K (wOf (clK K) Wx) rest tr dr)
    (hx : ∀ (a : Addr) (oe : Obj) (pn : List (Addr × Obj)) (k : Str), k ∈ xs → Zc (.ref (He.ga K k)) none oe → (∃ vs, oe.data = .fields vs) → (a, oe) ∈ pn → QDSs (X.tr pn X.xe) K j a rest (tk a k) (hd k))
    (hs : X.stack = X.env :: X.outer := by rfl) (hf : X.env.frame = some X.env.locals := by rfl) (hi : X.N[i]? = some n := by rfl) (hln : X.env.kindOf n = some .local := by rfl) (hk : X.K = K := by rfl) (hij : i ≠ j := by decide) (hjl : j < X.N.length := by decide)
    (hsu : ∀ (a : Addr) (oe : Obj) (pn : List (Addr × Obj)), PSs (X.suite a ((a, oe) :: pn)) [.Assign [.Name m p] (.Name n p2) pos2] (tAsg (tVar i) (gName j))) :
    QSs X K (wOf (clK K) Wx) (.Try body [.ExceptHandler (some (.Name "ProbeError" np)) (some n) [.Assign [.Name m p] (.Name n p2) pos2] pos'] [] [] pos :: rest)
      (fun D σ H => tb (wKeep K (clK K "ProbeError") (cKeep K xs i j tk D)) { D with nx := tr D } σ H) (sKeepD xs i j hd d dr) := by
  subst hk
  refine ⟨rfl, ⟨fun pins s σ H D I h => ?_⟩, ?_⟩
  · refine wpAny_execs_cons (thn (try_keep (g := fun a σ => σ.set j (some (.ref a))) (D := { D with nx := tr D }) (C := cKeep X.K xs i j tk D) (tb := tb) hs hf hN hi hln ⟨hgP, by decide, .inl (F.all _ F.pe).gC⟩
      (fun W pn xe t q => (hb W pn xe t).p) (fun a oe pn => ⟨_, hsu a oe pn, fun D σ H h1 h2 => ⟨_, h1, h2⟩⟩) I h) fun f s1 q => ?_)
    rcases q with q | ⟨rfl, a, oe, cls, σ0, H0, J, hz, hfl, ⟨k, hk, rfl, ht⟩, _⟩
    · cases f with
      | next => obtain ⟨σ', H', J, q⟩ := q; exact hr.p.run pins s1 σ' H' D J q
      | ret v => exact q
      | brk => exact q
      | cont => exact q
    · have ok := J.ok
      refine thn ((hx a oe (X.pn ++ ((a, oe) :: pins)) k hk hz hfl (by simp)).p.run [] s1 _ H0 D (J.toTry _) (ht a)) fun f s2 q => SP.pin_out (a := a) (oe := oe) ?_
      cases f with
      | ret v => obtain ⟨v, σ', H', J2, q⟩ := q; exact ⟨v, σ', H', J2.ofTry ok, q⟩
      | next => obtain ⟨σ', H', J2, q⟩ := q; exact ⟨σ', H', J2.ofTry ok, q⟩
      | brk => obtain ⟨σ', H', J2, q⟩ := q; exact ⟨σ', H', J2.ofTry ok, q⟩
      | cont => obtain ⟨σ', H', J2, q⟩ := q; exact ⟨σ', H', J2.ofTry ok, q⟩
  · intro s o e B H σ Fs R0 En p
    have js := (hb (wKeep X.K (clK X.K "ProbeError") (cKeep X.K xs i j tk En)) [] _ (takes_any [] _)).j
    unfold sKeepD at e
    cases e1 : d s with
    | none => rw [e1] at e; cases e
    | some r =>
      rw [e1] at e
      refine js s r e1 B H σ Fs R0 { En with nx := tr En } ?_
      cases r with
      | next s1 => exact fun σ' B' H' Fs' R1 y1 => hr.j s1 o e B' H' σ' Fs' R1 En (p.step y1)
      | brk s1 => cases e; exact p
      | cont s1 => cases e; exact p
      | ret dd ow => cases e; exact p
      | exc c s1 =>
        simp only at e
        split at e
        · rename_i hc
          obtain ⟨hc, hl1, hl2⟩ := hc
          cases hb1 : hd c with
          | none => rw [hb1] at e; cases e
          | some b =>
            rw [hb1] at e
            simp only at e
            split at e
            · rename_i him
              cases e
              intro σ' B' H' Fs' R1 y1
              refine ⟨(F.all c hc).exm, rfl, c, hc, rfl, fun a => ?_⟩
              have l2 : j < σ'.length := by
                rw [← R1.l1]
                exact hl2
              refine (hx a { cls := .ref (He.ga X.K c), dict := none, data := .fields #[], slots := #[] } [(a, _)] c hc ⟨rfl, rfl⟩ ⟨_, rfl⟩ List.mem_cons_self).j _ H' En ?_ ?_
              · rw [List.getElem?_set_ne hij, List.getElem?_set_self (by rw [List.length_set]; exact l2)]
              · rw [hb1]
                exact fun H2 v x2 r2 => p v B' H2 [] (fun q o h => x2 _ _ (R1.ex _ _ h)) ((y1.trans (ES.ext R1.ex x2).ss).le fun a => Nat.zero_le _) (fun a => w_le) (Own.im him (r2 H2))
            · cases e
        · cases e
end
end Dv
namespace Dv
open PySem L2 PySem.Spec PyProof.Rows Evl
/-- if m is None: what is kept is not None -/
theorem qds_isN {X : Cx} {K : PySem.W.Frag} {i : Nat} {a : Addr} {n : Str} {p pos pos2 p3 : Pos} {jj : Nat} {body : List Stmt} (hN : X.N[i]? = some n) (hv : Vis X.env.scope n) (hd : (n == ("__debug__" : Str)) = false := by decide) (hcd : (n == ("__classdict__" : Str)) = false := by decide) :
    QDS X K i a (.If (.Compare (.Name n p) [.Is] [.Constant .none jj p3] pos2) body [] pos) (tIfS (tTest (tOp rIsNn (tVar i) (tC .non))) (fun _ _ _ => False) tNext) none := by
  have h : QT X X.K (fun _ _ _ => True) (.Compare (.Name n p) [.Is] [.Constant .none jj p3] pos2) _ _ := qt_isN (q_var i rfl hN hv hd hcd) q_non
  refine ⟨ps_if h.p ⟨fun _ _ _ _ _ _ z => z.elim⟩ pss_nil, fun σ H En hs q => ?_⟩
  exact ⟨.ref a, hs, rfl, false, rfl, q H (Ex.refl _)⟩
end Dv

namespace Dv
open Enc (enc)
open PySem L2
section
variable {ps ps1 : List Pt} {α : Type} [Enc α] {c : Oc} {da : DE D} {ca : DE (D × Ow)}
/-! a list of whatever -/
def encL (l : List α) : List D := l.map enc
theorem enc_encL (l : List α) : enc (encL l) = enc l := by
  show D.lst ((l.map enc).map (enc : D → D)) = D.lst (l.map enc)
  rw [map_encD]
theorem rc_toL {x : R (List α)} (h : RC ps ca x c ps1) : RC ps ca (R.bind x fun l => .ok (encL l)) c ps1 := rc_co (fun l => encL l) enc_encL h
theorem rb_toL {x : R (List α)} (h : RB ps da x ps1) : RB ps da (R.bind x fun l => .ok (encL l)) ps1 := rb_co (fun l => encL l) enc_encL h
/-! data that is a list of numbers -/
def asLI : D → R (List Int)
  | .lst ds => match allInt ds with
    | some l => .ok l
    | none => .bad
  | _ => .bad
theorem allInt_eq : ∀ {ds : List D} {l : List Int}, allInt ds = some l → ds = l.map (enc : Int → D)
  | [], _, e => by cases e; rfl
  | d :: ds, l, e => by
    cases d with
    | int i =>
      obtain ⟨m, e1, rfl⟩ := Option.map_eq_some_iff.mp (show (allInt ds).map (i :: ·) = some l from e)
      rw [allInt_eq e1]; rfl
    | _ => cases e
theorem dn_li : Dn asLI := fun a => by
  cases a with
  | lst ds =>
    show Ho (match allInt ds with
      | some l => R.ok l
      | none => .bad) _
    cases e : allInt ds with
    | none => trivial
    | some l =>
      show D.lst (l.map enc) = D.lst ds
      rw [allInt_eq e]
  | _ => trivial
theorem asLI_ok (l : List Int) : asLI (enc l) = .ok l := by
  show (match allInt (l.map D.int) with
    | some l => R.ok l
    | none => .bad) = _
  rw [allInt_map]
end
section
variable {β τ : Type} {ps : List Pt} {d dr : DS} {xs : List Str} {i j : Nat} {hd : Str → Option D} {x : R β} {y : β → R τ} {w : D → τ} {Φ : τ → Out → Prop} {N : β → List Pt}
/-- x, then y; a refusal of x is told by hd -/
def keepRD (xs : List Str) (hd : Str → Option D) (x : R β) (y : β → R τ) (w : D → τ) : R τ := match x with
  | .ok v => y v
  | .exc c => if c ∈ xs then match hd c with
    | some b => if imm b = true then .ok (w b) else .bad
    | none => .bad
    else .bad
  | .bad => .bad
theorem rs_keepD (h1 : RSt ps d x (ΦN N)) (h2 : ∀ v, RSt (N v) dr (y v) Φ) (hw : AcR Φ .f w) (hi : i < ps.length) (hj : j < ps.length) (hl : ∀ v, (N v).length = ps.length) : RSt ps (sKeepD xs i j hd d dr) (keepRD xs hd x y w) Φ := by
  refine ⟨fun s hs => ?_⟩
  have h := h1 s hs
  cases x with
  | bad => trivial
  | exc c =>
    obtain ⟨s1, e, l⟩ := h
    have ln := hs.len
    unfold keepRD
    simp only
    split
    · rename_i hc
      cases e2 : hd c with
      | none => trivial
      | some b =>
        simp only
        split
        · rename_i hb
          exact ⟨.ret b .full, by unfold sKeepD; simp only [e]; rw [if_pos ⟨hc, by omega, by omega⟩, e2]; simp only [hb, if_true], hw b .full rfl⟩
        · trivial
    · trivial
  | ok u =>
    obtain ⟨o, e, s1, rfl, m⟩ := h
    refine (h2 u).at m ?_ ?_
    · rw [m.len, hs.len, hl]
    · unfold sKeepD
      simp only [e]
end
end Dv

namespace Dv
open PySem L2 PySem.Spec PyProof.Rows Evl
/-! ### a suite that asks of the caught one and of a truth that stands in a slot -/
/-- the slots: the caught one at i, the truth v at m -/
def Two (i m : Nat) (a : Addr) (v : Bool) (σ : L2.St) : Prop := σ[i]? = some (some (.ref a)) ∧ σ[m]? = some (some (.bl v))
structure QMB (X : Cx) (P : L2.St → Prop) (e : Expr) (t : TE) (b : Bool) : Prop where
  p : PE X e t
  j : ∀ (σ : L2.St) (H : Hp) (Q : VK), P σ → Q (.bl b) H → t σ H Q
structure QMS (X : Cx) (P : L2.St → Prop) (st : Stmt) (t : TS) (o : Option Bool) : Prop where
  p : PS X st t
  j : ∀ (σ : L2.St) (H : Hp) (En : Ends), P σ → endH En σ H o → t En σ H
structure QMSs (X : Cx) (P : L2.St → Prop) (st : List Stmt) (t : TS) (o : Option Bool) : Prop where
  p : PSs X st t
  j : ∀ (σ : L2.St) (H : Hp) (En : Ends), P σ → endH En σ H o → t En σ H
section
variable {X : Cx} {K : PySem.W.Frag} {i m : Nat} {a : Addr} {v : Bool} {P : L2.St → Prop} {e e1 e2 : Expr} {es : List Expr} {t u : TE} {tt : TT} {b c : Bool} {pos p : Pos} {st : Stmt} {sts s1 s2 : List Stmt} {ts us : TS} {o o2 : Option Bool} {n : Str}
theorem qm_h (h : QHB X i a e t b) : QMB X (Two i m a v) e t b := ⟨h.p, fun σ H Q hs q => h.j σ H Q hs.1 q⟩
theorem qm_var (hN : X.N[m]? = some n) (hv : Vis X.env.scope n) (hd : (n == ("__debug__" : Str)) = false := by decide) (hcd : (n == ("__classdict__" : Str)) = false := by decide) : QMB X (Two i m a v) (.Name n p) (tVar m) v := ⟨pe_var hN hv hd hcd, fun σ H Q hs q => ⟨_, hs.2, q⟩⟩
theorem fEq_bl (b c : Bool) : fEq (.bl b) (.bl c) = some (.bl (b == c)) := by cases b <;> cases c <;> rfl
theorem fNe_bl (b c : Bool) : fNe (.bl b) (.bl c) = some (.bl (b != c)) := by cases b <;> cases c <;> rfl
theorem qm_eq (hu : X.A.units + 64 < cLine) (h : QMB X P e1 t b) (g : QMB X P e2 u c) (hK : X.K = K := by rfl) : QMB X P (.Compare e1 [.Eq] [e2] pos) (tOp (rEqD K) t u) (b == c) := by
  subst hK
  refine ⟨pe_cmpR (op_eqD hu) h.p g.p (nomark _), fun σ H Q hs q => h.j σ H _ hs (g.j σ H _ hs ?_)⟩
  exact rvEq (G := H) (H := H) _ _ _ _ _ (Ex.refl _) (.bl b) (.bl c) (fEq_bl b c) _ fun v r => by cases r; exact q
theorem qm_ne (hu : X.A.units + 64 < cLine) (h : QMB X P e1 t b) (g : QMB X P e2 u c) (hK : X.K = K := by rfl) : QMB X P (.Compare e1 [.NotEq] [e2] pos) (tOp (rNeD K) t u) (b != c) := by
  subst hK
  refine ⟨pe_cmpR (op_neD hu) h.p g.p (nomark _), fun σ H Q hs q => h.j σ H _ hs (g.j σ H _ hs ?_)⟩
  exact rvNe (G := H) (H := H) _ _ _ _ _ (Ex.refl _) (.bl b) (.bl c) (fNe_bl b c) _ fun v r => by cases r; exact q
theorem qm_one {op} (h : QMB X P e t b) : QMB X P (.BoolOp op [e] pos) t b := ⟨pe_one h.p, h.j⟩
theorem qm_and (h : QMB X P e1 t b) (g : QMB X P (.BoolOp .And (e2 :: es) pos) u c) : QMB X P (.BoolOp .And (e1 :: e2 :: es) pos) (tAndV t u) (b && c) := by
  refine ⟨pe_and h.p g.p, fun σ H Q hs q => h.j σ H _ hs ⟨b, rfl, ?_⟩⟩
  cases b with
  | true => exact g.j σ H Q hs q
  | false => exact q
theorem qms_ret (h : QMB X P e t b) : QMS X P (.Return (some e) pos) (tRet t) (some b) := ⟨ps_ret h.p, fun σ H En hs q => h.j σ H _ hs q⟩
theorem qms_if (h : QHT X i a e tt b) (g1 : QMSs X (Two i m a v) s1 ts o) (g2 : QMSs X (Two i m a v) s2 us o2) : QMS X (Two i m a v) (.If e s1 s2 pos) (tIfS tt ts us) (if b then o else o2) := by
  refine ⟨ps_if h.p g1.p g2.p, fun σ H En hs q => h.j σ H _ hs.1 ?_⟩
  cases b with
  | true => exact g1.j σ H En hs q
  | false => exact g2.j σ H En hs q
theorem qmss_nil : QMSs X P [] tNext none := ⟨pss_nil, fun _ _ _ _ q => q⟩
theorem qmss_one (h : QMS X P st ts o) : QMSs X P [st] ts o := ⟨pss_one h.p, h.j⟩
theorem qmss_cons (h : QMS X P st ts o) (g : QMSs X P sts us o2) : QMSs X P (st :: sts) (tSeq ts us) (nxH o o2) := by
  refine ⟨pss_cons h.p g.p, fun σ H En hs q => h.j σ H _ hs ?_⟩
  cases o with
  | some b => exact q
  | none => exact g.j σ H En hs q
end
theorem rs_bl {K : PySem.W.Frag} {B H : Hp} {u : V} {v : Bool} {ow : Ow} {F : List Addr} (g : RS K B H u (.bl v) ow F) : u = .bl v := by
  cases ow with
  | full =>
    have g : Own K H u (.bl v) F := g
    cases g with
    | im _ r => cases r; rfl
  | top => obtain ⟨_, _, _, _, z, _⟩ := g; cases z
  | no => obtain ⟨r, _⟩ := g; cases r; rfl
def sTryM (xs : List Str) (i m : Nat) (hd : Bool → Str → Option Bool) (body : DS) : DS := fun s => match body s with
  | some (.exc c s1) => if c ∈ xs ∧ i < s1.length then match s1[m]? with
      | some (some (.bl v, _)) => (hd v c).map fun b => .ret (.bl b) .full
      | _ => none
    else none
  | r => r
section
variable {X : Cx} {K : PySem.W.Frag} {Wx : WX} {xs : List Str} {i m : Nat} {n : Str} {hd : Bool → Str → Option Bool} {body suite : List Stmt} {b0 : Stmt} {np p pos pos' : Pos} {tb : WX → TS} {d : DS} {tk : Addr → Str → Bool → TS}
def tSuiteM (K : PySem.W.Frag) (xs : List Str) (m : Nat) (tk : Addr → Str → Bool → TS) (a : Addr) (cls : Value) (dd : Option Addr) : TS := fun En σ H => ∃ k v, k ∈ xs ∧ cls = .ref (He.ga K k) ∧ dd = none ∧ tk a k v En σ H
theorem qs_tryM (m : Nat) (hN : X.N.Nodup) (tkx : Takes X Wx) (F : ExAll K X.mg xs) (hgP : Gl X "ProbeError")
    (hb : ∀ (W : WX) (pn : List (Addr × Obj)) (xe : Value → Shared → Prop), Takes (X.tr pn xe) W → QSs (X.tr pn xe) K (wOf (clK K) W) body (tb W) d)
    (hsu : ∀ (a : Addr) (oe : Obj) (pn : List (Addr × Obj)) (k : Str) (v : Bool), k ∈ xs → Zc (.ref (He.ga K k)) none oe → (∃ vs, oe.data = .fields vs) → QMSs (X.suite a ((a, oe) :: pn)) (Two i m a v) (b0 :: suite) (tk a k v) (hd v k)) (hs : X.stack = X.env :: X.outer := by rfl) (hf : X.env.frame = some X.env.locals := by rfl) (hi : X.N[i]? = some n := by rfl) (hln : X.env.kindOf n = some .local := by rfl) (hk : X.K = K := by rfl) (hmi : i ≠ m := by decide) :
    QS X K (wOf (clK K) Wx) (.Try body [.ExceptHandler (some (.Name "ProbeError" np)) (some n) (b0 :: suite) pos'] [] [] pos) (fun En σ H => tb (wAs X.K (clK K "ProbeError") i (tSuiteM K xs m tk) Wx En) En σ H) (sTryM xs i m hd d) := by
  subst hk
  refine ⟨rfl, ?_, ?_⟩
  · refine ps_try_as hs hf hN hi hln ⟨hgP, by decide, .inl (F.all _ F.pe).gC⟩ tkx (fun W pn xe t q => (hb W pn xe t).p) fun a oe cls dd pn hz hfl => ⟨fun pins s σ H En I h => ?_⟩
    obtain ⟨k, v, hk, rfl, rfl, h⟩ := h
    exact (hsu a oe pn k v hk hz hfl).p.run pins s σ H En I h
  · intro s o e B H σ Fs R0 En p
    have js := (hb (wAs X.K (clK X.K "ProbeError") i (tSuiteM X.K xs m tk) Wx En) [] _ (takes_any [] _)).j
    unfold sTryM at e
    cases e1 : d s with
    | none => rw [e1] at e; cases e
    | some r =>
      rw [e1] at e
      refine js s r e1 B H σ Fs R0 En ?_
      cases r with
      | next s1 => cases e; exact p
      | brk s1 => cases e; exact p
      | cont s1 => cases e; exact p
      | ret dd ow => cases e; exact p
      | exc c s1 =>
        simp only at e
        split at e
        · rename_i hc
          obtain ⟨hc, hl1⟩ := hc
          split at e
          · rename_i v ow hm
            obtain ⟨b, hb1, rfl⟩ := Option.map_eq_some_iff.mp e
            intro σ' B' H' Fs' R1 y1
            obtain ⟨u, g1, g2⟩ := R1.at_ _ _ _ hm
            have eu := rs_bl g2
            subst eu
            refine ⟨true, (F.all c hc).exm, fun _ a ha => ⟨c, v, hc, rfl, rfl, ?_⟩, fun z => nomatch z⟩
            have l1 : i < σ'.length := by
              rw [← R1.l1]
              exact hl1
            refine (hsu a { cls := .ref (He.ga X.K c), dict := none, data := .fields #[], slots := #[] } [] c v hc ⟨rfl, rfl⟩ ⟨_, rfl⟩).j _ H' _ ⟨List.getElem?_set_self l1, by rw [List.getElem?_set_ne hmi]; exact g1⟩ ?_
            rw [hb1]
            exact p (.bl b) B' H' [] R1.ex (y1.le fun a => Nat.zero_le _) (fun a => w_le) (Own.im rfl (.bl b))
          · cases e
        · cases e
end
end Dv

namespace Dv
open PySem L2 PySem.Spec PyProof.Rows Evl
/-! ### l + m, both given up: what comes out is owned -/
def cAddO (c : DE (List D × Bool)) : DE (D × Ow) := bnd c fun q s => match q with
  | ([.lst xs, .lst ys], true) => if xs.length + ys.length ≤ 1000000 then some (.ok (.lst (xs ++ ys), .full) s) else none
  | _ => none
section
variable {K : PySem.W.Frag} {W : WW} {ta tb : TE} {ca cb : DE (D × Ow)}
theorem own_lst {H : Hp} {v : V} {ds : List D} {F : List Addr} (h : Own K H v (.lst ds) F) : ∃ p vs G, v = .ref p ∧ H p = some (.lst vs) ∧ OwnL K H vs ds G ∧ F = p :: G := by
  cases h with
  | im e _ => cases e
  | lst h1 h2 => exact ⟨_, _, _, rfl, h1, h2, rfl⟩
theorem own_two {H : Hp} {vs : List V} {d1 d2 : D} {F : List Addr} (h : OwnL K H vs [d1, d2] F) : ∃ v1 v2 F1 F2, vs = [v1, v2] ∧ Own K H v1 d1 F1 ∧ Own K H v2 d2 F2 ∧ F = F1 ++ F2 := by
  cases h with
  | cons a b =>
    cases b with
    | cons c e =>
      cases e
      exact ⟨_, _, _, _, rfl, a, c, by rw [List.append_nil]⟩
theorem jcAddO (hr : JCL K W (tCons ta (tCons tb tNil)) (cCons ca (cCons cb cNil))) : JC K W (tOp (rAddU K) ta tb) (cAddO (cCons ca (cCons cb cNil))) := by
  have key : JC K W (fun σ H Q => tCons ta (tCons tb tNil) σ H fun vs H1 => rAddU K (vs.getD 0 .non) (vs.getD 1 .non) H1 Q) (cAddO (cCons ca (cCons cb cNil))) := by
    refine J.bind (k := fun vs σ H Q => rAddU K (vs.getD 0 .non) (vs.getD 1 .non) H Q) hr fun q s1 r e vs B1 H1 σ Fs1 F R1 hv hl q1 Q p => ?_
    split at e
    · rename_i xs ys
      split at e
      · rename_i hz
        cases e
        have q1 : OwnL K H1 vs [.lst xs, .lst ys] F := q1
        obtain ⟨v1, v2, F1, F2, rfl, o1, o2, rfl⟩ := own_two q1
        obtain ⟨p1, vs1, G1, rfl, h1, l1, rfl⟩ := own_lst o1
        obtain ⟨p2, vs2, G2, rfl, h2, l2, rfl⟩ := own_lst o2
        have len1 : vs1.length = xs.length := (l1.re (G := H1) fun _ _ => rfl).length
        have len2 : vs2.length = ys.length := (l2.re (G := H1) fun _ _ => rfl).length
        refine .inr (.inr (.inl ⟨p1, p2, vs1, vs2, rfl, rfl, h1, h2, by rw [len1, len2]; exact sz6 hz, fun c hc => ?_⟩))
        have cnt : ∀ x, ((p1 :: G1 ++ p2 :: G2) ++ Fs1.flatten).count x = [p1, p2].count x + ((G1 ++ G2) ++ Fs1.flatten).count x := fun x => by
          simp only [List.count_append, List.count_cons, List.cons_append, List.count_nil]
          omega
        have R2 : Rel K (frz B1 H1 [p1, p2]) H1 σ s1 Fs1 := R1.know fun x => by
          have h3 := hv x
          rw [cnt x] at h3
          simp only [List.count_append] at h3 ⊢
          omega
        have liv : ∀ a ∈ [p1, p2], H1 a ≠ none := fun a ha => by
          rcases List.mem_cons.mp ha with rfl | ha
          · exact hl _ (by simp)
          · rw [List.mem_singleton.mp ha]; exact hl _ (by simp)
        have y2 := (ES.refl B1 H1 ((p1 :: G1 ++ p2 :: G2) ++ Fs1.flatten)).let_go [p1, p2] ((G1 ++ G2) ++ Fs1.flatten) liv cnt R1.ex
        have hv2 : ∀ x, w (frz B1 H1 [p1, p2]) x + ((G1 ++ G2) ++ Fs1.flatten).count x ≤ 1 := fun x => by
          have h3 := hv x
          rw [cnt x] at h3
          have h4 := frz_w B1 H1 [p1, p2] x
          omega
        obtain ⟨a1, a2, a3, a4, a5⟩ := new_list (b := true) R2 hv2 (fun x hx => hl x (by
          rcases List.mem_append.mp hx with hx | hx
          · exact List.mem_append_left _ (List.mem_cons_of_mem _ hx)
          · exact List.mem_append_right _ (List.mem_cons_of_mem _ hx))) (show rCL K (frz B1 H1 [p1, p2]) H1 Fs1 (vs1 ++ vs2) (xs ++ ys, true) (G1 ++ G2) from l1.append l2) hc
        exact p _ _ _ Fs1 (c :: (G1 ++ G2)) a1 (y2.trans a2) a3 a4 a5
      · cases e
    · cases e
  exact key
end
section
variable {X : Cx} {K : PySem.W.Frag} {W : WW} {a b : Expr} {pos : Pos} {ta tb : TE} {ca cb : DE (D × Ow)}
theorem q_addO (h : QC X K W a ta ca) (g : QC X K W b tb cb) (hl : QL X K W [a, b] (tCons ta (tCons tb tNil)) (cCons ca (cCons cb cNil))) : QC X K W (.BinOp a .Add b pos) (tOp (rAddU K) ta tb) (cAddO (cCons ca (cCons cb cNil))) := by
  obtain ⟨rfl, pa, ja⟩ := h
  exact ⟨rfl, pe_op op_addU pa g.p, jcAddO hl.j⟩
end
end Dv

namespace Dv
open Enc (enc)
open PySem L2
/-! ### refused, told by a truth that stands in a slot -/
/-- a refusal leaves the slots as they are -/
def Still {α : Type} (a : DE α) : Prop := ∀ s r, a s = some r → ∃ x, r = .ok x s
theorem still_var (i : Nat) : Still (dVar i) := fun s r e => by
  unfold dVar at e
  split at e
  · cases e; exact ⟨_, rfl⟩
  · cases e
theorem still_nil : Still dNil := fun s r e => by cases e; exact ⟨_, rfl⟩
theorem still_cons {a : DE D} {l : DE (List D)} (h : Still a) (g : Still l) : Still (dCons a l) := fun s r e => by
  unfold dCons bnd at e
  cases e1 : a s with
  | none => rw [e1] at e; cases e
  | some r1 =>
    rw [e1] at e
    obtain ⟨x, rfl⟩ := h s r1 e1
    simp only at e
    cases e2 : l s with
    | none => rw [e2] at e; cases e
    | some r2 =>
      rw [e2] at e
      obtain ⟨y, rfl⟩ := g s r2 e2
      cases e
      exact ⟨_, rfl⟩
def Keeps (d : DS) : Prop := ∀ s c s1, d s = some (.exc c s1) → s1 = s
theorem keeps_call {df : DF} {l : DE (List D)} (h : Still l) : Keeps (sDrop (toB (cCall df l))) := fun s c s1 e => by
  unfold sDrop toB cCall bnd at e
  cases e1 : l s with
  | none => rw [e1] at e; cases e
  | some r1 =>
    rw [e1] at e
    obtain ⟨ds, rfl⟩ := h s r1 e1
    simp only at e
    cases e2 : df ds with
    | none => rw [e2] at e; cases e
    | some z =>
      rw [e2] at e
      cases z with
      | ret d ow =>
        by_cases hc : (imm d || decide (ow = Ow.full)) = true <;> simp [hc] at e
      | exc c2 => cases e; rfl
section
variable {β τ : Type} {ps : List Pt} {d rest : DS} {xs : List Str} {i m : Nat} {hd : Bool → Str → Option Bool} {x : R β} {y : β → R τ} {w : Bool → τ} {Φ : τ → Out → Prop} {N : β → List Pt} {v : Bool} {c0 : Oc}
theorem rs_tryM (h0 : ps.getD m .x = .h c0 (enc v)) (kp : Keeps d) (h1 : RSt ps d x (ΦN N)) (h2 : ∀ v, RSt (N v) rest (y v) Φ) (hw : AcR Φ .f w) (hi : i < ps.length) (hl : ∀ v, (N v).length = ps.length) : RSt ps (sSeq (sTryM xs i m hd d) rest) (keepR xs (hd v) x y w) Φ := by
  refine ⟨fun s hs => ?_⟩
  have h := h1 s hs
  cases x with
  | bad => trivial
  | exc c =>
    obtain ⟨s1, e, l⟩ := h
    obtain rfl := kp _ _ _ e
    have ln := hs.len
    obtain ⟨ow0, g0, q0⟩ := hs.get h0
    show Sat (if c ∈ xs then match hd v c with
      | some b => .ok (w b)
      | none => .bad
      else .bad) _ _ _
    split
    · rename_i hc
      cases e2 : hd v c with
      | none => trivial
      | some b =>
        refine ⟨.ret (.bl b) .full, ?_, hw b .full rfl⟩
        unfold sSeq sTryM
        simp only [e]
        rw [if_pos ⟨hc, by omega⟩, g0]
        show (match (hd v c).map (fun b => Out.ret (.bl b) .full) with
          | some (.next s1) => rest s1
          | r => r) = _
        rw [e2]; rfl
    · trivial
  | ok u =>
    obtain ⟨o, e, s1, rfl, mm⟩ := h
    refine (h2 u).at mm ?_ ?_
    · rw [mm.len, hs.len, hl]
    · unfold sSeq sTryM
      simp only [e]
end
section
variable {ps ps1 : List Pt} {α : Type} [Enc α] {cl : DE (List D × Bool)}
theorem rc_addO {x : R (List α × List α × Unit)} (h : RTu ps cl x (eC (eC eN)) .f 2 ps1) : RC ps (cAddO cl) (R.bind x fun g => catR g.1 g.2.1) .f ps1 :=
  RG.bnd h fun l p v => by
    obtain ⟨v1, _, v3, _⟩ := v
    have v3 := v3 rfl
    obtain ⟨p1, p2⟩ := p
    have v1 : p1 = [enc l.1, enc l.2.1] := v1
    have v3 : p2 = true := v3
    subst v1 v3
    refine ⟨fun s hs => ?_⟩
    unfold catR okIf
    by_cases hz : l.1.length + l.2.1.length ≤ 1000000
    · rw [if_pos hz]
      refine ⟨(enc (l.1 ++ l.2.1), .full), s, ?_, ⟨rfl, rfl⟩, hs, rfl⟩
      show (if _ then some (Er.ok (D.lst (l.1.map enc ++ l.2.1.map enc), Ow.full) s) else none) = some (Er.ok (D.lst ((l.1 ++ l.2.1).map enc), Ow.full) s)
      rw [if_pos (by simpa using hz), List.map_append]
    · rw [if_neg hz]; trivial
end
end Dv

namespace Dv
open PySem L2 PySem.Spec PyProof.Rows Evl
/-! ### xs.insert(k, y) -/
abbrev rIns : V → List V → Hp → VK → Prop := fun x vs H Q => ∃ (l : Addr) (xs : List V) (i : Int) (y : V), x = .ref l ∧ vs = [.int i, y] ∧ H l = some (.lst xs) ∧ xs.length < sizeLine ∧ 0 ≤ i ∧ i < 2 ^ 63 ∧
    Q .non (upd H l (.lst (xs.take i.toNat ++ [y] ++ xs.drop i.toNat)))
theorem OwnL.cut {K : PySem.W.Frag} {H : Hp} : ∀ {vs : List V} {ds : List D} {F : List Addr} (n : Nat), OwnL K H vs ds F → ∃ F1 F2, OwnL K H (vs.take n) (ds.take n) F1 ∧ OwnL K H (vs.drop n) (ds.drop n) F2 ∧ F = F1 ++ F2
  | _, _, _, _, .nil => ⟨[], [], by simp; exact .nil, by simp; exact .nil, rfl⟩
  | _, _, _, 0, h => ⟨[], _, .nil, h, rfl⟩
  | _, _, _, n + 1, .cons a b => by
    obtain ⟨F1, F2, h1, h2, rfl⟩ := OwnL.cut n b
    exact ⟨_, F2, .cons a h1, h2, by rw [List.append_assoc]⟩
def sIns (i : Nat) (dk : DE D) (c : DE (D × Ow)) : DS := fun s => match s[i]? with
  | some (some (.lst _, ow0)) => if ow0 = .no then none else match dk s with
    | some (.ok (.int j) s1) => match c s1 with
      | some (.ok (e, eo) s2) => match s2[i]? with
        | some (some (.lst ds, .full)) => if eo = .full ∧ 0 ≤ j ∧ j < 2 ^ 62 ∧ ds.length < 1000000 then some (.next (s2.set i (some (.lst (ds.take j.toNat ++ [e] ++ ds.drop j.toNat), .full)))) else none
        | some (some (.lst ds, .top)) => if 0 ≤ j ∧ j < 2 ^ 62 ∧ ds.length < 1000000 then some (.next (s2.set i (some (.lst (ds.take j.toNat ++ [e] ++ ds.drop j.toNat), .top)))) else none
        | _ => none
      | some (.exc x s2) => some (.exc x s2)
      | none => none
    | some (.exc x s1) => some (.exc x s1)
    | _ => none
  | _ => none
section
variable {K : PySem.W.Frag} {W : WW} {tk tc : TE} {dk : DE D} {c : DE (D × Ow)} {i : Nat}
abbrev tIns (K : PySem.W.Frag) (to tk tc : TE) : TS := tDrop (tBM K "list" rIns to (tCons tk (tCons tc tNil)))
theorem jsIns (hk : JB K W tk dk) (hc : JC K W tc c) : JS K W (tIns K (tVar i) tk tc) (sIns i dk c) := by
  intro s o e B H σ Fs R0 En p
  unfold sIns at e
  split at e
  · rename_i ds0 ow0 h0
    split at e
    · cases e
    rename_i hno
    have place : ∃ q vs, σ[i]? = some (some (.ref q)) ∧ H q = some (.lst vs) := by
      obtain ⟨v0, hσ, r0⟩ := R0.at_ i _ _ h0
      cases ow0 with
      | no => exact absurd rfl hno
      | top =>
        obtain ⟨q, vs, _, rfl, _, h, _⟩ := r0
        exact ⟨q, vs, hσ, h⟩
      | full =>
        have r0 : Own K H v0 (.lst ds0) (Fs.getD i []) := r0
        obtain ⟨q, vs0, _, rfl, hq, _, _⟩ := own_lst r0
        exact ⟨q, vs0, hσ, hq⟩
    obtain ⟨q, vs0, hσ, hq⟩ := place
    refine ⟨.ref q, hσ, .inl ⟨rfl, vs0, sq_of hq⟩, ?_⟩
    cases e1 : dk s with
    | none => rw [e1] at e; cases e
    | some r =>
      rw [e1] at e
      refine hk s r e1 B H σ Fs R0 _ ?_
      cases r with
      | exc x s1 =>
        cases e
        exact fun B' H' Fs' x y => p σ B' H' Fs' x y.ss
      | ok dj s1 =>
        intro vj B1 H1 Fs1 F R1 y1 _ _ qj
        obtain ⟨qj, rfl⟩ := qj
        simp only at e
        cases dj <;> simp only at e <;> try cases e
        rename_i j
        have ej : vj = .int j := by cases qj; rfl
        subst ej
        have y1 : ES B H Fs.flatten B1 H1 Fs1.flatten := y1
        cases e2 : c s1 with
        | none => rw [e2] at e; cases e
        | some r2 =>
          rw [e2] at e
          refine hc s1 r2 e2 B1 H1 σ Fs1 R1 _ ?_
          cases r2 with
          | exc x s2 =>
            cases e
            exact fun B' H' Fs' x y => p σ B' H' Fs' x (y1.trans y).ss
          | ok z s2 =>
            obtain ⟨d, eo⟩ := z
            intro v B' H' Fs' F R2 y zz l qv
            have qv : RS K B' H' v d eo F := qv
            simp only at e
            split at e
            · rename_i ds h1
              split at e
              · rename_i hh
                obtain ⟨he, j0, j1, hz⟩ := hh
                subst he
                cases e
                obtain ⟨v2, p2, vs2, F1, a1, a2, a3, a4, a5, a6, a7⟩ := mut_slot (ks := []) (ds := ds) (E := F) R2 h1 rfl zz
                rw [hσ] at a1
                cases a1
                cases a2
                refine ⟨_, vs2, j, v, rfl, rfl, a3, ?_, j0, by omega, ?_⟩
                · rw [(a4.re (G := H') fun _ _ => rfl).length]
                  exact Nat.lt_of_lt_of_le hz (by decide)
                · have tk := tk_upd (ys := vs2.take j.toNat ++ [v] ++ vs2.drop j.toNat) a3
                  obtain ⟨G1, G2, g1, g2, g3⟩ := OwnL.cut j.toNat (a4.mono tk fun a ha => upd_ne (a5 a ha))
                  have o2 : OwnL K (upd H' q (.lst (vs2.take j.toNat ++ [v] ++ vs2.drop j.toNat))) (vs2.take j.toNat ++ [v] ++ vs2.drop j.toNat) (ds.take j.toNat ++ [d] ++ ds.drop j.toNat) ((G1 ++ (F ++ [])) ++ G2) :=
                    (g1.append (.cons (Own.mono tk qv fun a ha => upd_ne (a6 a ha)) .nil)).append g2
                  obtain ⟨G, b1, b2⟩ := a7 _ _ _ o2 fun a => by rw [g3]; simp only [List.count_append, List.append_nil]; omega
                  exact p σ _ _ _ b1 ((y1.trans y).ss.trans b2)
              · cases e
            · rename_i ds h1
              split at e
              · rename_i hh
                obtain ⟨j0, j1, hz⟩ := hh
                cases e
                have R3 := R2.know zz
                have y2 := y.let_go F Fs'.flatten l (fun a => List.count_append) R2.ex
                obtain ⟨p2, vs2, a1, a3, a4, a5, a7⟩ := mut_top R3 h1
                rw [hσ] at a1
                cases a1
                refine ⟨_, vs2, j, v, rfl, rfl, a3, ?_, j0, by omega, ?_⟩
                · rw [a4.length]
                  exact Nat.lt_of_lt_of_le hz (by decide)
                · have tk := tk_upd (ys := vs2.take j.toNat ++ [v] ++ vs2.drop j.toNat) a3
                  have a8 := a4.mono (Ex.refl _) tk
                  obtain ⟨b1, b2⟩ := a7 (vs2.take j.toNat ++ [v] ++ vs2.drop j.toNat) (ds.take j.toNat ++ [d] ++ ds.drop j.toNat) (((a8.take j.toNat).append (.cons ((qv.fz (frz_ex R2.ex) fun a ha => frz_in ha).mono (Ex.refl _) tk) .nil)).append (a8.drop j.toNat))
                  exact p σ _ _ _ b1 ((y1.trans y2).ss.trans b2)
              · cases e
            · cases e
  · cases e
end
section
variable {X : Cx} {K : PySem.W.Frag} {W : WW} {a k e : Expr} {pos cpos apos : Pos} {tk te : TE} {dk : DE D} {ca : DE (D × Ow)}
theorem qs_ins (i : Nat) (ho : QB X K W a (tVar i) (dVar i)) (hk : QB X K W k tk dk) (he : QC X K W e te ca) (h1 : attributeBase a "insert" X.env (eval a X.env) = eval a X.env := by rfl)
    (h2 : (((List.all (backTo cpos (starEach [k, e] X.env)) fun x => !Prod.fst x) && List.all (backToKw cpos (keywordEach [] X.env)) fun x => Option.isSome (Prod.fst x)) && decide ((List.length [k, e] + List.length ([] : List Keyword) + if List.isEmpty ([] : List Keyword) = true then 0 else 1) < 30)) = true := by rfl)
    (h3 : (apos.endLine == cpos.line) = true := by rfl) (h4 : starEach [k, e] X.env = (false, eval k X.env) :: starEach [e] X.env := by rfl) (h5 : starEach [e] X.env = (false, eval e X.env) :: starEach [] X.env := by rfl) (h6 : (backTo cpos (starEach [e] X.env)).any (·.1) = false := by rfl) (hs : swapsWith (.Call (.Attribute a "insert" apos) [k, e] [] cpos) none pos.line X.env = pure false := by rfl) :
    QS X K W (.Expr (.Call (.Attribute a "insert" apos) [k, e] [] cpos) pos) (tIns K (tVar i) tk te) (sIns i dk ca) := by
  obtain ⟨rfl, pa, ja⟩ := ho
  exact ⟨rfl, ps_expr (pe_bm PySem.F.plainAttrs_list PySem.F.slot_list_insert PySem.F.type_list_insert mt_insert pa (pa_cons hk.p (pa_cons he.p pa_nil h5) h4) h1 h2 h3 h4 h6) hs, jsIns hk.j he.j⟩
end
end Dv

namespace Dv
open Enc (enc)
open PySem L2
section
variable {τ α β γ δ : Type} [Enc α] [Enc β] [Enc γ] [Enc δ] {ps ps1 ps2 : List Pt} {dk : DE D} {ca : DE (D × Ow)} {rest : DS} {Φ : τ → Out → Prop}
/-! ### insert -/
noncomputable def insR (l : List α) (j : Int) (a : α) : R (List α) := okIf (0 ≤ j ∧ j < 2 ^ 62 ∧ l.length < 1000000) (l.take j.toNat ++ [a] ++ l.drop j.toNat)
theorem rs_insW {x : R α} {y : R Int} {l : List α} {W : R (List α)} {k : List α → R τ} (i : Nat) (h0 : ps.getD i .x = .h .f (enc l)) (hk : RB ps dk y ps1) (hc : RC ps1 ca x .f ps2) (h2 : ps2.getD i .x = .h .f (enc l)) (e : (R.bind y fun j => R.bind x fun a => insR l j a) = W) (hb : ∀ l', RSt (ps2.set i (.h .f (enc l'))) rest (k l') Φ) : RSt ps (sSeq (sIns i dk ca) rest) (R.bind W k) Φ := by
  subst e
  refine ⟨fun s hs => ?_⟩
  obtain ⟨ow0, g0, q0⟩ := hs.get h0
  have q0 : ow0 = .full := q0
  subst q0
  have h := hk s hs
  have g0 : s[i]? = some (some (.lst (l.map enc), .full)) := g0
  have nf : ¬ (Ow.full = Ow.no) := fun z => nomatch z
  cases y with
  | bad => trivial
  | exc c =>
    obtain ⟨s1, e, l1⟩ := h
    exact ⟨s1, by unfold sSeq sIns; simp only [g0, e, if_neg nf], l1⟩
  | ok j =>
    obtain ⟨dj, s1, e, v, m, l1⟩ := h
    have v : dj = .int j := v
    subst v
    have h := hc s1 m
    simp only [ok_bind]
    cases x with
    | bad => trivial
    | exc c =>
      obtain ⟨s2, e2, l2⟩ := h
      exact ⟨s2, by unfold sSeq sIns; simp only [g0, e, e2, if_neg nf], l2.trans l1⟩
    | ok u =>
      obtain ⟨⟨d, ow⟩, s2, e2, ⟨v1, v2⟩, m2, l2⟩ := h
      have v1 : d = enc u := v1
      have v2 : ow = .full := v2
      subst v1 v2
      obtain ⟨ow2, g2, q2⟩ := m2.get h2
      have q2 : ow2 = .full := q2
      subst q2
      have g2 : s2[i]? = some (some (.lst (l.map enc), .full)) := g2
      show Sat (R.bind (insR l j u) k) _ _ _
      unfold insR okIf
      by_cases hz : 0 ≤ j ∧ j < 2 ^ 62 ∧ l.length < 1000000
      · rw [if_pos hz]
        refine (hb (l.take j.toNat ++ [u] ++ l.drop j.toNat)).at (m2.set i ⟨.full, rfl, rfl⟩) (by rw [List.length_set]; exact l2.trans l1) ?_
        unfold sSeq sIns
        simp only [g0, e, e2, g2, if_neg nf]
        rw [if_pos ⟨trivial, by simpa using hz⟩]
        simp only [enc, List.map_append, List.map_take, List.map_drop, List.map_cons, List.map_nil]
      · rw [if_neg hz]; trivial
theorem rs_insTW {x : R α} {y : R Int} {l : List α} {W : R (List α)} {c : Oc} {k : List α → R τ} (i : Nat) (h0 : ps.getD i .x = .h .t (enc l)) (hk : RB ps dk y ps1) (hc : RC ps1 ca x c ps2) (h2 : ps2.getD i .x = .h .t (enc l)) (e : (R.bind y fun j => R.bind x fun a => insR l j a) = W) (hb : ∀ l', RSt (ps2.set i (.h .t (enc l'))) rest (k l') Φ) : RSt ps (sSeq (sIns i dk ca) rest) (R.bind W k) Φ := by
  subst e
  refine ⟨fun s hs => ?_⟩
  obtain ⟨ow0, g0, q0⟩ := hs.get h0
  have q0 : ow0 = .top := q0
  subst q0
  have h := hk s hs
  have g0 : s[i]? = some (some (.lst (l.map enc), .top)) := g0
  have nt : ¬ (Ow.top = Ow.no) := fun z => nomatch z
  cases y with
  | bad => trivial
  | exc c =>
    obtain ⟨s1, e, l1⟩ := h
    exact ⟨s1, by unfold sSeq sIns; simp only [g0, e, if_neg nt], l1⟩
  | ok j =>
    obtain ⟨dj, s1, e, v, m, l1⟩ := h
    have v : dj = .int j := v
    subst v
    have h := hc s1 m
    simp only [ok_bind]
    cases x with
    | bad => trivial
    | exc c =>
      obtain ⟨s2, e2, l2⟩ := h
      exact ⟨s2, by unfold sSeq sIns; simp only [g0, e, e2, if_neg nt], l2.trans l1⟩
    | ok u =>
      obtain ⟨⟨d, ow⟩, s2, e2, ⟨v1, v2⟩, m2, l2⟩ := h
      have v1 : d = enc u := v1
      subst v1
      obtain ⟨ow2, g2, q2⟩ := m2.get h2
      have q2 : ow2 = .top := q2
      subst q2
      have g2 : s2[i]? = some (some (.lst (l.map enc), .top)) := g2
      show Sat (R.bind (insR l j u) k) _ _ _
      unfold insR okIf
      by_cases hz : 0 ≤ j ∧ j < 2 ^ 62 ∧ l.length < 1000000
      · rw [if_pos hz]
        refine (hb (l.take j.toNat ++ [u] ++ l.drop j.toNat)).at (m2.set i ⟨.top, rfl, rfl⟩) (by rw [List.length_set]; exact l2.trans l1) ?_
        unfold sSeq sIns
        simp only [g0, e, e2, g2, if_neg nt]
        rw [if_pos (by simpa using hz)]
        simp only [enc, List.map_append, List.map_take, List.map_drop, List.map_cons, List.map_nil]
      · rw [if_neg hz]; trivial
/-! ### a place within a tuple -/
def Loc.fst (z : Loc α (β × γ)) : Loc α β := ⟨z.cur.1, fun b => z.put (b, z.cur.2)⟩
def Loc.snd (z : Loc α (β × γ)) : Loc α γ := ⟨z.cur.2, fun b => z.put (z.cur.1, b)⟩
theorem loc_fst {l : α} {ks : List Int} {z : Loc α (β × γ)} (h : LocE l ks z) : LocE l (ks ++ [0]) z.fst := by
  refine ⟨by rw [getP_snoc h.1]; rfl, fun b => ?_⟩
  have h2 := h.2 (b, z.cur.2)
  show Ho (z.put (b, z.cur.2)) _
  cases e : z.put (b, z.cur.2) with
  | bad => trivial
  | exc c => rw [e] at h2; exact h2.elim
  | ok l2 =>
    rw [e] at h2
    have h2 : enc l2 = setP ks (enc l) (enc (b, z.cur.2)) := h2
    show enc l2 = _
    rw [setP_snoc h.1, h2]
    rfl
theorem loc_snd {l : α} {ks : List Int} {z : Loc α (β × γ)} (h : LocE l ks z) : LocE l (ks ++ [1]) z.snd := by
  refine ⟨by rw [getP_snoc h.1]; rfl, fun b => ?_⟩
  have h2 := h.2 (z.cur.1, b)
  show Ho (z.put (z.cur.1, b)) _
  cases e : z.put (z.cur.1, b) with
  | bad => trivial
  | exc c => rw [e] at h2; exact h2.elim
  | ok l2 =>
    rw [e] at h2
    have h2 : enc l2 = setP ks (enc l) (enc (z.cur.1, b)) := h2
    show enc l2 = _
    rw [setP_snoc h.1, h2]
    rfl
theorem rp_pj {l : α} {z0 : Loc α δ} {z1 : Loc α β} {dr : List (DE D)} {i : Nat} {j : Int} {x : R (Loc α γ)} (hy : RB ps dk (.ok j) ps1) (hs : ps1.getD i .x = .h .f (enc l)) (hl : ∀ acc, LocE l acc z0 → LocE l (acc ++ [j]) z1) (hi : imm (enc z1.cur) = false) (hr : RP ps1 i l z1 dr x ps2) : RP ps i l z0 (dk :: dr) x ps2 := by
  intro s acc h0 h1
  obtain ⟨d, s1, e, v, m, l1⟩ := hy s h0
  have v : d = .int j := v
  subst v
  obtain ⟨ow, g1, q1⟩ := m.get hs
  have q1 : ow = .full := q1
  subst q1
  have h2 := hl acc h1
  have h4 := hr s1 (acc ++ [j]) m h2
  have e5 : dPA i acc (dk :: dr) s = dPA i (acc ++ [j]) dr s1 := by
    conv => lhs; unfold dPA
    simp only [e, g1, h2.1, hi, if_true]
  rw [e5]
  cases x with
  | bad => trivial
  | exc c =>
    obtain ⟨s2, a1, a2⟩ := h4
    exact ⟨s2, a1, a2.trans l1⟩
  | ok z2 =>
    obtain ⟨ks, s2, a1, a2, a3, a4⟩ := h4
    exact ⟨ks, s2, a1, a2, a3, a4.trans l1⟩
theorem rp_p0 [NI β] {l : α} {z0 : Loc α (β × γ)} {dr : List (DE D)} {i : Nat} {x : R (Loc α δ)} (hy : RB ps dk (.ok (0 : Int)) ps1) (hs : ps1.getD i .x = .h .f (enc l)) (hr : RP ps1 i l z0.fst dr x ps2) : RP ps i l z0 (dk :: dr) x ps2 := rp_pj hy hs (fun _ h => loc_fst h) (NI.ni z0.cur.1) hr
theorem rp_p1 [NI γ] {l : α} {z0 : Loc α (β × γ)} {dr : List (DE D)} {i : Nat} {x : R (Loc α δ)} (hy : RB ps dk (.ok (1 : Int)) ps1) (hs : ps1.getD i .x = .h .f (enc l)) (hr : RP ps1 i l z0.snd dr x ps2) : RP ps i l z0 (dk :: dr) x ps2 := rp_pj hy hs (fun _ h => loc_snd h) (NI.ni z0.cur.2) hr
/-! data that holds no list -/
def immR (d : D) : R D := if imm d = true then .ok d else .bad
theorem rc_toCD {da : DE D} {x : R D} (h : RB ps da x ps1) : RC ps (toC da) (R.bind x immR) .f ps1 := by
  refine ⟨fun s hs => ?_⟩
  have h := h s hs
  cases x with
  | bad => trivial
  | exc c =>
    obtain ⟨s1, e, l⟩ := h
    exact ⟨s1, by unfold toC; rw [e], l⟩
  | ok d =>
    obtain ⟨d2, s1, e, v, m, l⟩ := h
    have v : d2 = d := v
    subst v
    rw [ok_bind]
    unfold immR
    by_cases hi : imm d2 = true
    · rw [if_pos hi]
      exact ⟨(d2, .full), s1, by unfold toC; simp only [e, hi, if_true], ⟨rfl, rfl⟩, m, l⟩
    · rw [if_neg hi]; trivial
/-! the same thing, of another type -/
theorem enc_mapL {f : α → β} (h : ∀ a, enc (f a) = enc a) (l : List α) : enc (l.map f) = enc l := by
  show D.lst ((l.map f).map enc) = D.lst (l.map enc)
  rw [List.map_map]
  congr 1
  exact List.map_congr_left fun a _ => h a
theorem enc_mapP {f : α → β} {g : γ → δ} (h : ∀ a, enc (f a) = enc a) (k : ∀ a, enc (g a) = enc a) (p : α × γ) : enc (f p.1, g p.2) = enc p := by
  show D.tup [enc (f p.1), enc (g p.2)] = D.tup [enc p.1, enc p.2]
  rw [h, k]
end
end Dv

namespace Dv
open PySem L2 PySem.Spec PyProof.Rows Evl
/-! ### len(set(l)) -/
def ddAdd (acc : List Int) (x : Int) : List Int := if acc.any (· == x) then acc else acc ++ [x]
def ddp (ns : List Int) : List Int := ns.foldl ddAdd []
theorem firstMet_ddp (ns : List Int) : ∀ k, k ≤ ns.length → PyProof.Rows.firstMet (fun i => ns.getD i 0) k = ddp (ns.take k)
  | 0, _ => rfl
  | k + 1, h => by
    have hk : k < ns.length := h
    rw [PyProof.Rows.firstMet_succ, firstMet_ddp ns k (by omega), List.take_succ_eq_append_getElem hk]
    unfold ddp
    rw [List.foldl_append]
    show step_dedup _ _ = ddAdd _ ns[k]
    rw [show ns.getD k 0 = ns[k] by rw [List.getD_eq_getElem?_getD, List.getElem?_eq_getElem hk]; rfl]
    rfl
theorem ddp_len (ns : List Int) : (ddp ns).length ≤ ns.length := by
  have key : ∀ (l acc : List Int), (l.foldl ddAdd acc).length ≤ acc.length + l.length := by
    intro l
    induction l with
    | nil => intro acc; simp
    | cons x l ih =>
      intro acc
      have h1 := ih (ddAdd acc x)
      have h2 : (ddAdd acc x).length ≤ acc.length + 1 := by unfold ddAdd; split <;> simp
      simp only [List.foldl_cons, List.length_cons]
      omega
  have h := key ns []
  rw [List.length_nil, Nat.zero_add] at h
  exact h
def tLenSet2 (K : PySem.W.Frag) (ta : TE) : TE := fun σ H Q => ta σ H fun x H1 => ∃ (l : Addr) (ns : List Int), x = .ref l ∧ SqL K H1 l (ns.map V.int) ∧ ns.length < 64 ∧ Q (.int (ddp ns).length) H1
theorem pe_lenSet2 {X : Cx} {a : Expr} {ta : TE} {p p2 q pos : Pos} (hc : X.calm = true) (g1 : Gl X "len") (m1 : X.mg "len" = none) (g2 : Gl X "set") (m2 : X.mg "set" = none) (pa : PE X a ta)
    (ns : starEach [a] X.env = (false, eval a X.env) :: starEach [] X.env := by rfl) : PE X (.Call (.Name "len" p) [.Call (.Name "set" p2) [a] [] q] [] pos) (tLenSet2 X.K ta) := by
  refine ⟨fun pins s σ H Q I h => Call_ (ld_blt I g1 m1 PySem.boot_len (PyProof.Rows.callWith_builtin1 (PyProof.Rows.args_cons (Call_ (ld_blt I g2 m2 PyProof.Rows.boot_set
    (PyProof.Rows.callWith_type1 (PyProof.Rows.args_cons (thn (pa.run pins s σ H _ I h) fun v t ⟨x, H1, J, r, z⟩ => PyProof.Rows.args_nil ?_) ns) ns rfl))) rfl) rfl rfl))⟩
  obtain ⟨l, ks, rfl, hq, hl, z⟩ := z
  cases r
  obtain ⟨its, rv, pl, _⟩ := J.list hq
  have sz : its.toArray.size = ks.length := by rw [List.size_toArray, ← rv.length, List.length_map]
  refine PySem.call_set_list (ns := ks) (J.ok.hd hc) pl.isList (by simpa using ints_of_vals rv) (by rw [sz]; unfold scanBound; omega) fun g tk so keep => ?_
  rw [sz, firstMet_ddp ks ks.length (Nat.le_refl _), List.take_length] at so
  obtain ⟨o, es, ep, tb, k1, k2, k3, _, _, _, k4, k5⟩ := so
  have J2 : Inv X pins σ H1 { t with heap := g, toks := tk } := J.kept fun b o e => keep b o (Heap.lt_size e) e
  have hd := ddp_len ks
  exact PyProof.Rows.args_nil (call_len_set k1 k2 k3 k4 (by rw [k5]; omega) ⟨.int (ddp ks).length, H1, J2.tok _, ⟨_, by rw [k5]⟩, z⟩)
def fLenSet (x : D) : Option D := match x with
  | .lst xs => match allInt xs with
    | some ns => if ns.length < 64 then some (.int (ddp ns).length) else none
    | none => none
  | _ => none
section
variable {K : PySem.W.Frag} {W : WW} {ta : TE} {da : DE D}
theorem jLenSet (h : JB K W ta da) : JB K W (tLenSet2 K ta) (dUn fLenSet da) := by
  refine J.one (k := fun x _ H Q => ∃ (l : Addr) (ns : List Int), x = .ref l ∧ SqL K H l (ns.map V.int) ∧ ns.length < 64 ∧ Q (V.int (ddp ns).length) H) (dk := fun x s => (fLenSet x).map fun d => .ok d s) h zB fun x s r0 e vx B H σ Fs R0 q1 Q p => ?_
  obtain ⟨q1, -⟩ := q1
  obtain ⟨d, ed, rfl⟩ := Option.map_eq_some_iff.mp e
  unfold fLenSet at ed
  split at ed
  · rename_i xs
    split at ed
    · rename_i ns e1
      split at ed
      · rename_i hn
        cases ed
        obtain ⟨a, vs, rfl, h1, h2⟩ := re_lst q1
        have ev := allInt_rel h2 e1
        subst ev
        exact ⟨a, ns, rfl, sq_of (frz_le R0.ex _ _ h1), hn, Post.here R0 ⟨.int _, rfl⟩ p⟩
      · cases ed
    · cases ed
  · cases ed
end
section
variable {X : Cx} {K : PySem.W.Frag} {W : WW} {p pos p2 q : Pos} {e : Expr} {ta : TE} {da : DE D}
theorem q_lenSet (hc : X.calm = true) (hg : Gl X "len") (hm : X.mg "len" = none) (hg2 : Gl X "set") (hm2 : X.mg "set" = none) (h : QB X K W e ta da) (he : starEach [e] X.env = (false, eval e X.env) :: starEach [] X.env := by rfl) :
    QB X K W (.Call (.Name "len" p) [.Call (.Name "set" p2) [e] [] q] [] pos) (tLenSet2 K ta) (dUn fLenSet da) := by
  obtain ⟨rfl, pa, ja⟩ := h
  exact ⟨rfl, pe_lenSet2 hc hg hm hg2 hm2 pa he, jLenSet ja⟩
end
end Dv

namespace Dv
open Enc (enc)
open PySem L2
/-! ### len(set(l)) -/
noncomputable def lenSetR (l : List Int) : R Int := okIf (l.length < 64) ((ddp l).length : Int)
theorem un_lenSet : UnE fLenSet lenSetR := fun u => ho_if fun h => by
  show (match allInt (u.map D.int) with
    | some ns => if ns.length < 64 then some (D.int (ddp ns).length) else none
    | none => none) = _
  rw [allInt_map]
  show (if u.length < 64 then _ else _) = _
  rw [if_pos h]; rfl
theorem ddAdd_mem {acc : List Int} {x k : Int} : k ∈ ddAdd acc x ↔ k ∈ acc ∨ k = x := by
  unfold ddAdd
  split
  · rename_i h
    obtain ⟨y, hy, e⟩ := List.any_eq_true.mp h
    have e : y = x := eq_of_beq e
    subst e
    constructor
    · exact .inl
    · rintro (h | rfl)
      · exact h
      · exact hy
  · simp
theorem ddp_fold_mem : ∀ (l acc : List Int) (k : Int), k ∈ l.foldl ddAdd acc ↔ k ∈ acc ∨ k ∈ l
  | [], acc, k => by simp
  | x :: l, acc, k => by
    rw [List.foldl_cons, ddp_fold_mem l, ddAdd_mem, List.mem_cons, or_assoc]
theorem ddp_mem {l : List Int} {k : Int} : k ∈ ddp l ↔ k ∈ l := by
  unfold ddp
  rw [ddp_fold_mem]
  simp
theorem ddp_fold_nd : ∀ (l acc : List Int), acc.Nodup → (l.foldl ddAdd acc).Nodup
  | [], acc, h => h
  | x :: l, acc, h => by
    refine ddp_fold_nd l _ ?_
    unfold ddAdd
    split
    · exact h
    · rename_i hx
      refine List.nodup_append.mpr ⟨h, by simp, fun a ha b hb => ?_⟩
      rw [List.mem_singleton.mp hb]
      rintro rfl
      exact hx (List.any_eq_true.mpr ⟨a, ha, by simp⟩)
theorem ddp_nd (l : List Int) : (ddp l).Nodup := ddp_fold_nd l [] List.nodup_nil
/-- one thing alone -/
theorem ddp_one {l : List Int} (h0 : l ≠ []) : (ddp l).length = 1 ↔ ∀ x ∈ l, ∀ y ∈ l, x = y := by
  constructor
  · intro h x hx y hy
    obtain ⟨z, hz⟩ := List.length_eq_one_iff.mp h
    have h1 := ddp_mem.mpr hx
    have h2 := ddp_mem.mpr hy
    rw [hz] at h1 h2
    rw [List.mem_singleton.mp h1, List.mem_singleton.mp h2]
  · intro h
    match e : ddp l with
    | [] =>
      cases l with
      | nil => exact absurd rfl h0
      | cons x l =>
        have := ddp_mem (l := x :: l) (k := x).mpr (by simp)
        rw [e] at this
        simp at this
    | [_] => rfl
    | a :: b :: r =>
      have nd := ddp_nd l
      rw [e] at nd
      have ha : a ∈ l := ddp_mem.mp (by rw [e]; simp)
      have hb : b ∈ l := ddp_mem.mp (by rw [e]; simp)
      have := h a ha b hb
      subst this
      simp at nd
end Dv

namespace Dv
open Enc (enc)
open PySem L2
/-! ### and, or, where the later one lets something go -/
section
variable {ps ps1 ps2 : List Pt} {t u : DE Bool} {da db : DE D}
theorem rt_andW {x y : R Bool} (h1 : RT ps t x ps1) (h2 : RT ps1 u y ps2) (w : Wk ps1 ps2) : RT ps (dAnd t u) (R.bind x fun c => if c = true then y else .ok false) ps2 := by
  refine RG.bnd h1 fun a b v => ?_
  subst v
  cases b with
  | true => rw [if_pos rfl, if_pos rfl]; exact h2
  | false => rw [if_neg Bool.false_ne_true, if_neg Bool.false_ne_true]; exact RG.wk (by exact RG.pure rfl) w
theorem rt_orW {x y : R Bool} (h1 : RT ps t x ps1) (h2 : RT ps1 u y ps2) (w : Wk ps1 ps2) : RT ps (dOr t u) (R.bind x fun c => if c = true then .ok true else y) ps2 := by
  refine RG.bnd h1 fun a b v => ?_
  subst v
  cases b with
  | true => rw [if_pos rfl, if_pos rfl]; exact RG.wk (by exact RG.pure rfl) w
  | false => rw [if_neg Bool.false_ne_true, if_neg Bool.false_ne_true]; exact h2
theorem rb_andW {x y : R Bool} (h1 : RB ps da x ps1) (h2 : RB ps1 db y ps2) (w : Wk ps1 ps2) : RB ps (dAndV da db) (R.bind x fun c => if c = true then y else .ok false) ps2 := by
  refine RG.bnd h1 fun a b v => ?_
  subst v
  cases a with
  | true => rw [if_pos rfl]; exact h2
  | false => rw [if_neg Bool.false_ne_true]; exact RG.wk (by exact RG.pure rfl) w
theorem rb_orW {x y : R Bool} (h1 : RB ps da x ps1) (h2 : RB ps1 db y ps2) (w : Wk ps1 ps2) : RB ps (dOrV da db) (R.bind x fun c => if c = true then .ok true else y) ps2 := by
  refine RG.bnd h1 fun a b v => ?_
  subst v
  cases a with
  | true => rw [if_pos rfl]; exact RG.wk (by exact RG.pure rfl) w
  | false => rw [if_neg Bool.false_ne_true]; exact h2
end
end Dv
namespace Dv
section
variable {τ : Type} {ps ps2 : List Pt} {d : DS} {x : R τ} {Φ : τ → Out → Prop}
/-- the slots told anew -/
theorem rs_at (h : ps = ps2) (r : RSt ps2 d x Φ) : RSt ps d x Φ := h ▸ r
end
end Dv

namespace Dv
open Enc (enc)
open PySem

/-! ### plain functions: that they answer, and what -/
section
variable {ι σ τ ρ α β γ : Type} {Q : α → Prop}
theorem Ok.of {x : R α} {a : α} (h : x = .ok a) (q : Q a) : Ok x Q := ⟨a, h, q⟩
@[simp] theorem Ok_ok {a : α} : Ok (.ok a) Q = Q a := by simp [Ok]
@[simp] theorem Ok_exc {c : Str} : Ok (.exc c) Q = False := by simp [Ok]
@[simp] theorem Ok_bad : Ok .bad Q = False := by simp [Ok]
theorem Ok_bind {x : R β} {k : β → R α} : Ok (R.bind x k) Q = Ok x fun b => Ok (k b) Q := by
  cases x with
  | ok b => rw [ok_bind, Ok_ok]
  | exc c => simp [Ok, R.bind]
  | bad => simp [Ok, R.bind]
def thn (Q : τ → Prop) (k : σ → Prop) : σ ⊕ τ → Prop
  | .inl v => k v
  | .inr t => Q t
@[simp] theorem thn_inl {Q : τ → Prop} {k : σ → Prop} {v : σ} : thn Q k (.inl v) = k v := rfl
@[simp] theorem thn_inr {Q : τ → Prop} {k : σ → Prop} {v : τ} : thn Q k (.inr v) = Q v := rfl
theorem Ok_then {x : R (σ ⊕ τ)} {k : σ → R τ} {Q : τ → Prop} : Ok (R.andThen x k) Q = Ok x (thn Q fun v => Ok (k v) Q) := by
  unfold R.andThen
  rw [Ok_bind]
  congr 1
  funext o
  cases o <;> simp
theorem andThen_inl {v : σ} {k : σ → R τ} : R.andThen (.ok (.inl v)) k = k v := rfl
theorem andThen_inr {t : τ} {k : σ → R τ} : R.andThen (.ok (.inr t)) k = .ok t := rfl
theorem Ok_if {b : Bool} {x y : R α} : Ok (if b = true then x else y) Q = ((b = true → Ok x Q) ∧ (b = false → Ok y Q)) := by
  cases b <;> simp
theorem Ok.mono {x : R α} {Q' : α → Prop} (h : Ok x Q) (k : ∀ a, Q a → Q' a) : Ok x Q' := by
  obtain ⟨a, e, q⟩ := h
  exact ⟨a, e, k a q⟩
theorem Ok.eq {x : R α} {a : α} (h : Ok x fun b => b = a) : x = .ok a := by
  obtain ⟨b, e, rfl⟩ := h
  exact e
theorem okIf_ok {p : Prop} {a : α} (h : p) : okIf p a = .ok a := by
  unfold okIf
  exact if_pos h
theorem Ok_okIf {p : Prop} {a : α} : Ok (okIf p a) Q = (p ∧ Q a) := by
  unfold okIf
  by_cases h : p
  · rw [if_pos h]; simp [h]
  · rw [if_neg h]; simp [h]
/-! lists -/
theorem atI_nat {l : List α} {i : Nat} : L2.atI l (i : Int) = l[i]? := by
  unfold L2.atI L2.ixN
  rw [if_pos (by omega)]
  by_cases h : i < l.length
  · rw [if_pos (by omega)]; simp
  · rw [if_neg (by omega)]
    simp only [Option.bind_none]
    rw [List.getElem?_eq_none (by omega)]
theorem atR_nat {l : List α} {i : Nat} (h : i < l.length) : atR l (i : Int) = .ok l[i] := by
  unfold atR
  rw [atI_nat, List.getElem?_eq_getElem h]
  rfl
theorem atR_int {l : List α} {i : Int} (h0 : 0 ≤ i) (h : i < (l.length : Int)) : atR l i = .ok (l[i.toNat]'(by omega)) := by
  obtain ⟨k, rfl⟩ := Int.eq_ofNat_of_zero_le h0
  rw [atR_nat (by omega)]
  simp
theorem atR_getD {l : List α} {i : Int} (d : α) (h0 : 0 ≤ i) (h : i < (l.length : Int)) : atR l i = .ok (l.getD i.toNat d) := by
  rw [atR_int h0 h]
  congr 1
  rw [List.getD_eq_getElem?_getD, List.getElem?_eq_getElem (by omega)]
  rfl
theorem atR_some {l : List α} {i : Nat} {a : α} (h : l[i]? = some a) : atR l (i : Int) = .ok a := by
  unfold atR
  rw [atI_nat, h]
  rfl
theorem atR_neg1 {l : List α} (h : l ≠ []) : atR l (-1) = .ok (l.getLast h) := by
  unfold atR L2.atI L2.ixN
  have hl : 0 < l.length := List.length_pos_iff.mpr h
  rw [if_neg (by omega), if_pos (by omega)]
  simp only [Option.bind_some]
  have : (-1 + (l.length : Int)).toNat = l.length - 1 := by omega
  rw [this, List.getElem?_eq_getElem (by omega)]
  simp [List.getLast_eq_getElem, ofO]
theorem setR_nat {l : List α} {i : Nat} {a : α} (h : i < l.length) : setR l (i : Int) a = .ok (l.set i a) := by
  unfold setR L2.ixN
  rw [if_pos (by omega), if_pos (by omega)]
  simp
theorem setR_int {l : List α} {i : Int} {a : α} (h0 : 0 ≤ i) (h : i < (l.length : Int)) : setR l i a = .ok (l.set i.toNat a) := by
  obtain ⟨k, rfl⟩ := Int.eq_ofNat_of_zero_le h0
  rw [setR_nat (by omega)]
  simp
theorem appR_ok {l : List α} {a : α} (h : l.length < 1000000) : appR l a = .ok (l ++ [a]) := okIf_ok h
theorem catR_ok {l m : List α} (h : l.length + m.length ≤ 1000000) : catR l m = .ok (l ++ m) := okIf_ok h
theorem rng1_ok {j : Int} (h0 : -1000000000 ≤ j) (h : j ≤ 1000000000) : rng1 j = .ok (rngL 0 j.toNat) := okIf_ok ⟨by omega, by omega⟩
theorem rng2_ok {i j : Int} (h0 : -1000000000 ≤ i) (h : i ≤ 1000000000) (h2 : -1000000000 ≤ j) (h3 : j ≤ 1000000000) : rng2 i j = .ok (rngL i (j - i).toNat) := okIf_ok ⟨by omega, by omega, by omega, by omega⟩
theorem rngL_len {i : Int} {n : Nat} : (rngL i n).length = n := by simp [rngL]
theorem rngL_get {i : Int} {n k : Nat} {a : Int} (h : (rngL i n)[k]? = some a) : k < n ∧ a = i + (k : Int) := by
  unfold rngL at h
  rw [List.getElem?_map] at h
  by_cases hk : k < n
  · rw [List.getElem?_range hk] at h
    cases h
    exact ⟨hk, rfl⟩
  · rw [List.getElem?_eq_none (by simpa using hk)] at h
    cases h
theorem rngL_mem {i : Int} {n : Nat} {a : Int} : a ∈ rngL i n ↔ i ≤ a ∧ a < i + n := by
  unfold rngL
  rw [List.mem_map]
  constructor
  · rintro ⟨k, hk, rfl⟩
    have := List.mem_range.mp hk
    omega
  · rintro ⟨h1, h2⟩
    exact ⟨(a - i).toNat, List.mem_range.mpr (by omega), by omega⟩
theorem mulR_l {i j : Int} (h : i.natAbs < 2 ^ 64) : mulR i j = .ok (i * j) := okIf_ok (mulOk_l h)
theorem mulR_r {i j : Int} (h : j.natAbs < 2 ^ 64) : mulR i j = .ok (i * j) := okIf_ok (mulOk_r h)
theorem modR_ok {i j : Int} (h : 0 < j) : modR i j = .ok (i % j) := okIf_ok h
theorem divR_ok {i j : Int} (h : 0 < j) (h2 : j < 1000000) : divR i j = .ok (i / j) := by
  refine okIf_ok ?_
  have : j.natAbs.log2 < 9000 := by
    have : j.natAbs < 2 ^ 20 := by omega
    have h3 : j.natAbs.log2 < 20 := (Nat.log2_lt (by omega)).mpr this
    omega
  simp [h, this]
theorem repR_ok {l : List α} {k : Int} (h : l.length * k.toNat ≤ 1000000) (h1 : -1000000 ≤ k) (h2 : k ≤ 1000000) : repR l k = .ok (List.replicate k.toNat l).flatten := okIf_ok ⟨by omega, by omega, h⟩
theorem rep_one {a : α} : ∀ n : Nat, (List.replicate n [a]).flatten = List.replicate n a
  | 0 => rfl
  | n + 1 => by rw [List.replicate_succ, List.flatten_cons, rep_one n]; rfl
theorem repR_one {a : α} {k : Int} (h1 : 0 ≤ k) (h2 : k ≤ 1000000) : repR [a] k = .ok (List.replicate k.toNat a) := by
  rw [repR_ok (by simp; omega) (by omega) h2, rep_one]
/-! loops -/
theorem forR_inv {l : List ι} {v : σ} {f : ι → σ → R σ} {Q : σ → Prop} (P : Nat → σ → Prop) (h0 : P 0 v) (hs : ∀ k a v, l[k]? = some a → P k v → Ok (f a v) (P (k + 1))) (hQ : ∀ v, P l.length v → Q v) : Ok (forR l v f) Q := by
  induction l generalizing v P with
  | nil => exact ⟨v, rfl, hQ v h0⟩
  | cons a l ih =>
    unfold forR
    rw [Ok_bind]
    refine (hs 0 a v rfl h0).mono fun v1 h1 => ?_
    exact ih (fun k => P (k + 1)) h1 (fun k a v hk hp => hs (k + 1) a v (by simpa using hk) hp) fun v hp => hQ v (by simpa using hp)
def lpQ (nx bk : σ → Prop) (out : τ → Prop) : Lp σ τ → Prop
  | .nx v => nx v
  | .bk v => bk v
  | .out t => out t
@[simp] theorem lpQ_nx {nx bk : σ → Prop} {out : τ → Prop} {v : σ} : lpQ nx bk out (.nx v) = nx v := rfl
@[simp] theorem lpQ_bk {nx bk : σ → Prop} {out : τ → Prop} {v : σ} : lpQ nx bk out (.bk v) = bk v := rfl
@[simp] theorem lpQ_out {nx bk : σ → Prop} {out : τ → Prop} {v : τ} : lpQ nx bk out (.out v) = out v := rfl
theorem forX_inv {l : List ι} {v : σ} {f : ι → σ → R (Lp σ τ)} {Q : σ ⊕ τ → Prop} (P : Nat → σ → Prop) (h0 : P 0 v) (hs : ∀ k a v, l[k]? = some a → P k v → Ok (f a v) (lpQ (P (k + 1)) (fun v => Q (.inl v)) fun t => Q (.inr t))) (hQ : ∀ v, P l.length v → Q (.inl v)) : Ok (forX l v f) Q := by
  induction l generalizing v P with
  | nil => exact ⟨.inl v, rfl, hQ v h0⟩
  | cons a l ih =>
    unfold forX
    rw [Ok_bind]
    refine (hs 0 a v rfl h0).mono fun o h1 => ?_
    cases o with
    | nx v1 => exact ih (fun k => P (k + 1)) h1 (fun k a v hk hp => hs (k + 1) a v (by simpa using hk) hp) fun v hp => hQ v (by simpa using hp)
    | bk v1 => exact ⟨_, rfl, h1⟩
    | out t => exact ⟨_, rfl, h1⟩
/-- nothing leaves the loop -/
theorem forX_all {l : List ι} {f : ι → Unit → R (Lp Unit τ)} (h : ∀ a ∈ l, f a () = .ok (.nx ())) : forX l () f = .ok (.inl ()) := by
  induction l with
  | nil => rfl
  | cons a l ih =>
    unfold forX
    rw [h a List.mem_cons_self, ok_bind]
    exact ih fun b hb => h b (List.mem_cons_of_mem _ hb)
theorem forR_eq {l : List ι} {v : σ} {f : ι → σ → R σ} (g : σ → ι → σ) (P : σ → Prop) (h0 : P v) (h : ∀ a ∈ l, ∀ v, P v → f a v = .ok (g v a) ∧ P (g v a)) : forR l v f = .ok (l.foldl g v) := by
  induction l generalizing v with
  | nil => rfl
  | cons a l ih =>
    unfold forR
    obtain ⟨e, p⟩ := h a List.mem_cons_self v h0
    rw [e, ok_bind, ih p fun b hb => h b (List.mem_cons_of_mem _ hb)]
    rfl
theorem whN_inv {c : σ → R Bool} {f : σ → R σ} {Q : σ → Prop} (P : σ → Prop) (m : σ → Nat) (hs : ∀ v, P v → Ok (c v) fun b => (b = true → Ok (f v) fun v' => P v' ∧ m v' < m v) ∧ (b = false → Q v)) : ∀ n v, P v → m v < n → Ok (whN c f n v) Q
  | 0, v, _, hm => absurd hm (Nat.not_lt_zero _)
  | n + 1, v, hp, hm => by
    unfold whN
    rw [Ok_bind]
    refine (hs v hp).mono fun b h => ?_
    rw [Ok_if]
    refine ⟨fun hb => ?_, fun hb => by rw [Ok_ok]; exact h.2 hb⟩
    rw [Ok_bind]
    exact (h.1 hb).mono fun v' h' => whN_inv P m hs n v' h'.1 (by omega)
theorem whR_inv {v : σ} {c : σ → R Bool} {f : σ → R σ} {Q : σ → Prop} (P : σ → Prop) (m : σ → Nat) (h0 : P v) (hm : m v < 1000000000) (hs : ∀ v, P v → Ok (c v) fun b => (b = true → Ok (f v) fun v' => P v' ∧ m v' < m v) ∧ (b = false → Q v)) : Ok (whR v c f) Q :=
  whN_inv P m hs fuel v h0 (Nat.lt_of_lt_of_le hm (by decide))
theorem whXN_inv {c : σ → R Bool} {f : σ → R (Lp σ τ)} {Q : σ ⊕ τ → Prop} (P : σ → Prop) (m : σ → Nat) (hs : ∀ v, P v → Ok (c v) fun b => (b = true → Ok (f v) (lpQ (fun v' => P v' ∧ m v' < m v) (fun v => Q (.inl v)) fun t => Q (.inr t))) ∧ (b = false → Q (.inl v))) : ∀ n v, P v → m v < n → Ok (whXN c f n v) Q
  | 0, v, _, hm => absurd hm (Nat.not_lt_zero _)
  | n + 1, v, hp, hm => by
    unfold whXN
    rw [Ok_bind]
    refine (hs v hp).mono fun b h => ?_
    rw [Ok_if]
    refine ⟨fun hb => ?_, fun hb => by rw [Ok_ok]; exact h.2 hb⟩
    rw [Ok_bind]
    refine (h.1 hb).mono fun o h' => ?_
    cases o with
    | nx v1 => exact whXN_inv P m hs n v1 h'.1 (by have := h'.2; omega)
    | bk v1 => exact ⟨_, rfl, h'⟩
    | out t => exact ⟨_, rfl, h'⟩
theorem whX_inv {v : σ} {c : σ → R Bool} {f : σ → R (Lp σ τ)} {Q : σ ⊕ τ → Prop} (P : σ → Prop) (m : σ → Nat) (h0 : P v) (hm : m v < 1000000000) (hs : ∀ v, P v → Ok (c v) fun b => (b = true → Ok (f v) (lpQ (fun v' => P v' ∧ m v' < m v) (fun v => Q (.inl v)) fun t => Q (.inr t))) ∧ (b = false → Q (.inl v))) : Ok (whX v c f) Q :=
  whXN_inv P m hs fuel v h0 (Nat.lt_of_lt_of_le hm (by decide))
theorem whN_idx {c : σ → R Bool} {f : σ → R σ} {Q : σ → Prop} (P : Nat → σ → Prop) (N : Nat) (hs : ∀ k v, P k v → Ok (c v) fun b => (b = true → k < N ∧ Ok (f v) (P (k + 1))) ∧ (b = false → Q v)) : ∀ n k v, P k v → N + 1 ≤ n + k → 0 < n → Ok (whN c f n v) Q
  | 0, _, v, _, _, h => absurd h (Nat.not_lt_zero _)
  | n + 1, k, v, hp, hm, _ => by
    unfold whN
    rw [Ok_bind]
    refine (hs k v hp).mono fun b h => ?_
    rw [Ok_if]
    refine ⟨fun hb => ?_, fun hb => by rw [Ok_ok]; exact h.2 hb⟩
    rw [Ok_bind]
    obtain ⟨h1, h2⟩ := h.1 hb
    exact h2.mono fun v' h' => whN_idx P N hs n (k + 1) v' h' (by omega) (by omega)
/-- turn by turn -/
theorem whR_idx {v : σ} {c : σ → R Bool} {f : σ → R σ} {Q : σ → Prop} (P : Nat → σ → Prop) (N : Nat) (hN : N < 1000000000) (h0 : P 0 v) (hs : ∀ k v, P k v → Ok (c v) fun b => (b = true → k < N ∧ Ok (f v) (P (k + 1))) ∧ (b = false → Q v)) : Ok (whR v c f) Q :=
  whN_idx P N hs fuel 0 v h0 (by have : (1000000000 : Nat) ≤ fuel := by decide
                                 omega) (by decide)
theorem whXN_idx {c : σ → R Bool} {f : σ → R (Lp σ τ)} {Q : σ ⊕ τ → Prop} (P : Nat → σ → Prop) (N : Nat) (hs : ∀ k v, P k v → Ok (c v) fun b => (b = true → k < N ∧ Ok (f v) (lpQ (P (k + 1)) (fun v => Q (.inl v)) fun t => Q (.inr t))) ∧ (b = false → Q (.inl v))) : ∀ n k v, P k v → N + 1 ≤ n + k → 0 < n → Ok (whXN c f n v) Q
  | 0, _, v, _, _, h => absurd h (Nat.not_lt_zero _)
  | n + 1, k, v, hp, hm, _ => by
    unfold whXN
    rw [Ok_bind]
    refine (hs k v hp).mono fun b h => ?_
    rw [Ok_if]
    refine ⟨fun hb => ?_, fun hb => by rw [Ok_ok]; exact h.2 hb⟩
    rw [Ok_bind]
    obtain ⟨h1, h2⟩ := h.1 hb
    refine h2.mono fun o h' => ?_
    cases o with
    | nx v1 => exact whXN_idx P N hs n (k + 1) v1 h' (by omega) (by omega)
    | bk v1 => exact ⟨_, rfl, h'⟩
    | out t => exact ⟨_, rfl, h'⟩
theorem whX_idx {v : σ} {c : σ → R Bool} {f : σ → R (Lp σ τ)} {Q : σ ⊕ τ → Prop} (P : Nat → σ → Prop) (N : Nat) (hN : N < 1000000000) (h0 : P 0 v) (hs : ∀ k v, P k v → Ok (c v) fun b => (b = true → k < N ∧ Ok (f v) (lpQ (P (k + 1)) (fun v => Q (.inl v)) fun t => Q (.inr t))) ∧ (b = false → Q (.inl v))) : Ok (whX v c f) Q :=
  whXN_idx P N hs fuel 0 v h0 (by have : (1000000000 : Nat) ≤ fuel := by decide
                                  omega) (by decide)
/-! comprehensions -/
theorem cmpGo_eq {l : List ι} {f : ι → R (Option α)} {g : ι → Option α} (h : ∀ a ∈ l, f a = .ok (g a)) : ∀ acc : List α, acc.length + l.length ≤ 1000000 → cmpGo f l acc = .ok (acc ++ l.filterMap g) := by
  induction l with
  | nil => intro acc _; simp [cmpGo]
  | cons a l ih =>
    intro acc hl
    simp only [List.length_cons] at hl
    unfold cmpGo
    rw [h a List.mem_cons_self]
    cases e : g a with
    | none =>
      simp only
      rw [ih (fun b hb => h b (List.mem_cons_of_mem _ hb)) acc (by omega)]
      simp [e]
    | some b =>
      simp only
      rw [if_pos (by omega), ih (fun b hb => h b (List.mem_cons_of_mem _ hb)) (acc ++ [b]) (by simp; omega)]
      simp [e]
theorem cmpR_eq {l : List ι} {f : ι → R α} {g : ι → α} (hl : l.length ≤ 1000000) (h : ∀ a ∈ l, f a = .ok (g a)) : cmpR l f = .ok (l.map g) := by
  unfold cmpR
  rw [cmpGo_eq (g := fun a => some (g a)) (fun a ha => by rw [h a ha]; rfl) [] (by simpa using hl)]
  simp
theorem cmpI_eq {l : List ι} {c : ι → R Bool} {f : ι → R α} {p : ι → Bool} {g : ι → α} (hl : l.length ≤ 1000000) (hc : ∀ a ∈ l, c a = .ok (p a)) (h : ∀ a ∈ l, p a = true → f a = .ok (g a)) : cmpI l c f = .ok ((l.filter p).map g) := by
  unfold cmpI
  rw [cmpGo_eq (g := fun a => if p a = true then some (g a) else none) (fun a ha => by
    rw [hc a ha, ok_bind]
    by_cases e : p a = true
    · rw [if_pos e, if_pos e, h a ha e]; rfl
    · rw [if_neg e, if_neg e]) [] (by simpa using hl)]
  rw [List.nil_append]
  congr 1
  induction l with
  | nil => rfl
  | cons a l ih =>
    have := ih (by simp only [List.length_cons] at hl; omega) (fun b hb => hc b (List.mem_cons_of_mem _ hb)) (fun b hb => h b (List.mem_cons_of_mem _ hb))
    by_cases e : p a = true <;> simp [e, this]
theorem cmpGo_ok {f : ι → R (Option α)} (P : ι → α → Prop) : ∀ (l : List ι) (acc : List α), acc.length + l.length ≤ 1000000 → (∀ a ∈ l, Ok (f a) fun o => ∃ b, o = some b ∧ P a b) → Ok (cmpGo f l acc) fun m => ∃ m', m = acc ++ m' ∧ m'.length = l.length ∧ ∀ (k : Nat) (a : ι) (b : α), l[k]? = some a → m'[k]? = some b → P a b
  | [], acc, _, _ => ⟨acc, rfl, [], by simp, rfl, by simp⟩
  | a :: l, acc, hl, h => by
    simp only [List.length_cons] at hl
    obtain ⟨o, e, b, rfl, hp⟩ := h a List.mem_cons_self
    unfold cmpGo
    rw [e]
    simp only
    rw [if_pos (by omega)]
    refine (cmpGo_ok P l (acc ++ [b]) (by simp; omega) fun c hc => h c (List.mem_cons_of_mem _ hc)).mono ?_
    rintro m ⟨m', rfl, h1, h2⟩
    refine ⟨b :: m', by simp, by simp [h1], fun k c d h3 h4 => ?_⟩
    cases k with
    | zero => cases h3; cases h4; exact hp
    | succ k => exact h2 k c d (by simpa using h3) (by simpa using h4)
theorem cmpR_ok {l : List ι} {f : ι → R α} {Q : List α → Prop} (hl : l.length ≤ 1000000) (P : ι → α → Prop) (h : ∀ a ∈ l, Ok (f a) (P a)) (hQ : ∀ m : List α, m.length = l.length → (∀ (k : Nat) (a : ι) (b : α), l[k]? = some a → m[k]? = some b → P a b) → Q m) : Ok (cmpR l f) Q := by
  refine (cmpGo_ok P l [] (by simpa using hl) fun a ha => ?_).mono ?_
  · rw [Ok_bind]
    exact (h a ha).mono fun b hb => by rw [Ok_ok]; exact ⟨b, rfl, hb⟩
  · rintro m ⟨m', rfl, h1, h2⟩
    exact hQ _ h1 h2
end
end Dv

namespace Dv
open Enc (enc)
open PySem

/-! ### machines -/
abbrev Mach := List (List (Int × Int))
/-- n states, a asks, each next state one of them -/
structure Wf (M : Mach) (n a : Nat) : Prop where
  len : M.length = n
  rows : ∀ r ∈ M, r.length = a ∧ ∀ p ∈ r, 0 ≤ p.2 ∧ p.2 < (n : Int)
/-- a state, an ask -/
def Nm (n : Nat) (s : Int) : Prop := 0 ≤ s ∧ s < (n : Int)
def look (M : Mach) (s x : Int) : Int × Int := (M.getD s.toNat []).getD x.toNat (0, 0)
def outs (M : Mach) : Int → List Int → List Int
  | _, [] => []
  | s, x :: p => (look M s x).1 :: outs M (look M s x).2 p
def ends (M : Mach) : Int → List Int → Int
  | s, [] => s
  | s, x :: p => ends M (look M s x).2 p
def Pr (a : Nat) (w : List Int) : Prop := ∀ x ∈ w, Nm a x
section
variable {M : Mach} {n a : Nat} {s t x : Int} {w : List Int}
theorem outs_len : ∀ (p : List Int) (s : Int), (outs M s p).length = p.length
  | [], _ => rfl
  | x :: p, s => by simp [outs, outs_len p]
theorem outs_app : ∀ (p q : List Int) (s : Int), outs M s (p ++ q) = outs M s p ++ outs M (ends M s p) q
  | [], _, _ => rfl
  | x :: p, q, s => by simp [outs, ends, outs_app p q]
theorem ends_app : ∀ (p q : List Int) (s : Int), ends M s (p ++ q) = ends M (ends M s p) q
  | [], _, _ => rfl
  | x :: p, q, s => by simp [ends, ends_app p q]
theorem Pr.nil : Pr a [] := by simp [Pr]
theorem Pr.cons (h : Nm a x) (hw : Pr a w) : Pr a (x :: w) := by
  intro y hy
  rcases List.mem_cons.mp hy with rfl | hy
  · exact h
  · exact hw y hy
theorem Pr.head (h : Pr a (x :: w)) : Nm a x := h x List.mem_cons_self
theorem Pr.tail (h : Pr a (x :: w)) : Pr a w := fun y hy => h y (List.mem_cons_of_mem _ hy)
theorem Pr.app {v : List Int} (h : Pr a w) (h2 : Pr a v) : Pr a (w ++ v) := fun y hy => (List.mem_append.mp hy).elim (h y) (h2 y)
theorem Wf.row (h : Wf M n a) (hs : Nm n s) : atR M s = .ok (M.getD s.toNat []) ∧ (M.getD s.toNat []).length = a ∧ ∀ p ∈ M.getD s.toNat [], 0 ≤ p.2 ∧ p.2 < (n : Int) := by
  obtain ⟨h0, h1⟩ := hs
  have hl : s.toNat < M.length := by rw [h.len]; omega
  have e : M.getD s.toNat [] = M[s.toNat] := by rw [List.getD_eq_getElem?_getD, List.getElem?_eq_getElem hl]; rfl
  refine ⟨atR_getD [] h0 (by rw [h.len]; exact h1), ?_⟩
  rw [e]
  exact h.rows _ (List.getElem_mem hl)
theorem Wf.at1 (h : Wf M n a) (hs : Nm n s) : atR M s = .ok (M.getD s.toNat []) := (h.row hs).1
theorem Wf.at2 (h : Wf M n a) (hs : Nm n s) (hx : Nm a x) : atR (M.getD s.toNat []) x = .ok (look M s x) := by
  obtain ⟨_, hr, _⟩ := h.row hs
  exact atR_getD (0, 0) hx.1 (by rw [hr]; exact hx.2)
theorem Wf.nxt (h : Wf M n a) (hs : Nm n s) (hx : Nm a x) : Nm n (look M s x).2 := by
  obtain ⟨_, hr, hp⟩ := h.row hs
  have hl : x.toNat < (M.getD s.toNat []).length := by rw [hr]; have := hx.1; have := hx.2; omega
  have e : look M s x = (M.getD s.toNat [])[x.toNat] := by
    unfold look
    rw [List.getD_eq_getElem?_getD (l := M.getD s.toNat []), List.getElem?_eq_getElem hl]
    rfl
  rw [e]
  exact hp _ (List.getElem_mem hl)
theorem Wf.ends (h : Wf M n a) : ∀ (p : List Int) {s : Int}, Nm n s → Pr a p → Nm n (ends M s p)
  | [], _, hs, _ => hs
  | x :: p, s, hs, hp => h.ends p (h.nxt hs hp.head) hp.tail
theorem Wf.look_get (h : Wf M n a) {i j : Nat} {r : List (Int × Int)} {p : Int × Int} (hr : M[i]? = some r) (hp : r[j]? = some p) : look M (i : Int) (j : Int) = p := by
  unfold look
  simp only [Int.toNat_natCast, List.getD_eq_getElem?_getD, hr, Option.getD_some, hp]
end
/-! ### the first probe that tells two states apart -/
def stepD (M : Mach) (T : Int → Int → Option (List Int)) (s t : Int) : List Int → Option (List Int)
  | [] => none
  | x :: xs => if (look M s x).1 = (look M t x).1 then match T (look M s x).2 (look M t x).2 with
      | some q => some (x :: q)
      | none => stepD M T s t xs
    else some [x]
def fst (M : Mach) (a : Nat) : Nat → Int → Int → Option (List Int)
  | 0, _, _ => none
  | k + 1, s, t => match fst M a k s t with
    | some p => some p
    | none => stepD M (fst M a k) s t (rngL 0 a)
theorem rngL_zero {i : Int} : rngL i 0 = [] := rfl
theorem rngL_succ {i : Int} {n : Nat} : rngL i (n + 1) = i :: rngL (i + 1) n := by
  unfold rngL
  rw [List.range_succ_eq_map, List.map_cons, List.map_map]
  simp only [Int.natCast_zero, Int.add_zero, List.cons.injEq, true_and]
  congr 1
  funext k
  simp only [Function.comp, Nat.succ_eq_add_one]
  omega
/-- shorter, or as long and less at the first unlike place -/
def SL (p q : List Int) : Prop := p.length < q.length ∨ (p.length = q.length ∧ ltL p q = true)
theorem ltL_irr : ∀ p, ltL p p = false
  | [] => rfl
  | x :: p => by simp [ltL, ltL_irr p]
theorem ltL_tri : ∀ p q, ltL p q = true ∨ p = q ∨ ltL q p = true
  | [], [] => .inr (.inl rfl)
  | [], _ :: _ => .inl rfl
  | _ :: _, [] => .inr (.inr rfl)
  | x :: p, y :: q => by
    rcases Int.lt_trichotomy x y with h | h | h
    · left; simp [ltL, h]
    · subst h
      rcases ltL_tri p q with h | h | h
      · left; simp [ltL, h]
      · right; left; rw [h]
      · right; right; simp [ltL, h]
    · right; right; simp [ltL, h]
theorem leL_lt : ∀ p q, leL p q = !ltL q p
  | [], [] => rfl
  | [], _ :: _ => rfl
  | _ :: _, [] => rfl
  | x :: p, y :: q => by
    simp only [leL, ltL, leL_lt p q]
    rcases Int.lt_trichotomy x y with h | h | h
    · have h1 : ¬ y < x := by omega
      have h2 : y ≠ x := by omega
      simp [h, h1, h2]
    · subst h; simp
    · have h1 : ¬ x < y := by omega
      have h2 : x ≠ y := by omega
      simp [h, h1, h2]
theorem ltL_asym : ∀ p q, ltL p q = true → ltL q p = false
  | [], [], h => by simp [ltL] at h
  | [], _ :: _, _ => rfl
  | _ :: _, [], h => by simp [ltL] at h
  | x :: p, y :: q, h => by
    simp only [ltL, Bool.or_eq_true, Bool.and_eq_true, decide_eq_true_eq] at h
    simp only [ltL, Bool.or_eq_false_iff, Bool.and_eq_false_iff, decide_eq_false_iff_not]
    rcases h with h | ⟨rfl, h⟩
    · exact ⟨by omega, .inl (by omega)⟩
    · exact ⟨by omega, .inr (ltL_asym p q h)⟩
section
variable {M : Mach} {n a : Nat} {T : Int → Int → Option (List Int)} {s t : Int}
theorem stepD_none {xs : List Int} : stepD M T s t xs = none ↔ ∀ x ∈ xs, (look M s x).1 = (look M t x).1 ∧ T (look M s x).2 (look M t x).2 = none := by
  induction xs with
  | nil => simp [stepD]
  | cons x xs ih =>
    unfold stepD
    by_cases h : (look M s x).1 = (look M t x).1
    · rw [if_pos h]
      cases e : T (look M s x).2 (look M t x).2 with
      | none => simp [ih, h, e]
      | some q => simp [e]
    · rw [if_neg h]
      simp [h]
theorem stepD_some {lo : Int} {m : Nat} {p : List Int} (h : stepD M T s t (rngL lo m) = some p) : ∃ x, lo ≤ x ∧ x < lo + m ∧ (∀ y, lo ≤ y → y < x → (look M s y).1 = (look M t y).1 ∧ T (look M s y).2 (look M t y).2 = none) ∧
    (((look M s x).1 ≠ (look M t x).1 ∧ p = [x]) ∨ ((look M s x).1 = (look M t x).1 ∧ ∃ q, T (look M s x).2 (look M t x).2 = some q ∧ p = x :: q)) := by
  induction m generalizing lo with
  | zero => simp [rngL_zero, stepD] at h
  | succ m ih =>
    rw [rngL_succ] at h
    unfold stepD at h
    by_cases e : (look M s lo).1 = (look M t lo).1
    · rw [if_pos e] at h
      cases e2 : T (look M s lo).2 (look M t lo).2 with
      | none =>
        rw [e2] at h
        obtain ⟨x, h1, h2, h3, h4⟩ := ih h
        refine ⟨x, by omega, by omega, fun y hy hyx => ?_, h4⟩
        by_cases hl : y = lo
        · subst hl; exact ⟨e, e2⟩
        · exact h3 y (by omega) hyx
      | some q =>
        rw [e2] at h
        exact ⟨lo, by omega, by omega, fun y _ _ => by omega, .inr ⟨e, q, e2, (Option.some.inj h).symm⟩⟩
    · rw [if_neg e] at h
      exact ⟨lo, by omega, by omega, fun y _ _ => by omega, .inl ⟨e, (Option.some.inj h).symm⟩⟩
theorem fst_succ {k : Nat} : fst M a (k + 1) s t = match fst M a k s t with
    | some p => some p
    | none => stepD M (fst M a k) s t (rngL 0 a) := rfl
theorem fst_keep {k : Nat} {p : List Int} (h : fst M a k s t = some p) : ∀ j, fst M a (k + j) s t = some p
  | 0 => h
  | j + 1 => by rw [← Nat.add_assoc, fst_succ, fst_keep h j]
theorem fst_le {k j : Nat} {p : List Int} (h : fst M a k s t = some p) (hj : k ≤ j) : fst M a j s t = some p := by
  obtain ⟨i, rfl⟩ := Nat.exists_eq_add_of_le hj
  exact fst_keep h i
theorem stepD_comm (hT : ∀ s t, T s t = T t s) (xs : List Int) : stepD M T s t xs = stepD M T t s xs := by
  induction xs with
  | nil => rfl
  | cons x xs ih =>
    unfold stepD
    by_cases h : (look M s x).1 = (look M t x).1
    · rw [if_pos h, if_pos h.symm, hT, ih]
    · rw [if_neg h, if_neg fun e => h e.symm]
theorem fst_comm : ∀ (k : Nat) (s t : Int), fst M a k s t = fst M a k t s
  | 0, _, _ => rfl
  | k + 1, s, t => by
    rw [fst_succ, fst_succ, fst_comm k s t, stepD_comm (fst_comm k)]
theorem fst_self : ∀ (k : Nat) (s : Int), fst M a k s s = none
  | 0, _ => rfl
  | k + 1, s => by
    rw [fst_succ, fst_self k s]
    exact stepD_none.mpr fun x _ => ⟨rfl, fst_self k _⟩
/-- what is told is a probe that both answer alike but for the last ask -/
theorem fst_sound (wf : Wf M n a) : ∀ (k : Nat) {s t : Int} {p : List Int}, Nm n s → Nm n t → fst M a k s t = some p → Pr a p ∧ p.length ≤ k ∧ ∃ q x, p = q ++ [x] ∧ outs M s q = outs M t q ∧ (look M (ends M s q) x).1 ≠ (look M (ends M t q) x).1
  | 0, _, _, _, _, _, h => by cases h
  | k + 1, s, t, p, hs, ht, h => by
    rw [fst_succ] at h
    cases e : fst M a k s t with
    | some p' =>
      rw [e] at h
      cases h
      obtain ⟨h1, h2, h3⟩ := fst_sound wf k hs ht e
      exact ⟨h1, by omega, h3⟩
    | none =>
      rw [e] at h
      obtain ⟨x, x0, x1, _, h4⟩ := stepD_some h
      have hx : Nm a x := ⟨x0, by omega⟩
      rcases h4 with ⟨h4, rfl⟩ | ⟨h4, q, h5, rfl⟩
      · exact ⟨Pr.nil.cons hx, by simp, [], x, rfl, rfl, h4⟩
      · obtain ⟨g1, g2, q', y, rfl, g3, g4⟩ := fst_sound wf k (wf.nxt hs hx) (wf.nxt ht hx) h5
        refine ⟨g1.cons hx, by simp only [List.length_cons]; omega, x :: q', y, rfl, ?_, g4⟩
        simp only [outs, h4, g3]
theorem fst_diff (wf : Wf M n a) {k : Nat} {p : List Int} (hs : Nm n s) (ht : Nm n t) (h : fst M a k s t = some p) : outs M s p ≠ outs M t p := by
  obtain ⟨_, _, q, x, rfl, h1, h2⟩ := fst_sound wf k hs ht h
  intro e
  rw [outs_app, outs_app] at e
  have := (List.append_inj e (by rw [outs_len, outs_len])).2
  simp only [outs, List.cons.injEq, and_true] at this
  exact h2 this
theorem fst_complete (wf : Wf M n a) : ∀ (k : Nat) {s t : Int} {w : List Int}, fst M a k s t = none → Pr a w → w.length ≤ k → outs M s w = outs M t w
  | _, _, _, [], _, _, _ => rfl
  | 0, _, _, _ :: _, _, _, h => by simp at h
  | k + 1, s, t, x :: w, h, hw, hl => by
    rw [fst_succ] at h
    cases e : fst M a k s t with
    | some p' => rw [e] at h; cases h
    | none =>
      rw [e] at h
      have hx := hw.head
      have := stepD_none.mp h x (rngL_mem.mpr ⟨hx.1, by have := hx.2; omega⟩)
      simp only [List.length_cons] at hl
      simp only [outs, this.1, List.cons.injEq, true_and]
      exact fst_complete wf k this.2 hw.tail (by omega)
/-- no unlike answered probe comes before the one told -/
theorem fst_min (wf : Wf M n a) : ∀ (k : Nat) {s t : Int} {p w : List Int}, Nm n s → Nm n t → fst M a k s t = some p → Pr a w → outs M s w ≠ outs M t w → p.length < w.length ∨ (p.length = w.length ∧ ltL w p = false)
  | 0, _, _, _, _, _, _, h, _, _ => by cases h
  | k + 1, s, t, p, w, hs, ht, h, hw, hd => by
    rw [fst_succ] at h
    cases e : fst M a k s t with
    | some p' => rw [e] at h; cases h; exact fst_min wf k hs ht e hw hd
    | none =>
      have hl : k < w.length := by
        by_cases hl : w.length ≤ k
        · exact absurd (fst_complete wf k e hw hl) hd
        · omega
      have hk := (fst_sound wf (k + 1) hs ht h).2.1
      rw [e] at h
      rcases Nat.lt_or_ge p.length w.length with g | g
      · exact .inl g
      refine .inr ⟨by omega, ?_⟩
      obtain ⟨x, x0, x1, hb, h4⟩ := stepD_some h
      cases w with
      | nil => simp at hl
      | cons y w =>
        have hy := hw.head
        simp only [List.length_cons] at hl g
        have hwl : w.length = k := by omega
        rcases Int.lt_trichotomy y x with c | c | c
        · obtain ⟨b1, b2⟩ := hb y hy.1 c
          refine absurd ?_ hd
          simp only [outs, b1, List.cons.injEq, true_and]
          exact fst_complete wf k b2 hw.tail (by omega)
        · subst c
          rcases h4 with ⟨h4, rfl⟩ | ⟨h4, q, h5, rfl⟩
          · simp only [List.length_singleton] at g
            have : w = [] := List.length_eq_zero_iff.mp (by omega)
            subst this
            simp [ltL]
          · have hd2 : outs M (look M s y).2 w ≠ outs M (look M t y).2 w := fun z => hd (by simp only [outs, h4, z])
            have := fst_min wf k (wf.nxt hs hy) (wf.nxt ht hy) h5 hw.tail hd2
            simp only [List.length_cons] at g hk
            rcases this with g2 | ⟨_, g2⟩
            · omega
            · simp [ltL, g2]
        · have : ∃ p', p = x :: p' := by
            rcases h4 with ⟨_, rfl⟩ | ⟨_, q, _, rfl⟩
            · exact ⟨_, rfl⟩
            · exact ⟨_, rfl⟩
          obtain ⟨p', rfl⟩ := this
          simp only [ltL, Bool.or_eq_false_iff, Bool.and_eq_false_iff, decide_eq_false_iff_not]
          exact ⟨by omega, .inl (by omega)⟩
/-- nothing new once: nothing new ever -/
theorem fst_stable (wf : Wf M n a) {k : Nat} (h : ∀ s t, Nm n s → Nm n t → fst M a k s t = none → stepD M (fst M a k) s t (rngL 0 a) = none) : ∀ j s t, Nm n s → Nm n t → fst M a (k + j) s t = fst M a k s t
  | 0, _, _, _, _ => rfl
  | j + 1, s, t, hs, ht => by
    rw [← Nat.add_assoc, fst_succ, fst_stable wf h j s t hs ht]
    cases e : fst M a k s t with
    | some p => rfl
    | none =>
      simp only
      refine stepD_none.mpr fun x hx => ?_
      have hx2 : Nm a x := by have := rngL_mem.mp hx; exact ⟨this.1, by omega⟩
      have := stepD_none.mp (h s t hs ht e) x hx
      exact ⟨this.1, by rw [fst_stable wf h j _ _ (wf.nxt hs hx2) (wf.nxt ht hx2)]; exact this.2⟩
/-- told alike by probes of so many asks: an equivalence -/
theorem fst_iff (wf : Wf M n a) {k : Nat} (hs : Nm n s) (ht : Nm n t) : fst M a k s t = none ↔ ∀ w, Pr a w → w.length ≤ k → outs M s w = outs M t w := by
  refine ⟨fun h w hw hl => fst_complete wf k h hw hl, fun h => ?_⟩
  cases e : fst M a k s t with
  | none => rfl
  | some p =>
    obtain ⟨h1, h2, _⟩ := fst_sound wf k hs ht e
    exact absurd (h p h1 h2) (fst_diff wf hs ht e)
theorem fst_trans (wf : Wf M n a) {k : Nat} {u : Int} (hs : Nm n s) (ht : Nm n t) (hu : Nm n u) (h1 : fst M a k s t = none) (h2 : fst M a k t u = none) : fst M a k s u = none :=
  (fst_iff wf hs hu).mpr fun w hw hl => ((fst_iff wf hs ht).mp h1 w hw hl).trans ((fst_iff wf ht hu).mp h2 w hw hl)
/-- the least states of the classes -/
def heads (M : Mach) (a n k : Nat) : List Nat := (List.range n).filter fun s => decide (∀ t : Nat, t < s → fst M a k (t : Int) (s : Int) ≠ none)
theorem heads_len {k : Nat} : (heads M a n k).length ≤ n := by
  have := List.length_filter_le (fun s => decide (∀ t : Nat, t < s → fst M a k (t : Int) (s : Int) ≠ none)) (List.range n)
  simpa [heads] using this
theorem filter_le {α : Type} {p q : α → Bool} : ∀ {l : List α}, (∀ x ∈ l, p x = true → q x = true) → (l.filter p).length ≤ (l.filter q).length
  | [], _ => by simp
  | x :: l, h => by
    have ih := filter_le (p := p) (q := q) (l := l) fun y hy => h y (List.mem_cons_of_mem _ hy)
    cases hp : p x with
    | false => cases hq : q x <;> simp [hp, hq] <;> omega
    | true => simp [hp, h x List.mem_cons_self hp]; exact ih
theorem filter_lt {α : Type} {p q : α → Bool} : ∀ {l : List α} {m : α}, (∀ x ∈ l, p x = true → q x = true) → m ∈ l → p m = false → q m = true → (l.filter p).length < (l.filter q).length
  | [], _, _, hm, _, _ => by cases hm
  | x :: l, m, h, hm, hp, hq => by
    have hl := fun y (hy : y ∈ l) => h y (List.mem_cons_of_mem _ hy)
    rcases List.mem_cons.mp hm with rfl | hm
    · have := filter_le hl
      simp [hp, hq]; omega
    · have ih := filter_lt hl hm hp hq
      cases hp : p x with
      | false => cases hq : q x <;> simp [hp, hq] <;> omega
      | true => simp [hp, h x List.mem_cons_self hp]; exact ih
theorem nat_min {P : Nat → Prop} (h : ∃ k, P k) : ∃ k, P k ∧ ∀ j, j < k → ¬ P j := by
  obtain ⟨k, hk⟩ := h
  induction k using Nat.strongRecOn with
  | ind k ih =>
    by_cases h : ∃ j, j < k ∧ P j
    · obtain ⟨j, hj, pj⟩ := h
      exact ih j hj pj
    · exact ⟨k, hk, fun j hj pj => h ⟨j, hj, pj⟩⟩
theorem heads_grow (wf : Wf M n a) {k : Nat} {s t : Nat} (hs : s < n) (ht : t < n) (h1 : fst M a k (s : Int) (t : Int) = none) (h2 : fst M a (k + 1) (s : Int) (t : Int) ≠ none) : (heads M a n k).length < (heads M a n (k + 1)).length := by
  have nm : ∀ {i : Nat}, i < n → Nm n (i : Int) := fun h => ⟨by omega, by omega⟩
  -- the least of the class
  obtain ⟨l, ⟨hl, hls⟩, hlm⟩ := nat_min (P := fun i => i < n ∧ fst M a k (i : Int) (s : Int) = none) ⟨s, hs, fst_self _ _⟩
  -- the least that is unlike it
  have hex : ∃ i, i < n ∧ fst M a k (i : Int) (s : Int) = none ∧ fst M a (k + 1) (l : Int) (i : Int) ≠ none := by
    by_cases c : fst M a (k + 1) (l : Int) (s : Int) = none
    · refine ⟨t, ht, by rw [fst_comm]; exact h1, fun z => h2 ?_⟩
      rw [fst_comm] at c
      exact fst_trans wf (nm hs) (nm hl) (nm ht) c z
    · exact ⟨s, hs, fst_self _ _, c⟩
  obtain ⟨m, ⟨hm, hms, hml⟩, hmm⟩ := nat_min hex
  have hlm2 : l < m := by
    rcases Nat.lt_trichotomy l m with c | c | c
    · exact c
    · subst c; exact absurd (fst_self _ _) hml
    · exact absurd ⟨hm, hms⟩ (hlm m c)
  refine filter_lt (m := m) (fun i hi hp => ?_) (List.mem_range.mpr hm) ?_ ?_
  · simp only [decide_eq_true_eq] at hp ⊢
    intro j hj z
    refine hp j hj ?_
    have hi := List.mem_range.mp hi
    exact (fst_iff wf (nm (by omega)) (nm hi)).mpr fun w hw hwl => (fst_iff wf (nm (by omega)) (nm hi)).mp z w hw (by omega)
  · simp only [decide_eq_false_iff_not]
    intro z
    refine z l hlm2 ?_
    rw [fst_comm] at hms
    exact fst_trans wf (nm hl) (nm hs) (nm hm) hls hms
  · simp only [decide_eq_true_eq]
    intro j hj z
    have hjn : j < n := by omega
    have hjs : fst M a k (j : Int) (s : Int) = none := by
      have z2 : fst M a k (j : Int) (m : Int) = none := (fst_iff wf (nm hjn) (nm hm)).mpr fun w hw hwl => (fst_iff wf (nm hjn) (nm hm)).mp z w hw (by omega)
      exact fst_trans wf (nm hjn) (nm hm) (nm hs) z2 hms
    have hjl : fst M a (k + 1) (l : Int) (j : Int) = none := by
      cases e : fst M a (k + 1) (l : Int) (j : Int) with
      | none => rfl
      | some p => exact absurd ⟨hjn, hjs, by rw [e]; exact fun z => nomatch z⟩ (hmm j hj)
    exact hml (fst_trans wf (nm hl) (nm hjn) (nm hm) hjl z)
/-- as many classes as asks, and one -/
theorem heads_ge (wf : Wf M n a) (hn : 0 < n) : ∀ (k : Nat), (∃ s t : Nat, s < n ∧ t < n ∧ fst M a k (s : Int) (t : Int) ≠ none ∧ ∀ j, j < k → fst M a j (s : Int) (t : Int) = none) → k + 1 ≤ (heads M a n k).length := by
  intro k hk
  have base : 1 ≤ (heads M a n 0).length := by
    have : 0 ∈ heads M a n 0 := by
      unfold heads
      rw [List.mem_filter]
      exact ⟨List.mem_range.mpr hn, by simp⟩
    exact List.length_pos_of_mem this
  have grow : ∀ j, j < k → (heads M a n j).length < (heads M a n (j + 1)).length := by
    intro j hj
    by_cases c : ∃ s t : Nat, s < n ∧ t < n ∧ fst M a j (s : Int) (t : Int) = none ∧ fst M a (j + 1) (s : Int) (t : Int) ≠ none
    · obtain ⟨s, t, hs, ht, h1, h2⟩ := c
      exact heads_grow wf hs ht h1 h2
    · exfalso
      have st := fst_stable wf (k := j) fun s t hs ht e => by
        obtain ⟨s', rfl⟩ := Int.eq_ofNat_of_zero_le hs.1
        obtain ⟨t', rfl⟩ := Int.eq_ofNat_of_zero_le ht.1
        cases e2 : stepD M (fst M a j) (s' : Int) (t' : Int) (rngL 0 a) with
        | none => rfl
        | some p =>
          refine absurd ⟨s', t', by have := hs.2; omega, by have := ht.2; omega, e, ?_⟩ c
          rw [fst_succ, e]
          simp only [e2]
          exact fun z => nomatch z
      obtain ⟨s, t, hs, ht, h1, h2⟩ := hk
      obtain ⟨i, rfl⟩ := Nat.exists_eq_add_of_lt hj
      have := st (i + 1) (s : Int) (t : Int) ⟨by omega, by omega⟩ ⟨by omega, by omega⟩
      rw [h2 j (by omega), ← Nat.add_assoc] at this
      exact h1 this
  have all : ∀ j, j ≤ k → j + 1 ≤ (heads M a n j).length := by
    intro j
    induction j with
    | zero => intro _; exact base
    | succ j ih =>
      intro hj
      have := ih (by omega)
      have := grow j (by omega)
      omega
  exact all k (Nat.le_refl k)
theorem fst_short (wf : Wf M n a) {k : Nat} {p : List Int} (hs : Nm n s) (ht : Nm n t) (h : fst M a k s t = some p) : p.length < n ∧ fst M a p.length s t = some p := by
  obtain ⟨j, hj, hm⟩ := nat_min (P := fun j => fst M a j s t ≠ none) ⟨k, by rw [h]; exact fun z => nomatch z⟩
  cases e : fst M a j s t with
  | none => exact absurd e hj
  | some q =>
    have hjk : j ≤ k := by
      rcases Nat.lt_or_ge k j with c | c
      · exact absurd (by rw [h]; exact fun z => nomatch z) (hm k c)
      · exact c
    have : q = p := by
      have := fst_le e hjk
      rw [h] at this
      exact (Option.some.inj this).symm
    subst this
    obtain ⟨s', rfl⟩ := Int.eq_ofNat_of_zero_le hs.1
    obtain ⟨t', rfl⟩ := Int.eq_ofNat_of_zero_le ht.1
    have hsn := hs.2
    have htn := ht.2
    have g := heads_ge wf (by omega) j ⟨s', t', by omega, by omega, hj, fun i hi => by
      cases e3 : fst M a i (s' : Int) (t' : Int) with
      | none => rfl
      | some r => exact absurd (by rw [e3]; exact fun z => nomatch z) (hm i hi)⟩
    have g2 := heads_len (M := M) (a := a) (n := n) (k := j)
    have ql := (fst_sound wf j hs ht e).2.1
    refine ⟨by omega, ?_⟩
    rcases Nat.lt_or_ge q.length j with c | c
    · exfalso
      have z : fst M a q.length (s' : Int) (t' : Int) = none := by
        cases e3 : fst M a q.length (s' : Int) (t' : Int) with
        | none => rfl
        | some r => exact absurd (by rw [e3]; exact fun z => nomatch z) (hm _ c)
      exact fst_diff wf hs ht e (fst_complete wf _ z (fst_sound wf j hs ht e).1 (Nat.le_refl _))
    · have : q.length = j := by omega
      rw [this]; exact e
/-- the table: what is told when all is told -/
def tell (M : Mach) (a n : Nat) (s t : Int) : Option (List Int) := fst M a n s t
theorem tell_all (wf : Wf M n a) (hs : Nm n s) (ht : Nm n t) {k : Nat} (hk : n ≤ k + 1) : fst M a k s t = tell M a n s t := by
  unfold tell
  cases e : fst M a n s t with
  | some p =>
    obtain ⟨h1, h2⟩ := fst_short wf hs ht e
    exact fst_le h2 (by omega)
  | none =>
    cases e2 : fst M a k s t with
    | none => rfl
    | some p =>
      obtain ⟨h1, h2⟩ := fst_short wf hs ht e2
      rw [fst_le h2 (by omega)] at e
      cases e
theorem tell_none (wf : Wf M n a) (hs : Nm n s) (ht : Nm n t) : tell M a n s t = none ↔ ∀ w, Pr a w → outs M s w = outs M t w := by
  constructor
  · intro h w hw
    have : fst M a (n + w.length) s t = none := by rw [tell_all wf hs ht (by omega)]; exact h
    exact fst_complete wf _ this hw (by omega)
  · intro h
    exact (fst_iff wf hs ht).mpr fun w hw _ => h w hw
theorem tell_step (wf : Wf M n a) (hs : Nm n s) (ht : Nm n t) (h : tell M a n s t = none) {x : Int} (hx : Nm a x) : (look M s x).1 = (look M t x).1 ∧ tell M a n (look M s x).2 (look M t x).2 = none := by
  have h := (tell_none wf hs ht).mp h
  refine ⟨?_, (tell_none wf (wf.nxt hs hx) (wf.nxt ht hx)).mpr fun w hw => ?_⟩
  · have := h [x] (Pr.nil.cons hx)
    simpa [outs] using this
  · have := h (x :: w) (hw.cons hx)
    simp only [outs, List.cons.injEq] at this
    exact this.2
theorem tell_sound (wf : Wf M n a) {p : List Int} (hs : Nm n s) (ht : Nm n t) (h : tell M a n s t = some p) : Pr a p ∧ p.length < n ∧ 0 < p.length ∧ ∃ q x, p = q ++ [x] ∧ outs M s q = outs M t q ∧ (look M (ends M s q) x).1 ≠ (look M (ends M t q) x).1 := by
  obtain ⟨h1, _, q, x, h3, h4⟩ := fst_sound wf n hs ht h
  exact ⟨h1, (fst_short wf hs ht h).1, by rw [h3]; simp, q, x, h3, h4⟩
theorem tell_min (wf : Wf M n a) {w : List Int} (hs : Nm n s) (ht : Nm n t) (hw : Pr a w) (h : outs M s w ≠ outs M t w) : ∃ p, tell M a n s t = some p ∧ Pr a p ∧ (p.length < w.length ∨ (p.length = w.length ∧ ltL w p = false)) := by
  cases e : tell M a n s t with
  | none => exact absurd ((tell_none wf hs ht).mp e w hw) h
  | some p => exact ⟨p, rfl, (tell_sound wf hs ht e).1, fst_min wf n hs ht e hw h⟩
theorem tell_diff (wf : Wf M n a) {p : List Int} (hs : Nm n s) (ht : Nm n t) (h : tell M a n s t = some p) : outs M s p ≠ outs M t p := fst_diff wf hs ht h
theorem tell_comm : tell M a n s t = tell M a n t s := fst_comm n s t
theorem tell_self : tell M a n s s = none := fst_self n s
theorem tell_trans (wf : Wf M n a) {u : Int} (hs : Nm n s) (ht : Nm n t) (hu : Nm n u) (h1 : tell M a n s t = none) (h2 : tell M a n t u = none) : tell M a n s u = none := fst_trans wf hs ht hu h1 h2
end
end Dv

namespace Dv
open Enc (enc)
open PySem

/-! ### the first probes that lead to the states -/
theorem ltL_app : ∀ {w w' : List Int} (u v : List Int), w.length = w'.length → ltL w w' = true → ltL (w ++ u) (w' ++ v) = true
  | [], [], _, _, _, h => by simp [ltL] at h
  | [], _ :: _, _, _, h, _ => by simp at h
  | _ :: _, [], _, _, h, _ => by simp at h
  | x :: p, y :: q, u, v, hl, h => by
    simp only [ltL, Bool.or_eq_true, Bool.and_eq_true, decide_eq_true_eq, List.cons_append] at h ⊢
    rcases h with h | ⟨h1, h2⟩
    · exact .inl h
    · exact .inr ⟨h1, ltL_app u v (by simpa using hl) h2⟩
theorem ltL_snoc {x y : Int} (h : y < x) : ∀ w : List Int, ltL (w ++ [y]) (w ++ [x]) = true
  | [] => by simp [ltL, h]
  | z :: w => by simp [ltL, ltL_snoc h w]
theorem SL.app {w w' : List Int} (h : SL w w') (x y : Int) : SL (w ++ [y]) (w' ++ [x]) := by
  rcases h with h | ⟨h1, h2⟩
  · left; simp; exact h
  · right; exact ⟨by simp [h1], ltL_app _ _ h1 h2⟩
theorem SL.snoc {w : List Int} {x y : Int} (h : y < x) : SL (w ++ [y]) (w ++ [x]) := .inr ⟨by simp, ltL_snoc h w⟩
theorem SL.irr {w : List Int} : ¬ SL w w := by
  rintro (h | ⟨_, h⟩)
  · omega
  · rw [ltL_irr] at h; cases h
theorem SL.asym {p q : List Int} (h : SL p q) : ¬ SL q p := by
  rintro (g | ⟨g1, g2⟩)
  · rcases h with h | ⟨h, _⟩ <;> omega
  · rcases h with h | ⟨h1, h2⟩
    · omega
    · rw [ltL_asym _ _ h2] at g2; cases g2
theorem ltL_trans : ∀ {p q r : List Int}, ltL p q = true → ltL q r = true → ltL p r = true
  | [], [], _, h, _ => by simp [ltL] at h
  | [], _ :: _, [], _, h => by simp [ltL] at h
  | [], _ :: _, _ :: _, _, _ => rfl
  | _ :: _, [], _, h, _ => by simp [ltL] at h
  | _ :: _, _ :: _, [], _, h => by simp [ltL] at h
  | x :: p, y :: q, z :: r, h1, h2 => by
    simp only [ltL, Bool.or_eq_true, Bool.and_eq_true, decide_eq_true_eq] at h1 h2 ⊢
    rcases h1 with h1 | ⟨rfl, h1⟩
    · rcases h2 with h2 | ⟨rfl, h2⟩
      · left; omega
      · left; exact h1
    · rcases h2 with h2 | ⟨rfl, h2⟩
      · left; exact h2
      · right; exact ⟨rfl, ltL_trans h1 h2⟩
theorem SL.trans {p q r : List Int} (h1 : SL p q) (h2 : SL q r) : SL p r := by
  rcases h1 with h1 | ⟨e1, h1⟩
  · rcases h2 with h2 | ⟨e2, h2⟩
    · left; omega
    · left; omega
  · rcases h2 with h2 | ⟨e2, h2⟩
    · left; omega
    · right; exact ⟨by omega, ltL_trans h1 h2⟩
theorem SL.tri (p q : List Int) : SL p q ∨ p = q ∨ SL q p := by
  rcases Nat.lt_trichotomy p.length q.length with h | h | h
  · exact .inl (.inl h)
  · rcases ltL_tri p q with g | g | g
    · exact .inl (.inr ⟨h, g⟩)
    · exact .inr (.inl g)
    · exact .inr (.inr (.inr ⟨h.symm, g⟩))
  · exact .inr (.inr (.inl h))
/-- what law and program ask: behind -/
theorem not_SL {p w : List Int} (h : ¬ SL w p) : p.length < w.length ∨ (p.length = w.length ∧ ltL w p = false) := by
  rcases Nat.lt_trichotomy p.length w.length with c | c | c
  · exact .inl c
  · right
    refine ⟨c, ?_⟩
    cases e : ltL w p with
    | false => rfl
    | true => exact absurd (.inr ⟨c.symm, e⟩) h
  · exact absurd (.inl c) h
/-- no more unlike numbers below n than n -/
theorem nodup_le : ∀ (n : Nat) (l : List Int), l.Nodup → (∀ x ∈ l, Nm n x) → l.length ≤ n
  | 0, l, _, h => by
    cases l with
    | nil => simp
    | cons x l => have g := h x List.mem_cons_self; have g1 := g.1; have g2 := g.2; omega
  | n + 1, l, hd, h => by
    by_cases c : (n : Int) ∈ l
    · have := nodup_le n (l.erase (n : Int)) (hd.erase _) fun x hx => by
        have hx := (List.Nodup.mem_erase_iff hd).mp hx
        have g := h x hx.2
        have g1 := g.1
        have g2 := g.2
        have g3 := hx.1
        exact ⟨g1, by omega⟩
      rw [List.length_erase_of_mem c] at this
      omega
    · have := nodup_le n l hd fun x hx => by
        have g := h x hx
        refine ⟨g.1, ?_⟩
        have h2 := g.2
        by_cases e : x = (n : Int)
        · subst e; exact absurd hx c
        · omega
      omega
/-- the states met with their ways, in order; those before i gone on from, i by the asks below x -/
structure Bfs (M : Mach) (n a : Nat) (L : List (Int × List Int)) (i : Nat) (x : Int) : Prop where
  h0 : L[0]? = some (0, [])
  st : ∀ p ∈ L, Nm n p.1 ∧ Pr a p.2 ∧ ends M 0 p.2 = p.1
  ln : ∀ (j : Nat) p, L[j]? = some p → p.2.length ≤ j
  nd : (L.map (·.1)).Nodup
  sl : ∀ (j k : Nat) p q, j < k → L[j]? = some p → L[k]? = some q → SL p.2 q.2
  fr : ∀ (j : Nat) p, 0 < j → L[j]? = some p → ∃ (k : Nat) (q : Int × List Int) (y : Int), L[k]? = some q ∧ (k < i ∨ (k = i ∧ y < x)) ∧ p.2 = q.2 ++ [y]
  on : ∀ (k : Nat) (q : Int × List Int) (y : Int), L[k]? = some q → Nm a y → (k < i ∨ (k = i ∧ y < x)) → ∃ p ∈ L, p.1 = (look M q.1 y).2 ∧ ¬ SL (q.2 ++ [y]) p.2
section
variable {M : Mach} {n a : Nat} {L : List (Int × List Int)} {i : Nat} {x : Int}
theorem Bfs.start (hn : 0 < n) : Bfs M n a [(0, [])] 0 0 := by
  have one : ∀ (j : Nat) (p : Int × List Int), [((0 : Int), ([] : List Int))][j]? = some p → j = 0 ∧ p = (0, []) := by
    intro j p h
    cases j with
    | zero => cases h; exact ⟨rfl, rfl⟩
    | succ j => simp at h
  refine ⟨rfl, ?_, ?_, by simp, ?_, ?_, ?_⟩
  · intro p hp
    rw [List.mem_singleton.mp hp]
    exact ⟨⟨by simp, by simp; omega⟩, Pr.nil, rfl⟩
  · intro j p h
    obtain ⟨_, rfl⟩ := one j p h
    simp
  · intro j k p q hjk h1 h2
    have := (one k q h2).1
    omega
  · intro j p hj h
    have := (one j p h).1
    omega
  · intro k q y h1 h2 h3
    have := (one k q h1).1
    have := h2.1
    omega
theorem Bfs.small (h : Bfs M n a L i x) : L.length ≤ n := by
  have := nodup_le n (L.map (·.1)) h.nd fun y hy => by
    obtain ⟨p, hp, rfl⟩ := List.mem_map.mp hy
    exact (h.st p hp).1
  simpa using this
/-- all ways come before the one at i with x behind -/
theorem Bfs.big (h : Bfs M n a L i x) {p : Int × List Int} (hi : L[i]? = some p) {q : Int × List Int} (hq : q ∈ L) : SL q.2 (p.2 ++ [x]) := by
  obtain ⟨j, hj, rfl⟩ := List.getElem_of_mem hq
  have e := List.getElem?_eq_getElem hj
  rcases Nat.eq_zero_or_pos j with c | c
  · subst c
    have := h.h0
    rw [e] at this
    rw [Option.some.inj this]
    left; simp
  · obtain ⟨k, r, y, h1, h2, h3⟩ := h.fr j _ c e
    rw [h3]
    rcases h2 with h2 | ⟨h2, h4⟩
    · exact (h.sl k i r p h2 h1 hi).app x y
    · subst h2
      rw [h1] at hi
      cases hi
      exact SL.snoc h4
theorem Bfs.skip (h : Bfs M n a L i x) {p q : Int × List Int} (hi : L[i]? = some p) (hx : Nm a x) (hq : q ∈ L) (e : q.1 = (look M p.1 x).2) : Bfs M n a L i (x + 1) := by
  refine ⟨h.h0, h.st, h.ln, h.nd, h.sl, fun j r h1 h2 => ?_, fun k r y h1 h2 h3 => ?_⟩
  · obtain ⟨k, s, y, g1, g2, g3⟩ := h.fr j r h1 h2
    exact ⟨k, s, y, g1, by omega, g3⟩
  · by_cases c : k = i ∧ y = x
    · obtain ⟨rfl, rfl⟩ := c
      rw [hi] at h1
      cases h1
      exact ⟨q, hq, e, (h.big hi hq).asym⟩
    · exact h.on k r y h1 h2 (by omega)
theorem Bfs.add (wf : Wf M n a) (h : Bfs M n a L i x) {p : Int × List Int} (hi : L[i]? = some p) (hx : Nm a x) (hn : ∀ q ∈ L, q.1 ≠ (look M p.1 x).2) : Bfs M n a (L ++ [((look M p.1 x).2, p.2 ++ [x])]) i (x + 1) := by
  have hp := h.st p (List.mem_of_getElem? hi)
  have il := (List.getElem?_eq_some_iff.mp hi).1
  have old : ∀ {j : Nat} {r : Int × List Int}, L[j]? = some r → (L ++ [((look M p.1 x).2, p.2 ++ [x])])[j]? = some r := fun e => by
    rw [List.getElem?_append_left (List.getElem?_eq_some_iff.mp e).1]; exact e
  have both : ∀ {j : Nat} {r : Int × List Int}, (L ++ [((look M p.1 x).2, p.2 ++ [x])])[j]? = some r → L[j]? = some r ∨ (j = L.length ∧ r = ((look M p.1 x).2, p.2 ++ [x])) := by
    intro j r e
    by_cases c : j < L.length
    · rw [List.getElem?_append_left c] at e; exact .inl e
    · rw [List.getElem?_append_right (by omega)] at e
      by_cases c2 : j - L.length = 0
      · rw [c2] at e; cases e; exact .inr ⟨by omega, rfl⟩
      · rw [List.getElem?_eq_none (by simp only [List.length_singleton]; omega)] at e; cases e
  refine ⟨old h.h0, ?_, ?_, ?_, ?_, ?_, ?_⟩
  · intro r hr
    rcases List.mem_append.mp hr with hr | hr
    · exact h.st r hr
    · rw [List.mem_singleton.mp hr]
      refine ⟨wf.nxt hp.1 hx, hp.2.1.app (Pr.nil.cons hx), ?_⟩
      rw [ends_app, hp.2.2]
      rfl
  · intro j r e
    rcases both e with e | ⟨rfl, rfl⟩
    · exact h.ln j r e
    · have := h.ln i p hi
      simp only [List.length_append, List.length_singleton]
      omega
  · rw [List.map_append, List.nodup_append]
    refine ⟨h.nd, by simp, fun y hy z hz e => ?_⟩
    obtain ⟨q, hq, rfl⟩ := List.mem_map.mp hy
    have : z = (look M p.1 x).2 := by simpa using hz
    exact hn q hq (e.trans this)
  · intro j k r q hjk e1 e2
    rcases both e2 with e2 | ⟨rfl, rfl⟩
    · rcases both e1 with e1 | ⟨rfl, rfl⟩
      · exact h.sl j k r q hjk e1 e2
      · have := (List.getElem?_eq_some_iff.mp e2).1; omega
    · rcases both e1 with e1 | ⟨rfl, rfl⟩
      · exact h.big hi (List.mem_of_getElem? e1)
      · omega
  · intro j r hj e
    rcases both e with e | ⟨rfl, rfl⟩
    · obtain ⟨k, s, y, g1, g2, g3⟩ := h.fr j r hj e
      exact ⟨k, s, y, old g1, by omega, g3⟩
    · exact ⟨i, p, x, old hi, .inr ⟨rfl, by omega⟩, rfl⟩
  · intro k q y e1 e2 e3
    rcases both e1 with e1' | ⟨rfl, rfl⟩
    · by_cases c : k = i ∧ y = x
      · obtain ⟨rfl, rfl⟩ := c
        rw [old hi] at e1
        cases e1
        exact ⟨_, List.mem_append_right _ (List.mem_singleton.mpr rfl), rfl, SL.irr⟩
      · obtain ⟨r, r1, r2, r3⟩ := h.on k q y e1' e2 (by omega)
        exact ⟨r, List.mem_append_left _ r1, r2, r3⟩
    · omega
theorem Bfs.turn (h : Bfs M n a L i (a : Int)) (hi : i < L.length) : Bfs M n a L (i + 1) 0 := by
  refine ⟨h.h0, h.st, h.ln, h.nd, h.sl, fun j r h1 h2 => ?_, fun k r y h1 h2 h3 => ?_⟩
  · obtain ⟨k, s, y, g1, g2, g3⟩ := h.fr j r h1 h2
    exact ⟨k, s, y, g1, by omega, g3⟩
  · refine h.on k r y h1 h2 ?_
    have := h2.1
    have := h2.2
    omega
/-- the way that is told of a state -/
def wayOf (L : List (Int × List Int)) (s : Int) : Option (List Int) := (L.find? fun p => decide (p.1 = s)).map (·.2)
theorem wayOf_mem (nd : (L.map (·.1)).Nodup) {p : Int × List Int} (hp : p ∈ L) : wayOf L p.1 = some p.2 := by
  induction L with
  | nil => cases hp
  | cons q L ih =>
    simp only [List.map_cons, List.nodup_cons] at nd
    unfold wayOf
    rw [List.find?_cons]
    by_cases c : q.1 = p.1
    · rw [decide_eq_true c]
      rcases List.mem_cons.mp hp with rfl | hp
      · rfl
      · exact absurd (List.mem_map.mpr ⟨p, hp, c.symm⟩) nd.1
    · rw [decide_eq_false c]
      rcases List.mem_cons.mp hp with rfl | hp
      · exact absurd rfl c
      · exact ih nd.2 hp
theorem wayOf_some {s : Int} {w : List Int} (h : wayOf L s = some w) : (s, w) ∈ L := by
  unfold wayOf at h
  cases e : L.find? fun p => decide (p.1 = s) with
  | none => rw [e] at h; cases h
  | some p =>
    rw [e] at h
    cases h
    have h1 := List.find?_some e
    have h2 := List.mem_of_find?_eq_some e
    have h1 : p.1 = s := by simpa using h1
    rw [← h1]
    exact h2
theorem wayOf_none {s : Int} (h : wayOf L s = none) : ∀ q ∈ L, q.1 ≠ s := by
  intro q hq e
  unfold wayOf at h
  have h : (L.find? fun p => decide (p.1 = s)) = none := by
    cases e2 : L.find? fun p => decide (p.1 = s) with
    | none => rfl
    | some p => rw [e2] at h; cases h
  have := List.find?_eq_none.mp h q hq
  simp [e] at this
theorem wayOf_app {p : Int × List Int} {s : Int} (h : ∀ q ∈ L, q.1 ≠ p.1) : wayOf (L ++ [p]) s = if s = p.1 then some p.2 else wayOf L s := by
  unfold wayOf
  rw [List.find?_append]
  by_cases c : s = p.1
  · rw [if_pos c]
    have : (L.find? fun q => decide (q.1 = s)) = none := List.find?_eq_none.mpr fun q hq => by
      have := h q hq
      simp; rw [c]; exact this
    rw [this]
    simp [c]
  · rw [if_neg c]
    have : ([p].find? fun q => decide (q.1 = s)) = none := by simp; exact fun e => c e.symm
    rw [this]
    cases L.find? fun q => decide (q.1 = s) <;> rfl
/-- all states are gone on from -/
def Reach (M : Mach) (n a : Nat) (L : List (Int × List Int)) : Prop := ∃ i, L.length ≤ i ∧ Bfs M n a L i 0
/-- what a probe leads to has a way, and it doesn't come behind -/
theorem Reach.le (wf : Wf M n a) (h : Reach M n a L) : ∀ w, Pr a w → ∃ p ∈ L, p.1 = ends M 0 w ∧ ¬ SL w p.2 := by
  obtain ⟨i, hi, h⟩ := h
  have key : ∀ k (w : List Int), w.length = k → Pr a w → ∃ p ∈ L, p.1 = ends M 0 w ∧ ¬ SL w p.2 := by
    intro k
    induction k with
    | zero =>
      intro w hw _
      have : w = [] := List.length_eq_zero_iff.mp hw
      subst this
      exact ⟨(0, []), List.mem_of_getElem? h.h0, rfl, SL.irr⟩
    | succ k ih =>
      intro w hw hp
      have hne : w ≠ [] := by intro z; subst z; simp at hw
      obtain ⟨v, y, rfl⟩ : ∃ v y, w = v ++ [y] := ⟨w.dropLast, w.getLast hne, (List.dropLast_concat_getLast hne).symm⟩
      have hv : Pr a v := fun z hz => hp z (List.mem_append_left _ hz)
      have hy : Nm a y := hp y (List.mem_append_right _ (List.mem_singleton.mpr rfl))
      obtain ⟨p, p1, p2, p3⟩ := ih v (by simpa using hw) hv
      obtain ⟨j, hj, rfl⟩ := List.getElem_of_mem p1
      obtain ⟨q, q1, q2, q3⟩ := h.on j _ y (List.getElem?_eq_getElem hj) hy (.inl (by omega))
      refine ⟨q, q1, ?_, fun z => ?_⟩
      · rw [q2, ends_app, ← p2]; rfl
      · rcases SL.tri (L[j]).2 v with c | c | c
        · exact q3 ((c.app y y).trans z)
        · rw [c] at q3; exact q3 z
        · exact p3 c
  exact fun w hw => key _ w rfl hw
end
end Dv

namespace Dv
open Enc (enc)
open PySem

/-! ### dicts -/
section
variable {κ α : Type} [DecidableEq κ] {d : Dc κ α} {k j : κ} {v z : α}
theorem val_put : valA (dput d k v).l j = if j = k then some v else valA d.l j := valA_put _ _ _ _
theorem get2_put : dget2 (dput d k v) j z = if j = k then v else dget2 d j z := by
  unfold dget2
  rw [val_put]
  split <;> rfl
theorem dput_len : (dput d k v).l.length ≤ d.l.length + 1 := by
  have h : ∀ e, plA (d.l.map (·.1)) k = e → (putA d.l k v).length ≤ d.l.length + 1 := by
    intro e he
    cases e with
    | none => rw [putA_none v he]; simp
    | some j =>
      have := (putA_some v d.nd he).1
      have := congrArg List.length this
      simp only [List.length_map] at this
      omega
  exact h _ rfl
theorem dput_new (h : valA d.l k = none) : (dput d k v).l.length = d.l.length + 1 := by
  have : plA (d.l.map (·.1)) k = none := by
    apply plA_none.mpr
    intro m
    have := valA_some_mem.mpr m
    rw [h] at this
    cases this
  show (putA d.l k v).length = _
  rw [putA_none v this]
  simp
theorem dput_old (h : (valA d.l k).isSome = true) : (dput d k v).l.length = d.l.length := by
  have m := valA_some_mem.mp h
  cases e : plA (d.l.map (·.1)) k with
  | none => exact absurd m (plA_none.mp e)
  | some j =>
    have := (putA_some v d.nd e).1
    have := congrArg List.length this
    simp only [List.length_map] at this
    exact this
theorem dputR_ok (h : d.l.length < 1000000) : dputR d k v = .ok (dput d k v) := okIf_ok h
theorem dgR_some (h : valA d.l k = some v) : dgR d k = .ok v := by unfold dgR; rw [h]; rfl
theorem mem_keys : k ∈ dkeysL d ↔ (valA d.l k).isSome = true := valA_some_mem.symm
theorem dappR_ok {d : Dc κ (List α)} {l : List α} (h : valA d.l k = some l) (hl : l.length < 1000000) (hd : d.l.length < 1000000) : dappR d k v = .ok (dput d k (l ++ [v])) := by
  unfold dappR
  rw [dgR_some h, ok_bind, appR_ok hl, ok_bind, dputR_ok hd]
theorem dnew_val {k : κ} : valA (dnew : Dc κ α).l k = none := rfl
end

/-! ### pairs of states, the lesser first -/
def srt (s t : Int) : Int × Int := (minI s t, maxI s t)
theorem srt_lt {s t : Int} : srt s t = if t < s then (t, s) else (s, t) := by
  unfold srt minI maxI
  by_cases h : t < s
  · have : ¬ t > s := by omega
    simp [h, this]
  · by_cases h2 : t > s
    · simp [h, h2]
    · have : t = s := by omega
      subst this; simp
theorem srt_comm (s t : Int) : srt s t = srt t s := by
  rw [srt_lt, srt_lt]
  by_cases h : t < s
  · rw [if_pos h, if_neg (by omega)]
  · by_cases h2 : s < t
    · rw [if_neg h, if_pos h2]
    · have : s = t := by omega
      subst this; rfl
theorem srt_le {s t : Int} (h : s ≤ t) : srt s t = (s, t) := by rw [srt_lt, if_neg (by omega)]
def Vp (n : Nat) (q : Int × Int) : Prop := Nm n q.1 ∧ Nm n q.2 ∧ q.1 ≤ q.2
theorem srt_vp {n : Nat} {s t : Int} (hs : Nm n s) (ht : Nm n t) : Vp n (srt s t) := by
  rw [srt_lt]
  split
  · exact ⟨ht, hs, by simp; omega⟩
  · exact ⟨hs, ht, by simp; omega⟩
theorem srt_eq {s t : Int} : (srt s t).1 = (srt s t).2 ↔ s = t := by
  rw [srt_lt]
  split
  · simp; omega
  · simp
def nx (M : Mach) (q : Int × Int) (x : Int) : Int × Int := srt (look M q.1 x).2 (look M q.2 x).2
def nxs (M : Mach) : Int × Int → List Int → Int × Int
  | q, [] => q
  | q, x :: p => nxs M (nx M q x) p
section
variable {M : Mach} {n a : Nat} {s t x : Int} {q : Int × Int} {w : List Int}
theorem nx_srt : nx M (srt s t) x = srt (look M s x).2 (look M t x).2 := by
  unfold nx
  by_cases h : t < s
  · rw [show srt s t = (t, s) by rw [srt_lt, if_pos h], srt_comm]
  · rw [show srt s t = (s, t) by rw [srt_lt, if_neg h]]
theorem nxs_srt : ∀ (w : List Int) (s t : Int), nxs M (srt s t) w = srt (ends M s w) (ends M t w)
  | [], _, _ => rfl
  | x :: w, s, t => by
    show nxs M (nx M (srt s t) x) w = _
    rw [nx_srt, nxs_srt w]
    rfl
theorem Wf.nx (wf : Wf M n a) (h : Vp n q) (hx : Nm a x) : Vp n (nx M q x) := srt_vp (wf.nxt h.1 hx) (wf.nxt h.2.1 hx)
theorem nx_diag (h : q.1 = q.2) : (nx M q x).1 = (nx M q x).2 := by unfold nx; rw [srt_eq, h]
end
/-- what is known of the pairs that are joined: by how many asks -/
structure Kn (M : Mach) (n a : Nat) (F : Int × Int → Option Int) : Prop where
  ok : ∀ q v, F q = some v → Vp n q ∧ 0 ≤ v
  dg : ∀ s, Nm n s → F (s, s) = some 0
  z : ∀ q, F q = some 0 → q.1 = q.2
  st : ∀ q v, F q = some v → 0 < v → ∃ x, Nm a x ∧ F (nx M q x) = some (v - 1)
  sh : ∀ q x u, Vp n q → Nm a x → F (nx M q x) = some u → ∃ v, F q = some v ∧ v ≤ u + 1
section
variable {M : Mach} {n a : Nat} {F : Int × Int → Option Int}
theorem Vp.eta {n : Nat} {q : Int × Int} (h : Vp n q) : srt q.1 q.2 = q := srt_le h.2.2
/-- whatever joins a pair has at least so many asks -/
theorem Kn.short (wf : Wf M n a) (K : Kn M n a F) : ∀ (w : List Int) (q : Int × Int), Vp n q → Pr a w → (nxs M q w).1 = (nxs M q w).2 → ∃ v, F q = some v ∧ v ≤ (w.length : Int)
  | [], q, hq, _, h => by
    obtain ⟨q1, q2⟩ := q
    have h : q1 = q2 := h
    subst h
    exact ⟨0, K.dg _ hq.1, by simp⟩
  | x :: w, q, hq, hw, h => by
    obtain ⟨u, h1, h2⟩ := Kn.short wf K w (nx M q x) (wf.nx hq hw.head) hw.tail h
    obtain ⟨v, h3, h4⟩ := K.sh q x u hq hw.head h1
    exact ⟨v, h3, by simp only [List.length_cons]; omega⟩
/-- the first ask that goes on -/
def fAsk (M : Mach) (a : Nat) (F : Int × Int → Option Int) (q : Int × Int) (u : Int) : Int := ((rngL 0 a).find? fun x => decide (F (nx M q x) = some u)).getD 0
theorem fAsk_ok {q : Int × Int} {u : Int} (h : ∃ x, Nm a x ∧ F (nx M q x) = some u) : Nm a (fAsk M a F q u) ∧ F (nx M q (fAsk M a F q u)) = some u ∧ ∀ y, 0 ≤ y → y < fAsk M a F q u → F (nx M q y) ≠ some u := by
  obtain ⟨x, hx, hF⟩ := h
  have key : ∀ (m : Nat) (lo : Int), (∃ x, lo ≤ x ∧ x < lo + m ∧ F (nx M q x) = some u) → ∃ x, ((rngL lo m).find? fun x => decide (F (nx M q x) = some u)) = some x ∧ lo ≤ x ∧ x < lo + m ∧ F (nx M q x) = some u ∧ ∀ y, lo ≤ y → y < x → F (nx M q y) ≠ some u := by
    intro m
    induction m with
    | zero => rintro lo ⟨x, h1, h2, _⟩; omega
    | succ m ih =>
      rintro lo ⟨x, h1, h2, h3⟩
      rw [rngL_succ, List.find?_cons]
      by_cases c : F (nx M q lo) = some u
      · exact ⟨lo, by simp [c], by omega, by omega, c, fun y h1 h2 => by omega⟩
      · obtain ⟨z, e1, e2, e3, e4, e5⟩ := ih (lo + 1) ⟨x, by
          rcases Int.lt_or_eq_of_le h1 with g | g
          · omega
          · subst g; exact absurd h3 c, by omega, h3⟩
        refine ⟨z, by simp [c, e1], by omega, by omega, e4, fun y h1 h2 => ?_⟩
        by_cases g : y = lo
        · subst g; exact c
        · exact e5 y (by omega) h2
  obtain ⟨z, e1, e2, e3, e4, e5⟩ := key a 0 ⟨x, hx.1, by have := hx.2; omega, hF⟩
  have : fAsk M a F q u = z := by unfold fAsk; rw [e1]; rfl
  rw [this]
  exact ⟨⟨e2, by omega⟩, e4, e5⟩
/-- the first probe that joins a pair -/
def fJn (M : Mach) (a : Nat) (F : Int × Int → Option Int) : Nat → Int × Int → List Int
  | 0, _ => []
  | v + 1, q => fAsk M a F q (v : Int) :: fJn M a F v (nx M q (fAsk M a F q (v : Int)))
theorem fJn_len : ∀ (v : Nat) (q : Int × Int), (fJn M a F v q).length = v
  | 0, _ => rfl
  | v + 1, q => by simp [fJn, fJn_len v]
theorem fJn_ok (K : Kn M n a F) : ∀ (v : Nat) (q : Int × Int), F q = some (v : Int) → Pr a (fJn M a F v q) ∧ (nxs M q (fJn M a F v q)).1 = (nxs M q (fJn M a F v q)).2
  | 0, q, h => ⟨Pr.nil, K.z q h⟩
  | v + 1, q, h => by
    obtain ⟨h1, h2, _⟩ := fAsk_ok (K.st q _ h (by omega))
    rw [show ((v + 1 : Nat) : Int) - 1 = (v : Int) by omega] at h1 h2
    obtain ⟨h3, h4⟩ := fJn_ok K v _ h2
    exact ⟨Pr.cons h1 h3, h4⟩
theorem fJn_first (wf : Wf M n a) (K : Kn M n a F) : ∀ (v : Nat) (q : Int × Int) (w : List Int), F q = some (v : Int) → Pr a w → (nxs M q w).1 = (nxs M q w).2 → ¬ SL w (fJn M a F v q)
  | 0, q, w, h, hw, hj => by
    rintro (g | ⟨g, g2⟩)
    · simp [fJn] at g
    · have : w = [] := List.length_eq_zero_iff.mp (by simpa [fJn] using g)
      subst this
      simp [fJn, ltL] at g2
  | v + 1, q, w, h, hw, hj => by
    have hq := (K.ok q _ h).1
    obtain ⟨u, e1, e2⟩ := K.short wf w q hq hw hj
    rw [h] at e1
    cases e1
    have hl : v + 1 ≤ w.length := by omega
    rintro (g | ⟨g, g2⟩)
    · rw [fJn_len] at g; omega
    · rw [fJn_len] at g
      cases w with
      | nil => simp at g
      | cons x w =>
        have gw : w.length = v := by simpa using g
        obtain ⟨h1, h2, h3⟩ := fAsk_ok (K.st q _ h (by omega))
        rw [show ((v + 1 : Nat) : Int) - 1 = (v : Int) by omega] at h1 h2 h3
        have hx := hw.head
        obtain ⟨u', f1, f2⟩ := K.short wf w (nx M q x) (wf.nx hq hx) hw.tail hj
        obtain ⟨u2, f3, f4⟩ := K.sh q x u' hq hx f1
        rw [h] at f3
        cases f3
        have : u' = (v : Int) := by omega
        subst this
        simp only [fJn, ltL, Bool.or_eq_true, Bool.and_eq_true, decide_eq_true_eq] at g2
        rcases g2 with g2 | ⟨g2, g3⟩
        · exact h3 x hx.1 g2 f1
        · subst g2
          exact fJn_first wf K v _ w f1 hw.tail hj (.inr ⟨by rw [fJn_len]; exact gw, g3⟩)
end
end Dv

namespace Dv
open Enc (enc)
open PySem

/-! ### going through anything, ask by ask, in order -/
def gon {σ : Type} (step : σ → Int → σ) : σ → List Int → σ
  | s, [] => s
  | s, x :: p => gon step (step s x) p
theorem gon_app {σ : Type} {step : σ → Int → σ} : ∀ (p q : List Int) (s : σ), gon step s (p ++ q) = gon step (gon step s p) q
  | [], _, _ => rfl
  | x :: p, q, s => by simp [gon, gon_app p q]
/-- the states met with their ways, in order; those before i gone on from, i by the asks below x -/
structure Bfg {σ : Type} (V : σ → Prop) (step : σ → Int → σ) (s0 : σ) (a : Nat) (L : List (σ × List Int)) (i : Nat) (x : Int) : Prop where
  h0 : L[0]? = some (s0, [])
  st : ∀ p ∈ L, V p.1 ∧ Pr a p.2 ∧ gon step s0 p.2 = p.1
  ln : ∀ (j : Nat) p, L[j]? = some p → p.2.length ≤ j
  nd : (L.map (·.1)).Nodup
  sl : ∀ (j k : Nat) p q, j < k → L[j]? = some p → L[k]? = some q → SL p.2 q.2
  fr : ∀ (j : Nat) p, 0 < j → L[j]? = some p → ∃ (k : Nat) (q : σ × List Int) (y : Int), L[k]? = some q ∧ (k < i ∨ (k = i ∧ y < x)) ∧ p.2 = q.2 ++ [y]
  on : ∀ (k : Nat) (q : σ × List Int) (y : Int), L[k]? = some q → Nm a y → (k < i ∨ (k = i ∧ y < x)) → ∃ p ∈ L, p.1 = step q.1 y ∧ ¬ SL (q.2 ++ [y]) p.2
section
variable {σ : Type} {V : σ → Prop} {step : σ → Int → σ} {s0 : σ} {a : Nat} {L : List (σ × List Int)} {i : Nat} {x : Int}
theorem Bfg.start (hn : V s0) : Bfg V step s0 a [(s0, [])] 0 0 := by
  have one : ∀ (j : Nat) (p : σ × List Int), [(s0, ([] : List Int))][j]? = some p → j = 0 ∧ p = (s0, []) := by
    intro j p h
    cases j with
    | zero => cases h; exact ⟨rfl, rfl⟩
    | succ j => simp at h
  refine ⟨rfl, ?_, ?_, by simp, ?_, ?_, ?_⟩
  · intro p hp
    rw [List.mem_singleton.mp hp]
    exact ⟨hn, Pr.nil, rfl⟩
  · intro j p h
    obtain ⟨_, rfl⟩ := one j p h
    simp
  · intro j k p q hjk h1 h2
    have := (one k q h2).1
    omega
  · intro j p hj h
    have := (one j p h).1
    omega
  · intro k q y h1 h2 h3
    have := (one k q h1).1
    have := h2.1
    omega
/-- all ways come before the one at i with x behind -/
theorem Bfg.big (h : Bfg V step s0 a L i x) {p : σ × List Int} (hi : L[i]? = some p) {q : σ × List Int} (hq : q ∈ L) : SL q.2 (p.2 ++ [x]) := by
  obtain ⟨j, hj, rfl⟩ := List.getElem_of_mem hq
  have e := List.getElem?_eq_getElem hj
  rcases Nat.eq_zero_or_pos j with c | c
  · subst c
    have := h.h0
    rw [e] at this
    rw [Option.some.inj this]
    left; simp
  · obtain ⟨k, r, y, h1, h2, h3⟩ := h.fr j _ c e
    rw [h3]
    rcases h2 with h2 | ⟨h2, h4⟩
    · exact (h.sl k i r p h2 h1 hi).app x y
    · subst h2
      rw [h1] at hi
      cases hi
      exact SL.snoc h4
theorem Bfg.skip (h : Bfg V step s0 a L i x) {p q : σ × List Int} (hi : L[i]? = some p) (hx : Nm a x) (hq : q ∈ L) (e : q.1 = step p.1 x) : Bfg V step s0 a L i (x + 1) := by
  refine ⟨h.h0, h.st, h.ln, h.nd, h.sl, fun j r h1 h2 => ?_, fun k r y h1 h2 h3 => ?_⟩
  · obtain ⟨k, s, y, g1, g2, g3⟩ := h.fr j r h1 h2
    exact ⟨k, s, y, g1, by omega, g3⟩
  · by_cases c : k = i ∧ y = x
    · obtain ⟨rfl, rfl⟩ := c
      rw [hi] at h1
      cases h1
      exact ⟨q, hq, e, (h.big hi hq).asym⟩
    · exact h.on k r y h1 h2 (by omega)
theorem Bfg.add (wf : ∀ s x, V s → Nm a x → V (step s x)) (h : Bfg V step s0 a L i x) {p : σ × List Int} (hi : L[i]? = some p) (hx : Nm a x) (hn : ∀ q ∈ L, q.1 ≠ step p.1 x) : Bfg V step s0 a (L ++ [(step p.1 x, p.2 ++ [x])]) i (x + 1) := by
  have hp := h.st p (List.mem_of_getElem? hi)
  have il := (List.getElem?_eq_some_iff.mp hi).1
  have old : ∀ {j : Nat} {r : σ × List Int}, L[j]? = some r → (L ++ [(step p.1 x, p.2 ++ [x])])[j]? = some r := fun e => by
    rw [List.getElem?_append_left (List.getElem?_eq_some_iff.mp e).1]; exact e
  have both : ∀ {j : Nat} {r : σ × List Int}, (L ++ [(step p.1 x, p.2 ++ [x])])[j]? = some r → L[j]? = some r ∨ (j = L.length ∧ r = (step p.1 x, p.2 ++ [x])) := by
    intro j r e
    by_cases c : j < L.length
    · rw [List.getElem?_append_left c] at e; exact .inl e
    · rw [List.getElem?_append_right (by omega)] at e
      by_cases c2 : j - L.length = 0
      · rw [c2] at e; cases e; exact .inr ⟨by omega, rfl⟩
      · rw [List.getElem?_eq_none (by simp only [List.length_singleton]; omega)] at e; cases e
  refine ⟨old h.h0, ?_, ?_, ?_, ?_, ?_, ?_⟩
  · intro r hr
    rcases List.mem_append.mp hr with hr | hr
    · exact h.st r hr
    · rw [List.mem_singleton.mp hr]
      refine ⟨wf _ _ hp.1 hx, hp.2.1.app (Pr.nil.cons hx), ?_⟩
      rw [gon_app, hp.2.2]
      rfl
  · intro j r e
    rcases both e with e | ⟨rfl, rfl⟩
    · exact h.ln j r e
    · have := h.ln i p hi
      simp only [List.length_append, List.length_singleton]
      omega
  · rw [List.map_append, List.nodup_append]
    refine ⟨h.nd, by simp, fun y hy z hz e => ?_⟩
    obtain ⟨q, hq, rfl⟩ := List.mem_map.mp hy
    have : z = step p.1 x := by simpa using hz
    exact hn q hq (e.trans this)
  · intro j k r q hjk e1 e2
    rcases both e2 with e2 | ⟨rfl, rfl⟩
    · rcases both e1 with e1 | ⟨rfl, rfl⟩
      · exact h.sl j k r q hjk e1 e2
      · have := (List.getElem?_eq_some_iff.mp e2).1; omega
    · rcases both e1 with e1 | ⟨rfl, rfl⟩
      · exact h.big hi (List.mem_of_getElem? e1)
      · omega
  · intro j r hj e
    rcases both e with e | ⟨rfl, rfl⟩
    · obtain ⟨k, s, y, g1, g2, g3⟩ := h.fr j r hj e
      exact ⟨k, s, y, old g1, by omega, g3⟩
    · exact ⟨i, p, x, old hi, .inr ⟨rfl, by omega⟩, rfl⟩
  · intro k q y e1 e2 e3
    rcases both e1 with e1' | ⟨rfl, rfl⟩
    · by_cases c : k = i ∧ y = x
      · obtain ⟨rfl, rfl⟩ := c
        rw [old hi] at e1
        cases e1
        exact ⟨_, List.mem_append_right _ (List.mem_singleton.mpr rfl), rfl, SL.irr⟩
      · obtain ⟨r, r1, r2, r3⟩ := h.on k q y e1' e2 (by omega)
        exact ⟨r, List.mem_append_left _ r1, r2, r3⟩
    · omega
theorem Bfg.turn (h : Bfg V step s0 a L i (a : Int)) (hi : i < L.length) : Bfg V step s0 a L (i + 1) 0 := by
  refine ⟨h.h0, h.st, h.ln, h.nd, h.sl, fun j r h1 h2 => ?_, fun k r y h1 h2 h3 => ?_⟩
  · obtain ⟨k, s, y, g1, g2, g3⟩ := h.fr j r h1 h2
    exact ⟨k, s, y, g1, by omega, g3⟩
  · refine h.on k r y h1 h2 ?_
    have := h2.1
    have := h2.2
    omega
/-- all states are gone on from -/
def Rch {σ : Type} (V : σ → Prop) (step : σ → Int → σ) (s0 : σ) (a : Nat) (L : List (σ × List Int)) : Prop := ∃ i, L.length ≤ i ∧ Bfg V step s0 a L i 0
/-- what a probe leads to has a way, and it doesn't come behind -/
theorem Rch.le (h : Rch V step s0 a L) : ∀ w, Pr a w → ∃ p ∈ L, p.1 = gon step s0 w ∧ ¬ SL w p.2 := by
  obtain ⟨i, hi, h⟩ := h
  have key : ∀ k (w : List Int), w.length = k → Pr a w → ∃ p ∈ L, p.1 = gon step s0 w ∧ ¬ SL w p.2 := by
    intro k
    induction k with
    | zero =>
      intro w hw _
      have : w = [] := List.length_eq_zero_iff.mp hw
      subst this
      exact ⟨(s0, []), List.mem_of_getElem? h.h0, rfl, SL.irr⟩
    | succ k ih =>
      intro w hw hp
      have hne : w ≠ [] := by intro z; subst z; simp at hw
      obtain ⟨v, y, rfl⟩ : ∃ v y, w = v ++ [y] := ⟨w.dropLast, w.getLast hne, (List.dropLast_concat_getLast hne).symm⟩
      have hv : Pr a v := fun z hz => hp z (List.mem_append_left _ hz)
      have hy : Nm a y := hp y (List.mem_append_right _ (List.mem_singleton.mpr rfl))
      obtain ⟨p, p1, p2, p3⟩ := ih v (by simpa using hw) hv
      obtain ⟨j, hj, rfl⟩ := List.getElem_of_mem p1
      obtain ⟨q, q1, q2, q3⟩ := h.on j _ y (List.getElem?_eq_getElem hj) hy (.inl (by omega))
      refine ⟨q, q1, ?_, fun z => ?_⟩
      · rw [q2, gon_app, ← p2]; rfl
      · rcases SL.tri (L[j]).2 v with c | c | c
        · exact q3 ((c.app y y).trans z)
        · rw [c] at q3; exact q3 z
        · exact p3 c
  exact fun w hw => key _ w rfl hw
/-- what comes ahead of the one at i stands ahead of it -/
theorem Bfg.ahead (h : Bfg V step s0 a L i 0) {p : σ × List Int} (hi : L[i]? = some p) : ∀ w, Pr a w → SL w p.2 → ∃ (j : Nat) (q : σ × List Int), j < i ∧ L[j]? = some q ∧ q.1 = gon step s0 w ∧ ¬ SL w q.2 := by
  have at_ : ∀ (w : List Int) (r : σ × List Int), SL w p.2 → r ∈ L → ¬ SL w r.2 → ∃ j, j < i ∧ L[j]? = some r := by
    intro w r hw hr hn
    obtain ⟨j, hj, rfl⟩ := List.getElem_of_mem hr
    have e := List.getElem?_eq_getElem hj
    refine ⟨j, ?_, e⟩
    rcases Nat.lt_trichotomy j i with c | c | c
    · exact c
    · subst c
      rw [e] at hi
      cases hi
      exact absurd hw hn
    · exact absurd (hw.trans (h.sl i j p _ c hi e)) hn
  have key : ∀ k (w : List Int), w.length = k → Pr a w → SL w p.2 → ∃ (j : Nat) (q : σ × List Int), j < i ∧ L[j]? = some q ∧ q.1 = gon step s0 w ∧ ¬ SL w q.2 := by
    intro k
    induction k with
    | zero =>
      intro w hw _ hs
      have : w = [] := List.length_eq_zero_iff.mp hw
      subst this
      obtain ⟨j, hj, e⟩ := at_ [] (s0, []) hs (List.mem_of_getElem? h.h0) SL.irr
      exact ⟨j, _, hj, e, rfl, SL.irr⟩
    | succ k ih =>
      intro w hw hp hs
      have hne : w ≠ [] := by intro z; subst z; simp at hw
      obtain ⟨v, y, rfl⟩ : ∃ v y, w = v ++ [y] := ⟨w.dropLast, w.getLast hne, (List.dropLast_concat_getLast hne).symm⟩
      have hv : Pr a v := fun z hz => hp z (List.mem_append_left _ hz)
      have hy : Nm a y := hp y (List.mem_append_right _ (List.mem_singleton.mpr rfl))
      have vw : SL v (v ++ [y]) := .inl (by simp)
      obtain ⟨j, r, hj, e, p2, p3⟩ := ih v (by simpa using hw) hv (vw.trans hs)
      obtain ⟨q, q1, q2, q3⟩ := h.on j r y e hy (.inl hj)
      have hn : ¬ SL (v ++ [y]) q.2 := fun z => by
        rcases SL.tri r.2 v with c | c | c
        · exact q3 ((c.app y y).trans z)
        · rw [c] at q3; exact q3 z
        · exact p3 c
      obtain ⟨j2, hj2, e2⟩ := at_ _ q hs q1 hn
      exact ⟨j2, q, hj2, e2, by rw [q2, gon_app, ← p2]; rfl, hn⟩
  exact fun w hw hs => key _ w rfl hw hs
end
end Dv

namespace Dv
open PySem L2 Evl
/-! ### the defs, by plain data -/
abbrev excs : List Str := ["ProbeError", "NoState", "NoProbe", "Unfit"]
def bd_law_mixed : DS := (sSeq (sSet 2 (toC (dC (.int 3))))
 (sSeq (sIf (dTest (dOp fGt (dCB fLen (dCons (dVar 0) dNil)) (dC (.int 0))))
 (sSet 2 (cShare (dOp fIx (dVar 0) (dOp fMod (dVar 1) (dCB fLen (dCons (dVar 0) dNil))))))
 sNext)
 (sSeq (sSet 2 (toC (dOp fMod (toB (cMul (toB (cAdd (toB (cAdd (dOp fMod (dVar 2) (dC (.int 2147483629))) (toB (cMul (dC (.int 7919)) (dVar 1))))) (dC (.int 1)))) (dC (.int 48271)))) (dC (.int 2147483647)))))
 (sRet (toC (dOp fMod (toB (cMul (dVar 2) (toB (cAdd (toB (cAdd (dOp fMod (dVar 2) (dC (.int 65521))) (dVar 1))) (dC (.int 2)))))) (dC (.int 2147483629))))))))
def d_law_mixed : DF := dFn 2 3 bd_law_mixed
def bd_law_machine : DS := (sSeq (sSet 1 (cAdd (dC (.int 1)) (dOp fMod (toB (cCall d_law_mixed (dCons (dVar 0) (dCons (dC (.int 0)) dNil)))) (dC (.int 4)))))
 (sSeq (sSet 2 (cAdd (dC (.int 1)) (dOp fMod (toB (cCall d_law_mixed (dCons (dVar 0) (dCons (dC (.int 1)) dNil)))) (dC (.int 3)))))
 (sSeq (sSet 3 (cLst (cCons (toC (dC (.int 0))) (cCons (toC (dC (.int 1))) cNil))))
 (sSeq (sIf (dTest (dOp fEq (dOp fMod (toB (cCall d_law_mixed (dCons (dVar 0) (dCons (dC (.int 2)) dNil)))) (dC (.int 3))) (dC (.int 0))))
 (sSet 3 (cLst (cCons (toC (dOp fSub (dOp fPow (dC (.int 10)) (dC (.int 60))) (dC (.int 1)))) (cCons (toC (dOp fSub (toB (cAdd (dOp fMod (dOp fPow (toB (cCall d_law_mixed (dCons (dVar 0) (dCons (dC (.int 3)) dNil)))) (dC (.int 7))) (dOp fSub (toB (cMul (dC (.int 2)) (dOp fPow (dC (.int 10)) (dC (.int 60))))) (dC (.int 1)))) (dC (.int 1)))) (dOp fPow (dC (.int 10)) (dC (.int 60))))) cNil))))
 sNext)
 (sSeq (sIf (dTest (dOp fEq (dOp fMod (toB (cCall d_law_mixed (dCons (dVar 0) (dCons (dC (.int 2)) dNil)))) (dC (.int 3))) (dC (.int 1))))
 (sSet 3 (cLst (cCons (toC (dC (.int 1))) (cCons (toC (dC (.int 11))) cNil))))
 sNext)
 (sSeq (sSet 4 (cLst cNil))
 (sSeq (sForR (tgN 5) (dCons (dVar 1) dNil)
 (sSeq (sSet 6 (cLst cNil))
 (sSeq (sForR (tgN 7) (dCons (dVar 2) dNil)
 (sSeq (sSet 8 (cCall d_law_mixed (dCons (dVar 0) (dCons (toB (cAdd (toB (cAdd (dC (.int 10)) (toB (cMul (dVar 5) (dVar 2))))) (dVar 7))) dNil))))
 (sApp 6 (cTup (cCons (cShare (dOp fIx (dVar 3) (dOp fMod (dVar 8) (dC (.int 2))))) (cCons (toC (dOp fMod (dOp fDiv (dVar 8) (dC (.int 6))) (dVar 1))) cNil))))))
 (sApp 4 (cMove 6)))))
 (sRet (cMove 4)))))))))
def d_law_machine : DF := dFn 1 9 bd_law_machine
def bd_law_answers : DS := (sSeq (sSet 2 (cLst cNil))
 (sSeq (sSet 3 (toC (dC (.int 0))))
 (sSeq (sForC (tgN 4) (cMove 1)
 (sSeq (sAsg (tgT [5, 3]) (cShare (dOp fIx (dOp fIx (dVar 0) (dVar 3)) (dVar 4))))
 (sApp 2 (cMove 5))))
 (sRet (cMove 2)))))
def d_law_answers : DF := dFn 2 6 bd_law_answers
def bd_law_row : DS := (sSeq (sSet 4 (cCall d_law_mixed (dCons (dVar 0) (dCons (dVar 1) dNil))))
 (sSeq (sSet 5 (cSlice (dVar 2) oNone (oSome (dOp fMod (dVar 4) (dC (.int 7))))))
 (sSeq (sForR (tgN 6) (dCons (dOp fIx (toB (cLst (cCons (toC (dC (.int 0))) (cCons (toC (dC (.int 0))) (cCons (toC (dC (.int 1))) (cCons (toC (dC (.int 2))) (cCons (toC (dC (.int 3))) cNil))))))) (dOp fMod (dOp fDiv (dVar 4) (dC (.int 7))) (dC (.int 5)))) dNil)
 (sApp 5 (toC (dOp fMod (toB (cCall d_law_mixed (dCons (dVar 0) (dCons (toB (cAdd (toB (cAdd (dVar 1) (dC (.int 1)))) (dVar 6))) dNil)))) (dCB fLen (dCons (dOp fIx (dVar 3) (dC (.int 0))) dNil))))))
 (sSeq (sSet 7 (cCall d_law_answers (dCons (dVar 3) (dCons (dVar 5) dNil))))
 (sSeq (sIf (dAnd (dTest (dOp fEq (dOp fMod (toB (cCall d_law_mixed (dCons (dVar 0) (dCons (dC (.int 4)) dNil)))) (dC (.int 2))) (dC (.int 0)))) (dAnd (dTest (dOp fEq (dOp fMod (dOp fDiv (dVar 4) (dC (.int 35))) (dC (.int 6))) (dC (.int 0)))) (dTest (dOp fGt (dCB fLen (dCons (dVar 7) dNil)) (dC (.int 0))))))
 (sSeq (sSet 8 (toC (dOp fMod (dOp fDiv (dVar 4) (dC (.int 210))) (dCB fLen (dCons (dVar 7) dNil)))))
 (sSetP 7 [] (dVar 8) (toC (dCB fInt1 (dCons (dOp fEq (dOp fIx (dVar 7) (dVar 8)) (dC (.int 0))) dNil)))))
 sNext)
 (sSeq (sIf (dAnd (dTest (dOp fEq (dOp fMod (toB (cCall d_law_mixed (dCons (dVar 0) (dCons (dC (.int 4)) dNil)))) (dC (.int 2))) (dC (.int 0)))) (dTest (dOp fEq (dOp fMod (dOp fDiv (dVar 4) (dC (.int 35))) (dC (.int 6))) (dC (.int 1)))))
 (sSet 7 (cAdd (toB (cSlice (dVar 7) (oSome (dC (.int 1))) oNone)) (toB (cSlice (dVar 7) oNone (oSome (dC (.int 1)))))))
 sNext)
 (sRet (cTup (cCons (cMove 5) (cCons (cMove 7) cNil))))))))))
def d_law_row : DF := dFn 4 9 bd_law_row
def bd_law_book : DS := (sSeq (sSet 2 (cCmpR true (tgN 5) [5] (dCons (dC (.int 6)) dNil) (fun s => some (.ok true s)) (toC (dOp fMod (toB (cCall d_law_mixed (dCons (dVar 0) (dCons (toB (cAdd (dC (.int 30)) (dVar 5))) dNil)))) (dCB fLen (dCons (dOp fIx (dVar 1) (dC (.int 0))) dNil))))))
 (sSeq (sSet 3 (toC (dOp fMod (toB (cCall d_law_mixed (dCons (dVar 0) (dCons (dC (.int 5)) dNil)))) (dC (.int 10)))))
 (sSeq (sIf (dTest (dOp fEq (dOp fMod (toB (cCall d_law_mixed (dCons (dVar 0) (dCons (dC (.int 6)) dNil)))) (dC (.int 8))) (dC (.int 4))))
 (sSet 3 (toC (dC (.int 40))))
 sNext)
 (sSeq (sSet 4 (cLst cNil))
 (sSeq (sLow 4 (sForR (tgN 5) (dCons (dVar 3) dNil)
 (sSeq (sApp 4 (cCall d_law_row (dCons (dVar 0) (dCons (toB (cAdd (dC (.int 40)) (toB (cMul (dC (.int 4)) (dVar 5))))) (dCons (dVar 2) (dCons (dVar 1) dNil))))))
 (sIf (dTest (dOp fEq (dOp fMod (toB (cCall d_law_mixed (dCons (dVar 0) (dCons (toB (cAdd (dC (.int 300)) (dVar 5))) dNil)))) (dC (.int 5))) (dC (.int 0))))
 (sSeq (sAsg (tgT [6, 7]) (cTopAt 4 (dOp fMod (toB (cCall d_law_mixed (dCons (dVar 0) (dCons (toB (cAdd (dC (.int 400)) (dVar 5))) dNil)))) (dCB fLen (dCons (dVar 4) dNil)))))
 (sApp 4 (cTup (cCons (cListOf (dCons (dVar 6) dNil)) (cCons (cListOf (dCons (dVar 7) dNil)) cNil)))))
 sNext))))
 (sRet (cMove 4)))))))
def d_law_book : DF := dFn 2 8 bd_law_book
def bd_thin : DS := (sSeq (sSet 1 cDNewN)
 (sSeq (sForC (tgT [2, 3]) (cAlias 0)
 (sForR (tgN 4) (dCons (dCB fLen (dCons (dVar 2) dNil)) dNil)
 (sDSet 1 (toB (cTup (cCons (cTupOf (dCons (toB (cSlice (dVar 2) oNone (oSome (dVar 4)))) dNil)) (cCons (cTupOf (dCons (toB (cSlice (dVar 3) oNone (oSome (dVar 4)))) dNil)) cNil)))) (toC (dC (.bl true))))))
 (sSeq (sSet 5 (cLst cNil))
 (sSeq (sForC (tgT [2, 3]) (cMove 0)
 (sSeq (sSet 6 (cTup (cCons (cTupOf (dCons (dVar 2) dNil)) (cCons (cTupOf (dCons (dVar 3) dNil)) cNil))))
 (sIf (dTest (dOp fDNin (dVar 6) (dVar 1)))
 (sSeq (sDSet 1 (dVar 6) (toC (dC (.bl true))))
 (sApp 5 (cTup (cCons (cListOf (dCons (dVar 2) dNil)) (cCons (cListOf (dCons (dVar 3) dNil)) cNil)))))
 sNext)))
 (sRet (cMove 5))))))
def d_thin : DF := dFn 1 7 bd_thin
def bd_asks_of : DS := (sRet (toC (dCB fLen (dCons (dOp fIx (dVar 0) (dC (.int 0))) dNil))))
def d_asks_of : DF := dFn 1 1 bd_asks_of
def bd_steps : DS := (sSeq (sSet 3 (cLst cNil))
 (sSeq (sForC (tgN 4) (cMove 2)
 (sSeq (sAsg (tgT [5, 1]) (cShare (dOp fIx (dOp fIx (dVar 0) (dVar 1)) (dVar 4))))
 (sApp 3 (cMove 5))))
 (sRet (cTup (cCons (cMove 3) (cCons (cMove 1) cNil))))))
def d_steps : DF := dFn 3 6 bd_steps
def bd_is_whole : DS := (sRet (toC (dAndV (dIsi "int" (dVar 0)) (dNotV (dIsi "bool" (dVar 0))))))
def d_is_whole : DF := dFn 1 1 bd_is_whole
def bd_is_state : DS := (sRet (toC (dAndV (toB (cCall d_is_whole (dCons (dVar 0) dNil))) (dChain fLe fLt (dC (.int 0)) (dVar 0) (dCB fLen (dCons (dVar 1) dNil))))))
def d_is_state : DF := dFn 2 2 bd_is_state
def bd_is_probe : DS := (sSeq (sIf (dOr (dNot (dTest (dIsi "list" (dVar 0)))) (dTest (dOp fGt (dCB fLen (dCons (dVar 0) dNil)) (dC (.int 13000)))))
 (sRet (toC (dC (.bl false))))
 sNext)
 (sSeq (sForC (tgN 2) (cMove 0)
 (sIf (dOr (dNot (dTest (toB (cCall d_is_whole (dCons (dVar 2) dNil))))) (dNot (dTest (dChain fLe fLt (dC (.int 0)) (dVar 2) (dVar 1)))))
 (sRet (toC (dC (.bl false))))
 sNext))
 (sRet (toC (dC (.bl true))))))
def d_is_probe : DF := dFn 2 3 bd_is_probe
def bd_walk : DS := (sSeq (sIf (dNot (dTest (toB (cCall d_is_state (dCons (dVar 1) (dCons (dVar 0) dNil))))))
 (sRaise "NoState")
 sNext)
 (sSeq (sIf (dNot (dTest (toB (cCall d_is_probe (dCons (dVar 2) (dCons (toB (cCall d_asks_of (dCons (dVar 0) dNil))) dNil))))))
 (sRaise "NoProbe")
 sNext)
 (sRet (cCall d_steps (dCons (dVar 0) (dCons (dVar 1) (dCons (dVar 2) dNil)))))))
def d_walk : DF := dFn 3 3 bd_walk
def bd_run : DS := (sRet (cItem (cCall d_walk (dCons (dVar 0) (dCons (dC (.int 0)) (dCons (dVar 1) dNil)))) (dC (.int 0))))
def d_run : DF := dFn 2 2 bd_run
def bd_fault : DS := (sSeq (sSet 2 (cCall d_asks_of (dCons (dVar 1) dNil)))
 (sSeq (sForC (tgT [3, 4]) (cAlias 0)
 (sIf (dNot (dTest (toB (cCall d_is_probe (dCons (dVar 3) (dCons (dVar 2) dNil))))))
 (sRaise "Unfit")
 sNext))
 (sSeq (sForC (tgT [3, 4]) (cMove 0)
 (sSeq (sSet 5 (cCall d_run (dCons (dVar 1) (dCons (dVar 3) dNil))))
 (sIf (dTest (dOp fNe (dVar 5) (dVar 4)))
 (sRet (cTup (cCons (cListOf (dCons (dVar 3) dNil)) (cCons (cMove 5) cNil))))
 sNext)))
 (sRet (toC (dC .non))))))
def d_fault : DF := dFn 2 6 bd_fault
def bd_passes : DS := (sRet (toC (dOp fIsN (toB (cCall d_fault (dCons (dVar 0) (dCons (dVar 1) dNil)))) (dC .non))))
def d_passes : DF := dFn 2 2 bd_passes
def bd_law : DS := (sSeq (sSet 1 (cCall d_law_machine (dCons (dVar 0) dNil)))
 (sSeq (sSet 2 (cCall d_law_book (dCons (dVar 0) (dCons (dVar 1) dNil))))
 (sSeq (sSet 3 (cCall d_thin (dCons (toB (cComp true (tgT [7, 8]) [7, 8] (dVar 2) (fun s => some (.ok true s)) (cTup (cCons (cListOf (dCons (dVar 7) dNil)) (cCons (cListOf (dCons (dVar 8) dNil)) cNil))))) dNil)))
 (sSeq (sSet 4 (cCall d_passes (dCons (dVar 2) (dCons (dVar 1) dNil))))
 (sSeq (sSet 5 (cCall d_passes (dCons (dVar 3) (dCons (dVar 1) dNil))))
 (sSeq (sIf (dOr (dNot (dTest (dIsi "bool" (dVar 4)))) (dOr (dNot (dTest (dIsi "bool" (dVar 5)))) (dTest (dOp fNe (dVar 4) (dVar 5)))))
 (sRet (toC (dC (.bl false))))
 sNext)
 (sSeq (sSet 6 (cCall d_fault (dCons (dVar 3) (dCons (dVar 1) dNil))))
 (sSeq (sIf (dTest (dOp fIsN (dVar 6) (dC .non)))
 (sRet (cMove 4))
 sNext)
 (sSeq (sForC (tgT [7, 8]) (cMove 2)
 (sIf (dAnd (dTest (dOp fEq (dVar 7) (dOp fIx (dVar 6) (dC (.int 0))))) (dTest (dOp fNe (dVar 8) (toB (cCall d_law_answers (dCons (dVar 1) (dCons (dVar 7) dNil)))))))
 (sRet (toC (dNotV (dVar 4))))
 sNext))
 (sRet (toC (dC (.bl false)))))))))))))
def d_law : DF := dFn 1 9 bd_law
end Dv

namespace Dv
open Enc (enc)
open PySem
abbrev excN : List Str := ["ProbeError", "NoState", "NoProbe", "Unfit"]
noncomputable def n__law_mixed (script_ : Sc) (k_ : Int) : R Int :=
  (R.bind (.ok (3 : Int)) fun cell_ =>
  (R.bind ((if (decide ((ilen script_.ns) > (0 : Int))) = true then
  (R.bind (R.bind (modR k_ (ilen script_.ns)) fun t3 => (atR script_.ns t3)) fun cell_ =>
  (.ok (cell_))) else
  (.ok (cell_)))) fun j2 : (Int) =>
  (R.bind (R.bind (R.bind (R.bind (R.bind (modR j2 (2147483629 : Int)) fun t4 => (R.bind (mulR (7919 : Int) k_) fun t5 => .ok (t4 + t5))) fun t6 => .ok (t6 + (1 : Int))) fun t7 => (mulR t7 (48271 : Int))) fun t8 => (modR t8 (2147483647 : Int))) fun cell_ =>
  (R.bind (R.bind (R.bind (R.bind (R.bind (modR cell_ (65521 : Int)) fun t9 => .ok (t9 + k_)) fun t10 => .ok (t10 + (2 : Int))) fun t11 => (mulR cell_ t11)) fun t12 => (modR t12 (2147483629 : Int))) fun t13 => .ok t13))))
noncomputable def n__law_machine (script_ : Sc) : R (List (List (Int × Int))) :=
  (R.bind (R.bind (R.bind (n__law_mixed script_ (0 : Int)) fun t1 => (modR t1 (4 : Int))) fun t2 => .ok ((1 : Int) + t2)) fun states_ =>
  (R.bind (R.bind (R.bind (n__law_mixed script_ (1 : Int)) fun t3 => (modR t3 (3 : Int))) fun t4 => .ok ((1 : Int) + t4)) fun asks_ =>
  (R.bind (.ok ([(0 : Int), (1 : Int)] : List Int)) fun pool_ =>
  (R.bind ((R.bind (R.bind (R.bind (n__law_mixed script_ (2 : Int)) fun t20 => (modR t20 (3 : Int))) fun t21 => .ok (decide (t21 = (0 : Int)))) fun t33 => (if t33 = true then
  (R.bind (R.bind (R.bind (powR (10 : Int) (60 : Int)) fun t22 => .ok (t22 - (1 : Int))) fun t31 => (R.bind (R.bind (R.bind (R.bind (R.bind (n__law_mixed script_ (3 : Int)) fun t23 => (powR t23 (7 : Int))) fun t26 => (R.bind (R.bind (R.bind (powR (10 : Int) (60 : Int)) fun t24 => (mulR (2 : Int) t24)) fun t25 => .ok (t25 - (1 : Int))) fun t27 => (modR t26 t27))) fun t28 => .ok (t28 + (1 : Int))) fun t29 => (R.bind (powR (10 : Int) (60 : Int)) fun t30 => .ok (t29 - t30))) fun t32 => .ok ([t31, t32] : List Int))) fun pool_ =>
  (.ok (pool_))) else
  (.ok (pool_))))) fun j19 : ((List Int)) =>
  (R.bind ((R.bind (R.bind (R.bind (n__law_mixed script_ (2 : Int)) fun t38 => (modR t38 (3 : Int))) fun t39 => .ok (decide (t39 = (1 : Int)))) fun t40 => (if t40 = true then
  (R.bind (.ok ([(1 : Int), (11 : Int)] : List Int)) fun pool_ =>
  (.ok (pool_))) else
  (.ok (j19))))) fun j37 : ((List Int)) =>
  (R.bind (.ok ([] : List (List (Int × Int)))) fun rows_ =>
  (R.bind (R.bind (rng1 states_) fun l81 => forR l81 (rows_) fun (a42 : Int) (v41 : ((List (List (Int × Int))))) =>
  (R.bind (.ok ([] : List (Int × Int))) fun row_here_ =>
  (R.bind (R.bind (rng1 asks_) fun l80 => forR l80 (row_here_) fun (a63 : Int) (v62 : ((List (Int × Int)))) =>
  (R.bind (R.bind (R.bind (R.bind (mulR a42 asks_) fun t72 => .ok ((10 : Int) + t72)) fun t73 => .ok (t73 + a63)) fun t74 => (n__law_mixed script_ t74)) fun cell_ =>
  (R.bind (R.bind (R.bind (R.bind (modR cell_ (2 : Int)) fun t75 => (atR j37 t75)) fun t77 => (R.bind (R.bind (divR cell_ (6 : Int)) fun t76 => (modR t76 states_)) fun t78 => .ok (t77, t78))) fun t79 => (appR v62 t79)) fun row_here_ =>
  (.ok (row_here_))))) fun v62 : ((List (Int × Int))) =>
  (R.bind (appR v41 v62) fun rows_ =>
  (.ok (rows_)))))) fun v41 : ((List (List (Int × Int)))) =>
  (.ok v41))))))))
noncomputable def n__law_answers (machine_here_ : (List (List (Int × Int)))) (probe_ : (List Int)) : R (List Int) :=
  (R.bind (.ok ([] : List Int)) fun answers_here_ =>
  (R.bind (.ok (0 : Int)) fun state_ =>
  (R.bind (forR probe_ (answers_here_, state_) fun (a2 : Int) (v1 : ((List Int) × Int)) =>
  (R.bind (R.bind (atR machine_here_ v1.2) fun t5 => (atR t5 a2)) fun p6 =>
  (R.bind (appR v1.1 p6.1) fun answers_here_ =>
  (.ok (answers_here_, p6.2))))) fun v1 : ((List Int) × Int) =>
  (.ok v1.1))))
noncomputable def n__law_row (script_ : Sc) (at_ : Int) (stem_ : (List Int)) (machine_here_ : (List (List (Int × Int)))) : R ((List Int) × (List Int)) :=
  (R.bind (n__law_mixed script_ at_) fun cell_ =>
  (R.bind (R.bind (R.bind (modR cell_ (7 : Int)) fun t1 => .ok (some t1)) fun t2 => .ok (cut stem_ none t2)) fun probe_ =>
  (R.bind (R.bind (R.bind (R.bind (divR cell_ (7 : Int)) fun t3 => (modR t3 (5 : Int))) fun t4 => (atR ([(0 : Int), (0 : Int), (1 : Int), (2 : Int), (3 : Int)] : List Int) t4)) fun t52 => (R.bind (rng1 t52) fun l51 => forR l51 (probe_) fun (a6 : Int) (v5 : ((List Int))) =>
  (R.bind (R.bind (R.bind (n__law_mixed script_ ((at_ + (1 : Int)) + a6)) fun t12 => (R.bind (R.bind (atR machine_here_ (0 : Int)) fun t11 => .ok (ilen t11)) fun t13 => (modR t12 t13))) fun t14 => (appR v5 t14)) fun probe_ =>
  (.ok (probe_))))) fun v5 : ((List Int)) =>
  (R.bind (n__law_answers machine_here_ v5) fun answers_here_ =>
  (R.bind ((R.bind (R.bind (R.bind (R.bind (n__law_mixed script_ (4 : Int)) fun t27 => (modR t27 (2 : Int))) fun t28 => .ok (decide (t28 = (0 : Int)))) fun t32 => (if t32 = true then (R.bind (R.bind (R.bind (divR cell_ (35 : Int)) fun t29 => (modR t29 (6 : Int))) fun t30 => .ok (decide (t30 = (0 : Int)))) fun t31 => .ok (t31 && (decide ((ilen answers_here_) > (0 : Int))))) else .ok false)) fun t37 => (if t37 = true then
  (R.bind (R.bind (divR cell_ (210 : Int)) fun t33 => (modR t33 (ilen answers_here_))) fun far_ =>
  (R.bind (R.bind (R.bind (R.bind (atR answers_here_ far_) fun t34 => .ok (decide (t34 = (0 : Int)))) fun t35 => .ok (b2i t35)) fun t36 => (setR answers_here_ far_ t36)) fun answers_here_ =>
  (.ok (answers_here_)))) else
  (.ok (answers_here_))))) fun j26 : ((List Int)) =>
  (R.bind ((R.bind (R.bind (R.bind (R.bind (n__law_mixed script_ (4 : Int)) fun t45 => (modR t45 (2 : Int))) fun t46 => .ok (decide (t46 = (0 : Int)))) fun t49 => (if t49 = true then (R.bind (R.bind (divR cell_ (35 : Int)) fun t47 => (modR t47 (6 : Int))) fun t48 => .ok (decide (t48 = (1 : Int)))) else .ok false)) fun t50 => (if t50 = true then
  (R.bind (catR (cut j26 (some (1 : Int)) none) (cut j26 none (some (1 : Int)))) fun answers_here_ =>
  (.ok (answers_here_))) else
  (.ok (j26))))) fun j44 : ((List Int)) =>
  (.ok (v5, j44))))))))
noncomputable def n__law_book (script_ : Sc) (machine_here_ : (List (List (Int × Int)))) : R (List ((List Int) × (List Int))) :=
  (R.bind (R.bind (rng1 (6 : Int)) fun l5 => cmpR l5 (fun a1 => (R.bind (n__law_mixed script_ ((30 : Int) + a1)) fun t3 => (R.bind (R.bind (atR machine_here_ (0 : Int)) fun t2 => .ok (ilen t2)) fun t4 => (modR t3 t4))))) fun stem_ =>
  (R.bind (R.bind (n__law_mixed script_ (5 : Int)) fun t6 => (modR t6 (10 : Int))) fun many_ =>
  (R.bind ((R.bind (R.bind (R.bind (n__law_mixed script_ (6 : Int)) fun t11 => (modR t11 (8 : Int))) fun t12 => .ok (decide (t12 = (4 : Int)))) fun t13 => (if t13 = true then
  (R.bind (.ok (40 : Int)) fun many_ =>
  (.ok (many_))) else
  (.ok (many_))))) fun j10 : (Int) =>
  (R.bind (.ok ([] : List ((List Int) × (List Int)))) fun rows_ =>
  (R.bind (R.bind (rng1 j10) fun l43 => forR l43 (rows_) fun (a15 : Int) (v14 : ((List ((List Int) × (List Int))))) =>
  (R.bind (R.bind (R.bind (R.bind (mulR (4 : Int) a15) fun t34 => .ok ((40 : Int) + t34)) fun t35 => (n__law_row script_ t35 stem_ machine_here_)) fun t36 => (appR v14 t36)) fun rows_ =>
  (R.bind (R.bind (R.bind (n__law_mixed script_ ((300 : Int) + a15)) fun t37 => (modR t37 (5 : Int))) fun t38 => .ok (decide (t38 = (0 : Int)))) fun t42 => (if t42 = true then
  (R.bind (R.bind (R.bind (n__law_mixed script_ ((400 : Int) + a15)) fun t39 => (modR t39 (ilen rows_))) fun t40 => (atR rows_ t40)) fun p41 =>
  (R.bind (appR rows_ (p41.1, p41.2)) fun rows_ =>
  (.ok (rows_)))) else
  (.ok (rows_)))))) fun v14 : ((List ((List Int) × (List Int)))) =>
  (.ok v14))))))
noncomputable def n_thin (some_ : (List ((List Int) × (List Int)))) : R (List ((List Int) × (List Int))) :=
  (R.bind (.ok (dnew : (Dc ((Tv Int) × (Tv Int)) Bool))) fun gone_ =>
  (R.bind (forR some_ (gone_) fun (a2 : ((List Int) × (List Int))) (v1 : ((Dc ((Tv Int) × (Tv Int)) Bool))) =>
  (R.bind (R.bind (rng1 (ilen a2.1)) fun l8 => forR l8 (v1) fun (a7 : Int) (v6 : ((Dc ((Tv Int) × (Tv Int)) Bool))) =>
  (R.bind (dputR v6 ((Tv.mk (cut a2.1 none (some a7))), (Tv.mk (cut a2.2 none (some a7)))) true) fun gone_ =>
  (.ok (gone_)))) fun v6 : ((Dc ((Tv Int) × (Tv Int)) Bool)) =>
  (.ok (v6)))) fun v1 : ((Dc ((Tv Int) × (Tv Int)) Bool)) =>
  (R.bind (.ok ([] : List ((List Int) × (List Int)))) fun rows_ =>
  (R.bind (forR some_ (v1, rows_) fun (a10 : ((List Int) × (List Int))) (v9 : ((Dc ((Tv Int) × (Tv Int)) Bool) × (List ((List Int) × (List Int))))) =>
  (R.bind (.ok ((Tv.mk a10.1), (Tv.mk a10.2))) fun pair_ =>
  (if (!dhas v9.1 pair_) = true then
  (R.bind (dputR v9.1 pair_ true) fun gone_ =>
  (R.bind (appR v9.2 (a10.1, a10.2)) fun rows_ =>
  (.ok (gone_, rows_)))) else
  (.ok (v9.1, v9.2))))) fun v9 : ((Dc ((Tv Int) × (Tv Int)) Bool) × (List ((List Int) × (List Int)))) =>
  (.ok v9.2)))))
noncomputable def n_asks_of (machine_ : (List (List (Int × Int)))) : R Int :=
  (R.bind (R.bind (atR machine_ (0 : Int)) fun t1 => .ok (ilen t1)) fun t2 => .ok t2)
noncomputable def n_is_whole (thing_ : Int) : R Bool :=
  (.ok (true && (!false)))
noncomputable def n_is_probe (thing_ : (List Int)) (many_ : Int) : R Bool :=
  (if ((!true) || (decide ((ilen thing_) > (13000 : Int)))) = true then
  (.ok false) else
  (R.andThen (forX thing_ () fun (a2 : Int) (v1 : Unit) =>
  (R.bind (R.bind (R.bind (n_is_whole a2) fun t6 => .ok (!t6)) fun t7 => .ok (t7 || (!(decide ((0 : Int) ≤ a2) && decide (a2 < many_))))) fun t8 => (if t8 = true then
  (.ok (Lp.out false)) else
  (.ok (Lp.nx ()))))) fun v1 : Unit =>
  (.ok true)))
noncomputable def n_is_state (thing_ : Int) (machine_ : (List (List (Int × Int)))) : R Bool :=
  (R.bind (R.bind (n_is_whole thing_) fun t1 => .ok (t1 && (decide ((0 : Int) ≤ thing_) && decide (thing_ < (ilen machine_))))) fun t2 => .ok t2)
noncomputable def n_steps (machine_ : (List (List (Int × Int)))) (state_ : Int) (probe_ : (List Int)) : R ((List Int) × Int) :=
  (R.bind (.ok ([] : List Int)) fun answers_ =>
  (R.bind (forR probe_ (state_, answers_) fun (a2 : Int) (v1 : (Int × (List Int))) =>
  (R.bind (R.bind (atR machine_ v1.1) fun t5 => (atR t5 a2)) fun p6 =>
  (R.bind (appR v1.2 p6.1) fun answers_ =>
  (.ok (p6.2, answers_))))) fun v1 : (Int × (List Int)) =>
  (.ok (v1.2, v1.1))))
noncomputable def n_walk (machine_ : (List (List (Int × Int)))) (state_ : Int) (probe_ : (List Int)) : R ((List Int) × Int) :=
  (R.bind (R.bind (n_is_state state_ machine_) fun t1 => .ok (!t1)) fun t6 => (if t6 = true then
  (.exc "NoState") else
  (R.bind (R.bind (R.bind (n_asks_of machine_) fun t2 => (n_is_probe probe_ t2)) fun t3 => .ok (!t3)) fun t5 => (if t5 = true then
  (.exc "NoProbe") else
  (R.bind (n_steps machine_ state_ probe_) fun t4 => .ok t4)))))
noncomputable def n_run (machine_ : (List (List (Int × Int)))) (probe_ : (List Int)) : R (List Int) :=
  (R.bind (R.bind (n_walk machine_ (0 : Int) probe_) fun t1 => .ok t1.1) fun t2 => .ok t2)
noncomputable def n_fault (some_ : (List ((List Int) × (List Int)))) (machine_ : (List (List (Int × Int)))) : R (Option ((List Int) × (List Int))) :=
  (R.bind (n_asks_of machine_) fun many_ =>
  (R.bind (forR some_ () fun (a2 : ((List Int) × (List Int))) (v1 : Unit) =>
  (R.bind (R.bind (n_is_probe a2.1 many_) fun t5 => .ok (!t5)) fun t6 => (if t6 = true then
  (.exc "Unfit") else
  (.ok ())))) fun v1 : Unit =>
  (R.andThen (forX some_ () fun (a8 : ((List Int) × (List Int))) (v7 : Unit) =>
  (R.bind (n_run machine_ a8.1) fun given_ =>
  (if (!decide (given_ = a8.2)) = true then
  (.ok (Lp.out (some (a8.1, given_)))) else
  (.ok (Lp.nx ()))))) fun v7 : Unit =>
  (.ok (none : (Option ((List Int) × (List Int))))))))
noncomputable def n_passes (some_ : (List ((List Int) × (List Int)))) (machine_ : (List (List (Int × Int)))) : R Bool :=
  (R.bind (R.bind (n_fault some_ machine_) fun t1 => .ok (t1.isNone)) fun t2 => .ok t2)
noncomputable def n_law (script_ : Sc) : R Bool :=
  (R.bind (n__law_machine script_) fun machine_here_ =>
  (R.bind (n__law_book script_ machine_here_) fun rows_ =>
  (R.bind (R.bind (cmpR rows_ (fun a1 => (.ok (a1.1, a1.2)))) fun t2 => (n_thin t2)) fun short_ =>
  (R.bind (n_passes rows_ machine_here_) fun whole_ =>
  (R.bind (n_passes short_ machine_here_) fun part_ =>
  (if ((!true) || ((!true) || (!decide (whole_ = part_)))) = true then
  (.ok false) else
  (R.bind (n_fault short_ machine_here_) fun found_ =>
  (if (found_.isNone) = true then
  (.ok whole_) else
  (R.andThen (forX rows_ () fun (a4 : ((List Int) × (List Int))) (v3 : Unit) =>
  (R.bind (R.bind (R.bind (R.bind (unO found_) fun t10 => .ok t10.1) fun t11 => .ok (decide (a4.1 = t11))) fun t13 => (if t13 = true then (R.bind (n__law_answers machine_here_ a4.1) fun t12 => .ok (!decide (a4.2 = t12))) else .ok false)) fun t14 => (if t14 = true then
  (.ok (Lp.out (!whole_))) else
  (.ok (Lp.nx ()))))) fun v3 : Unit =>
  (.ok false))))))))))
end Dv

namespace Dv
open Enc (enc)
open PySem L2
theorem r__law_mixed : FR (eC (α := Sc) (eC (α := Int) eN)) d_law_mixed (fun g => n__law_mixed g.1 g.2.1) .f :=
  FR.mk (fun _ => rfl) (fun g => by
  unfold n__law_mixed
  exact (rs_setI 2 (ex (rc_toC (rb_int 3)) rfl) (Nat.le_of_ble_eq_true rfl) fun cell_ =>
  (rs_join (N := fun j2 : (Int) => [.h .o (enc g.1), .h .o (enc g.2.1), .h .o (enc j2)]) (rs_end (rs_ifP (ex (rt_test (rb_op oe_gt (rb_cb cb_lenS (ra_cons (rb_var (a := g.1) 0 rfl) ra_nil)) (rb_int 0))) rfl)
  (rs_setI 2 (ex (rc_shI (rb_op oe_ixS (rb_var (a := g.1) 0 rfl) (rb_op oe_mod (rb_var (a := g.2.1) 1 rfl) (rb_cb cb_lenS (ra_cons (rb_var (a := g.1) 0 rfl) ra_nil))))) (by simp only [ok_bind, bind_bind, bind_ok, cmpI_true])) (Nat.le_of_ble_eq_true rfl) fun cell_ =>
  (rs_next (an_N (v := (cell_)) (.e (.e (.e .nil))))))
  (rs_nx (rs_next (an_N (v := (cell_)) (.e (.e (.e .nil)))))))) (fun j2 =>
  (rs_setI 2 (ex (rc_toC (rb_op oe_mod (rb_toB (rc_mulI (rb_toB (rc_addI (rb_toB (rc_addI (rb_op oe_mod (rb_var (a := j2) 2 rfl) (rb_int 2147483629)) (rb_toB (rc_mulI (rb_int 7919) (rb_var (a := g.2.1) 1 rfl))))) (rb_int 1))) (rb_int 48271))) (rb_int 2147483647))) (by simp only [ok_bind, bind_bind, bind_ok, cmpI_true])) (Nat.le_of_ble_eq_true rfl) fun cell_ =>
  (rs_ret (w := fun r => r) ar_R (ex (rc_toC (rb_op oe_mod (rb_toB (rc_mulI (rb_var (a := cell_) 2 rfl) (rb_toB (rc_addI (rb_toB (rc_addI (rb_op oe_mod (rb_var (a := cell_) 2 rfl) (rb_int 65521)) (rb_var (a := g.2.1) 1 rfl))) (rb_int 2))))) (rb_int 2147483629))) (by simp only [ok_bind, bind_bind, bind_ok, cmpI_true]))))) (fun _ => rfl)))) trivial
theorem r__law_machine : FR (eC (α := Sc) eN) d_law_machine (fun g => n__law_machine g.1) .f :=
  FR.mk (fun _ => rfl) (fun g => by
  unfold n__law_machine
  exact (rs_setI 1 (ex (rc_addI (rb_int 1) (rb_op oe_mod (rb_toB (rc_callI r__law_mixed (ra_cons (rb_var (a := g.1) 0 rfl) (ra_cons (rb_int 0) ra_nil)))) (rb_int 4))) (by simp only [ok_bind, bind_bind, bind_ok, cmpI_true])) (Nat.le_of_ble_eq_true rfl) fun states_ =>
  (rs_setI 2 (ex (rc_addI (rb_int 1) (rb_op oe_mod (rb_toB (rc_callI r__law_mixed (ra_cons (rb_var (a := g.1) 0 rfl) (ra_cons (rb_int 1) ra_nil)))) (rb_int 3))) (by simp only [ok_bind, bind_bind, bind_ok, cmpI_true])) (Nat.le_of_ble_eq_true rfl) fun asks_ =>
  (rs_set 3 (ex (rc_lst (c := .f) (rl_cons (rc_toC (rb_int 0)) (rl_cons (rc_toC (rb_int 1)) (rl_nil (α := Int)))) (Nat.le_of_ble_eq_true rfl) trivial) rfl) (Nat.le_of_ble_eq_true rfl) fun pool_ =>
  (rs_join (N := fun j19 : ((List Int)) => [.h .o (enc g.1), .h .o (enc states_), .h .o (enc asks_), .h .f (enc j19), .x, .x, .x, .x, .x]) (rs_end (rs_if (ex (rt_test (rb_op (oe_eq (α := Int) (Nat.le_of_ble_eq_true rfl)) (rb_op oe_mod (rb_toB (rc_callI r__law_mixed (ra_cons (rb_var (a := g.1) 0 rfl) (ra_cons (rb_int 2) ra_nil)))) (rb_int 3)) (rb_int 0))) (by simp only [ok_bind, bind_bind, bind_ok, cmpI_true]))
  (rs_set 3 (ex (rc_lst (c := .f) (rl_cons (rc_toC (rb_op oe_sub (rb_op oe_pow (rb_int 10) (rb_int 60)) (rb_int 1))) (rl_cons (rc_toC (rb_op oe_sub (rb_toB (rc_addI (rb_op oe_mod (rb_op oe_pow (rb_toB (rc_callI r__law_mixed (ra_cons (rb_var (a := g.1) 0 rfl) (ra_cons (rb_int 3) ra_nil)))) (rb_int 7)) (rb_op oe_sub (rb_toB (rc_mulI (rb_int 2) (rb_op oe_pow (rb_int 10) (rb_int 60)))) (rb_int 1))) (rb_int 1))) (rb_op oe_pow (rb_int 10) (rb_int 60)))) (rl_nil (α := Int)))) (Nat.le_of_ble_eq_true rfl) trivial) (by simp only [ok_bind, bind_bind, bind_ok, cmpI_true])) (Nat.le_of_ble_eq_true rfl) fun pool_ =>
  (rs_next (an_N (v := (pool_)) (.e (.e (.e (.e (.x (.x (.x (.x (.x .nil))))))))))))
  (rs_nx (rs_next (an_N (v := (pool_)) (.e (.e (.e (.e (.x (.x (.x (.x (.x .nil)))))))))))))) (fun j19 =>
  (rs_join (N := fun j37 : ((List Int)) => [.h .o (enc g.1), .h .o (enc states_), .h .o (enc asks_), .h .f (enc j37), .x, .x, .x, .x, .x]) (rs_end (rs_if (ex (rt_test (rb_op (oe_eq (α := Int) (Nat.le_of_ble_eq_true rfl)) (rb_op oe_mod (rb_toB (rc_callI r__law_mixed (ra_cons (rb_var (a := g.1) 0 rfl) (ra_cons (rb_int 2) ra_nil)))) (rb_int 3)) (rb_int 1))) (by simp only [ok_bind, bind_bind, bind_ok, cmpI_true]))
  (rs_set 3 (ex (rc_lst (c := .f) (rl_cons (rc_toC (rb_int 1)) (rl_cons (rc_toC (rb_int 11)) (rl_nil (α := Int)))) (Nat.le_of_ble_eq_true rfl) trivial) rfl) (Nat.le_of_ble_eq_true rfl) fun pool_ =>
  (rs_next (an_N (v := (pool_)) (.e (.e (.e (.e (.x (.x (.x (.x (.x .nil))))))))))))
  (rs_nx (rs_next (an_N (v := (j19)) (.e (.e (.e (.e (.x (.x (.x (.x (.x .nil)))))))))))))) (fun j37 =>
  (rs_set 4 (ex (rc_lst (c := .f) (rl_nil (α := (List (Int × Int)))) (Nat.le_of_ble_eq_true rfl) trivial) rfl) (Nat.le_of_ble_eq_true rfl) fun rows_ =>
  (rs_forR1P (n := 9) (N := fun v41 : ((List (List (Int × Int)))) => [.h .o (enc g.1), .h .o (enc states_), .h .o (enc asks_), .h .f (enc j37), .h .f (enc v41), .x, .x, .x, .x]) (v0 := (rows_)) (fun _ => rfl) rfl (ex (rb_var (a := states_) 1 rfl) rfl) (.e (.e (.e (.e (.e (.x (.x (.x (.x .nil))))))))) (fun a42 v41 => (tg_n 5 (Nat.le_of_ble_eq_true rfl))) (fun a42 v41 =>
  (rs_set 6 (ex (rc_lst (c := .f) (rl_nil (α := (Int × Int))) (Nat.le_of_ble_eq_true rfl) trivial) rfl) (Nat.le_of_ble_eq_true rfl) fun row_here_ =>
  (rs_forR1P (n := 9) (N := fun v62 : ((List (Int × Int))) => [.h .o (enc g.1), .h .o (enc states_), .h .o (enc asks_), .h .f (enc j37), .h .f (enc v41), .h .o (enc a42), .h .f (enc v62), .x, .x]) (v0 := (row_here_)) (fun _ => rfl) rfl (ex (rb_var (a := asks_) 2 rfl) rfl) (.e (.e (.e (.e (.e (.e (.e (.x (.x .nil))))))))) (fun a63 v62 => (tg_n 7 (Nat.le_of_ble_eq_true rfl))) (fun a63 v62 =>
  (rs_setI 8 (ex (rc_callI r__law_mixed (ra_cons (rb_var (a := g.1) 0 rfl) (ra_cons (rb_toB (rc_addI (rb_toB (rc_addI (rb_int 10) (rb_toB (rc_mulI (rb_var (a := a42) 5 rfl) (rb_var (a := asks_) 2 rfl))))) (rb_var (a := a63) 7 rfl))) ra_nil))) (by simp only [ok_bind, bind_bind, bind_ok, cmpI_true])) (Nat.le_of_ble_eq_true rfl) fun cell_ =>
  (rs_end (rs_appW 6 rfl (rc_tup2 (c := .f) (ru_cons (rc_shI (rb_op oe_ixL (rb_var (a := j37) 3 rfl) (rb_op oe_mod (rb_var (a := cell_) 8 rfl) (rb_int 2)))) (ru_cons (rc_toC (rb_op oe_mod (rb_op oe_div (rb_var (a := cell_) 8 rfl) (rb_int 6)) (rb_var (a := states_) 1 rfl))) ru_nil)) trivial) rfl (by simp only [ok_bind, bind_bind, bind_ok, cmpI_true]) fun row_here_ =>
  (rs_next (an_C (v := (row_here_)) (.e (.e (.e (.e (.e (.e (.e (.x (.x .nil))))))))))))))) (fun v62 =>
  (rs_end (rs_appW 4 rfl (rc_mv (c := .f) (a := v62) 6 rfl) rfl rfl fun rows_ =>
  (rs_next (an_C (v := (rows_)) (.e (.e (.e (.e (.e (.x (.x (.x (.x .nil))))))))))))))))) (fun v41 =>
  (rs_retP (w := fun r => r) ar_R (ex (rc_mv (c := .f) (a := v41) 4 rfl) rfl)))))) (fun _ => rfl))) (fun _ => rfl)))))) trivial
theorem r__law_answers : FR (eC (α := (List (List (Int × Int)))) (eC (α := (List Int)) eN)) d_law_answers (fun g => n__law_answers g.1 g.2.1) .f :=
  FR.mk (fun _ => rfl) (fun g => by
  unfold n__law_answers
  exact (rs_set 2 (ex (rc_lst (c := .f) (rl_nil (α := Int)) (Nat.le_of_ble_eq_true rfl) trivial) rfl) (Nat.le_of_ble_eq_true rfl) fun answers_here_ =>
  (rs_setI 3 (ex (rc_toC (rb_int 0)) rfl) (Nat.le_of_ble_eq_true rfl) fun state_ =>
  (rs_forCP (g := fun l => l) (x := g.2.1) (n := 6) (N := fun v1 : ((List Int) × Int) => [.h .o (enc g.1), .x, .h .f (enc v1.1), .h .o (enc v1.2), .x, .x]) (v0 := (answers_here_, state_)) (fun _ => rfl) rfl it_L (ex (rc_mv (c := .o) (a := g.2.1) 1 rfl) rfl) (.e (.x (.e (.e (.x (.x .nil)))))) (fun a2 v1 => (tg_n 4 (Nat.le_of_ble_eq_true rfl))) (fun a2 v1 =>
  (rs_asg (ex (rc_shI (rb_op oe_ixL (rb_op oe_ixL (rb_var (a := g.1) 0 rfl) (rb_var (a := v1.2) 3 rfl)) (rb_var (a := a2) 4 rfl))) (by simp only [ok_bind, bind_bind, bind_ok, cmpI_true])) (fun p6 => (tg_2 5 3 (Nat.le_of_ble_eq_true rfl) (Nat.le_of_ble_eq_true rfl) (.i (Or.inl rfl) (Imm.im _)) (.i (Or.inl rfl) (Imm.im _)))) fun p6 =>
  (rs_end (rs_appW 2 rfl (rc_mvI (a := p6.1) 5 rfl) rfl rfl fun answers_here_ =>
  (rs_next (an_C (v := (answers_here_, p6.2)) (.e (.x (.e (.e (.x (.x .nil)))))))))))) (fun v1 =>
  (rs_retP (w := fun r => r) ar_R (ex (rc_mv (c := .f) (a := v1.1) 2 rfl) rfl))))))) trivial
theorem r__law_row : FR (eC (α := Sc) (eC (α := Int) (eC (α := (List Int)) (eC (α := (List (List (Int × Int)))) eN)))) d_law_row (fun g => n__law_row g.1 g.2.1 g.2.2.1 g.2.2.2.1) .f :=
  FR.mk (fun _ => rfl) (fun g => by
  unfold n__law_row
  exact (rs_setI 4 (ex (rc_callI r__law_mixed (ra_cons (rb_var (a := g.1) 0 rfl) (ra_cons (rb_var (a := g.2.1) 1 rfl) ra_nil))) (by simp only [ok_bind, bind_bind, bind_ok, cmpI_true])) (Nat.le_of_ble_eq_true rfl) fun cell_ =>
  (rs_set 5 (ex (rc_slL (rb_var (a := g.2.2.1) 2 rfl) ro_none (ro_some (rb_op oe_mod (rb_var (a := cell_) 4 rfl) (rb_int 7)))) (by simp only [ok_bind, bind_bind, bind_ok, cmpI_true])) (Nat.le_of_ble_eq_true rfl) fun probe_ =>
  (rs_forR1 (n := 9) (N := fun v5 : ((List Int)) => [.h .o (enc g.1), .h .o (enc g.2.1), .x, .h .o (enc g.2.2.2.1), .h .o (enc cell_), .h .f (enc v5), .x, .x, .x]) (v0 := (probe_)) (fun _ => rfl) rfl (ex (rb_op oe_ixL (rb_toB (rc_lst (c := .f) (rl_cons (rc_toC (rb_int 0)) (rl_cons (rc_toC (rb_int 0)) (rl_cons (rc_toC (rb_int 1)) (rl_cons (rc_toC (rb_int 2)) (rl_cons (rc_toC (rb_int 3)) (rl_nil (α := Int))))))) (Nat.le_of_ble_eq_true rfl) trivial)) (rb_op oe_mod (rb_op oe_div (rb_var (a := cell_) 4 rfl) (rb_int 7)) (rb_int 5))) (by simp only [ok_bind, bind_bind, bind_ok, cmpI_true])) (.e (.e (.x (.e (.e (.e (.x (.x (.x .nil))))))))) (fun a6 v5 => (tg_n 6 (Nat.le_of_ble_eq_true rfl))) (fun a6 v5 =>
  (rs_end (rs_appW 5 rfl (rc_toC (rb_op oe_mod (rb_toB (rc_callI r__law_mixed (ra_cons (rb_var (a := g.1) 0 rfl) (ra_cons (rb_toB (rc_addI (rb_toB (rc_addI (rb_var (a := g.2.1) 1 rfl) (rb_int 1))) (rb_var (a := a6) 6 rfl))) ra_nil)))) (rb_cb cb_lenL (ra_cons (rb_op oe_ixL (rb_var (a := g.2.2.2.1) 3 rfl) (rb_int 0)) ra_nil)))) rfl (by simp only [ok_bind, bind_bind, bind_ok, cmpI_true]) fun probe_ =>
  (rs_next (an_C (v := (probe_)) (.e (.e (.x (.e (.e (.e (.x (.x (.x .nil)))))))))))))) (fun v5 =>
  (rs_set 7 (ex (rc_call r__law_answers (ra_cons (rb_var (a := g.2.2.2.1) 3 rfl) (ra_cons (rb_var (a := v5) 5 rfl) ra_nil))) (by simp only [ok_bind, bind_bind, bind_ok, cmpI_true])) (Nat.le_of_ble_eq_true rfl) fun answers_here_ =>
  (rs_join (N := fun j26 : ((List Int)) => [.h .o (enc g.1), .h .o (enc g.2.1), .x, .h .o (enc g.2.2.2.1), .h .o (enc cell_), .h .f (enc v5), .x, .h .f (enc j26), .x]) (rs_end (rs_if (ex (rt_and (rt_test (rb_op (oe_eq (α := Int) (Nat.le_of_ble_eq_true rfl)) (rb_op oe_mod (rb_toB (rc_callI r__law_mixed (ra_cons (rb_var (a := g.1) 0 rfl) (ra_cons (rb_int 4) ra_nil)))) (rb_int 2)) (rb_int 0))) (rt_andP (rt_test (rb_op (oe_eq (α := Int) (Nat.le_of_ble_eq_true rfl)) (rb_op oe_mod (rb_op oe_div (rb_var (a := cell_) 4 rfl) (rb_int 35)) (rb_int 6)) (rb_int 0))) (rt_test (rb_op oe_gt (rb_cb cb_lenL (ra_cons (rb_var (a := answers_here_) 7 rfl) ra_nil)) (rb_int 0))))) (by simp only [ok_bind, bind_bind, bind_ok, cmpI_true]))
  (rs_assoc (rs_setI 8 (ex (rc_toC (rb_op oe_mod (rb_op oe_div (rb_var (a := cell_) 4 rfl) (rb_int 210)) (rb_cb cb_lenL (ra_cons (rb_var (a := answers_here_) 7 rfl) ra_nil)))) (by simp only [ok_bind, bind_bind, bind_ok, cmpI_true])) (Nat.le_of_ble_eq_true rfl) fun far_ =>
  (rs_setPW (l := answers_here_) 7 (rc_toC (rb_cb cb_int1B (ra_cons (rb_op (oe_eq (α := Int) (Nat.le_of_ble_eq_true rfl)) (rb_op oe_ixL (rb_var (a := answers_here_) 7 rfl) (rb_var (a := far_) 8 rfl)) (rb_int 0)) ra_nil))) rfl (rp_nil 7) (rb_var (a := far_) 8 rfl) rfl (by simp only [ok_bind, bind_bind, bind_ok, cmpI_true, Loc.top, Loc.at, Loc.opt, Loc.fst, Loc.snd, set2R, app2R]) fun answers_here_ =>
  (rs_next (an_N (v := (answers_here_)) (.e (.e (.x (.e (.e (.e (.x (.e (.x .nil))))))))))))))
  (rs_nx (rs_next (an_N (v := (answers_here_)) (.e (.e (.x (.e (.e (.e (.x (.e (.x .nil)))))))))))))) (fun j26 =>
  (rs_join (N := fun j44 : ((List Int)) => [.h .o (enc g.1), .h .o (enc g.2.1), .x, .h .o (enc g.2.2.2.1), .h .o (enc cell_), .h .f (enc v5), .x, .h .f (enc j44), .x]) (rs_end (rs_if (ex (rt_and (rt_test (rb_op (oe_eq (α := Int) (Nat.le_of_ble_eq_true rfl)) (rb_op oe_mod (rb_toB (rc_callI r__law_mixed (ra_cons (rb_var (a := g.1) 0 rfl) (ra_cons (rb_int 4) ra_nil)))) (rb_int 2)) (rb_int 0))) (rt_test (rb_op (oe_eq (α := Int) (Nat.le_of_ble_eq_true rfl)) (rb_op oe_mod (rb_op oe_div (rb_var (a := cell_) 4 rfl) (rb_int 35)) (rb_int 6)) (rb_int 1)))) (by simp only [ok_bind, bind_bind, bind_ok, cmpI_true]))
  (rs_set 7 (ex (rc_addL (rb_toB (rc_slL (rb_var (a := j26) 7 rfl) (ro_some (rb_int 1)) ro_none)) (rb_toB (rc_slL (rb_var (a := j26) 7 rfl) ro_none (ro_some (rb_int 1))))) (by simp only [ok_bind, bind_bind, bind_ok, cmpI_true])) (Nat.le_of_ble_eq_true rfl) fun answers_here_ =>
  (rs_next (an_N (v := (answers_here_)) (.e (.e (.x (.e (.e (.e (.x (.e (.x .nil))))))))))))
  (rs_nx (rs_next (an_N (v := (j26)) (.e (.e (.x (.e (.e (.e (.x (.e (.x .nil)))))))))))))) (fun j44 =>
  (rs_retP (w := fun r => r) ar_R (ex (rc_tup2 (c := .f) (ru_cons (rc_mv (c := .f) (a := v5) 5 rfl) (ru_cons (rc_mv (c := .f) (a := j44) 7 rfl) ru_nil)) trivial) rfl))) (fun _ => rfl))) (fun _ => rfl)))))))) trivial
theorem r__law_book : FR (eC (α := Sc) (eC (α := (List (List (Int × Int)))) eN)) d_law_book (fun g => n__law_book g.1 g.2.1) .n :=
  FR.mk (fun _ => rfl) (fun g => by
  unfold n__law_book
  exact (rs_set 2 (ex (rc_cmp1 (t := fun a1 => (.ok true)) (f := fun a1 => (R.bind (n__law_mixed g.1 ((30 : Int) + a1)) fun t3 => (R.bind (R.bind (atR g.2.1 (0 : Int)) fun t2 => .ok (ilen t2)) fun t4 => (modR t3 t4)))) (rb_int 6) (fun a1 => (tg_n 5 (Nat.le_of_ble_eq_true rfl))) (fun a1 => rt_yes) (fun a1 => (ex (rc_toC (rb_op oe_mod (rb_toB (rc_callI r__law_mixed (ra_cons (rb_var (a := g.1) 0 rfl) (ra_cons (rb_toB (rc_addI (rb_int 30) (rb_var (a := a1) 5 rfl))) ra_nil)))) (rb_cb cb_lenL (ra_cons (rb_op oe_ixL (rb_var (a := g.2.1) 1 rfl) (rb_int 0)) ra_nil)))) (by simp only [ok_bind, bind_bind, bind_ok, cmpI_true]))) (fun a1 => (.e (.e (.x (.x (.x (.x (.x (.x .nil))))))))) (fun a1 => (.e (.e (.x (.x (.x (.x (.x (.x .nil)))))))))) (by simp only [ok_bind, bind_bind, bind_ok, cmpI_true])) (Nat.le_of_ble_eq_true rfl) fun stem_ =>
  (rs_setI 3 (ex (rc_toC (rb_op oe_mod (rb_toB (rc_callI r__law_mixed (ra_cons (rb_var (a := g.1) 0 rfl) (ra_cons (rb_int 5) ra_nil)))) (rb_int 10))) (by simp only [ok_bind, bind_bind, bind_ok, cmpI_true])) (Nat.le_of_ble_eq_true rfl) fun many_ =>
  (rs_join (N := fun j10 : (Int) => [.h .o (enc g.1), .h .o (enc g.2.1), .h .f (enc stem_), .h .o (enc j10), .x, .x, .x, .x]) (rs_end (rs_if (ex (rt_test (rb_op (oe_eq (α := Int) (Nat.le_of_ble_eq_true rfl)) (rb_op oe_mod (rb_toB (rc_callI r__law_mixed (ra_cons (rb_var (a := g.1) 0 rfl) (ra_cons (rb_int 6) ra_nil)))) (rb_int 8)) (rb_int 4))) (by simp only [ok_bind, bind_bind, bind_ok, cmpI_true]))
  (rs_setI 3 (ex (rc_toC (rb_int 40)) rfl) (Nat.le_of_ble_eq_true rfl) fun many_ =>
  (rs_next (an_N (v := (many_)) (.e (.e (.e (.e (.x (.x (.x (.x .nil)))))))))))
  (rs_nx (rs_next (an_N (v := (many_)) (.e (.e (.e (.e (.x (.x (.x (.x .nil))))))))))))) (fun j10 =>
  (rs_set 4 (ex (rc_lst (c := .f) (rl_nil (α := ((List Int) × (List Int)))) (Nat.le_of_ble_eq_true rfl) trivial) rfl) (Nat.le_of_ble_eq_true rfl) fun rows_ =>
  (rs_low 4 rfl (rs_forR1P (n := 8) (N := fun v14 : ((List ((List Int) × (List Int)))) => [.h .o (enc g.1), .h .o (enc g.2.1), .h .f (enc stem_), .x, .h .t (enc v14), .x, .x, .x]) (v0 := (rows_)) (fun _ => rfl) rfl (ex (rb_var (a := j10) 3 rfl) rfl) (.e (.e (.e (.x (.e (.x (.x (.x .nil)))))))) (fun a15 v14 => (tg_n 5 (Nat.le_of_ble_eq_true rfl))) (fun a15 v14 =>
  (rs_appTW 4 rfl (rc_call r__law_row (ra_cons (rb_var (a := g.1) 0 rfl) (ra_cons (rb_toB (rc_addI (rb_int 40) (rb_toB (rc_mulI (rb_int 4) (rb_var (a := a15) 5 rfl))))) (ra_cons (rb_var (a := stem_) 2 rfl) (ra_cons (rb_var (a := g.2.1) 1 rfl) ra_nil))))) rfl (by simp only [ok_bind, bind_bind, bind_ok, cmpI_true]) fun rows_ =>
  (rs_end (rs_if (ex (rt_test (rb_op (oe_eq (α := Int) (Nat.le_of_ble_eq_true rfl)) (rb_op oe_mod (rb_toB (rc_callI r__law_mixed (ra_cons (rb_var (a := g.1) 0 rfl) (ra_cons (rb_toB (rc_addI (rb_int 300) (rb_var (a := a15) 5 rfl))) ra_nil)))) (rb_int 5)) (rb_int 0))) (by simp only [ok_bind, bind_bind, bind_ok, cmpI_true]))
  (rs_assoc (rs_asg (ex (rc_topO (rc_topAt 4 rfl (rb_op oe_mod (rb_toB (rc_callI r__law_mixed (ra_cons (rb_var (a := g.1) 0 rfl) (ra_cons (rb_toB (rc_addI (rb_int 400) (rb_var (a := a15) 5 rfl))) ra_nil)))) (rb_cb cb_lenL (ra_cons (rb_var (a := rows_) 4 rfl) ra_nil))) rfl)) (by simp only [ok_bind, bind_bind, bind_ok, cmpI_true])) (fun p41 => (tg_2 6 7 (Nat.le_of_ble_eq_true rfl) (Nat.le_of_ble_eq_true rfl) (.s (Or.inr rfl)) (.s (Or.inr rfl)))) fun p41 =>
  (rs_appTW 4 rfl (rc_tup2 (c := .f) (ru_cons (rc_listL (ra_cons (rb_var (a := p41.1) 6 rfl) ra_nil)) (ru_cons (rc_listL (ra_cons (rb_var (a := p41.2) 7 rfl) ra_nil)) ru_nil)) trivial) rfl rfl fun rows_ =>
  (rs_next (an_C (v := (rows_)) (.e (.e (.e (.x (.e (.x (.x (.x .nil)))))))))))))
  (rs_nx (rs_next (an_C (v := (rows_)) (.e (.e (.e (.x (.e (.x (.x (.x .nil))))))))))))))) (fun v14 =>
  (rs_retP (w := fun r => r) ar_Rn (ex (rc_mv (c := .t) (a := v14) 4 rfl) rfl))))))) (fun _ => rfl))))) trivial
theorem r_thin : FR (eC (α := (List ((List Int) × (List Int)))) eN) d_thin (fun g => n_thin g.1) .f :=
  FR.mk (fun _ => rfl) (fun g => by
  unfold n_thin
  exact (rs_set 1 (ex (rc_dnewN (κ := ((Tv Int) × (Tv Int))) (α := Bool)) rfl) (Nat.le_of_ble_eq_true rfl) fun gone_ =>
  (rs_forCP (g := fun l => l) (x := g.1) (n := 7) (N := fun v1 : ((Dc ((Tv Int) × (Tv Int)) Bool)) => [.h .o (enc g.1), .h .f (enc v1), .x, .x, .x, .x, .x]) (v0 := (gone_)) (fun _ => rfl) rfl it_L (ex (rc_alO (a := g.1) 0 rfl) rfl) (.e (.e (.x (.x (.x (.x (.x .nil))))))) (fun a2 v1 => (tg_2 2 3 (Nat.le_of_ble_eq_true rfl) (Nat.le_of_ble_eq_true rfl) (.s (Or.inr rfl)) (.s (Or.inr rfl)))) (fun a2 v1 =>
  (rs_end (rs_forR1P (n := 7) (N := fun v6 : ((Dc ((Tv Int) × (Tv Int)) Bool)) => [.h .o (enc g.1), .h .f (enc v6), .h .o (enc a2.1), .h .o (enc a2.2), .x, .x, .x]) (v0 := (v1)) (fun _ => rfl) rfl (ex (rb_cb cb_lenL (ra_cons (rb_var (a := a2.1) 2 rfl) ra_nil)) rfl) (.e (.e (.e (.e (.x (.x (.x .nil))))))) (fun a7 v6 => (tg_n 4 (Nat.le_of_ble_eq_true rfl))) (fun a7 v6 =>
  (rs_end (rs_dset (d := v6) 1 (rc_toC (rb_bl true)) rfl (rb_toB (rc_tup2 (c := .f) (ru_cons (rc_tupL (ra_cons (rb_toB (rc_slL (rb_var (a := a2.1) 2 rfl) ro_none (ro_some (rb_var (a := a7) 4 rfl)))) ra_nil)) (ru_cons (rc_tupL (ra_cons (rb_toB (rc_slL (rb_var (a := a2.2) 3 rfl) ro_none (ro_some (rb_var (a := a7) 4 rfl)))) ra_nil)) ru_nil)) trivial)) rfl (by simp only [ok_bind, bind_bind, bind_ok, cmpI_true]) fun gone_ =>
  (rs_next (an_C (v := (gone_)) (.e (.e (.e (.e (.x (.x (.x .nil)))))))))))) (fun v6 =>
  (rs_next (an_C (v := (v6)) (.e (.e (.x (.x (.x (.x (.x .nil))))))))))))) (fun v1 =>
  (rs_set 5 (ex (rc_lst (c := .f) (rl_nil (α := ((List Int) × (List Int)))) (Nat.le_of_ble_eq_true rfl) trivial) rfl) (Nat.le_of_ble_eq_true rfl) fun rows_ =>
  (rs_forCP (g := fun l => l) (x := g.1) (n := 7) (N := fun v9 : ((Dc ((Tv Int) × (Tv Int)) Bool) × (List ((List Int) × (List Int)))) => [.x, .h .f (enc v9.1), .x, .x, .x, .h .f (enc v9.2), .x]) (v0 := (v1, rows_)) (fun _ => rfl) rfl it_L (ex (rc_mv (c := .o) (a := g.1) 0 rfl) rfl) (.x (.e (.x (.x (.x (.e (.x .nil))))))) (fun a10 v9 => (tg_2 2 3 (Nat.le_of_ble_eq_true rfl) (Nat.le_of_ble_eq_true rfl) (.s (Or.inr rfl)) (.s (Or.inr rfl)))) (fun a10 v9 =>
  (rs_setI 6 (ex (rc_tup2 (c := .f) (ru_cons (rc_tupL (ra_cons (rb_var (a := a10.1) 2 rfl) ra_nil)) (ru_cons (rc_tupL (ra_cons (rb_var (a := a10.2) 3 rfl) ra_nil)) ru_nil)) trivial) rfl) (Nat.le_of_ble_eq_true rfl) fun pair_ =>
  (rs_end (rs_ifP (ex (rt_test (rb_op oe_dnin (rb_var (a := pair_) 6 rfl) (rb_var (a := v9.1) 1 rfl))) rfl)
  (rs_assoc (rs_dset (d := v9.1) 1 (rc_toC (rb_bl true)) rfl (rb_var (a := pair_) 6 rfl) rfl (by simp only [ok_bind, bind_bind, bind_ok, cmpI_true]) fun gone_ =>
  (rs_appW 5 rfl (rc_tup2 (c := .f) (ru_cons (rc_listL (ra_cons (rb_var (a := a10.1) 2 rfl) ra_nil)) (ru_cons (rc_listL (ra_cons (rb_var (a := a10.2) 3 rfl) ra_nil)) ru_nil)) trivial) rfl rfl fun rows_ =>
  (rs_next (an_C (v := (gone_, rows_)) (.x (.e (.x (.x (.x (.e (.x .nil))))))))))))
  (rs_nx (rs_next (an_C (v := (v9.1, v9.2)) (.x (.e (.x (.x (.x (.e (.x .nil)))))))))))))) (fun v9 =>
  (rs_retP (w := fun r => r) ar_R (ex (rc_mv (c := .f) (a := v9.2) 5 rfl) rfl))))))))) trivial
theorem r_asks_of : FR (eC (α := (List (List (Int × Int)))) eN) d_asks_of (fun g => n_asks_of g.1) .f :=
  FR.mk (fun _ => rfl) (fun g => by
  unfold n_asks_of
  exact (rs_ret (w := fun r => r) ar_R (ex (rc_toC (rb_cb cb_lenL (ra_cons (rb_op oe_ixL (rb_var (a := g.1) 0 rfl) (rb_int 0)) ra_nil))) (by simp only [ok_bind, bind_bind, bind_ok, cmpI_true])))) trivial
theorem r_is_whole : FR (eC (α := Int) eN) d_is_whole (fun g => n_is_whole g.1) .f :=
  FR.mk (fun _ => rfl) (fun g => by
  unfold n_is_whole
  exact (rs_retP (w := fun r => r) ar_R (ex (rc_toC (rb_andP (rb_isi ty_int_int (rb_var (a := g.1) 0 rfl)) (rb_not (rb_isi ty_int_bool (rb_var (a := g.1) 0 rfl))))) rfl))) trivial
theorem r_is_probe : FR (eC (α := (List Int)) (eC (α := Int) eN)) d_is_probe (fun g => n_is_probe g.1 g.2.1) .f :=
  FR.mk (fun _ => rfl) (fun g => by
  unfold n_is_probe
  exact (rs_ifP (ex (rt_orP (rt_not (rt_test (rb_isi ty_list_list (rb_var (a := g.1) 0 rfl)))) (rt_test (rb_op oe_gt (rb_cb cb_lenL (ra_cons (rb_var (a := g.1) 0 rfl) ra_nil)) (rb_int 13000)))) rfl)
  (rs_deadRet (rs_retP (w := fun r => r) ar_R (ex (rc_toC (rb_bl false)) rfl)))
  (rs_nx (rs_forCXP (g := fun l => l) (x := g.1) (n := 3) (N := fun v1 : Unit => [.x, .h .o (enc g.2.1), .x]) (v0 := ()) (fun _ => rfl) rfl it_L (ex (rc_mv (c := .o) (a := g.1) 0 rfl) rfl) (.x (.e (.x .nil))) (fun a2 v1 => (tg_n 2 (Nat.le_of_ble_eq_true rfl))) (fun a2 v1 =>
  (rs_end (rs_if (ex (rt_orP (rt_not (rt_test (rb_toB (rc_callI r_is_whole (ra_cons (rb_var (a := a2) 2 rfl) ra_nil))))) (rt_not (rt_test (rb_chainP oe_le oe_lt (rb_int 0) (rb_var (a := a2) 2 rfl) (rb_var (a := g.2.1) 1 rfl))))) (by simp only [ok_bind, bind_bind, bind_ok, cmpI_true]))
  (rs_deadRet (rs_retP (w := fun r => (Lp.out r)) (ar_L ar_R) (ex (rc_toC (rb_bl false)) rfl)))
  (rs_nx (rs_next (an_L (v := ()) (.x (.e (.x .nil))))))))) (fun v1 =>
  (rs_retP (w := fun r => r) ar_R (ex (rc_toC (rb_bl true)) rfl))))))) trivial
theorem r_is_state : FR (eC (α := Int) (eC (α := (List (List (Int × Int)))) eN)) d_is_state (fun g => n_is_state g.1 g.2.1) .f :=
  FR.mk (fun _ => rfl) (fun g => by
  unfold n_is_state
  exact (rs_ret (w := fun r => r) ar_R (ex (rc_toC (rb_andP (rb_toB (rc_callI r_is_whole (ra_cons (rb_var (a := g.1) 0 rfl) ra_nil))) (rb_chainP oe_le oe_lt (rb_int 0) (rb_var (a := g.1) 0 rfl) (rb_cb cb_lenL (ra_cons (rb_var (a := g.2.1) 1 rfl) ra_nil))))) (by simp only [ok_bind, bind_bind, bind_ok, cmpI_true])))) trivial
theorem r_steps : FR (eC (α := (List (List (Int × Int)))) (eC (α := Int) (eC (α := (List Int)) eN))) d_steps (fun g => n_steps g.1 g.2.1 g.2.2.1) .f :=
  FR.mk (fun _ => rfl) (fun g => by
  unfold n_steps
  exact (rs_set 3 (ex (rc_lst (c := .f) (rl_nil (α := Int)) (Nat.le_of_ble_eq_true rfl) trivial) rfl) (Nat.le_of_ble_eq_true rfl) fun answers_ =>
  (rs_forCP (g := fun l => l) (x := g.2.2.1) (n := 6) (N := fun v1 : (Int × (List Int)) => [.h .o (enc g.1), .h .o (enc v1.1), .x, .h .f (enc v1.2), .x, .x]) (v0 := (g.2.1, answers_)) (fun _ => rfl) rfl it_L (ex (rc_mv (c := .o) (a := g.2.2.1) 2 rfl) rfl) (.e (.e (.x (.e (.x (.x .nil)))))) (fun a2 v1 => (tg_n 4 (Nat.le_of_ble_eq_true rfl))) (fun a2 v1 =>
  (rs_asg (ex (rc_shI (rb_op oe_ixL (rb_op oe_ixL (rb_var (a := g.1) 0 rfl) (rb_var (a := v1.1) 1 rfl)) (rb_var (a := a2) 4 rfl))) (by simp only [ok_bind, bind_bind, bind_ok, cmpI_true])) (fun p6 => (tg_2 5 1 (Nat.le_of_ble_eq_true rfl) (Nat.le_of_ble_eq_true rfl) (.i (Or.inl rfl) (Imm.im _)) (.i (Or.inl rfl) (Imm.im _)))) fun p6 =>
  (rs_end (rs_appW 3 rfl (rc_mvI (a := p6.1) 5 rfl) rfl rfl fun answers_ =>
  (rs_next (an_C (v := (p6.2, answers_)) (.e (.e (.x (.e (.x (.x .nil)))))))))))) (fun v1 =>
  (rs_retP (w := fun r => r) ar_R (ex (rc_tup2 (c := .f) (ru_cons (rc_mv (c := .f) (a := v1.2) 3 rfl) (ru_cons (rc_mvI (a := v1.1) 1 rfl) ru_nil)) trivial) rfl)))))) trivial
theorem r_walk : FR (eC (α := (List (List (Int × Int)))) (eC (α := Int) (eC (α := (List Int)) eN))) d_walk (fun g => n_walk g.1 g.2.1 g.2.2.1) .f :=
  FR.mk (fun _ => rfl) (fun g => by
  unfold n_walk
  exact (rs_if (ex (rt_not (rt_test (rb_toB (rc_callI r_is_state (ra_cons (rb_var (a := g.2.1) 1 rfl) (ra_cons (rb_var (a := g.1) 0 rfl) ra_nil)))))) (by simp only [ok_bind, bind_bind, bind_ok, cmpI_true]))
  (rs_deadRaise rs_raise)
  (rs_nx (rs_if (ex (rt_not (rt_test (rb_toB (rc_callI r_is_probe (ra_cons (rb_var (a := g.2.2.1) 2 rfl) (ra_cons (rb_toB (rc_callI r_asks_of (ra_cons (rb_var (a := g.1) 0 rfl) ra_nil))) ra_nil)))))) (by simp only [ok_bind, bind_bind, bind_ok, cmpI_true]))
  (rs_deadRaise rs_raise)
  (rs_nx (rs_ret (w := fun r => r) ar_R (ex (rc_call r_steps (ra_cons (rb_var (a := g.1) 0 rfl) (ra_cons (rb_var (a := g.2.1) 1 rfl) (ra_cons (rb_var (a := g.2.2.1) 2 rfl) ra_nil)))) (by simp only [ok_bind, bind_bind, bind_ok, cmpI_true])))))))) trivial
theorem r_run : FR (eC (α := (List (List (Int × Int)))) (eC (α := (List Int)) eN)) d_run (fun g => n_run g.1 g.2.1) .f :=
  FR.mk (fun _ => rfl) (fun g => by
  unfold n_run
  exact (rs_ret (w := fun r => r) ar_R (ex (rc_pick0 (rc_call r_walk (ra_cons (rb_var (a := g.1) 0 rfl) (ra_cons (rb_int 0) (ra_cons (rb_var (a := g.2.1) 1 rfl) ra_nil))))) (by simp only [ok_bind, bind_bind, bind_ok, cmpI_true])))) trivial
theorem r_fault : FR (eC (α := (List ((List Int) × (List Int)))) (eC (α := (List (List (Int × Int)))) eN)) d_fault (fun g => n_fault g.1 g.2.1) .f :=
  FR.mk (fun _ => rfl) (fun g => by
  unfold n_fault
  exact (rs_setI 2 (ex (rc_callI r_asks_of (ra_cons (rb_var (a := g.2.1) 1 rfl) ra_nil)) (by simp only [ok_bind, bind_bind, bind_ok, cmpI_true])) (Nat.le_of_ble_eq_true rfl) fun many_ =>
  (rs_forCP (g := fun l => l) (x := g.1) (n := 6) (N := fun v1 : Unit => [.h .o (enc g.1), .h .o (enc g.2.1), .h .o (enc many_), .x, .x, .x]) (v0 := ()) (fun _ => rfl) rfl it_L (ex (rc_alO (a := g.1) 0 rfl) rfl) (.e (.e (.e (.x (.x (.x .nil)))))) (fun a2 v1 => (tg_2 3 4 (Nat.le_of_ble_eq_true rfl) (Nat.le_of_ble_eq_true rfl) (.s (Or.inr rfl)) (.s (Or.inr rfl)))) (fun a2 v1 =>
  (rs_end (rs_if (ex (rt_not (rt_test (rb_toB (rc_callI r_is_probe (ra_cons (rb_var (a := a2.1) 3 rfl) (ra_cons (rb_var (a := many_) 2 rfl) ra_nil)))))) (by simp only [ok_bind, bind_bind, bind_ok, cmpI_true]))
  (rs_deadRaise rs_raise)
  (rs_nx (rs_next (an_C (v := ()) (.e (.e (.e (.x (.x (.x .nil)))))))))))) (fun v1 =>
  (rs_forCXP (g := fun l => l) (x := g.1) (n := 6) (N := fun v7 : Unit => [.x, .h .o (enc g.2.1), .x, .x, .x, .x]) (v0 := ()) (fun _ => rfl) rfl it_L (ex (rc_mv (c := .o) (a := g.1) 0 rfl) rfl) (.x (.e (.x (.x (.x (.x .nil)))))) (fun a8 v7 => (tg_2 3 4 (Nat.le_of_ble_eq_true rfl) (Nat.le_of_ble_eq_true rfl) (.s (Or.inr rfl)) (.s (Or.inr rfl)))) (fun a8 v7 =>
  (rs_set 5 (ex (rc_call r_run (ra_cons (rb_var (a := g.2.1) 1 rfl) (ra_cons (rb_var (a := a8.1) 3 rfl) ra_nil))) (by simp only [ok_bind, bind_bind, bind_ok, cmpI_true])) (Nat.le_of_ble_eq_true rfl) fun given_ =>
  (rs_end (rs_ifP (ex (rt_test (rb_op (oe_ne (α := (List Int)) (Nat.le_of_ble_eq_true rfl)) (rb_var (a := given_) 5 rfl) (rb_var (a := a8.2) 4 rfl))) rfl)
  (rs_deadRet (rs_retP (w := fun r => (Lp.out r)) (ar_L ar_R) (ex (rc_some (rc_tup2 (c := .f) (ru_cons (rc_listL (ra_cons (rb_var (a := a8.1) 3 rfl) ra_nil)) (ru_cons (rc_mv (c := .f) (a := given_) 5 rfl) ru_nil)) trivial)) rfl)))
  (rs_nx (rs_next (an_L (v := ()) (.x (.e (.x (.x (.x (.x .nil))))))))))))) (fun v7 =>
  (rs_retP (w := fun r => r) ar_R (ex (rc_non (α := ((List Int) × (List Int)))) rfl)))))))) trivial
theorem r_passes : FR (eC (α := (List ((List Int) × (List Int)))) (eC (α := (List (List (Int × Int)))) eN)) d_passes (fun g => n_passes g.1 g.2.1) .f :=
  FR.mk (fun _ => rfl) (fun g => by
  unfold n_passes
  exact (rs_ret (w := fun r => r) ar_R (ex (rc_toC (rb_op oe_isN (rb_toB (rc_call r_fault (ra_cons (rb_var (a := g.1) 0 rfl) (ra_cons (rb_var (a := g.2.1) 1 rfl) ra_nil)))) (rb_c (a := ()) rfl))) (by simp only [ok_bind, bind_bind, bind_ok, cmpI_true])))) trivial
theorem r_law : FR (eC (α := Sc) eN) d_law (fun g => n_law g.1) .f :=
  FR.mk (fun _ => rfl) (fun g => by
  unfold n_law
  exact (rs_set 1 (ex (rc_call r__law_machine (ra_cons (rb_var (a := g.1) 0 rfl) ra_nil)) (by simp only [ok_bind, bind_bind, bind_ok, cmpI_true])) (Nat.le_of_ble_eq_true rfl) fun machine_here_ =>
  (rs_set 2 (ex (rc_callN r__law_book (ra_cons (rb_var (a := g.1) 0 rfl) (ra_cons (rb_var (a := machine_here_) 1 rfl) ra_nil))) (by simp only [ok_bind, bind_bind, bind_ok, cmpI_true])) (Nat.le_of_ble_eq_true rfl) fun rows_ =>
  (rs_set 3 (ex (rc_call r_thin (ra_cons (rb_toB (rc_cmp (t := fun a1 => (.ok true)) (f := fun a1 => (.ok (a1.1, a1.2))) it_L (rb_var (a := rows_) 2 rfl) (fun a1 => (tg_2 7 8 (Nat.le_of_ble_eq_true rfl) (Nat.le_of_ble_eq_true rfl) (.s (Or.inr rfl)) (.s (Or.inr rfl)))) (fun a1 => rt_yes) (fun a1 => (ex (rc_tup2 (c := .f) (ru_cons (rc_listL (ra_cons (rb_var (a := a1.1) 7 rfl) ra_nil)) (ru_cons (rc_listL (ra_cons (rb_var (a := a1.2) 8 rfl) ra_nil)) ru_nil)) trivial) rfl)) (fun a1 => (.e (.e (.e (.x (.x (.x (.x (.x (.x .nil)))))))))) (fun a1 => (.e (.e (.e (.x (.x (.x (.x (.x (.x .nil)))))))))))) ra_nil)) (by simp only [ok_bind, bind_bind, bind_ok, cmpI_true])) (Nat.le_of_ble_eq_true rfl) fun short_ =>
  (rs_setI 4 (ex (rc_callI r_passes (ra_cons (rb_var (a := rows_) 2 rfl) (ra_cons (rb_var (a := machine_here_) 1 rfl) ra_nil))) (by simp only [ok_bind, bind_bind, bind_ok, cmpI_true])) (Nat.le_of_ble_eq_true rfl) fun whole_ =>
  (rs_setI 5 (ex (rc_callI r_passes (ra_cons (rb_var (a := short_) 3 rfl) (ra_cons (rb_var (a := machine_here_) 1 rfl) ra_nil))) (by simp only [ok_bind, bind_bind, bind_ok, cmpI_true])) (Nat.le_of_ble_eq_true rfl) fun part_ =>
  (rs_ifP (ex (rt_orP (rt_not (rt_test (rb_isi ty_bool_bool (rb_var (a := whole_) 4 rfl)))) (rt_orP (rt_not (rt_test (rb_isi ty_bool_bool (rb_var (a := part_) 5 rfl)))) (rt_test (rb_op (oe_ne (α := Bool) (Nat.le_of_ble_eq_true rfl)) (rb_var (a := whole_) 4 rfl) (rb_var (a := part_) 5 rfl))))) rfl)
  (rs_deadRet (rs_retP (w := fun r => r) ar_R (ex (rc_toC (rb_bl false)) rfl)))
  (rs_nx (rs_set 6 (ex (rc_call r_fault (ra_cons (rb_var (a := short_) 3 rfl) (ra_cons (rb_var (a := machine_here_) 1 rfl) ra_nil))) (by simp only [ok_bind, bind_bind, bind_ok, cmpI_true])) (Nat.le_of_ble_eq_true rfl) fun found_ =>
  (rs_ifP (ex (rt_test (rb_op oe_isN (rb_var (a := found_) 6 rfl) (rb_c (a := ()) rfl))) rfl)
  (rs_deadRet (rs_retP (w := fun r => r) ar_R (ex (rc_mvI (a := whole_) 4 rfl) rfl)))
  (rs_nx (rs_forCXP (g := fun l => l) (x := rows_) (n := 9) (N := fun v3 : Unit => [.x, .h .n (enc machine_here_), .x, .x, .h .o (enc whole_), .x, .h .f (enc found_), .x, .x]) (v0 := ()) (fun _ => rfl) rfl it_L (ex (rc_mv (c := .n) (a := rows_) 2 rfl) rfl) (.x (.e (.x (.x (.e (.x (.e (.x (.x .nil))))))))) (fun a4 v3 => (tg_2 7 8 (Nat.le_of_ble_eq_true rfl) (Nat.le_of_ble_eq_true rfl) (.s (Or.inr rfl)) (.s (Or.inr rfl)))) (fun a4 v3 =>
  (rs_end (rs_if (ex (rt_and (rt_test (rb_op (oe_eq (α := (List Int)) (Nat.le_of_ble_eq_true rfl)) (rb_var (a := a4.1) 7 rfl) (rb_prj pj20 (rb_dn dn_o (rb_var (a := found_) 6 rfl))))) (rt_test (rb_op (oe_ne (α := (List Int)) (Nat.le_of_ble_eq_true rfl)) (rb_var (a := a4.2) 8 rfl) (rb_toB (rc_call r__law_answers (ra_cons (rb_var (a := machine_here_) 1 rfl) (ra_cons (rb_var (a := a4.1) 7 rfl) ra_nil))))))) (by simp only [ok_bind, bind_bind, bind_ok, cmpI_true]))
  (rs_deadRet (rs_retP (w := fun r => (Lp.out r)) (ar_L ar_R) (ex (rc_toC (rb_not (rb_var (a := whole_) 4 rfl))) rfl)))
  (rs_nx (rs_next (an_L (v := ()) (.x (.e (.x (.x (.e (.x (.e (.x (.x .nil))))))))))))))) (fun v3 =>
  (rs_retP (w := fun r => r) ar_R (ex (rc_toC (rb_bl false)) rfl))))))))))))))) trivial
end Dv

namespace Dv
open Enc (enc)
open PySem
section
variable {α : Type}
/-- rows of so many steps, laid by cells: the loops of the law's machine -/
theorem rows_ok {c a : Nat} {f : Int → Int → R (Int × Int)} (hc : c ≤ 1000) (ha : a ≤ 1000) (h : ∀ s x, Nm c s → Nm a x → Ok (f s x) fun p => Nm c p.2) {k : Mach → R α} {Q : α → Prop} (hk : ∀ B, Wf B c a → Ok (k B) Q)
    {F : Int → Mach → R Mach} (hF : ∀ s B, Nm c s → F s B = R.bind (.ok ([] : List (Int × Int))) fun row => R.bind (R.bind (rng1 (a : Int)) fun l => forR l row fun x v => R.bind (f s x) fun p => R.bind (appR v p) fun r => .ok r) fun v => R.bind (appR B v) fun b => .ok b) :
    Ok (R.bind (R.bind (rng1 (c : Int)) fun l => forR l ([] : Mach) F) k) Q := by
  rw [rng1_ok (by omega) (by omega), ok_bind, Ok_bind, show ((c : Int)).toNat = c by omega]
  refine (forR_inv (fun k B => B.length = k ∧ k ≤ c ∧ ∀ r ∈ B, r.length = a ∧ ∀ p ∈ r, Nm c p.2) (Q := fun B => Wf B c a) ⟨rfl, by omega, by simp⟩ ?_ ?_).mono hk
  · rintro k s B hk ⟨hB, hkc, hr⟩
    obtain ⟨hk1, hs⟩ := rngL_get hk
    have hsn : Nm c s := ⟨by omega, by omega⟩
    rw [hF s B hsn, ok_bind, rng1_ok (by omega) (by omega), ok_bind, Ok_bind, show ((a : Int)).toNat = a by omega]
    refine (forR_inv (fun j r => r.length = j ∧ j ≤ a ∧ ∀ p ∈ r, Nm c p.2) (Q := fun r => r.length = a ∧ ∀ p ∈ r, Nm c p.2) ⟨rfl, by omega, by simp⟩ ?_ ?_).mono ?_
    · rintro j x r hj ⟨hr1, hj2, hg⟩
      obtain ⟨hj1, hx⟩ := rngL_get hj
      rw [Ok_bind]
      refine (h s x hsn ⟨by omega, by omega⟩).mono fun p hp => ?_
      rw [appR_ok (by omega), ok_bind, Ok_ok]
      refine ⟨by simp [hr1], hj1, fun q hq => ?_⟩
      rcases List.mem_append.mp hq with hq | hq
      · exact hg q hq
      · rw [List.mem_singleton.mp hq]; exact hp
    · rintro r ⟨h1, _, h3⟩
      rw [rngL_len] at h1
      exact ⟨h1, h3⟩
    · rintro r ⟨h1, h2⟩
      rw [appR_ok (by omega), ok_bind, Ok_ok]
      refine ⟨by simp [hB], hk1, fun q hq => ?_⟩
      rcases List.mem_append.mp hq with hq | hq
      · exact hr q hq
      · rw [List.mem_singleton.mp hq]; exact ⟨h1, h2⟩
  · rintro B ⟨h1, _, h3⟩
    rw [rngL_len] at h1
    exact ⟨h1, h3⟩
/-- a cell's number within a bound -/
theorem emod_pos (v : Int) {m : Int} (h : 0 < m) : 0 ≤ v % m ∧ v % m < m := ⟨Int.emod_nonneg _ (by omega), Int.emod_lt_of_pos _ h⟩
end
theorem mix_ok (ns : List Int) {k : Int} (h0 : 0 ≤ k) (h1 : k < 1000000000) : Ok (n__law_mixed ⟨ns⟩ k) fun v => 0 ≤ v ∧ v < 2147483629 := by
  unfold n__law_mixed
  rw [ok_bind, Ok_bind]
  refine Ok.mono (Q := fun _ => True) ?_ fun c _ => ?_
  · rw [Ok_if]
    refine ⟨fun h => ?_, fun h => by rw [Ok_ok]; trivial⟩
    rw [decide_eq_true_eq] at h
    have h : (0 : Int) < ilen ns := h
    rw [modR_ok h, ok_bind, atR_int (Int.emod_nonneg _ (by omega)) (show k % ilen ns < (ns.length : Int) from Int.emod_lt_of_pos _ h), ok_bind, Ok_ok]
    trivial
  · rw [modR_ok (by decide), ok_bind, mulR_l (by decide), ok_bind, ok_bind, ok_bind, mulR_r (by decide), ok_bind, modR_ok (by decide), ok_bind]
    have b := emod_pos ((c % 2147483629 + 7919 * k + 1) * 48271) (show (0 : Int) < 2147483647 by decide)
    generalize (c % 2147483629 + 7919 * k + 1) * 48271 % 2147483647 = d at b
    rw [modR_ok (by decide), ok_bind, ok_bind, ok_bind, mulR_l (by omega), ok_bind, modR_ok (by decide), ok_bind, Ok_ok]
    exact emod_pos _ (by decide)
noncomputable def lmix (ns : List Int) (k : Int) : Int := match n__law_mixed ⟨ns⟩ k with
  | .ok v => v
  | _ => 0
theorem mix_eq (ns : List Int) {k : Int} (h0 : 0 ≤ k) (h1 : k < 1000000000) : n__law_mixed ⟨ns⟩ k = .ok (lmix ns k) := by
  obtain ⟨v, e, _⟩ := mix_ok ns h0 h1
  unfold lmix
  rw [e]
theorem mix_le (ns : List Int) {k : Int} (h0 : 0 ≤ k) (h1 : k < 1000000000) : 0 ≤ lmix ns k ∧ lmix ns k < 2147483629 := by
  obtain ⟨v, e, b⟩ := mix_ok ns h0 h1
  unfold lmix
  rw [e]
  exact b
theorem asks_eq {M : Mach} {n a : Nat} (wf : Wf M n a) (hn : 0 < n) : n_asks_of M = .ok (a : Int) := by
  have h0 : Nm n 0 := ⟨by omega, by omega⟩
  unfold n_asks_of
  simp only [wf.at1 h0, ok_bind, ilen, (wf.row h0).2.1]
theorem isp_ok {p : List Int} {a : Nat} (h : Pr a p) (hl : p.length ≤ 13000) : n_is_probe p (a : Int) = .ok true := by
  unfold n_is_probe
  have e : decide ((ilen p) > (13000 : Int)) = false := decide_eq_false (by unfold ilen; omega)
  simp only [Bool.not_true, Bool.false_or, e, Bool.false_eq_true, if_false]
  rw [forX_all, andThen_inl]
  intro x hx
  have hx := h x hx
  have h1 : decide ((0 : Int) ≤ x) = true := decide_eq_true hx.1
  have h2 : decide (x < (a : Int)) = true := decide_eq_true hx.2
  unfold n_is_whole
  simp [h1, h2]
theorem steps_ok {M : Mach} {n a : Nat} (wf : Wf M n a) {s : Int} (hs : Nm n s) {p : List Int} (hp : Pr a p) (hl : p.length ≤ 13000) : n_steps M s p = .ok (outs M s p, ends M s p) := by
  refine Ok.eq ?_
  unfold n_steps
  rw [ok_bind, Ok_bind]
  refine (forR_inv (fun k (v : Int × List Int) => k ≤ p.length ∧ v = (ends M s (p.take k), outs M s (p.take k))) (Q := fun v => v = (ends M s p, outs M s p)) ⟨by omega, rfl⟩ ?_ ?_).mono fun v h => by rw [Ok_ok, h]
  · rintro k x v hk ⟨_, rfl⟩
    obtain ⟨hkl, rfl⟩ := List.getElem?_eq_some_iff.mp hk
    have pt : Pr a (p.take k) := fun z hz => hp z (List.mem_of_mem_take hz)
    have es := wf.ends _ hs pt
    have hx := hp _ (List.getElem_mem hkl)
    have lo : (outs M s (p.take k)).length ≤ p.length := by rw [outs_len, List.length_take]; omega
    simp only [wf.at1 es, wf.at2 es hx, ok_bind]
    rw [appR_ok (by omega), ok_bind, Ok_ok, List.take_succ_eq_append_getElem hkl, ends_app, outs_app]
    exact ⟨by omega, rfl⟩
  · rintro v ⟨_, rfl⟩
    rw [List.take_length]
theorem run_ok {M : Mach} {n a : Nat} (wf : Wf M n a) (hn : 0 < n) {p : List Int} (hp : Pr a p) (hl : p.length ≤ 13000) : n_run M p = .ok (outs M 0 p) := by
  have h0 : Nm n 0 := ⟨by omega, by omega⟩
  have il : ilen M = (n : Int) := by unfold ilen; rw [wf.len]
  have d1 : decide ((0 : Int) < ilen M) = true := decide_eq_true (by omega)
  unfold n_run n_walk n_is_state n_is_whole
  simp only [ok_bind, Bool.not_false, Bool.and_self, d1, decide_true, Bool.not_true, Bool.false_eq_true, if_false, asks_eq wf hn, isp_ok hp hl, steps_ok wf h0 hp hl, Int.le_refl]
/-! books -/
abbrev Row := List Int × List Int
/-- a row for the machine -/
structure RowOk (a B : Nat) (r : Row) : Prop where
  pr : Pr a r.1
  ln : r.2.length = r.1.length
  le : r.1.length ≤ B
theorem outs_take {M : Mach} : ∀ (k : Nat) (p : List Int) (s : Int), outs M s (p.take k) = (outs M s p).take k
  | 0, p, s => by simp [outs]
  | k + 1, [], s => by simp [outs]
  | k + 1, x :: p, s => by simp [outs, outs_take k p]
/-- the first row told otherwise -/
def flt (M : Mach) (S : List Row) : Option Row := (S.find? fun r => !decide (outs M 0 r.1 = r.2)).map fun r => (r.1, outs M 0 r.1)
theorem fault_ok {M : Mach} {n a B : Nat} (wf : Wf M n a) (hn : 0 < n) (hB : B ≤ 13000) {S : List Row} (h : ∀ r ∈ S, RowOk a B r) : n_fault S M = .ok (flt M S) := by
  unfold n_fault
  rw [asks_eq wf hn, ok_bind]
  have e1 : forR S () (fun (a2 : ((List Int) × (List Int))) (v1 : Unit) =>
    (R.bind (R.bind (n_is_probe a2.1 (a : Int)) fun t5 => .ok (!t5)) fun t6 => (if t6 = true then (.exc "Unfit") else (.ok ())))) = .ok () := by
    have : ∀ l : List Row, (∀ r ∈ l, RowOk a B r) → forR l () (fun (a2 : ((List Int) × (List Int))) (v1 : Unit) =>
      (R.bind (R.bind (n_is_probe a2.1 (a : Int)) fun t5 => .ok (!t5)) fun t6 => (if t6 = true then (.exc "Unfit") else (.ok ())))) = .ok () := by
      intro l
      induction l with
      | nil => intro _; rfl
      | cons r l ih =>
        intro h
        have hr := h r (by simp)
        unfold forR
        dsimp only
        rw [isp_ok hr.pr (by have := hr.le; omega)]
        simp only [ok_bind, Bool.not_true, Bool.false_eq_true, if_false]
        exact ih fun x hx => h x (List.mem_cons_of_mem _ hx)
    exact this S h
  rw [e1, ok_bind]
  refine Ok.eq ?_
  rw [Ok_then]
  have key : ∀ l : List Row, (∀ r ∈ l, RowOk a B r) → Ok (forX l () fun (a8 : ((List Int) × (List Int))) (v7 : Unit) =>
    (R.bind (n_run M a8.1) fun given_ => (if (!decide (given_ = a8.2)) = true then (.ok (Lp.out (some (a8.1, given_)) : Lp Unit (Option Row))) else (.ok (Lp.nx ()))))) (thn (fun o => o = flt M l) fun v => Ok (R.ok (none : Option Row)) fun o => o = flt M l) := by
    intro l
    induction l with
    | nil => intro _; exact ⟨.inl (), rfl, ⟨none, rfl, rfl⟩⟩
    | cons r l ih =>
      intro h
      have hr := h r (by simp)
      unfold forX
      dsimp only
      rw [run_ok wf hn hr.pr (by have := hr.le; omega), ok_bind]
      unfold flt
      rw [List.find?_cons]
      by_cases c : outs M 0 r.1 = r.2
      · rw [decide_eq_true c]
        simp only [Bool.not_true, Bool.false_eq_true, if_false, ok_bind]
        exact ih fun x hx => h x (List.mem_cons_of_mem _ hx)
      · rw [decide_eq_false c]
        simp only [Bool.not_false, if_true, ok_bind, Option.map_some]
        exact ⟨.inr (some (r.1, outs M 0 r.1)), rfl, rfl⟩
  exact key S h
theorem flt_none {M : Mach} {S : List Row} : flt M S = none ↔ ∀ r ∈ S, outs M 0 r.1 = r.2 := by
  unfold flt
  rw [Option.map_eq_none_iff, List.find?_eq_none]
  constructor
  · intro h r hr
    have := h r hr
    simpa using this
  · intro h r hr
    simp [h r hr]
theorem flt_some {M : Mach} {S : List Row} {p g : List Int} (h : flt M S = some (p, g)) : ∃ r ∈ S, r.1 = p ∧ outs M 0 r.1 ≠ r.2 := by
  unfold flt at h
  obtain ⟨r, h1, h2⟩ := Option.map_eq_some_iff.mp h
  cases h2
  refine ⟨r, List.mem_of_find?_eq_some h1, rfl, ?_⟩
  have := List.find?_some h1
  simpa using this
/-! thinned -/
abbrev kf (r : Row) : Tv Int × Tv Int := (Tv.mk r.1, Tv.mk r.2)
theorem kf_inj {r r' : Row} (h : kf r = kf r') : r = r' := by
  obtain ⟨a, b⟩ := r
  obtain ⟨c, d⟩ := r'
  simp only [kf, Prod.mk.injEq, Tv.mk.injEq] at h
  rw [h.1, h.2]
/-- strictly begins -/
def Sb (S : List Row) (q : Tv Int × Tv Int) : Prop := ∃ r ∈ S, ∃ k : Nat, k < r.1.length ∧ q = (Tv.mk (r.1.take k), Tv.mk (r.2.take k))
theorem thin_ok {a B : Nat} (hB : B ≤ 1000) {S : List Row} (hS : S.length ≤ 900) (h : ∀ r ∈ S, RowOk a B r) : Ok (n_thin S) fun T => (∀ t ∈ T, t ∈ S) ∧ ∀ r ∈ S, Sb S (kf r) ∨ r ∈ T := by
  unfold n_thin
  rw [ok_bind, Ok_bind]
  refine (forR_inv (fun j (v : Dc (Tv Int × Tv Int) Bool) => j ≤ S.length ∧ v.l.length ≤ j * B ∧ ∀ q, dhas v q = true ↔ Sb (S.take j) q) (Q := fun v => v.l.length ≤ S.length * B ∧ ∀ q, dhas v q = true ↔ Sb S q) ⟨by omega, by simp [dnew], fun q => ?_⟩ ?_ ?_).mono ?_
  · constructor
    · intro h; cases h
    · rintro ⟨r, hr, _⟩; simp at hr
  · rintro j r v hj ⟨hj1, hv, hq⟩
    obtain ⟨hjl, rfl⟩ := List.getElem?_eq_some_iff.mp hj
    have hr := h _ (List.getElem_mem hjl)
    have le := hr.le
    have b1 : j * B ≤ 900 * 1000 := Nat.mul_le_mul (by omega) hB
    have b2 : (j + 1) * B = j * B + B := Nat.succ_mul j B
    have il : ilen (S[j]).1 = ((S[j]).1.length : Int) := rfl
    rw [il, rng1_ok (by omega) (by omega), ok_bind, Ok_bind]
    refine (forR_inv (fun i (w : Dc (Tv Int × Tv Int) Bool) => i ≤ (S[j]).1.length ∧ w.l.length ≤ j * B + i ∧ ∀ q, dhas w q = true ↔ Sb (S.take j) q ∨ ∃ k : Nat, k < i ∧ q = (Tv.mk ((S[j]).1.take k), Tv.mk ((S[j]).2.take k))) (Q := fun w => w.l.length ≤ j * B + (S[j]).1.length ∧ ∀ q, dhas w q = true ↔ Sb (S.take j) q ∨ ∃ k : Nat, k < (S[j]).1.length ∧ q = (Tv.mk ((S[j]).1.take k), Tv.mk ((S[j]).2.take k))) ⟨by omega, by omega, fun q => ?_⟩ ?_ ?_).mono ?_
    · rw [hq q]
      constructor
      · exact .inl
      · rintro (h | ⟨k, hk, _⟩)
        · exact h
        · omega
    · rintro i x w hi ⟨hi1, hw, hq2⟩
      obtain ⟨g1, rfl⟩ := rngL_get hi
      have c1 : cut (S[j]).1 none (some ((0 : Int) + (i : Int))) = (S[j]).1.take i := by rw [cut_to (by omega)]; congr 1; omega
      have c2 : cut (S[j]).2 none (some ((0 : Int) + (i : Int))) = (S[j]).2.take i := by rw [cut_to (by omega)]; congr 1; omega
      rw [c1, c2, dputR_ok (by omega), ok_bind, Ok_ok]
      refine ⟨by omega, ?_, fun q => ?_⟩
      · have := dput_len (d := w) (k := ((Tv.mk ((S[j]).1.take i) : Tv Int), (Tv.mk ((S[j]).2.take i) : Tv Int))) (v := true)
        omega
      · show (valA (dput w _ _).l q).isSome = true ↔ _
        rw [val_put]
        by_cases c : q = (Tv.mk ((S[j]).1.take i), Tv.mk ((S[j]).2.take i))
        · rw [if_pos c]
          simp only [Option.isSome_some, true_iff]
          exact .inr ⟨i, by omega, c⟩
        · rw [if_neg c]
          have := hq2 q
          unfold dhas at this
          rw [this]
          constructor
          · rintro (h | ⟨k, hk, e⟩)
            · exact .inl h
            · exact .inr ⟨k, by omega, e⟩
          · rintro (h | ⟨k, hk, e⟩)
            · exact .inl h
            · refine .inr ⟨k, ?_, e⟩
              by_cases ck : k = i
              · subst ck; exact absurd e c
              · omega
    · rintro w ⟨h1, h2, h3⟩
      rw [rngL_len] at h2 h3
      exact ⟨by omega, fun q => by rw [h3 q]; simp⟩
    · rintro w ⟨h1, h2⟩
      rw [Ok_ok]
      refine ⟨by omega, by omega, fun q => ?_⟩
      rw [h2 q, List.take_succ_eq_append_getElem hjl]
      unfold Sb
      constructor
      · rintro (⟨r, hr, k, hk⟩ | ⟨k, hk⟩)
        · exact ⟨r, List.mem_append_left _ hr, k, hk⟩
        · exact ⟨_, List.mem_append_right _ (List.mem_singleton.mpr rfl), k, hk⟩
      · rintro ⟨r, hr, k, hk⟩
        rcases List.mem_append.mp hr with hr | hr
        · exact .inl ⟨r, hr, k, hk⟩
        · rw [List.mem_singleton.mp hr] at hk
          exact .inr ⟨k, hk⟩
  · rintro v ⟨h1, h2, h3⟩
    exact ⟨h2, fun q => by rw [h3 q, List.take_length]⟩
  · rintro G ⟨hG, hq⟩
    have b1 : S.length * B ≤ 900 * 1000 := Nat.mul_le_mul hS hB
    rw [ok_bind, Ok_bind]
    refine (forR_inv (fun j (v : Dc (Tv Int × Tv Int) Bool × List Row) => j ≤ S.length ∧ v.1.l.length ≤ S.length * B + j ∧ v.2.length ≤ j ∧ (∀ q, dhas v.1 q = true ↔ Sb S q ∨ ∃ t ∈ v.2, kf t = q) ∧ (∀ t ∈ v.2, t ∈ S) ∧ ∀ r ∈ S.take j, Sb S (kf r) ∨ r ∈ v.2) (Q := fun v => (∀ t ∈ v.2, t ∈ S) ∧ ∀ r ∈ S, Sb S (kf r) ∨ r ∈ v.2) ⟨by omega, by omega, by simp, fun q => by rw [hq q]; simp, by simp, by simp⟩ ?_ ?_).mono fun v h => by rw [Ok_ok]; exact h
    · rintro j r ⟨g, T⟩ hj ⟨hj1, hv, hT, hq2, hs, hc⟩
      simp only at hv hT hq2 hs hc
      obtain ⟨hjl, rfl⟩ := List.getElem?_eq_some_iff.mp hj
      rw [ok_bind, Ok_if]
      refine ⟨fun hb => ?_, fun hb => ?_⟩
      · have hb : dhas g (kf S[j]) = false := by simpa using hb
        rw [dputR_ok (by show g.l.length < _; omega), ok_bind, appR_ok (by show T.length < _; omega), ok_bind, Ok_ok]
        refine ⟨by omega, ?_, by simp; omega, fun q => ?_, fun t ht => ?_, fun r hr => ?_⟩
        · have := dput_len (d := g) (k := ((Tv.mk (S[j]).1 : Tv Int), (Tv.mk (S[j]).2 : Tv Int))) (v := true)
          simp only
          omega
        · show (valA (dput g _ _).l q).isSome = true ↔ _
          rw [val_put]
          by_cases c : q = kf S[j]
          · rw [if_pos c]
            simp only [Option.isSome_some, true_iff]
            exact .inr ⟨S[j], List.mem_append_right _ (by simp), c.symm⟩
          · rw [if_neg c]
            have := hq2 q
            unfold dhas at this
            rw [this]
            constructor
            · rintro (h | ⟨t, ht, e⟩)
              · exact .inl h
              · exact .inr ⟨t, List.mem_append_left _ ht, e⟩
            · rintro (h | ⟨t, ht, e⟩)
              · exact .inl h
              · rcases List.mem_append.mp ht with ht | ht
                · exact .inr ⟨t, ht, e⟩
                · rw [List.mem_singleton.mp ht] at e
                  exact absurd e.symm c
        · rcases List.mem_append.mp ht with ht | ht
          · exact hs t ht
          · rw [List.mem_singleton.mp ht]; exact List.getElem_mem hjl
        · rw [List.take_succ_eq_append_getElem hjl] at hr
          rcases List.mem_append.mp hr with hr | hr
          · exact (hc r hr).imp (fun h => h) fun h => List.mem_append_left _ h
          · rw [List.mem_singleton.mp hr]
            exact .inr (List.mem_append_right _ (by simp))
      · have hb : dhas g (kf S[j]) = true := by simpa using hb
        rw [Ok_ok]
        refine ⟨by omega, by simp only; omega, by simp only; omega, hq2, hs, fun r hr => ?_⟩
        rw [List.take_succ_eq_append_getElem hjl] at hr
        rcases List.mem_append.mp hr with hr | hr
        · exact hc r hr
        · rw [List.mem_singleton.mp hr]
          rcases (hq2 _).mp hb with h | ⟨t, ht, e⟩
          · exact .inl h
          · rw [← kf_inj e]; exact .inr ht
    · rintro v ⟨_, _, _, _, h5, h6⟩
      rw [List.take_length] at h6
      exact ⟨h5, h6⟩
/-- each row is the beginning of one that is kept -/
theorem thin_cover {a B : Nat} {S T : List Row} (h : ∀ r ∈ S, RowOk a B r) (hc : ∀ r ∈ S, Sb S (kf r) ∨ r ∈ T) : ∀ (m : Nat) (r : Row), r ∈ S → B < r.1.length + m → ∃ t ∈ T, r.1 = t.1.take r.1.length ∧ r.2 = t.2.take r.1.length
  | 0, r, hr, hm => by have := (h r hr).le; omega
  | m + 1, r, hr, hm => by
    rcases hc r hr with ⟨r', hr', k, hk, e⟩ | ht
    · simp only [kf, Prod.mk.injEq, Tv.mk.injEq] at e
      have l1 : r.1.length = k := by rw [e.1, List.length_take]; omega
      obtain ⟨t, ht, t1, t2⟩ := thin_cover h hc m r' hr' (by omega)
      refine ⟨t, ht, ?_, ?_⟩
      · rw [l1, e.1, t1, List.take_take, Nat.min_eq_left (by omega)]
      · rw [l1, e.2, t2, List.take_take, Nat.min_eq_left (by omega)]
    · refine ⟨r, ht, by rw [List.take_length], ?_⟩
      rw [← (h r hr).ln, List.take_length]
theorem thin_pass {M : Mach} {a B : Nat} {S T : List Row} (h : ∀ r ∈ S, RowOk a B r) (hs : ∀ t ∈ T, t ∈ S) (hc : ∀ r ∈ S, Sb S (kf r) ∨ r ∈ T) : (∀ r ∈ S, outs M 0 r.1 = r.2) ↔ ∀ t ∈ T, outs M 0 t.1 = t.2 := by
  constructor
  · exact fun g t ht => g t (hs t ht)
  · intro g r hr
    obtain ⟨t, ht, t1, t2⟩ := thin_cover h hc (B + 1) r hr (by omega)
    rw [t2, ← g t ht, ← outs_take, ← t1]
theorem machine_ok (ns : List Int) : Ok (n__law_machine ⟨ns⟩) fun M => ∃ (m a : Nat), 0 < m ∧ m ≤ 30 ∧ 0 < a ∧ a ≤ 5 ∧ Wf M m a := by
  unfold n__law_machine
  have p60 : powR (10 : Int) (60 : Int) = .ok ((10 : Int) ^ 60) := okIf_ok (by decide)
  have c0 := mix_eq ns (show (0 : Int) ≤ 0 by decide) (by decide)
  have c1 := mix_eq ns (show (0 : Int) ≤ 1 by decide) (by decide)
  have c2 := mix_eq ns (show (0 : Int) ≤ 2 by decide) (by decide)
  have c3 := mix_eq ns (show (0 : Int) ≤ 3 by decide) (by decide)
  have m3 := mix_le ns (show (0 : Int) ≤ 3 by decide) (by decide)
  have p7 : powR (lmix ns 3) (7 : Int) = .ok (lmix ns 3 ^ 7) := okIf_ok ⟨by decide, by decide, by omega⟩
  have b0 := emod_pos (lmix ns 0) (show (0 : Int) < 4 by decide)
  have b1 := emod_pos (lmix ns 1) (show (0 : Int) < 3 by decide)
  simp only [c0, c1, c2, c3, ok_bind, p60, p7, modR_ok (show (0 : Int) < 4 by decide), modR_ok (show (0 : Int) < 3 by decide), mulR_l (show (2 : Int).natAbs < 2 ^ 64 by decide), modR_ok (show (0 : Int) < 2 * (10 : Int) ^ 60 - 1 by decide)]
  obtain ⟨m, hm⟩ := Int.eq_ofNat_of_zero_le (show 0 ≤ 1 + lmix ns 0 % 4 by omega)
  obtain ⟨a, ha⟩ := Int.eq_ofNat_of_zero_le (show 0 ≤ 1 + lmix ns 1 % 3 by omega)
  rw [hm, ha]
  have m0 : 0 < m := by omega
  have m1 : m ≤ 30 := by omega
  have a0 : 0 < a := by omega
  have a1 : a ≤ 5 := by omega
  rw [Ok_bind]
  refine Ok.mono (Q := fun l : List Int => l.length = 2) ?_ ?_
  · rw [Ok_if]
    exact ⟨fun _ => by rw [Ok_ok]; rfl, fun _ => by rw [Ok_ok]; rfl⟩
  intro l0 hl0
  rw [Ok_bind]
  refine Ok.mono (Q := fun l : List Int => l.length = 2) ?_ ?_
  · rw [Ok_if]
    exact ⟨fun _ => by rw [Ok_ok]; rfl, fun _ => by rw [Ok_ok]; exact hl0⟩
  intro pl hpl
  refine rows_ok (c := m) (a := a) (f := fun s x => R.bind (R.bind (R.bind (R.bind (mulR s (a : Int)) fun t47 => .ok ((10 : Int) + t47)) fun t48 => .ok (t48 + x)) fun t49 => n__law_mixed ⟨ns⟩ t49) fun cell => R.bind (R.bind (modR cell 2) fun t50 => atR pl t50) fun t52 => R.bind (R.bind (divR cell 6) fun t51 => modR t51 (m : Int)) fun t53 => .ok (t52, t53)) (by omega) (by omega) ?_ ?_ ?_
  · intro s x hs hx
    have b1 : s * (a : Int) ≤ 30 * 5 := Int.mul_le_mul (by have := hs.2; omega) (by omega) (by omega) (by omega)
    have b0 : 0 ≤ s * (a : Int) := Int.mul_nonneg hs.1 (by omega)
    have hx0 := hx.1
    have hx1 := hx.2
    have hs0 := hs.1
    have hs1 := hs.2
    rw [mulR_l (by omega), ok_bind, ok_bind, ok_bind, mix_eq ns (by omega) (by omega), ok_bind]
    generalize lmix ns _ = v
    have v0 := emod_pos v (show (0 : Int) < 2 by decide)
    rw [modR_ok (by decide), ok_bind, atR_int v0.1 (by omega), ok_bind, divR_ok (by decide) (by decide), ok_bind, modR_ok (by omega), ok_bind, Ok_ok]
    exact emod_pos _ (by omega)
  · intro B wf
    rw [Ok_ok]
    exact ⟨m, a, m0, m1, a0, a1, wf⟩
  · intro s B _
    simp only [ok_bind, bind_bind]
theorem answers_ok {M : Mach} {n a : Nat} (wf : Wf M n a) (hn : 0 < n) {p : List Int} (hp : Pr a p) (hl : p.length ≤ 13000) : n__law_answers M p = .ok (outs M 0 p) := by
  have h0 : Nm n 0 := ⟨by omega, by omega⟩
  refine Ok.eq ?_
  unfold n__law_answers
  rw [ok_bind, ok_bind, Ok_bind]
  refine (forR_inv (fun k (v : List Int × Int) => k ≤ p.length ∧ v = (outs M 0 (p.take k), ends M 0 (p.take k))) (Q := fun v => v = (outs M 0 p, ends M 0 p)) ⟨by omega, rfl⟩ ?_ ?_).mono fun v h => by rw [Ok_ok, h]
  · rintro k x v hk ⟨_, rfl⟩
    obtain ⟨hkl, rfl⟩ := List.getElem?_eq_some_iff.mp hk
    have pt : Pr a (p.take k) := fun z hz => hp z (List.mem_of_mem_take hz)
    have es := wf.ends _ h0 pt
    have hx := hp _ (List.getElem_mem hkl)
    have lo : (outs M 0 (p.take k)).length ≤ p.length := by rw [outs_len, List.length_take]; omega
    simp only [wf.at1 es, wf.at2 es hx, ok_bind]
    rw [appR_ok (by omega), ok_bind, Ok_ok, List.take_succ_eq_append_getElem hkl, ends_app, outs_app]
    exact ⟨by omega, rfl⟩
  · rintro v ⟨_, rfl⟩
    rw [List.take_length]
theorem row_ok {M : Mach} {n a : Nat} (ns : List Int) (wf : Wf M n a) (hn : 0 < n) (ha : 0 < a) {at_ : Int} (h0 : 0 ≤ at_) (h1 : at_ < 100000) {st : List Int} (hst : Pr a st) : Ok (n__law_row ⟨ns⟩ at_ st M) (RowOk a 9) := by
  have z0 : Nm n 0 := ⟨by omega, by omega⟩
  have e1 : ilen (M.getD (0 : Int).toNat []) = (a : Int) := by unfold ilen; rw [(wf.row z0).2.1]
  have c4 := mix_eq ns (show (0 : Int) ≤ 4 by decide) (by decide)
  unfold n__law_row
  rw [mix_eq ns h0 (by omega), ok_bind]
  generalize lmix ns at_ = v
  have v7 := emod_pos v (show (0 : Int) < 7 by decide)
  have v5 := emod_pos (v / 7) (show (0 : Int) < 5 by decide)
  rw [modR_ok (by decide), ok_bind, ok_bind, ok_bind, cut_to v7.1]
  have l0 : (st.take (v % 7).toNat).length ≤ 6 := by rw [List.length_take]; omega
  have p0 : Pr a (st.take (v % 7).toNat) := fun z hz => hst z (List.mem_of_mem_take hz)
  generalize st.take (v % 7).toNat = q0 at l0 p0
  rw [divR_ok (by decide) (by decide), ok_bind, modR_ok (by decide), ok_bind]
  obtain ⟨k, hk, hk0, hk3⟩ : ∃ k : Int, atR ([(0 : Int), 0, 1, 2, 3]) (v / 7 % 5) = .ok k ∧ 0 ≤ k ∧ k ≤ 3 := by
    have : v / 7 % 5 = 0 ∨ v / 7 % 5 = 1 ∨ v / 7 % 5 = 2 ∨ v / 7 % 5 = 3 ∨ v / 7 % 5 = 4 := by omega
    rcases this with e | e | e | e | e <;> rw [e]
    · exact ⟨0, rfl, by decide, by decide⟩
    · exact ⟨0, rfl, by decide, by decide⟩
    · exact ⟨1, rfl, by decide, by decide⟩
    · exact ⟨2, rfl, by decide, by decide⟩
    · exact ⟨3, rfl, by decide, by decide⟩
  rw [hk, ok_bind, rng1_ok (by omega) (by omega), ok_bind, Ok_bind]
  refine (forR_inv (fun j (p : List Int) => j ≤ 3 ∧ Pr a p ∧ p.length ≤ 6 + j) (Q := fun p => Pr a p ∧ p.length ≤ 9) ⟨by omega, p0, by omega⟩ ?_ ?_).mono ?_
  · rintro j x p hj ⟨j3, pp, pl⟩
    obtain ⟨g1, rfl⟩ := rngL_get hj
    rw [mix_eq ns (by omega) (by omega), ok_bind, wf.at1 z0, ok_bind, e1, ok_bind, modR_ok (by omega), ok_bind, appR_ok (by omega), ok_bind, Ok_ok]
    refine ⟨by omega, pp.app fun y hy => ?_, by simp; omega⟩
    rw [List.mem_singleton.mp hy]
    exact emod_pos _ (by omega)
  · rintro p ⟨h1, h2, h3⟩
    rw [rngL_len] at h1 h3
    exact ⟨h2, by omega⟩
  rintro p ⟨pp, pl⟩
  rw [answers_ok wf hn pp (by omega), ok_bind]
  have lo : (outs M 0 p).length = p.length := outs_len _ _
  generalize outs M 0 p = as at lo
  simp only [c4, ok_bind, modR_ok (show (0 : Int) < 2 by decide), divR_ok (show (0 : Int) < 35 by decide) (by decide), modR_ok (show (0 : Int) < 6 by decide), divR_ok (show (0 : Int) < 210 by decide) (by decide)]
  have if1 : (if decide (lmix ns 4 % 2 = 0) = true then R.ok (decide (v / 35 % 6 = 0) && decide (ilen as > 0)) else R.ok false) = R.ok (decide (lmix ns 4 % 2 = 0) && (decide (v / 35 % 6 = 0) && decide (ilen as > 0))) := by
    cases decide (lmix ns 4 % 2 = 0) <;> rfl
  have if2 : (if decide (lmix ns 4 % 2 = 0) = true then R.ok (decide (v / 35 % 6 = 1)) else R.ok false) = R.ok (decide (lmix ns 4 % 2 = 0) && decide (v / 35 % 6 = 1)) := by
    cases decide (lmix ns 4 % 2 = 0) <;> rfl
  rw [if1]
  simp only [ok_bind]
  rw [Ok_bind]
  refine Ok.mono (Q := fun l : List Int => l.length = p.length) ?_ ?_
  · rw [Ok_if]
    refine ⟨fun hb => ?_, fun _ => by rw [Ok_ok]; exact lo⟩
    have hb : ilen as > 0 := by
      simp only [Bool.and_eq_true, decide_eq_true_eq] at hb
      exact hb.2.2
    have m1 := emod_pos (v / 210) (show (0 : Int) < ilen as from hb)
    rw [modR_ok hb, ok_bind, atR_int m1.1 m1.2, ok_bind, ok_bind, ok_bind, setR_int m1.1 m1.2, ok_bind, Ok_ok, List.length_set]
    exact lo
  intro l hl
  rw [if2]
  simp only [ok_bind]
  rw [Ok_bind]
  refine Ok.mono (Q := fun l : List Int => l.length = p.length) ?_ ?_
  · rw [Ok_if]
    refine ⟨fun hb => ?_, fun _ => by rw [Ok_ok]; exact hl⟩
    have e2 : cut l (some (1 : Int)) none = l.drop 1 := cut_from (by decide)
    have e3 : cut l none (some (1 : Int)) = l.take 1 := cut_to (by decide)
    rw [e2, e3, catR_ok (by rw [List.length_take, List.length_drop]; omega), ok_bind, Ok_ok, List.length_append, List.length_take, List.length_drop]
    omega
  intro l2 hl2
  rw [Ok_ok]
  exact ⟨pp, hl2, pl⟩
theorem book_ok {M : Mach} {n a : Nat} (ns : List Int) (wf : Wf M n a) (hn : 0 < n) (ha : 0 < a) : Ok (n__law_book ⟨ns⟩ M) fun S => S.length ≤ 80 ∧ ∀ r ∈ S, RowOk a 9 r := by
  have z0 : Nm n 0 := ⟨by omega, by omega⟩
  have e1 : ilen (M.getD (0 : Int).toNat []) = (a : Int) := by unfold ilen; rw [(wf.row z0).2.1]
  unfold n__law_book
  rw [rng1_ok (by decide) (by decide), ok_bind, cmpR_eq (g := fun k => lmix ns (30 + k) % (a : Int)) (by rw [rngL_len]; decide) fun k hk => by
    have hk := rngL_mem.mp hk
    rw [mix_eq ns (by omega) (by omega), ok_bind, wf.at1 z0, ok_bind, e1, ok_bind, modR_ok (by omega)], ok_bind]
  have hst : Pr a ((rngL 0 (6 : Int).toNat).map fun k => lmix ns (30 + k) % (a : Int)) := fun z hz => by
    obtain ⟨k, _, rfl⟩ := List.mem_map.mp hz
    exact emod_pos _ (by omega)
  generalize ((rngL 0 (6 : Int).toNat).map fun k => lmix ns (30 + k) % (a : Int)) = st at hst
  rw [mix_eq ns (by decide) (by decide), ok_bind, modR_ok (by decide), ok_bind, mix_eq ns (by decide) (by decide), ok_bind, modR_ok (by decide), ok_bind, ok_bind, Ok_bind]
  have m5 := emod_pos (lmix ns 5) (show (0 : Int) < 10 by decide)
  refine Ok.mono (Q := fun m : Int => 0 ≤ m ∧ m ≤ 40) ?_ ?_
  · rw [Ok_if]
    refine ⟨fun _ => ?_, fun _ => by rw [Ok_ok]; omega⟩
    rw [ok_bind, Ok_ok]
    decide
  rintro m ⟨mm0, mm1⟩
  rw [ok_bind, rng1_ok (by omega) (by omega), ok_bind, Ok_bind]
  refine (forR_inv (fun j (S : List Row) => j ≤ 40 ∧ S.length ≤ 2 * j ∧ ∀ r ∈ S, RowOk a 9 r) (Q := fun S => S.length ≤ 80 ∧ ∀ r ∈ S, RowOk a 9 r) ⟨by omega, by simp, by simp⟩ ?_ ?_).mono fun S h => by rw [Ok_ok]; exact h
  · rintro j x S hj ⟨j4, hS, hr⟩
    obtain ⟨g1, rfl⟩ := rngL_get hj
    rw [mulR_l (by decide), ok_bind, ok_bind, Ok_bind, Ok_bind]
    refine (row_ok ns wf hn ha (by omega) (by omega) hst).mono ?_
    intro r0 hr0
    rw [appR_ok (by omega), Ok_ok]
    have hall : ∀ r ∈ S ++ [r0], RowOk a 9 r := fun r h => (List.mem_append.mp h).elim (hr r) fun h => by rw [List.mem_singleton.mp h]; exact hr0
    have hlen : (S ++ [r0]).length = S.length + 1 := by simp
    generalize S ++ [r0] = S1 at hall hlen
    rw [mix_eq ns (by omega) (by omega), ok_bind, modR_ok (by decide), ok_bind, ok_bind, Ok_if]
    refine ⟨fun _ => ?_, fun _ => ?_⟩
    · have hi : (0 : Int) < ilen S1 := by unfold ilen; omega
      have mi := emod_pos (lmix ns (400 + (0 + (j : Int)))) hi
      rw [mix_eq ns (by omega) (by omega), ok_bind, modR_ok hi, ok_bind, atR_int mi.1 mi.2, ok_bind, appR_ok (by omega), ok_bind, Ok_ok]
      refine ⟨by omega, by simp; omega, fun r h => ?_⟩
      rcases List.mem_append.mp h with h | h
      · exact hall r h
      · rw [List.mem_singleton.mp h]
        exact hall _ (List.getElem_mem _)
    · rw [Ok_ok]
      exact ⟨by omega, by omega, hall⟩
  · rintro S ⟨h1, h2, h3⟩
    rw [rngL_len] at h1 h2
    exact ⟨by omega, h3⟩
theorem passes_ok {M : Mach} {n a B : Nat} (wf : Wf M n a) (hn : 0 < n) (hB : B ≤ 13000) {S : List Row} (h : ∀ r ∈ S, RowOk a B r) : n_passes S M = .ok (flt M S).isNone := by
  unfold n_passes
  rw [fault_ok wf hn hB h, ok_bind, ok_bind]
theorem n_true (ns : List Int) (hl : ns.length ≤ 63) : n_law ⟨ns⟩ = .ok true := by
  refine Ok.eq ?_
  unfold n_law
  rw [Ok_bind]
  refine (machine_ok ns).mono ?_
  rintro M ⟨n, a, n0, n1, a0, a1, wf⟩
  rw [Ok_bind]
  refine (book_ok ns wf n0 a0).mono ?_
  rintro S ⟨hS, hr⟩
  rw [cmpR_eq (g := fun r => r) (by omega) fun _ _ => rfl, ok_bind, List.map_id', Ok_bind]
  refine (thin_ok (by decide) (by omega) hr).mono ?_
  rintro T ⟨hs, hc⟩
  have hrT : ∀ r ∈ T, RowOk a 9 r := fun r h => hr r (hs r h)
  have hp := thin_pass (M := M) hr hs hc
  have he : (flt M S).isNone = (flt M T).isNone := by
    rw [Bool.eq_iff_iff, Option.isNone_iff_eq_none, Option.isNone_iff_eq_none, flt_none, flt_none]
    exact hp
  rw [passes_ok wf n0 (by decide) hr, ok_bind, passes_ok wf n0 (by decide) hrT, ok_bind, he, decide_eq_true rfl]
  simp only [Bool.not_true, Bool.or_self, Bool.false_eq_true, if_false]
  rw [fault_ok wf n0 (by decide) hrT, ok_bind]
  cases e : flt M T with
  | none => simp
  | some pg =>
    obtain ⟨p, g⟩ := pg
    obtain ⟨t, ht, t1, t2⟩ := flt_some e
    simp only [Option.isNone_some, Bool.false_eq_true, if_false, Bool.not_false]
    rw [Ok_then]
    have key : ∀ l : List Row, (∀ r ∈ l, RowOk a 9 r) → t ∈ l → Ok (forX l () fun (a4 : ((List Int) × (List Int))) (v3 : Unit) =>
      (R.bind (R.bind (R.bind (R.bind (unO (some (p, g))) fun t10 => .ok t10.1) fun t11 => .ok (decide (a4.1 = t11))) fun t13 => (if t13 = true then (R.bind (n__law_answers M a4.1) fun t12 => .ok (!decide (a4.2 = t12))) else .ok false)) fun t14 => (if t14 = true then (.ok (Lp.out true : Lp Unit Bool)) else (.ok (Lp.nx ()))))) (thn (fun b => b = true) fun v => Ok (R.ok false) fun b => b = true) := by
      intro l
      induction l with
      | nil => intro _ h; cases h
      | cons r l ih =>
        intro h hm
        have hr0 := h r (by simp)
        unfold forX
        rw [show unO (some (p, g)) = .ok (p, g) from rfl]
        simp only [ok_bind]
        by_cases c : r.1 = p ∧ ¬ r.2 = outs M 0 r.1
        · rw [decide_eq_true c.1, if_pos rfl, answers_ok wf n0 hr0.pr (by have := hr0.le; omega), ok_bind, decide_eq_false c.2, ok_bind]
          exact ⟨.inr true, rfl, rfl⟩
        · have ez : (if decide (r.1 = p) = true then (R.bind (n__law_answers M r.1) fun t12 => .ok (!decide (r.2 = t12))) else .ok false) = .ok false := by
            by_cases c1 : r.1 = p
            · rw [decide_eq_true c1, if_pos rfl, answers_ok wf n0 hr0.pr (by have := hr0.le; omega), ok_bind]
              have : r.2 = outs M 0 r.1 := Decidable.not_not.mp fun z => c ⟨c1, z⟩
              rw [decide_eq_true this]; rfl
            · rw [decide_eq_false c1, if_neg Bool.false_ne_true]
          rw [ez]
          simp only [ok_bind, Bool.false_eq_true, if_false]
          refine ih (fun x hx => h x (List.mem_cons_of_mem _ hx)) ?_
          rcases List.mem_cons.mp hm with e | hm
          · subst e
            exact absurd ⟨t1, fun z => t2 z.symm⟩ c
          · exact hm
    exact key S hr (hs t ht)
end Dv

namespace Dv
open Enc (enc)
open PySem PySem.Spec PyProof.Rows L2 Evl
def top (i : Nat) : Stmt := PySem.Challenge.pw_probewell_k63_whole_thinned_passed.main.body.getD i (.Pass ⟨0, 0, 0, 0⟩)
abbrev s__law_mixed : Stmt := top 22
abbrev s__law_machine : Stmt := top 23
abbrev s__law_answers : Stmt := top 24
abbrev s__law_row : Stmt := top 25
abbrev s__law_book : Stmt := top 26
abbrev s_thin : Stmt := top 1
abbrev s_asks_of : Stmt := top 10
abbrev s_steps : Stmt := top 15
abbrev s_is_whole : Stmt := top 8
abbrev s_is_state : Stmt := top 14
abbrev s_is_probe : Stmt := top 13
abbrev s_walk : Stmt := top 16
abbrev s_run : Stmt := top 17
abbrev s_fault : Stmt := top 19
abbrev s_passes : Stmt := top 20
abbrev s_law : Stmt := top 27
section
variable {P : Program} {w : World} {K : PySem.W.Frag} {mg : Str → Option Value} {base : Heap} {f : Addr} {fd : FuncData}
theorem sc__law_mixed : FnScope ["_law_script", "_law_k", "_law_cell"] ["_law_script", "_law_k"] (defScope s__law_mixed) := ⟨rfl, rfl, rfl, by decide +kernel, rfl, by decide +kernel, by decide +kernel⟩
theorem ok__law_mixed (F : FunD K "_law_mixed" "_law_mixed" (defArgs s__law_mixed) (defBody s__law_mixed) (defScope s__law_mixed) [] [] f fd) (m0 : mg "_law_mixed" = some (.ref f)) (b_len : mg "len" = none) : Cal P w K mg base (clK K) "_law_mixed" 1 2 d_law_mixed :=
  Cal.def_ F m0 sc__law_mixed (by decide) (fun _ _ _ _ _ _ us hl => match us, hl with | [_, _], _ => rfl) fun cdv A outer s H E X hX hr tk hp => by
    subst hX
    have hu := hr.units
    have hu2 := units65 hr
    have hu1 := units9 hr
    have nd := sc__law_mixed.nd
    exact ⟨_, (qss_cons (qs_set 2 nd (qToC q_int))
 (qss_cons (qs_if (qt_gt (q_len rfl b_len (qa_cons (q_var 0) qa_nil)) q_int)
 (qss_one (qs_set 2 nd (qSh (q_ix (q_var 0) (q_mod (q_var 1) (q_len rfl b_len (qa_cons (q_var 0) qa_nil)))))))
 qss_nil)
 (qss_cons (qs_set 2 nd (qToC (q_mod (qToB (q_mul (qToB (q_add (qToB (q_add (q_mod (q_var 2) q_int) (qToB (q_mul q_int (q_var 1))))) q_int)) q_int)) q_int)))
 (qss_one (qs_ret (qToC (q_mod (qToB (q_mul (q_var 2) (qToB (q_add (qToB (q_add (q_mod (q_var 2) q_int) (q_var 1))) q_int)))) q_int)))))))⟩
theorem sc__law_machine : FnScope ["_law_script", "_law_states", "_law_asks", "_law_pool", "_law_rows", "_law_s", "_law_row_here", "_law_a", "_law_cell"] ["_law_script"] (defScope s__law_machine) := ⟨rfl, rfl, rfl, by decide +kernel, rfl, by decide +kernel, by decide +kernel⟩
theorem ok__law_machine (F : FunD K "_law_machine" "_law_machine" (defArgs s__law_machine) (defBody s__law_machine) (defScope s__law_machine) [] [] f fd) (m0 : mg "_law_machine" = some (.ref f)) (b_range : mg "range" = none) (c__law_mixed : Cal P w K mg base (clK K) "_law_mixed" 1 2 d_law_mixed) : Cal P w K mg base (clK K) "_law_machine" 2 1 d_law_machine :=
  Cal.def_ F m0 sc__law_machine (by decide) (fun _ _ _ _ _ _ us hl => match us, hl with | [_], _ => rfl) fun cdv A outer s H E X hX hr tk hp => by
    subst hX
    have hu := hr.units
    have hu2 := units65 hr
    have hu1 := units9 hr
    have nd := sc__law_machine.nd
    exact ⟨_, (qss_cons (qs_set 1 nd (q_add q_int (q_mod (qToB (q_callC tk hr c__law_mixed (by decide) dFn_len rfl (qa_cons (q_var 0) (qa_cons q_int qa_nil)))) q_int)))
 (qss_cons (qs_set 2 nd (q_add q_int (q_mod (qToB (q_callC tk hr c__law_mixed (by decide) dFn_len rfl (qa_cons (q_var 0) (qa_cons q_int qa_nil)))) q_int)))
 (qss_cons (qs_set 3 nd (q_lst (ql_cons (qToC q_int) (ql_cons (qToC q_int) ql_nil))))
 (qss_cons (qs_if (qt_eq hu (q_mod (qToB (q_callC tk hr c__law_mixed (by decide) dFn_len rfl (qa_cons (q_var 0) (qa_cons q_int qa_nil)))) q_int) q_int)
 (qss_one (qs_set 3 nd (q_lst (ql_cons (qToC (q_sub (q_pow q_int q_int) q_int)) (ql_cons (qToC (q_sub (qToB (q_add (q_mod (q_pow (qToB (q_callC tk hr c__law_mixed (by decide) dFn_len rfl (qa_cons (q_var 0) (qa_cons q_int qa_nil)))) q_int) (q_sub (qToB (q_mul q_int (q_pow q_int q_int))) q_int)) q_int)) (q_pow q_int q_int))) ql_nil)))))
 qss_nil)
 (qss_cons (qs_if (qt_eq hu (q_mod (qToB (q_callC tk hr c__law_mixed (by decide) dFn_len rfl (qa_cons (q_var 0) (qa_cons q_int qa_nil)))) q_int) q_int)
 (qss_one (qs_set 3 nd (q_lst (ql_cons (qToC q_int) (ql_cons (qToC q_int) ql_nil)))))
 qss_nil)
 (qss_cons (qs_set 4 nd (q_lst ql_nil))
 (qss_cons (qs_for1 hp rfl rfl b_range (q_var 1) (qg_name 5 rfl nd)
 (qss_cons (qs_set 6 nd (q_lst ql_nil))
 (qss_cons (qs_for1 hp rfl rfl b_range (q_var 2) (qg_name 7 rfl nd)
 (qss_cons (qs_set 8 nd (q_callC tk hr c__law_mixed (by decide) dFn_len rfl (qa_cons (q_var 0) (qa_cons (qToB (q_add (qToB (q_add q_int (qToB (q_mul (q_var 5) (q_var 2))))) (q_var 7))) qa_nil))))
 (qss_one (qs_app 6 (q_var 6) (q_tup (ql_cons (qSh (q_ix (q_var 3) (q_mod (q_var 8) q_int))) (ql_cons (qToC (q_mod (q_div (q_var 8) q_int) (q_var 1))) ql_nil)))))))
 (qss_one (qs_app 4 (q_var 4) (q_mv 6))))))
 (qss_one (qs_ret (q_mv 4))))))))))⟩
theorem sc__law_answers : FnScope ["_law_machine_here", "_law_probe", "_law_answers_here", "_law_state", "_law_ask", "_law_answer"] ["_law_machine_here", "_law_probe"] (defScope s__law_answers) := ⟨rfl, rfl, rfl, by decide +kernel, rfl, by decide +kernel, by decide +kernel⟩
theorem ok__law_answers (F : FunD K "_law_answers" "_law_answers" (defArgs s__law_answers) (defBody s__law_answers) (defScope s__law_answers) [] [] f fd) (m0 : mg "_law_answers" = some (.ref f)) : Cal P w K mg base (clK K) "_law_answers" 1 2 d_law_answers :=
  Cal.def_ F m0 sc__law_answers (by decide) (fun _ _ _ _ _ _ us hl => match us, hl with | [_, _], _ => rfl) fun cdv A outer s H E X hX hr tk hp => by
    subst hX
    have hu := hr.units
    have hu2 := units65 hr
    have hu1 := units9 hr
    have nd := sc__law_answers.nd
    exact ⟨_, (qss_cons (qs_set 2 nd (q_lst ql_nil))
 (qss_cons (qs_set 3 nd (qToC q_int))
 (qss_cons (qs_for hp rfl (q_mv 1) (qg_name 4 rfl nd)
 (qss_cons (qs_asg (qSh (q_ix (q_ix (q_var 0) (q_var 3)) (q_var 4))) (qg_tup rfl (qgs_cons 5 nd (qgs_cons 3 nd qgs_nil))))
 (qss_one (qs_app 2 (q_var 2) (q_mv 5)))))
 (qss_one (qs_ret (q_mv 2))))))⟩
theorem sc__law_row : FnScope ["_law_script", "_law_at", "_law_stem", "_law_machine_here", "_law_cell", "_law_probe", "_law_k", "_law_answers_here", "_law_far"] ["_law_script", "_law_at", "_law_stem", "_law_machine_here"] (defScope s__law_row) := ⟨rfl, rfl, rfl, by decide +kernel, rfl, by decide +kernel, by decide +kernel⟩
theorem ok__law_row (F : FunD K "_law_row" "_law_row" (defArgs s__law_row) (defBody s__law_row) (defScope s__law_row) [] [] f fd) (m0 : mg "_law_row" = some (.ref f)) (b_int : mg "int" = none) (b_len : mg "len" = none) (b_range : mg "range" = none) (c__law_mixed : Cal P w K mg base (clK K) "_law_mixed" 1 2 d_law_mixed) (c__law_answers : Cal P w K mg base (clK K) "_law_answers" 1 2 d_law_answers) : Cal P w K mg base (clK K) "_law_row" 2 4 d_law_row :=
  Cal.def_ F m0 sc__law_row (by decide) (fun _ _ _ _ _ _ us hl => match us, hl with | [_, _, _, _], _ => rfl) fun cdv A outer s H E X hX hr tk hp => by
    subst hX
    have hu := hr.units
    have hu2 := units65 hr
    have hu1 := units9 hr
    have nd := sc__law_row.nd
    exact ⟨_, (qss_cons (qs_set 4 nd (q_callC tk hr c__law_mixed (by decide) dFn_len rfl (qa_cons (q_var 0) (qa_cons (q_var 1) qa_nil))))
 (qss_cons (qs_set 5 nd (q_slice (q_var 2) qo_none (qo_some (q_mod (q_var 4) q_int))))
 (qss_cons (qs_for1 hp rfl rfl b_range (q_ix (qToB (q_lst (ql_cons (qToC q_int) (ql_cons (qToC q_int) (ql_cons (qToC q_int) (ql_cons (qToC q_int) (ql_cons (qToC q_int) ql_nil))))))) (q_mod (q_div (q_var 4) q_int) q_int)) (qg_name 6 rfl nd)
 (qss_one (qs_app 5 (q_var 5) (qToC (q_mod (qToB (q_callC tk hr c__law_mixed (by decide) dFn_len rfl (qa_cons (q_var 0) (qa_cons (qToB (q_add (qToB (q_add (q_var 1) q_int)) (q_var 6))) qa_nil)))) (q_len rfl b_len (qa_cons (q_ix (q_var 3) q_int) qa_nil)))))))
 (qss_cons (qs_set 7 nd (q_callC tk hr c__law_answers (by decide) dFn_len rfl (qa_cons (q_var 3) (qa_cons (q_var 5) qa_nil))))
 (qss_cons (qs_if (qw_pt (qw_and (qt_eq hu (q_mod (qToB (q_callC tk hr c__law_mixed (by decide) dFn_len rfl (qa_cons (q_var 0) (qa_cons q_int qa_nil)))) q_int) q_int) (qw_and (qt_eq hu (q_mod (q_div (q_var 4) q_int) q_int) q_int) (qw_and1 (qt_gt (q_len rfl b_len (qa_cons (q_var 7) qa_nil)) q_int)))))
 (qss_cons (qs_set 8 nd (qToC (q_mod (q_div (q_var 4) q_int) (q_len rfl b_len (qa_cons (q_var 7) qa_nil)))))
 (qss_one (qs_setP (qToC (q_int1 rfl b_int (qa_cons (q_eq hu (q_ix (q_var 7) (q_var 8)) q_int) qa_nil))) (qp_nil 7) (q_var 8))))
 qss_nil)
 (qss_cons (qs_if (qw_pt (qw_and (qt_eq hu (q_mod (qToB (q_callC tk hr c__law_mixed (by decide) dFn_len rfl (qa_cons (q_var 0) (qa_cons q_int qa_nil)))) q_int) q_int) (qw_and1 (qt_eq hu (q_mod (q_div (q_var 4) q_int) q_int) q_int))))
 (qss_one (qs_set 7 nd (q_add (qToB (q_slice (q_var 7) (qo_some q_int) qo_none)) (qToB (q_slice (q_var 7) qo_none (qo_some q_int))))))
 qss_nil)
 (qss_one (qs_ret (q_tup (ql_cons (q_mv 5) (ql_cons (q_mv 7) ql_nil)))))))))))⟩
theorem sc__law_book : FnScope ["_law_script", "_law_machine_here", "_law_stem", "_law_many", "_law_rows", "_law_k", "_law_probe", "_law_answers_here"] ["_law_script", "_law_machine_here"] (defScope s__law_book) := ⟨rfl, rfl, rfl, by decide +kernel, rfl, by decide +kernel, by decide +kernel⟩
theorem ok__law_book (F : FunD K "_law_book" "_law_book" (defArgs s__law_book) (defBody s__law_book) (defScope s__law_book) [] [] f fd) (m0 : mg "_law_book" = some (.ref f)) (b_len : mg "len" = none) (b_list : mg "list" = none) (b_range : mg "range" = none) (c__law_mixed : Cal P w K mg base (clK K) "_law_mixed" 1 2 d_law_mixed) (c__law_row : Cal P w K mg base (clK K) "_law_row" 2 4 d_law_row) : Cal P w K mg base (clK K) "_law_book" 3 2 d_law_book :=
  Cal.def_ F m0 sc__law_book (by decide) (fun _ _ _ _ _ _ us hl => match us, hl with | [_, _], _ => rfl) fun cdv A outer s H E X hX hr tk hp => by
    subst hX
    have hu := hr.units
    have hu2 := units65 hr
    have hu1 := units9 hr
    have nd := sc__law_book.nd
    exact ⟨_, (qss_cons (qs_lc1 true 2 rfl nd rfl b_range (qa_cons q_int qa_nil) (own := [("_law_k", 5)]) (blkOk rfl) (fun _ _ _ _ _ => (qg_name 5 rfl nd)) (fun _ _ _ _ _ => qts_nil) (fun _ _ _ _ _ => (qToC (q_mod (qToB (q_callC0 hr c__law_mixed (by decide) dFn_len rfl (qa_cons (q_var 0) (qa_cons (qToB (q_add q_int (q_var 5))) qa_nil)))) (q_len rfl b_len (qa_cons (q_ix (q_var 1) q_int) qa_nil))))))
 (qss_cons (qs_set 3 nd (qToC (q_mod (qToB (q_callC tk hr c__law_mixed (by decide) dFn_len rfl (qa_cons (q_var 0) (qa_cons q_int qa_nil)))) q_int)))
 (qss_cons (qs_if (qt_eq hu (q_mod (qToB (q_callC tk hr c__law_mixed (by decide) dFn_len rfl (qa_cons (q_var 0) (qa_cons q_int qa_nil)))) q_int) q_int)
 (qss_one (qs_set 3 nd (qToC q_int)))
 qss_nil)
 (qss_cons (qs_set 4 nd (q_lst ql_nil))
 (qss_cons (qs_low 4 (qs_for1 hp rfl rfl b_range (q_var 3) (qg_name 5 rfl nd)
 (qss_cons (qs_app 4 (q_var 4) (q_callC tk hr c__law_row (by decide) dFn_len rfl (qa_cons (q_var 0) (qa_cons (qToB (q_add q_int (qToB (q_mul q_int (q_var 5))))) (qa_cons (q_var 2) (qa_cons (q_var 1) qa_nil))))))
 (qss_one (qs_if (qt_eq hu (q_mod (qToB (q_callC tk hr c__law_mixed (by decide) dFn_len rfl (qa_cons (q_var 0) (qa_cons (qToB (q_add q_int (q_var 5))) qa_nil)))) q_int) q_int)
 (qss_cons (qs_asg (q_topAt 4 (q_var 4) (q_mod (qToB (q_callC tk hr c__law_mixed (by decide) dFn_len rfl (qa_cons (q_var 0) (qa_cons (qToB (q_add q_int (q_var 5))) qa_nil)))) (q_len rfl b_len (qa_cons (q_var 4) qa_nil)))) (qg_tup rfl (qgs_cons 6 nd (qgs_cons 7 nd qgs_nil))))
 (qss_one (qs_app 4 (q_var 4) (q_tup (ql_cons (q_list rfl b_list (qa_cons (q_var 6) qa_nil)) (ql_cons (q_list rfl b_list (qa_cons (q_var 7) qa_nil)) ql_nil))))))
 qss_nil)))))
 (qss_one (qs_ret (q_mv 4))))))))⟩
theorem sc_thin : FnScope ["some", "gone", "probe", "answers", "size", "rows", "pair"] ["some"] (defScope s_thin) := ⟨rfl, rfl, rfl, by decide +kernel, rfl, by decide +kernel, by decide +kernel⟩
theorem ok_thin (F : FunD K "thin" "thin" (defArgs s_thin) (defBody s_thin) (defScope s_thin) [] [] f fd) (m0 : mg "thin" = some (.ref f)) (b_len : mg "len" = none) (b_list : mg "list" = none) (b_range : mg "range" = none) (b_tuple : mg "tuple" = none) : Cal P w K mg base (clK K) "thin" 1 1 d_thin :=
  Cal.def_ F m0 sc_thin (by decide) (fun _ _ _ _ _ _ us hl => match us, hl with | [_], _ => rfl) fun cdv A outer s H E X hX hr tk hp => by
    subst hX
    have hu := hr.units
    have hu2 := units65 hr
    have hu1 := units9 hr
    have nd := sc_thin.nd
    exact ⟨_, (qss_cons (qs_set 1 nd q_dnewN)
 (qss_cons (qs_for hp rfl (q_al 0) (qg_tup rfl (qgs_cons 2 nd (qgs_cons 3 nd qgs_nil)))
 (qss_one (qs_for1 hp rfl rfl b_range (q_len rfl b_len (qa_cons (q_var 2) qa_nil)) (qg_name 4 rfl nd)
 (qss_one (qs_dset 1 hu1 (qToC q_bl) (q_var 1) (qToB (q_tup (ql_cons (q_tuple rfl b_tuple (qa_cons (qToB (q_slice (q_var 2) qo_none (qo_some (q_var 4)))) qa_nil)) (ql_cons (q_tuple rfl b_tuple (qa_cons (qToB (q_slice (q_var 3) qo_none (qo_some (q_var 4)))) qa_nil)) ql_nil)))))))))
 (qss_cons (qs_set 5 nd (q_lst ql_nil))
 (qss_cons (qs_for hp rfl (q_mv 0) (qg_tup rfl (qgs_cons 2 nd (qgs_cons 3 nd qgs_nil)))
 (qss_cons (qs_set 6 nd (q_tup (ql_cons (q_tuple rfl b_tuple (qa_cons (q_var 2) qa_nil)) (ql_cons (q_tuple rfl b_tuple (qa_cons (q_var 3) qa_nil)) ql_nil))))
 (qss_one (qs_if (qt_dnin hu1 (q_var 6) (q_var 1))
 (qss_cons (qs_dset 1 hu1 (qToC q_bl) (q_var 1) (q_var 6))
 (qss_one (qs_app 5 (q_var 5) (q_tup (ql_cons (q_list rfl b_list (qa_cons (q_var 2) qa_nil)) (ql_cons (q_list rfl b_list (qa_cons (q_var 3) qa_nil)) ql_nil))))))
 qss_nil))))
 (qss_one (qs_ret (q_mv 5)))))))⟩
theorem sc_asks_of : FnScope ["machine"] ["machine"] (defScope s_asks_of) := ⟨rfl, rfl, rfl, by decide +kernel, rfl, by decide +kernel, by decide +kernel⟩
theorem ok_asks_of (F : FunD K "asks_of" "asks_of" (defArgs s_asks_of) (defBody s_asks_of) (defScope s_asks_of) [] [] f fd) (m0 : mg "asks_of" = some (.ref f)) (b_len : mg "len" = none) : Cal P w K mg base (clK K) "asks_of" 1 1 d_asks_of :=
  Cal.def_ F m0 sc_asks_of (by decide) (fun _ _ _ _ _ _ us hl => match us, hl with | [_], _ => rfl) fun cdv A outer s H E X hX hr tk hp => by
    subst hX
    have hu := hr.units
    have hu2 := units65 hr
    have hu1 := units9 hr
    have nd := sc_asks_of.nd
    exact ⟨_, (qss_one (qs_ret (qToC (q_len rfl b_len (qa_cons (q_ix (q_var 0) q_int) qa_nil)))))⟩
theorem sc_steps : FnScope ["machine", "state", "probe", "answers", "ask", "answer"] ["machine", "state", "probe"] (defScope s_steps) := ⟨rfl, rfl, rfl, by decide +kernel, rfl, by decide +kernel, by decide +kernel⟩
theorem ok_steps (F : FunD K "steps" "steps" (defArgs s_steps) (defBody s_steps) (defScope s_steps) [] [] f fd) (m0 : mg "steps" = some (.ref f)) : Cal P w K mg base (clK K) "steps" 1 3 d_steps :=
  Cal.def_ F m0 sc_steps (by decide) (fun _ _ _ _ _ _ us hl => match us, hl with | [_, _, _], _ => rfl) fun cdv A outer s H E X hX hr tk hp => by
    subst hX
    have hu := hr.units
    have hu2 := units65 hr
    have hu1 := units9 hr
    have nd := sc_steps.nd
    exact ⟨_, (qss_cons (qs_set 3 nd (q_lst ql_nil))
 (qss_cons (qs_for hp rfl (q_mv 2) (qg_name 4 rfl nd)
 (qss_cons (qs_asg (qSh (q_ix (q_ix (q_var 0) (q_var 1)) (q_var 4))) (qg_tup rfl (qgs_cons 5 nd (qgs_cons 1 nd qgs_nil))))
 (qss_one (qs_app 3 (q_var 3) (q_mv 5)))))
 (qss_one (qs_ret (q_tup (ql_cons (q_mv 3) (ql_cons (q_mv 1) ql_nil)))))))⟩
theorem sc_is_whole : FnScope ["thing"] ["thing"] (defScope s_is_whole) := ⟨rfl, rfl, rfl, by decide +kernel, rfl, by decide +kernel, by decide +kernel⟩
theorem ok_is_whole (F : FunD K "is_whole" "is_whole" (defArgs s_is_whole) (defBody s_is_whole) (defScope s_is_whole) [] [] f fd) (m0 : mg "is_whole" = some (.ref f)) (b_bool : mg "bool" = none) (b_int : mg "int" = none) (b_isinstance : mg "isinstance" = none) : Cal P w K mg base (clK K) "is_whole" 1 1 d_is_whole :=
  Cal.def_ F m0 sc_is_whole (by decide) (fun _ _ _ _ _ _ us hl => match us, hl with | [_], _ => rfl) fun cdv A outer s H E X hX hr tk hp => by
    subst hX
    have hu := hr.units
    have hu2 := units65 hr
    have hu1 := units9 hr
    have nd := sc_is_whole.nd
    exact ⟨_, (qss_one (qs_ret (qToC (q_and (q_isi rfl b_isinstance rfl b_int (by rfl) (q_var 0)) (q_one (q_not (q_isi rfl b_isinstance rfl b_bool (by rfl) (q_var 0))))))))⟩
theorem sc_is_state : FnScope ["thing", "machine"] ["thing", "machine"] (defScope s_is_state) := ⟨rfl, rfl, rfl, by decide +kernel, rfl, by decide +kernel, by decide +kernel⟩
theorem ok_is_state (F : FunD K "is_state" "is_state" (defArgs s_is_state) (defBody s_is_state) (defScope s_is_state) [] [] f fd) (m0 : mg "is_state" = some (.ref f)) (b_len : mg "len" = none) (c_is_whole : Cal P w K mg base (clK K) "is_whole" 1 1 d_is_whole) : Cal P w K mg base (clK K) "is_state" 2 2 d_is_state :=
  Cal.def_ F m0 sc_is_state (by decide) (fun _ _ _ _ _ _ us hl => match us, hl with | [_, _], _ => rfl) fun cdv A outer s H E X hX hr tk hp => by
    subst hX
    have hu := hr.units
    have hu2 := units65 hr
    have hu1 := units9 hr
    have nd := sc_is_state.nd
    exact ⟨_, (qss_one (qs_ret (qToC (q_and (qToB (q_callC tk hr c_is_whole (by decide) dFn_len rfl (qa_cons (q_var 0) qa_nil))) (q_one (q_chain op_le op_lt rvLe rvLt q_int (q_var 0) (q_len rfl b_len (qa_cons (q_var 1) qa_nil))))))))⟩
theorem sc_is_probe : FnScope ["thing", "many", "ask"] ["thing", "many"] (defScope s_is_probe) := ⟨rfl, rfl, rfl, by decide +kernel, rfl, by decide +kernel, by decide +kernel⟩
theorem ok_is_probe (F : FunD K "is_probe" "is_probe" (defArgs s_is_probe) (defBody s_is_probe) (defScope s_is_probe) [] [] f fd) (m0 : mg "is_probe" = some (.ref f)) (b_isinstance : mg "isinstance" = none) (b_len : mg "len" = none) (b_list : mg "list" = none) (i_MOST_LONG : ∃ t, mg "MOST_LONG" = some (.int 13000 t)) (c_is_whole : Cal P w K mg base (clK K) "is_whole" 1 1 d_is_whole) : Cal P w K mg base (clK K) "is_probe" 2 2 d_is_probe :=
  Cal.def_ F m0 sc_is_probe (by decide) (fun _ _ _ _ _ _ us hl => match us, hl with | [_, _], _ => rfl) fun cdv A outer s H E X hX hr tk hp => by
    subst hX
    have hu := hr.units
    have hu2 := units65 hr
    have hu1 := units9 hr
    have nd := sc_is_probe.nd
    exact ⟨_, (qss_cons (qs_if (qw_pt (qw_or (qt_not (qt_val (q_isi rfl b_isinstance rfl b_list (by rfl) (q_var 0)))) (qw_or1 (qt_gt (q_len rfl b_len (qa_cons (q_var 0) qa_nil)) (q_gint i_MOST_LONG rfl)))))
 (qss_one (qs_ret (qToC q_bl)))
 qss_nil)
 (qss_cons (qs_for hp rfl (q_mv 0) (qg_name 2 rfl nd)
 (qss_one (qs_if (qw_pt (qw_or (qt_not (qt_val (qToB (q_callC tk hr c_is_whole (by decide) dFn_len rfl (qa_cons (q_var 2) qa_nil))))) (qw_or1 (qt_not (qt_chain op_le op_lt rvLe rvLt q_int (q_var 2) (q_var 1))))))
 (qss_one (qs_ret (qToC q_bl)))
 qss_nil)))
 (qss_one (qs_ret (qToC q_bl)))))⟩
theorem sc_walk : FnScope ["machine", "state", "probe"] ["machine", "state", "probe"] (defScope s_walk) := ⟨rfl, rfl, rfl, by decide +kernel, rfl, by decide +kernel, by decide +kernel⟩
theorem ok_walk (F : FunD K "walk" "walk" (defArgs s_walk) (defBody s_walk) (defScope s_walk) [] [] f fd) (m0 : mg "walk" = some (.ref f)) (ex_all : ExAll K mg excs) (c_is_state : Cal P w K mg base (clK K) "is_state" 2 2 d_is_state) (c_asks_of : Cal P w K mg base (clK K) "asks_of" 1 1 d_asks_of) (c_is_probe : Cal P w K mg base (clK K) "is_probe" 2 2 d_is_probe) (c_steps : Cal P w K mg base (clK K) "steps" 1 3 d_steps) : Cal P w K mg base (clK K) "walk" 3 3 d_walk :=
  Cal.def_ F m0 sc_walk (by decide) (fun _ _ _ _ _ _ us hl => match us, hl with | [_, _, _], _ => rfl) fun cdv A outer s H E X hX hr tk hp => by
    subst hX
    have hu := hr.units
    have hu2 := units65 hr
    have hu1 := units9 hr
    have nd := sc_walk.nd
    exact ⟨_, (qss_cons (qs_if (qt_not (qt_val (qToB (q_callC tk hr c_is_state (by decide) dFn_len rfl (qa_cons (q_var 1) (qa_cons (q_var 0) qa_nil))))))
 (qss_one (qs_raise rfl tk ex_all (by decide +kernel) rfl))
 qss_nil)
 (qss_cons (qs_if (qt_not (qt_val (qToB (q_callC tk hr c_is_probe (by decide) dFn_len rfl (qa_cons (q_var 2) (qa_cons (qToB (q_callC tk hr c_asks_of (by decide) dFn_len rfl (qa_cons (q_var 0) qa_nil))) qa_nil))))))
 (qss_one (qs_raise rfl tk ex_all (by decide +kernel) rfl))
 qss_nil)
 (qss_one (qs_ret (q_callC tk hr c_steps (by decide) dFn_len rfl (qa_cons (q_var 0) (qa_cons (q_var 1) (qa_cons (q_var 2) qa_nil))))))))⟩
theorem sc_run : FnScope ["machine", "probe"] ["machine", "probe"] (defScope s_run) := ⟨rfl, rfl, rfl, by decide +kernel, rfl, by decide +kernel, by decide +kernel⟩
theorem ok_run (F : FunD K "run" "run" (defArgs s_run) (defBody s_run) (defScope s_run) [] [] f fd) (m0 : mg "run" = some (.ref f)) (c_walk : Cal P w K mg base (clK K) "walk" 3 3 d_walk) : Cal P w K mg base (clK K) "run" 4 2 d_run :=
  Cal.def_ F m0 sc_run (by decide) (fun _ _ _ _ _ _ us hl => match us, hl with | [_, _], _ => rfl) fun cdv A outer s H E X hX hr tk hp => by
    subst hX
    have hu := hr.units
    have hu2 := units65 hr
    have hu1 := units9 hr
    have nd := sc_run.nd
    exact ⟨_, (qss_one (qs_ret (q_item (q_callC tk hr c_walk (by decide) dFn_len rfl (qa_cons (q_var 0) (qa_cons q_int (qa_cons (q_var 1) qa_nil)))) q_int)))⟩
theorem sc_fault : FnScope ["some", "machine", "many", "probe", "answers", "given"] ["some", "machine"] (defScope s_fault) := ⟨rfl, rfl, rfl, by decide +kernel, rfl, by decide +kernel, by decide +kernel⟩
theorem ok_fault (F : FunD K "fault" "fault" (defArgs s_fault) (defBody s_fault) (defScope s_fault) [] [] f fd) (m0 : mg "fault" = some (.ref f)) (b_list : mg "list" = none) (ex_all : ExAll K mg excs) (c_asks_of : Cal P w K mg base (clK K) "asks_of" 1 1 d_asks_of) (c_is_probe : Cal P w K mg base (clK K) "is_probe" 2 2 d_is_probe) (c_run : Cal P w K mg base (clK K) "run" 4 2 d_run) : Cal P w K mg base (clK K) "fault" 5 2 d_fault :=
  Cal.def_ F m0 sc_fault (by decide) (fun _ _ _ _ _ _ us hl => match us, hl with | [_, _], _ => rfl) fun cdv A outer s H E X hX hr tk hp => by
    subst hX
    have hu := hr.units
    have hu2 := units65 hr
    have hu1 := units9 hr
    have nd := sc_fault.nd
    exact ⟨_, (qss_cons (qs_set 2 nd (q_callC tk hr c_asks_of (by decide) dFn_len rfl (qa_cons (q_var 1) qa_nil)))
 (qss_cons (qs_for hp rfl (q_al 0) (qg_tup rfl (qgs_cons 3 nd (qgs_cons 4 nd qgs_nil)))
 (qss_one (qs_if (qt_not (qt_val (qToB (q_callC tk hr c_is_probe (by decide) dFn_len rfl (qa_cons (q_var 3) (qa_cons (q_var 2) qa_nil))))))
 (qss_one (qs_raise rfl tk ex_all (by decide +kernel) rfl))
 qss_nil)))
 (qss_cons (qs_for hp rfl (q_mv 0) (qg_tup rfl (qgs_cons 3 nd (qgs_cons 4 nd qgs_nil)))
 (qss_cons (qs_set 5 nd (q_callC tk hr c_run (by decide) dFn_len rfl (qa_cons (q_var 1) (qa_cons (q_var 3) qa_nil))))
 (qss_one (qs_if (qt_ne hu (q_var 5) (q_var 4))
 (qss_one (qs_ret (q_tup (ql_cons (q_list rfl b_list (qa_cons (q_var 3) qa_nil)) (ql_cons (q_mv 5) ql_nil)))))
 qss_nil))))
 (qss_one (qs_ret (qToC q_non))))))⟩
theorem sc_passes : FnScope ["some", "machine"] ["some", "machine"] (defScope s_passes) := ⟨rfl, rfl, rfl, by decide +kernel, rfl, by decide +kernel, by decide +kernel⟩
theorem ok_passes (F : FunD K "passes" "passes" (defArgs s_passes) (defBody s_passes) (defScope s_passes) [] [] f fd) (m0 : mg "passes" = some (.ref f)) (c_fault : Cal P w K mg base (clK K) "fault" 5 2 d_fault) : Cal P w K mg base (clK K) "passes" 6 2 d_passes :=
  Cal.def_ F m0 sc_passes (by decide) (fun _ _ _ _ _ _ us hl => match us, hl with | [_, _], _ => rfl) fun cdv A outer s H E X hX hr tk hp => by
    subst hX
    have hu := hr.units
    have hu2 := units65 hr
    have hu1 := units9 hr
    have nd := sc_passes.nd
    exact ⟨_, (qss_one (qs_ret (qToC (q_isN (qToB (q_callC tk hr c_fault (by decide) dFn_len rfl (qa_cons (q_var 0) (qa_cons (q_var 1) qa_nil)))) q_non))))⟩
theorem sc_law : FnScope ["_law_script", "_law_machine_here", "_law_rows", "_law_short", "_law_whole", "_law_part", "_law_found", "_law_probe", "_law_answers_here"] ["_law_script"] (defScope s_law) := ⟨rfl, rfl, rfl, by decide +kernel, rfl, by decide +kernel, by decide +kernel⟩
theorem ok_law (F : FunD K "law" "law" (defArgs s_law) (defBody s_law) (defScope s_law) [] [] f fd) (b_bool : mg "bool" = none) (b_isinstance : mg "isinstance" = none) (b_list : mg "list" = none) (c__law_machine : Cal P w K mg base (clK K) "_law_machine" 2 1 d_law_machine) (c__law_book : Cal P w K mg base (clK K) "_law_book" 3 2 d_law_book) (c_thin : Cal P w K mg base (clK K) "thin" 1 1 d_thin) (c_passes : Cal P w K mg base (clK K) "passes" 6 2 d_passes) (c_fault : Cal P w K mg base (clK K) "fault" 5 2 d_fault) (c__law_answers : Cal P w K mg base (clK K) "_law_answers" 1 2 d_law_answers) : FnOk P w K mg base (L2.CX P w) 7 f fd ["_law_script"] (spD K (clK K) 1 d_law) :=
  q_def F sc_law (by decide) fun cdv A outer s H E X hX hr tk hp => by
    subst hX
    have hu := hr.units
    have hu2 := units65 hr
    have hu1 := units9 hr
    have nd := sc_law.nd
    exact ⟨_, (qss_cons (qs_set 1 nd (q_callC tk hr c__law_machine (by decide) dFn_len rfl (qa_cons (q_var 0) qa_nil)))
 (qss_cons (qs_set 2 nd (q_callC tk hr c__law_book (by decide) dFn_len rfl (qa_cons (q_var 0) (qa_cons (q_var 1) qa_nil))))
 (qss_cons (qs_set 3 nd (q_callC tk hr c_thin (by decide) dFn_len rfl (qa_cons (qToB (q_lc true rfl nd (q_var 2) (own := [("_law_probe", 7), ("_law_answers_here", 8)]) (blkOk rfl) (fun _ _ _ _ _ => (qg_tup rfl (qgs_cons 7 nd (qgs_cons 8 nd qgs_nil)))) (fun _ _ _ _ _ => qts_nil) (fun _ _ _ _ _ => (q_tup (ql_cons (q_list rfl b_list (qa_cons (q_var 7) qa_nil)) (ql_cons (q_list rfl b_list (qa_cons (q_var 8) qa_nil)) ql_nil)))))) qa_nil)))
 (qss_cons (qs_set 4 nd (q_callC tk hr c_passes (by decide) dFn_len rfl (qa_cons (q_var 2) (qa_cons (q_var 1) qa_nil))))
 (qss_cons (qs_set 5 nd (q_callC tk hr c_passes (by decide) dFn_len rfl (qa_cons (q_var 3) (qa_cons (q_var 1) qa_nil))))
 (qss_cons (qs_if (qw_pt (qw_or (qt_not (qt_val (q_isi rfl b_isinstance rfl b_bool (by rfl) (q_var 4)))) (qw_or (qt_not (qt_val (q_isi rfl b_isinstance rfl b_bool (by rfl) (q_var 5)))) (qw_or1 (qt_ne hu (q_var 4) (q_var 5))))))
 (qss_one (qs_ret (qToC q_bl)))
 qss_nil)
 (qss_cons (qs_set 6 nd (q_callC tk hr c_fault (by decide) dFn_len rfl (qa_cons (q_var 3) (qa_cons (q_var 1) qa_nil))))
 (qss_cons (qs_if (qt_isN (q_var 6) q_non)
 (qss_one (qs_ret (q_mv 4)))
 qss_nil)
 (qss_cons (qs_for hp rfl (q_mv 2) (qg_tup rfl (qgs_cons 7 nd (qgs_cons 8 nd qgs_nil)))
 (qss_one (qs_if (qw_pt (qw_and (qt_eq hu (q_var 7) (q_ix (q_var 6) q_int)) (qw_and1 (qt_ne hu (q_var 8) (qToB (q_callC tk hr c__law_answers (by decide) dFn_len rfl (qa_cons (q_var 1) (qa_cons (q_var 7) qa_nil))))))))
 (qss_one (qs_ret (qToC (q_not (q_var 4)))))
 qss_nil)))
 (qss_one (qs_ret (qToC q_bl))))))))))))⟩
end
end Dv

namespace Dv
open Enc (enc)
open PySem PySem.Spec PyProof.Rows L2 Evl
theorem law_true (ns : List Int) (hl : ns.length ≤ 63) (hb : ∀ z ∈ ns, PySem.Builtin.Int.intBits z ≤ 1048576) : ∃ ow, d_law [.sc (ns.map D.int)] = some (.ret (.bl true) ow) := law_of r_law ns (n_true ns hl)
def D__law_mixed : He.DefD := ⟨("_law_mixed", none), "_law_mixed", "_law_mixed", defArgs s__law_mixed, defBody s__law_mixed, defScope s__law_mixed, [], []⟩
def D__law_machine : He.DefD := ⟨("_law_machine", none), "_law_machine", "_law_machine", defArgs s__law_machine, defBody s__law_machine, defScope s__law_machine, [], []⟩
def D__law_answers : He.DefD := ⟨("_law_answers", none), "_law_answers", "_law_answers", defArgs s__law_answers, defBody s__law_answers, defScope s__law_answers, [], []⟩
def D__law_row : He.DefD := ⟨("_law_row", none), "_law_row", "_law_row", defArgs s__law_row, defBody s__law_row, defScope s__law_row, [], []⟩
def D__law_book : He.DefD := ⟨("_law_book", none), "_law_book", "_law_book", defArgs s__law_book, defBody s__law_book, defScope s__law_book, [], []⟩
def D_thin : He.DefD := ⟨("thin", none), "thin", "thin", defArgs s_thin, defBody s_thin, defScope s_thin, [], []⟩
def D_asks_of : He.DefD := ⟨("asks_of", none), "asks_of", "asks_of", defArgs s_asks_of, defBody s_asks_of, defScope s_asks_of, [], []⟩
def D_steps : He.DefD := ⟨("steps", none), "steps", "steps", defArgs s_steps, defBody s_steps, defScope s_steps, [], []⟩
def D_is_whole : He.DefD := ⟨("is_whole", none), "is_whole", "is_whole", defArgs s_is_whole, defBody s_is_whole, defScope s_is_whole, [], []⟩
def D_is_state : He.DefD := ⟨("is_state", none), "is_state", "is_state", defArgs s_is_state, defBody s_is_state, defScope s_is_state, [], []⟩
def D_is_probe : He.DefD := ⟨("is_probe", none), "is_probe", "is_probe", defArgs s_is_probe, defBody s_is_probe, defScope s_is_probe, [], []⟩
def D_walk : He.DefD := ⟨("walk", none), "walk", "walk", defArgs s_walk, defBody s_walk, defScope s_walk, [], []⟩
def D_run : He.DefD := ⟨("run", none), "run", "run", defArgs s_run, defBody s_run, defScope s_run, [], []⟩
def D_fault : He.DefD := ⟨("fault", none), "fault", "fault", defArgs s_fault, defBody s_fault, defScope s_fault, [], []⟩
def D_passes : He.DefD := ⟨("passes", none), "passes", "passes", defArgs s_passes, defBody s_passes, defScope s_passes, [], []⟩
def D_law : He.DefD := ⟨("law", none), "law", "law", defArgs s_law, defBody s_law, defScope s_law, [], []⟩
def fn : List He.DefD := [D__law_mixed, D__law_machine, D__law_answers, D__law_row, D__law_book, D_thin, D_asks_of, D_steps, D_is_whole, D_is_state, D_is_probe, D_walk, D_run, D_fault, D_passes, D_law]
def fa : List He.Fa := [.glo "_law_mixed", .glo "_law_machine", .glo "_law_answers", .glo "_law_row", .glo "_law_book", .glo "thin", .glo "asks_of", .glo "steps", .glo "is_whole", .glo "is_state", .glo "is_probe", .glo "walk", .glo "run", .glo "fault", .glo "passes", .glo "law", .free "bool", .free "int", .free "isinstance", .free "len", .free "list", .free "range", .free "tuple", .int "MOST_LONG" 13000] ++ (excs.map He.Fa.glo ++ excs.map He.Fa.exc)
abbrev RowR : PySem.W.OpenRow := PySem.W.OpenLaw.row PySem.Challenge.rw_probewell_k63_whole_thinned_passed
abbrev hk : PySem.W.Hook := He.hookX 4 fa fn [] [] (exOk excs)
def ob (s : PySem.W.SharedT) : He.AlX := He.obsX 4 fa fn [] [] (exOk excs) (HandSHeadRun.getT s)
theorem ob_eq (s : PySem.W.SharedT) : ob s = hk.obs s.abs := He.obsX_eq (HandSHeadRun.getT_eq s)
def loose : List Str := ["thin", "ProbeError", "NoState", "NoProbe", "Unfit", "is_whole", "asks_of", "MOST_LONG", "is_probe", "is_state", "steps", "walk", "run", "fault", "passes", "_law_mixed", "_law_machine", "_law_answers", "_law_row", "_law_book"]
theorem run (w : World) : HandSHeadRun.RunEq RowR (PySem.W.view RowR.prog [27]) hk ob 3200 loose w := by
  intro os
  kernel_rfl
theorem facts {P : Program} {w : World} {K : PySem.W.Frag} {h : Heap} {mg : Str → Option Value} {f : Addr} (X : K.In h) (G : h.Ns mainGlobals mg) (hfa : mg ("law" : Str) = some (.ref f)) (c0 : He.SaysX fa fn [] [] (exOk excs) w h K) :
    ∃ fd : FuncData, (∀ (s : Shared) (v : Value), BindsTo s fd ⟨[v], []⟩ [("_law_script", v)]) ∧ ∀ base : Heap, K.In base → base.Ns mainGlobals mg → FnOk P w K mg base (L2.CX P w) 7 f fd ["_law_script"] (spD K (clK K) 1 d_law) := by
  have c := c0.t.d
  have ex_all := exAll_of X G c0 (fun x hx => List.mem_append_right _ (List.mem_append_left _ (List.mem_map_of_mem hx))) (fun x hx => List.mem_append_right _ (List.mem_append_right _ (List.mem_map_of_mem hx))) (by decide +kernel)
  obtain ⟨fd__law_mixed, F__law_mixed⟩ := c.def_ 0 (d := D__law_mixed) rfl
  have g__law_mixed := He.glo_ok X G (c.fact 0 (f := .glo "_law_mixed") rfl)
  obtain ⟨fd__law_machine, F__law_machine⟩ := c.def_ 1 (d := D__law_machine) rfl
  have g__law_machine := He.glo_ok X G (c.fact 1 (f := .glo "_law_machine") rfl)
  obtain ⟨fd__law_answers, F__law_answers⟩ := c.def_ 2 (d := D__law_answers) rfl
  have g__law_answers := He.glo_ok X G (c.fact 2 (f := .glo "_law_answers") rfl)
  obtain ⟨fd__law_row, F__law_row⟩ := c.def_ 3 (d := D__law_row) rfl
  have g__law_row := He.glo_ok X G (c.fact 3 (f := .glo "_law_row") rfl)
  obtain ⟨fd__law_book, F__law_book⟩ := c.def_ 4 (d := D__law_book) rfl
  have g__law_book := He.glo_ok X G (c.fact 4 (f := .glo "_law_book") rfl)
  obtain ⟨fd_thin, F_thin⟩ := c.def_ 5 (d := D_thin) rfl
  have g_thin := He.glo_ok X G (c.fact 5 (f := .glo "thin") rfl)
  obtain ⟨fd_asks_of, F_asks_of⟩ := c.def_ 6 (d := D_asks_of) rfl
  have g_asks_of := He.glo_ok X G (c.fact 6 (f := .glo "asks_of") rfl)
  obtain ⟨fd_steps, F_steps⟩ := c.def_ 7 (d := D_steps) rfl
  have g_steps := He.glo_ok X G (c.fact 7 (f := .glo "steps") rfl)
  obtain ⟨fd_is_whole, F_is_whole⟩ := c.def_ 8 (d := D_is_whole) rfl
  have g_is_whole := He.glo_ok X G (c.fact 8 (f := .glo "is_whole") rfl)
  obtain ⟨fd_is_state, F_is_state⟩ := c.def_ 9 (d := D_is_state) rfl
  have g_is_state := He.glo_ok X G (c.fact 9 (f := .glo "is_state") rfl)
  obtain ⟨fd_is_probe, F_is_probe⟩ := c.def_ 10 (d := D_is_probe) rfl
  have g_is_probe := He.glo_ok X G (c.fact 10 (f := .glo "is_probe") rfl)
  obtain ⟨fd_walk, F_walk⟩ := c.def_ 11 (d := D_walk) rfl
  have g_walk := He.glo_ok X G (c.fact 11 (f := .glo "walk") rfl)
  obtain ⟨fd_run, F_run⟩ := c.def_ 12 (d := D_run) rfl
  have g_run := He.glo_ok X G (c.fact 12 (f := .glo "run") rfl)
  obtain ⟨fd_fault, F_fault⟩ := c.def_ 13 (d := D_fault) rfl
  have g_fault := He.glo_ok X G (c.fact 13 (f := .glo "fault") rfl)
  obtain ⟨fd_passes, F_passes⟩ := c.def_ 14 (d := D_passes) rfl
  have g_passes := He.glo_ok X G (c.fact 14 (f := .glo "passes") rfl)
  obtain ⟨fd_law, F_law⟩ := c.def_ 15 (d := D_law) rfl
  have g_law := He.glo_ok X G (c.fact 15 (f := .glo "law") rfl)
  have b_bool := He.free_ok X G (c.fact 16 (f := .free "bool") rfl)
  have b_int := He.free_ok X G (c.fact 17 (f := .free "int") rfl)
  have b_isinstance := He.free_ok X G (c.fact 18 (f := .free "isinstance") rfl)
  have b_len := He.free_ok X G (c.fact 19 (f := .free "len") rfl)
  have b_list := He.free_ok X G (c.fact 20 (f := .free "list") rfl)
  have b_range := He.free_ok X G (c.fact 21 (f := .free "range") rfl)
  have b_tuple := He.free_ok X G (c.fact 22 (f := .free "tuple") rfl)
  have i_MOST_LONG := He.int_ok X G (c.fact 23 (f := .int "MOST_LONG" 13000) rfl)
  have e := hfa.symm.trans g_law
  cases e
  have b := FunD.bindsA (ps := ["_law_script"]) F_law fun _ _ _ _ _ _ us hl => match us, hl with | [_], _ => rfl
  refine ⟨fd_law, fun s v => b s [v] rfl, fun base _ _ => ?_⟩
  have c__law_mixed := ok__law_mixed (P := P) (w := w) (base := base) F__law_mixed g__law_mixed b_len
  have c__law_machine := ok__law_machine (P := P) (w := w) (base := base) F__law_machine g__law_machine b_range c__law_mixed
  have c__law_answers := ok__law_answers (P := P) (w := w) (base := base) F__law_answers g__law_answers
  have c__law_row := ok__law_row (P := P) (w := w) (base := base) F__law_row g__law_row b_int b_len b_range c__law_mixed c__law_answers
  have c__law_book := ok__law_book (P := P) (w := w) (base := base) F__law_book g__law_book b_len b_list b_range c__law_mixed c__law_row
  have c_thin := ok_thin (P := P) (w := w) (base := base) F_thin g_thin b_len b_list b_range b_tuple
  have c_asks_of := ok_asks_of (P := P) (w := w) (base := base) F_asks_of g_asks_of b_len
  have c_steps := ok_steps (P := P) (w := w) (base := base) F_steps g_steps
  have c_is_whole := ok_is_whole (P := P) (w := w) (base := base) F_is_whole g_is_whole b_bool b_int b_isinstance
  have c_is_state := ok_is_state (P := P) (w := w) (base := base) F_is_state g_is_state b_len c_is_whole
  have c_is_probe := ok_is_probe (P := P) (w := w) (base := base) F_is_probe g_is_probe b_isinstance b_len b_list i_MOST_LONG c_is_whole
  have c_walk := ok_walk (P := P) (w := w) (base := base) F_walk g_walk ex_all c_is_state c_asks_of c_is_probe c_steps
  have c_run := ok_run (P := P) (w := w) (base := base) F_run g_run c_walk
  have c_fault := ok_fault (P := P) (w := w) (base := base) F_fault g_fault b_list ex_all c_asks_of c_is_probe c_run
  have c_passes := ok_passes (P := P) (w := w) (base := base) F_passes g_passes c_fault
  exact ok_law F_law b_bool b_isinstance b_list c__law_machine c__law_book c_thin c_passes c_fault c__law_answers
end Dv
open PySem PySem.W PySem.Calls PyProof.Rows
theorem PySem.Challenge.cw_probewell_k63_whole_thinned_passed_holds : PySem.Challenge.rw_probewell_k63_whole_thinned_passed.Holds := by
  w_on; o_law
  refine HandSHeadRun.head_any (r := PySem.W.OpenLaw.row PySem.Challenge.rw_probewell_k63_whole_thinned_passed) (q := PySem.W.view (PySem.W.OpenLaw.row PySem.Challenge.rw_probewell_k63_whole_thinned_passed).prog [27]) (H := Dv.hk) (ob := Dv.ob) (M := 3200) (loose := Dv.loose) (d := HandSHeadRun.topDef (PySem.W.OpenLaw.row PySem.Challenge.rw_probewell_k63_whole_thinned_passed).prog 27) (kwd := []) Dv.ob_eq
    (by kernel_rfl) (fun s => by kernel_rfl) Dv.run (by kernel_rfl) (by kernel_rfl) (by kernel_rfl) (by rfl) (by first | assumption | decide +kernel) (by decide +kernel) ⟨rfl, rfl, rfl, rfl, rfl, by decide +kernel⟩ ?hw ?hc
  case hw => w_witness2
  case hc =>
    refine Dv.walk_D (row := PySem.Challenge.rw_probewell_k63_whole_thinned_passed) (n := 63) (k := 7) (x := "_law_script") (df := Dv.d_law) rfl (by decide) (by kernel_rfl) ⟨rfl, by decide, by decide⟩ ?F Dv.law_true
    intro w mg fa h Y G hmg0
    obtain ⟨K, KX, c⟩ := Y
    have hmg : mg ("law" : PySem.Str) = some (.ref fa) := by
      have e : (HandSHeadRun.topDef (PySem.W.OpenLaw.row PySem.Challenge.rw_probewell_k63_whole_thinned_passed).prog 27).name = ("law" : PySem.Str) := by kernel_rfl
      rw [← e]
      exact hmg0
    obtain ⟨fd, hb, hF⟩ := Dv.facts (P := (PySem.Challenge.rw_probewell_k63_whole_thinned_passed).prog) (w := w) KX G hmg c
    exact ⟨K, fd, Dv.clK K, KX, hb, hF⟩

