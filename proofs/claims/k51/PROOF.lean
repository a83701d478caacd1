import PyProof.Rows.All
import Wide.All
import OpenK.AllK
import Wide.FinOn
import HandS.ForExc
import HandS.Evl
import HandS.Comp
import KE.KDictKeyed
import HandS.HeadHook1
import HandS.Conv
import HandS.IsInst
import HandS.Wide
import HandS.TupAny
import HandS.TupLe
import HandS.Text
import HandS.Defaults
import HandS.WordsExc
import HandS.ExcOwn
import HandS.Ends
import HandS.EndBits
import HandS.ExcIs
import HandS.Exc
import HandS.HeadHook2
import HandS.HeadHook3
import HandS.HeadHook4
import HandS.Dict
import KE.LtSeq
import HandS.Deep
import HandS.TupLen
import KE.KDictDisplayH
import HandS.Iter
import KE.DataCmp
import KE.SortData
import HandS.SortOrd
import HandS.SortInts
import HandS.SetFor
import HandS.Strs
import KE.KIsAll
import HandS.More
import HandS.Zip
import HandS.SortKw
import KE.SortKeyHeap
import PyProof.DictMoreH
import PyProof.Rows.MinMaxN
import HandS.SetKeys
import HandS.TupSets
import PyProof.StrBlock2
import HandS.SuiteRaise
import HandS.HotCalls
import HandS.ExcCtx
import KE.KStateDown
import Lean
import HandS.Base
import HandS.Call
import HandS.Words
import HandS.Head0
import HandS.Head1
import HandS.Head2
import HandS.HeadEnd
import PySem.Challenge.RW_probewell_k51_rows_of_asks
set_option Elab.async false
set_option linter.all false
set_option maxRecDepth 100000
set_option maxHeartbeats 0
namespace Dv
open PySem L2 Evl

inductive D where
  | non | bl (b : Bool) | int (i : Int) | str (x : Str)
  | tup (xs : List D) | lst (xs : List D) | sc (xs : List D)
  | dK (kvs : List (Key × D)) | dT (kvs : List (List Key × D))
  | dN (kvs : List (NestedKey × D))
  | ins (c : Str) (fs : List (Str × D))
instance : Inhabited D := ⟨.non⟩

mutual
def imm : D → Bool
  | .non => true
  | .bl _ => true
  | .int _ => true
  | .str _ => true
  | .tup xs => immL xs
  | .sc xs => immL xs
  | .lst _ => false
  | .dK _ => false
  | .dT _ => false
  | .dN _ => false
  | .ins _ _ => false
def immL : List D → Bool
  | [] => true
  | x :: xs => imm x && immL xs
end

inductive Ow where
  | full | top | no | adr (a : Addr)
  deriving DecidableEq
def Ow.tp : Ow → Bool
  | .top => true
  | .adr _ => true
  | _ => false
abbrev Sl := Option (D × Ow)
abbrev SD := List Sl

def SqF (K : PySem.W.Frag) (H : Hp) (a : Addr) (xs : List V) : Prop :=
  (∃ o, H a = some (.frz o (.lst xs))) ∨
    ∃ (o : Obj) (its : Array Value) (n : Nat), K.lookup a = some o ∧ o.cls = .type "list" ∧ o.dict = none ∧ o.data = .seq its n ∧ its.size ≤ sizeLine ∧ Vals xs its.toList
theorem SqF.l {K : PySem.W.Frag} {H : Hp} {a : Addr} {xs : List V} (h : SqF K H a xs) : SqL K H a xs := by
  rcases h with ⟨o, h⟩ | h
  · exact .inl (.inr ⟨o, h⟩)
  · exact .inr h
mutual
inductive NkAt (H : Hp) : NestedKey → V → Prop
  | num (i : Int) : NkAt H (.num i) (.int i)
  | tup {q : Addr} {vs : List V} {ks : List NestedKey} : H q = some (.tup vs) → NkAll H ks vs → NkAt H (.tup ks) (.ref q)
inductive NkAll (H : Hp) : List NestedKey → List V → Prop
  | nil : NkAll H [] []
  | cons {k : NestedKey} {v : V} {ks : List NestedKey} {vs : List V} : NkAt H k v → NkAll H ks vs → NkAll H (k :: ks) (v :: vs)
end
mutual
theorem NkAt.mono {H H' : Hp} (t : ∀ p xs, H p = some (.tup xs) → H' p = some (.tup xs)) : ∀ {k : NestedKey} {v : V}, NkAt H k v → NkAt H' k v
  | _, _, .num i => .num i
  | _, _, .tup h r => .tup (t _ _ h) (NkAll.mono t r)
theorem NkAll.mono {H H' : Hp} (t : ∀ p xs, H p = some (.tup xs) → H' p = some (.tup xs)) : ∀ {k : List NestedKey} {v : List V}, NkAll H k v → NkAll H' k v
  | _, _, .nil => .nil
  | _, _, .cons a b => .cons (NkAt.mono t a) (NkAll.mono t b)
end
def DictNOk (a : Addr) (xs : List (NestedKey × Addr × V)) (h : Heap) : Prop :=
  xs.length ≤ sizeLine ∧ (a == sysModules) = false ∧ ∃ ys : List (NestedKey × Addr × Value), Paired (fun (p : NestedKey × Addr × V) (q : NestedKey × Addr × Value) => p.1 = q.1 ∧ p.2.1 = q.2.1 ∧ RelV p.2.2 q.2.2) xs ys ∧
    ∃ o es ep, h.get? a = some o ∧ o.ExactDict ∧ o.data = .dict es ep ∧ (∀ (P : Program) (w : World), es.toList = ys.map (entryOfKey (nestedKind P w))) ∧ (ys.map (·.1)).Nodup
def dictN (a : Addr) (xs : List (NestedKey × Addr × V)) : HO := .ext (DictNOk a xs)
def NkIs (H : Hp) (xs : List (NestedKey × Addr × V)) : Prop := ∀ x ∈ xs, NkAt H x.1 (.ref x.2.1) ∧ x.1.depth ≤ 8
theorem NkIs.mono {H H' : Hp} (t : ∀ p xs, H p = some (.tup xs) → H' p = some (.tup xs)) {xs : List (NestedKey × Addr × V)} (h : NkIs H xs) : NkIs H' xs := fun x hx => ⟨(h x hx).1.mono t, (h x hx).2⟩
def exN : Str := "?exc"
def exFs (a : Addr) : List (Str × D) := [(exN, .int a)]
mutual
inductive Re (K : PySem.W.Frag) (G H : Hp) : V → D → Prop
  | non : Re K G H .non .non
  | bl (b : Bool) : Re K G H (.bl b) (.bl b)
  | int (i : Int) : Re K G H (.int i) (.int i)
  | str (x : Str) : Re K G H (.str x) (.str x)
  | tup {p : Addr} {vs : List V} {ds : List D} : H p = some (.tup vs) → ReL K G H vs ds → Re K G H (.ref p) (.tup ds)
  | lst {p : Addr} {vs : List V} {ds : List D} : G p = some (.lst vs) → ReL K G H vs ds → Re K G H (.ref p) (.lst ds)
  | sc {p : Addr} {vs : List V} {ds : List D} : SqF K H p vs → ReL K G H vs ds → Re K G H (.ref p) (.sc ds)
  | dk {p : Addr} {ks : List (Key × V)} {kd : List (Key × D)} : G p = some (.dK ks) → ks.map (·.1) = kd.map (·.1) → ReL K G H (ks.map (·.2)) (kd.map (·.2)) → Re K G H (.ref p) (.dK kd)
  | dt {p : Addr} {ks : List (List Key × V)} {kd : List (List Key × D)} : G p = some (.dT ks) → ks.map (·.1) = kd.map (·.1) → ReL K G H (ks.map (·.2)) (kd.map (·.2)) → Re K G H (.ref p) (.dT kd)
  | dtF {p : Addr} {o : Obj} {ks : List (List Key × V)} {kd : List (List Key × D)} : H p = some (.frz o (.dT ks)) → ks.map (·.1) = kd.map (·.1) → ReL K G H (ks.map (·.2)) (kd.map (·.2)) → Re K G H (.ref p) (.dT kd)
  | dkF {p : Addr} {o : Obj} {ks : List (Key × V)} {kd : List (Key × D)} : H p = some (.frz o (.dK ks)) → ks ≠ [] → ks.map (·.1) = kd.map (·.1) → ReL K G H (ks.map (·.2)) (kd.map (·.2)) → Re K G H (.ref p) (.dK kd)
  | dn {p : Addr} {xs : List (NestedKey × Addr × V)} {kd : List (NestedKey × D)} : G p = some (dictN p xs) → NkIs H xs → xs.map (·.1) = kd.map (·.1) → ReL K G H (xs.map (·.2.2)) (kd.map (·.2)) → Re K G H (.ref p) (.dN kd)
  | xc {c : Str} {fd : List (Str × D)} (a : Addr) : c = exN → fd = exFs a → Re K G H (.ref a) (.ins c fd)
  | ob {p dx : Addr} {c : Str} {fs : List (Str × V)} {fd : List (Str × D)} : c ≠ exN ∧ G p = some (.ins (He.ga K c) dx fs) → fs.map (·.1) = fd.map (·.1) → ReL K G H (fs.map (·.2)) (fd.map (·.2)) → Re K G H (.ref p) (.ins c fd)
inductive ReL (K : PySem.W.Frag) (G H : Hp) : List V → List D → Prop
  | nil : ReL K G H [] []
  | cons {v : V} {d : D} {vs : List V} {ds : List D} : Re K G H v d → ReL K G H vs ds → ReL K G H (v :: vs) (d :: ds)
end

structure Tk (H H' : Hp) : Prop where
  t : ∀ p xs, H p = some (.tup xs) → H' p = some (.tup xs)
  f : ∀ p o u, H p = some (.frz o u) → H' p = some (.frz o u)
theorem Tk.refl (H : Hp) : Tk H H := ⟨fun _ _ h => h, fun _ _ _ h => h⟩
theorem Tk.trans {H H1 H2 : Hp} (a : Tk H H1) (b : Tk H1 H2) : Tk H H2 := ⟨fun p xs h => b.t p xs (a.t p xs h), fun p o u h => b.f p o u (a.f p o u h)⟩
theorem Tk.of_ex {H H' : Hp} (e : Ex H H') : Tk H H' := ⟨fun p xs h => e p _ h, fun p o u h => e p _ h⟩
theorem Tk.sq {K : PySem.W.Frag} {H H' : Hp} {p : Addr} {vs : List V} (e : Tk H H') (h : SqT K H p vs) : SqT K H' p vs := by
  rcases h with (h | ⟨o, h⟩) | h
  · exact .inl (.inl (e.t _ _ h))
  · exact .inl (.inr ⟨o, e.f _ _ _ h⟩)
  · exact .inr h

theorem Tk.sf {K : PySem.W.Frag} {H H' : Hp} {p : Addr} {vs : List V} (e : Tk H H') (h : SqF K H p vs) : SqF K H' p vs := by
  rcases h with ⟨o, h⟩ | h
  · exact .inl ⟨o, e.f _ _ _ h⟩
  · exact .inr h
mutual
theorem Re.mono {K : PySem.W.Frag} {G G' H H' : Hp} (g : Ex G G') (t : Tk H H') : ∀ {v : V} {d : D}, Re K G H v d → Re K G' H' v d
  | _, _, .non => .non
  | _, _, .bl b => .bl b
  | _, _, .int i => .int i
  | _, _, .str x => .str x
  | _, _, .tup h r => .tup (t.t _ _ h) (ReL.mono g t r)
  | _, _, .lst h r => .lst (g _ _ h) (ReL.mono g t r)
  | _, _, .sc h r => .sc (t.sf h) (ReL.mono g t r)
  | _, _, .dk h e r => .dk (g _ _ h) e (ReL.mono g t r)
  | _, _, .dt h e r => .dt (g _ _ h) e (ReL.mono g t r)
  | _, _, .dtF h e r => .dtF (t.f _ _ _ h) e (ReL.mono g t r)
  | _, _, .dkF h n e r => .dkF (t.f _ _ _ h) n e (ReL.mono g t r)
  | _, _, .dn h n e r => .dn (g _ _ h) (n.mono t.t) e (ReL.mono g t r)
  | _, _, .xc a c f => .xc a c f
  | _, _, .ob h e r => .ob ⟨h.1, g _ _ h.2⟩ e (ReL.mono g t r)
theorem ReL.mono {K : PySem.W.Frag} {G G' H H' : Hp} (g : Ex G G') (t : Tk H H') : ∀ {vs : List V} {ds : List D}, ReL K G H vs ds → ReL K G' H' vs ds
  | _, _, .nil => .nil
  | _, _, .cons a b => .cons (Re.mono g t a) (ReL.mono g t b)
end
theorem Re.ex {K : PySem.W.Frag} {H H' : Hp} {v : V} {d : D} (e : Ex H H') (h : Re K H H v d) : Re K H' H' v d := h.mono e (Tk.of_ex e)
theorem ReL.ex {K : PySem.W.Frag} {H H' : Hp} {v : List V} {d : List D} (e : Ex H H') (h : ReL K H H v d) : ReL K H' H' v d := h.mono e (Tk.of_ex e)
mutual
theorem Re.any {K : PySem.W.Frag} {G G' H : Hp} : ∀ {v : V} {d : D}, Re K G H v d → imm d = true → Re K G' H v d
  | _, _, .non, _ => .non
  | _, _, .bl b, _ => .bl b
  | _, _, .int i, _ => .int i
  | _, _, .str x, _ => .str x
  | _, _, .tup h r, e => .tup h (ReL.any r (by simpa [imm] using e))
  | _, _, .lst h r, e => absurd e (by simp [imm])
  | _, _, .sc h r, e => .sc h (ReL.any r (by simpa [imm] using e))
  | _, _, .dk h _ r, e => absurd e (by simp [imm])
  | _, _, .dt h _ r, e => absurd e (by simp [imm])
  | _, _, .dtF h _ r, e => absurd e (by simp [imm])
  | _, _, .dkF h _ _ r, e => absurd e (by simp [imm])
  | _, _, .dn h _ _ r, e => absurd e (by simp [imm])
  | _, _, .xc a c f, e => absurd e (by simp [imm])
  | _, _, .ob h _ r, e => absurd e (by simp [imm])
theorem ReL.any {K : PySem.W.Frag} {G G' H : Hp} : ∀ {vs : List V} {ds : List D}, ReL K G H vs ds → immL ds = true → ReL K G' H vs ds
  | _, _, .nil, _ => .nil
  | _ :: _, d :: ds, .cons a b, e => by
    have e2 : (imm d && immL ds) = true := by simpa only [immL] using e
    have e3 := Bool.and_eq_true_iff.mp e2
    exact .cons (Re.any a e3.1) (ReL.any b e3.2)
end
theorem ReL.length {K : PySem.W.Frag} {G H : Hp} : ∀ {vs : List V} {ds : List D}, ReL K G H vs ds → vs.length = ds.length
  | _, _, .nil => rfl
  | _, _, .cons _ b => by
    have := ReL.length b
    simp [this]
theorem ReL.get {K : PySem.W.Frag} {G H : Hp} : ∀ {vs : List V} {ds : List D} {i : Nat} {d : D}, ReL K G H vs ds → ds[i]? = some d → ∃ v, vs[i]? = some v ∧ Re K G H v d
  | _, _, _, _, .nil, e => by simp at e
  | _, _, 0, _, .cons r _, e => by simp at e; subst e; exact ⟨_, rfl, r⟩
  | _, _, i + 1, d, .cons _ t, e => by
    obtain ⟨u, h1, h2⟩ := ReL.get (i := i) (d := d) t (by simpa using e)
    exact ⟨u, by simpa using h1, h2⟩
theorem ReL.append {K : PySem.W.Frag} {G H : Hp} : ∀ {vs ws : List V} {ds es : List D}, ReL K G H vs ds → ReL K G H ws es → ReL K G H (vs ++ ws) (ds ++ es)
  | _, _, _, _, .nil, s => s
  | _, _, _, _, .cons r t, s => .cons r (ReL.append t s)
theorem ReL.take {K : PySem.W.Frag} {G H : Hp} : ∀ {vs : List V} {ds : List D} (n : Nat), ReL K G H vs ds → ReL K G H (vs.take n) (ds.take n)
  | _, _, 0, _ => .nil
  | _, _, _ + 1, .nil => .nil
  | _, _, n + 1, .cons r t => .cons r (ReL.take n t)
theorem ReL.drop {K : PySem.W.Frag} {G H : Hp} : ∀ {vs : List V} {ds : List D} (n : Nat), ReL K G H vs ds → ReL K G H (vs.drop n) (ds.drop n)
  | _, _, 0, r => r
  | _, _, _ + 1, .nil => .nil
  | _, _, n + 1, .cons _ t => ReL.drop n t

mutual
inductive Own (K : PySem.W.Frag) (H : Hp) : V → D → List Addr → Prop
  | im {v : V} {d : D} : imm d = true → Re K H H v d → Own K H v d []
  | tup {p : Addr} {vs : List V} {ds : List D} {F : List Addr} : H p = some (.tup vs) → OwnL K H vs ds F → Own K H (.ref p) (.tup ds) F
  | lst {p : Addr} {vs : List V} {ds : List D} {F : List Addr} : H p = some (.lst vs) → OwnL K H vs ds F → Own K H (.ref p) (.lst ds) (p :: F)
  | dk {p : Addr} {ks : List (Key × V)} {kd : List (Key × D)} {F : List Addr} : H p = some (.dK ks) → ks.map (·.1) = kd.map (·.1) → OwnL K H (ks.map (·.2)) (kd.map (·.2)) F → Own K H (.ref p) (.dK kd) (p :: F)
  | dt {p : Addr} {ks : List (List Key × V)} {kd : List (List Key × D)} {F : List Addr} : H p = some (.dT ks) → ks.map (·.1) = kd.map (·.1) → OwnL K H (ks.map (·.2)) (kd.map (·.2)) F → Own K H (.ref p) (.dT kd) (p :: F)
  | dn {p : Addr} {xs : List (NestedKey × Addr × V)} {kd : List (NestedKey × D)} {F : List Addr} : H p = some (dictN p xs) → NkIs H xs → xs.map (·.1) = kd.map (·.1) → OwnL K H (xs.map (·.2.2)) (kd.map (·.2)) F → Own K H (.ref p) (.dN kd) (p :: F)
  | ob {p dx : Addr} {c : Str} {fs : List (Str × V)} {fd : List (Str × D)} {F : List Addr} : c ≠ exN ∧ H p = some (.ins (He.ga K c) dx fs) → H dx = some (.own p) → fs.map (·.1) = fd.map (·.1) → OwnL K H (fs.map (·.2)) (fd.map (·.2)) F → Own K H (.ref p) (.ins c fd) (p :: dx :: F)
inductive OwnL (K : PySem.W.Frag) (H : Hp) : List V → List D → List Addr → Prop
  | nil : OwnL K H [] [] []
  | cons {v : V} {d : D} {vs : List V} {ds : List D} {F G : List Addr} : Own K H v d F → OwnL K H vs ds G → OwnL K H (v :: vs) (d :: ds) (F ++ G)
end
mutual
theorem Own.mono {K : PySem.W.Frag} {H H' : Hp} (t : Tk H H') : ∀ {v : V} {d : D} {F : List Addr}, Own K H v d F → (∀ a ∈ F, H' a = H a) → Own K H' v d F
  | _, _, _, .im e r, _ => .im e ((r.mono (Ex.refl _) t).any e)
  | _, _, _, .tup h r, k => .tup (t.t _ _ h) (OwnL.mono t r k)
  | _, _, _, .lst h r, k => .lst ((k _ List.mem_cons_self).trans h) (OwnL.mono t r fun a ha => k a (List.mem_cons_of_mem _ ha))
  | _, _, _, .dk h e r, k => .dk ((k _ List.mem_cons_self).trans h) e (OwnL.mono t r fun a ha => k a (List.mem_cons_of_mem _ ha))
  | _, _, _, .dt h e r, k => .dt ((k _ List.mem_cons_self).trans h) e (OwnL.mono t r fun a ha => k a (List.mem_cons_of_mem _ ha))
  | _, _, _, .dn h n e r, k => .dn ((k _ List.mem_cons_self).trans h) (n.mono t.t) e (OwnL.mono t r fun a ha => k a (List.mem_cons_of_mem _ ha))
  | _, _, _, .ob h h2 e r, k => .ob ⟨h.1, (k _ List.mem_cons_self).trans h.2⟩ ((k _ (List.mem_cons_of_mem _ List.mem_cons_self)).trans h2) e (OwnL.mono t r fun a ha => k a (List.mem_cons_of_mem _ (List.mem_cons_of_mem _ ha)))
theorem OwnL.mono {K : PySem.W.Frag} {H H' : Hp} (t : Tk H H') : ∀ {vs : List V} {ds : List D} {F : List Addr}, OwnL K H vs ds F → (∀ a ∈ F, H' a = H a) → OwnL K H' vs ds F
  | _, _, _, .nil, _ => .nil
  | _, _, _, .cons a b, k => .cons (Own.mono t a fun x hx => k x (List.mem_append_left _ hx)) (OwnL.mono t b fun x hx => k x (List.mem_append_right _ hx))
end
mutual
theorem Own.re {K : PySem.W.Frag} {G H : Hp} : ∀ {v : V} {d : D} {F : List Addr}, Own K H v d F → (∀ a ∈ F, G a = H a) → Re K G H v d
  | _, _, _, .im e r, _ => r.any e
  | _, _, _, .tup h r, k => .tup h (OwnL.re r k)
  | _, _, _, .lst h r, k => .lst ((k _ List.mem_cons_self).trans h) (OwnL.re r fun a ha => k a (List.mem_cons_of_mem _ ha))
  | _, _, _, .dk h e r, k => .dk ((k _ List.mem_cons_self).trans h) e (OwnL.re r fun a ha => k a (List.mem_cons_of_mem _ ha))
  | _, _, _, .dt h e r, k => .dt ((k _ List.mem_cons_self).trans h) e (OwnL.re r fun a ha => k a (List.mem_cons_of_mem _ ha))
  | _, _, _, .dn h n e r, k => .dn ((k _ List.mem_cons_self).trans h) n e (OwnL.re r fun a ha => k a (List.mem_cons_of_mem _ ha))
  | _, _, _, .ob h _ e r, k => .ob ⟨h.1, (k _ List.mem_cons_self).trans h.2⟩ e (OwnL.re r fun a ha => k a (List.mem_cons_of_mem _ (List.mem_cons_of_mem _ ha)))
theorem OwnL.re {K : PySem.W.Frag} {G H : Hp} : ∀ {vs : List V} {ds : List D} {F : List Addr}, OwnL K H vs ds F → (∀ a ∈ F, G a = H a) → ReL K G H vs ds
  | _, _, _, .nil, _ => .nil
  | _, _, _, .cons a b, k => .cons (Own.re a fun x hx => k x (List.mem_append_left _ hx)) (OwnL.re b fun x hx => k x (List.mem_append_right _ hx))
end
mutual
theorem Own.live {K : PySem.W.Frag} {H : Hp} : ∀ {v : V} {d : D} {F : List Addr}, Own K H v d F → ∀ a ∈ F, H a ≠ none
  | _, _, _, .im _ _, a, ha => by cases ha
  | _, _, _, .tup _ r, a, ha => OwnL.live r a ha
  | _, _, _, .lst h r, a, ha => by
    rcases List.mem_cons.mp ha with e | ha
    · rw [e, h]; exact fun q => nomatch q
    · exact OwnL.live r a ha
  | _, _, _, .dk h _ r, a, ha => by
    rcases List.mem_cons.mp ha with e | ha
    · rw [e, h]; exact fun q => nomatch q
    · exact OwnL.live r a ha
  | _, _, _, .dt h _ r, a, ha => by
    rcases List.mem_cons.mp ha with e | ha
    · rw [e, h]; exact fun q => nomatch q
    · exact OwnL.live r a ha
  | _, _, _, .dn h _ _ r, a, ha => by
    rcases List.mem_cons.mp ha with e | ha
    · rw [e, h]; exact fun q => nomatch q
    · exact OwnL.live r a ha
  | _, _, _, .ob h h2 _ r, a, ha => by
    rcases List.mem_cons.mp ha with e | ha
    · rw [e, h.2]; exact fun q => nomatch q
    · rcases List.mem_cons.mp ha with e | ha
      · rw [e, h2]; exact fun q => nomatch q
      · exact OwnL.live r a ha
theorem OwnL.live {K : PySem.W.Frag} {H : Hp} : ∀ {vs : List V} {ds : List D} {F : List Addr}, OwnL K H vs ds F → ∀ a ∈ F, H a ≠ none
  | _, _, _, .nil, a, ha => by cases ha
  | _, _, _, .cons x y, a, ha => by
    rcases List.mem_append.mp ha with ha | ha
    · exact Own.live x a ha
    · exact OwnL.live y a ha
end
theorem OwnL.append {K : PySem.W.Frag} {H : Hp} : ∀ {vs ws : List V} {ds es : List D} {F G : List Addr}, OwnL K H vs ds F → OwnL K H ws es G → OwnL K H (vs ++ ws) (ds ++ es) (F ++ G)
  | _, _, _, _, _, _, .nil, s => s
  | _, _, _, _, _, _, .cons r t, s => by
    rw [List.append_assoc]
    exact .cons r (OwnL.append t s)
theorem OwnL.imms {K : PySem.W.Frag} {G H : Hp} : ∀ {vs : List V} {ds : List D}, ReL K G H vs ds → immL ds = true → OwnL K H vs ds []
  | _, _, .nil, _ => .nil
  | _ :: _, d :: ds, .cons a b, e => by
    have e2 : (imm d && immL ds) = true := by simpa only [immL] using e
    have e3 := Bool.and_eq_true_iff.mp e2
    exact .cons (F := []) (G := []) (.im e3.1 (a.any e3.1)) (OwnL.imms b e3.2)

def RS (K : PySem.W.Frag) (B H : Hp) (v : V) (d : D) : Ow → List Addr → Prop
  | .full, F => Own K H v d F
  | .top, F => ∃ p vs ds, v = .ref p ∧ d = .lst ds ∧ H p = some (.lst vs) ∧ ReL K B H vs ds ∧ F = [p]
  | .no, F => Re K B H v d ∧ F = []
  | .adr a, F => Own K H v d F ∧ v = .ref a
section
variable {K : PySem.W.Frag} {B B' H H' : Hp} {v : V} {d : D} {ow : Ow} {F : List Addr}
theorem RS.mono (r : RS K B H v d ow F) (b : Ex B B') (t : Tk H H') (k : ∀ a ∈ F, H' a = H a) : RS K B' H' v d ow F := by
  cases ow with
  | full => exact Own.mono t r k
  | top =>
    obtain ⟨p, vs, ds, e1, e2, e3, e4, e5⟩ := r
    subst e5
    exact ⟨p, vs, ds, e1, e2, (k p (by simp)).trans e3, e4.mono b t, rfl⟩
  | no => exact ⟨r.1.mono b t, r.2⟩
  | adr a => exact ⟨Own.mono t r.1 k, r.2⟩
theorem RS.live (r : RS K B H v d ow F) : ∀ a ∈ F, H a ≠ none := by
  cases ow with
  | full => exact Own.live r
  | top =>
    obtain ⟨p, vs, ds, e1, e2, e3, e4, e5⟩ := r
    subst e5
    intro a ha
    rw [List.mem_singleton.mp ha, e3]
    exact fun q => nomatch q
  | no =>
    intro a ha
    rw [r.2] at ha
    cases ha
  | adr a => exact Own.live r.1
theorem RS.fz (r : RS K B H v d ow F) {G : Hp} (b : Ex B G) (k : ∀ a ∈ F, G a = H a) : Re K G H v d := by
  cases ow with
  | full => exact Own.re r k
  | top =>
    obtain ⟨p, vs, ds, e1, e2, e3, e4, e5⟩ := r
    subst e5 e1 e2
    exact .lst ((k p (by simp)).trans e3) (e4.mono b (Tk.refl _))
  | no => exact r.1.mono b (Tk.refl _)
  | adr a => exact Own.re r.1 k
theorem RS.re (r : RS K B H v d ow F) (e : Ex B H) : Re K H H v d := r.fz e fun _ _ => rfl
end

def w (B : Hp) (a : Addr) : Nat := match B a with
  | some _ => 1
  | none => 0
def tot (Fs : List (List Addr)) (a : Addr) : Nat := (Fs.map (fun F => F.count a)).sum
theorem w_some {B : Hp} {a : Addr} {o : HO} (h : B a = some o) : w B a = 1 := by unfold w; rw [h]
theorem w_none {B : Hp} {a : Addr} (h : B a = none) : w B a = 0 := by unfold w; rw [h]
theorem w_le {B : Hp} {a : Addr} : w B a ≤ 1 := by
  unfold w
  split <;> omega
theorem w_zero {B : Hp} {a : Addr} (h : w B a = 0) : B a = none := by
  unfold w at h
  split at h
  · omega
  · assumption
theorem w_mono {B B' : Hp} (e : Ex B B') (a : Addr) : w B a ≤ w B' a := by
  cases h : B a with
  | none => rw [w_none h]; omega
  | some o => rw [w_some h, w_some (e _ _ h)]; omega
theorem tot_set : ∀ (Fs : List (List Addr)) (i : Nat) (F : List Addr) (a : Addr), i < Fs.length → tot (Fs.set i F) a + (Fs.getD i []).count a = tot Fs a + F.count a
  | [], i, F, a, h => absurd h (Nat.not_lt_zero _)
  | G :: Fs, 0, F, a, _ => by simp [tot]; omega
  | G :: Fs, i + 1, F, a, h => by
    have := tot_set Fs i F a (by simpa using h)
    simp [tot] at this ⊢
    omega
theorem tot_get : ∀ (Fs : List (List Addr)) (i : Nat) (a : Addr), (Fs.getD i []).count a ≤ tot Fs a
  | [], i, a => by simp
  | G :: Fs, 0, a => by simp [tot]
  | G :: Fs, i + 1, a => by
    have := tot_get Fs i a
    simp [tot] at this ⊢
    omega
theorem tot_get2 : ∀ (Fs : List (List Addr)) (i j : Nat) (a : Addr), i ≠ j → (Fs.getD i []).count a + (Fs.getD j []).count a ≤ tot Fs a
  | [], i, j, a, _ => by simp
  | G :: Fs, 0, 0, a, h => absurd rfl h
  | G :: Fs, 0, j + 1, a, _ => by
    have := tot_get Fs j a
    simp [tot] at this ⊢
    omega
  | G :: Fs, i + 1, 0, a, _ => by
    have := tot_get Fs i a
    simp [tot] at this ⊢
    omega
  | G :: Fs, i + 1, j + 1, a, h => by
    have := tot_get2 Fs i j a (by omega)
    simp [tot] at this ⊢
    omega
theorem tot_rep (n : Nat) (a : Addr) : tot (List.replicate n []) a = 0 := by
  induction n with
  | zero => rfl
  | succ n ih =>
    simp [tot, List.replicate_succ] at ih ⊢
theorem mem_count {a : Addr} {F : List Addr} (h : a ∈ F) : 0 < F.count a := List.count_pos_iff.mpr h
theorem count_mem {a : Addr} {F : List Addr} (h : 0 < F.count a) : a ∈ F := List.count_pos_iff.mp h

def frz (B H : Hp) (F : List Addr) : Hp := fun a => if a ∈ F then H a else B a
theorem frz_in {B H : Hp} {F : List Addr} {a : Addr} (h : a ∈ F) : frz B H F a = H a := if_pos h
theorem frz_out {B H : Hp} {F : List Addr} {a : Addr} (h : a ∉ F) : frz B H F a = B a := if_neg h
theorem frz_ex {B H : Hp} {F : List Addr} (e : Ex B H) : Ex B (frz B H F) := fun a o h => by
  by_cases m : a ∈ F
  · rw [frz_in m]; exact e a o h
  · rw [frz_out m]; exact h
theorem frz_le {B H : Hp} {F : List Addr} (e : Ex B H) : Ex (frz B H F) H := fun a o h => by
  by_cases m : a ∈ F
  · rw [frz_in m] at h; exact h
  · rw [frz_out m] at h; exact e a o h
theorem frz_w (B H : Hp) (F : List Addr) (a : Addr) : w (frz B H F) a ≤ w B a + F.count a := by
  by_cases m : a ∈ F
  · have := mem_count m
    have := w_le (B := frz B H F) (a := a)
    omega
  · have e : w (frz B H F) a = w B a := by
      unfold w
      rw [frz_out m]
    omega

structure Rel (K : PySem.W.Frag) (B H : Hp) (σ : L2.St) (s : SD) (Fs : List (List Addr)) : Prop where
  ex : Ex B H
  l1 : s.length = σ.length
  l2 : Fs.length = σ.length
  at_ : ∀ i d ow, s[i]? = some (some (d, ow)) → ∃ v, σ[i]? = some (some v) ∧ RS K B H v d ow (Fs.getD i [])
  wt : ∀ a, w B a + tot Fs a ≤ 1
  lv : ∀ a ∈ Fs.flatten, H a ≠ none
theorem tot_flat (Fs : List (List Addr)) (a : Addr) : Fs.flatten.count a = tot Fs a := by
  unfold tot
  exact List.count_flatten
theorem Rel.wf {K : PySem.W.Frag} {B H : Hp} {σ : L2.St} {s : SD} {Fs : List (List Addr)} (r : Rel K B H σ s Fs) (a : Addr) : w B a + Fs.flatten.count a ≤ 1 := by
  rw [tot_flat]
  exact r.wt a
structure ES (B H : Hp) (L : List Addr) (B' H' : Hp) (L' : List Addr) : Prop where
  exB : Ex B B'
  exH : Ex H H'
  wt : ∀ a, H a ≠ none → w B' a + L'.count a ≤ w B a + L.count a
  vw : Ex (frz B H L) (frz B' H' L')
theorem ES.refl (B H : Hp) (L : List Addr) : ES B H L B H L := ⟨Ex.refl _, Ex.refl _, fun _ _ => Nat.le_refl _, Ex.refl _⟩
theorem ex_ne {H H' : Hp} (e : Ex H H') {a : Addr} (h : H a ≠ none) : H' a ≠ none := by
  cases q : H a with
  | none => exact absurd q h
  | some o => rw [e _ _ q]; exact fun z => nomatch z
theorem ES.trans {B H B1 H1 B2 H2 : Hp} {t t1 t2 : List Addr} (x : ES B H t B1 H1 t1) (y : ES B1 H1 t1 B2 H2 t2) : ES B H t B2 H2 t2 :=
  ⟨x.exB.trans y.exB, x.exH.trans y.exH, fun a h => Nat.le_trans (y.wt a (ex_ne x.exH h)) (x.wt a h), x.vw.trans y.vw⟩
theorem frz_cong {B H : Hp} {L L' : List Addr} (h : ∀ a, a ∈ L ↔ a ∈ L') : frz B H L = frz B H L' := by
  funext a
  by_cases m : a ∈ L
  · rw [frz_in m, frz_in ((h a).mp m)]
  · rw [frz_out m, frz_out fun q => m ((h a).mpr q)]
theorem mem_cong {L L' : List Addr} (h : ∀ a, L.count a = L'.count a) (a : Addr) : a ∈ L ↔ a ∈ L' := by
  rw [← List.count_pos_iff, ← List.count_pos_iff, h a]
theorem ES.cong {B H B' H' : Hp} {t t1 t' t1' : List Addr} (x : ES B H t B' H' t') (h : ∀ a, t.count a = t1.count a) (h' : ∀ a, t'.count a = t1'.count a) : ES B H t1 B' H' t1' :=
  ⟨x.exB, x.exH, fun a q => by rw [← h a, ← h' a]; exact x.wt a q, by rw [← frz_cong (mem_cong h), ← frz_cong (mem_cong h')]; exact x.vw⟩
structure SS (B H : Hp) (t : List Addr) (B' H' : Hp) (t' : List Addr) : Prop where
  exB : Ex B B'
  tk : Tk H H'
  keep : ∀ a, H a ≠ none → t.count a = 0 → H' a = H a
  live : ∀ a, H a ≠ none → H' a ≠ none
  wt : ∀ a, H a ≠ none → w B' a + t'.count a ≤ w B a + t.count a
theorem SS.refl (B H : Hp) (t : List Addr) : SS B H t B H t := ⟨Ex.refl _, Tk.refl _, fun _ _ _ => rfl, fun _ h => h, fun _ _ => Nat.le_refl _⟩
theorem ES.ss {B H B' H' : Hp} {t t' : List Addr} (x : ES B H t B' H' t') : SS B H t B' H' t' :=
  ⟨x.exB, Tk.of_ex x.exH, fun a h _ => by
    cases q : H a with
    | none => exact absurd q h
    | some o => exact x.exH _ _ q, fun a h => ex_ne x.exH h, x.wt⟩
theorem SS.trans {B H B1 H1 B2 H2 : Hp} {t t1 t2 : List Addr} (x : SS B H t B1 H1 t1) (y : SS B1 H1 t1 B2 H2 t2) : SS B H t B2 H2 t2 := by
  refine ⟨x.exB.trans y.exB, x.tk.trans y.tk, fun a h z => ?_, fun a h => y.live a (x.live a h), fun a h => Nat.le_trans (y.wt a (x.live a h)) (x.wt a h)⟩
  have h1 := x.wt a h
  have h2 := w_mono x.exB a
  exact (y.keep a (x.live a h) (by omega)).trans (x.keep a h z)
theorem SS.le {B H B1 H1 : Hp} {t t1 t2 : List Addr} (x : SS B H t B1 H1 t1) (h : ∀ a, t2.count a ≤ t1.count a) : SS B H t B1 H1 t2 :=
  ⟨x.exB, x.tk, x.keep, x.live, fun a q => by have := x.wt a q; have := h a; omega⟩
theorem SS.all {B H B' H' : Hp} {t t' : List Addr} (x : SS B H t B' H' t') (z : ∀ a, t.count a = 0) : Ex H H' := fun a o h => by
  rw [x.keep a (by rw [h]; exact fun q => nomatch q) (z a)]
  exact h
theorem ES.let_go {B H B' H' : Hp} {t t' : List Addr} (x : ES B H t B' H' t') (F G : List Addr) (hl : ∀ a ∈ F, H' a ≠ none) (e : ∀ a, t'.count a = F.count a + G.count a) (hb : Ex B' H') : ES B H t (frz B' H' F) H' G := by
  refine ⟨x.exB.trans (frz_ex hb), x.exH, fun a h => ?_, ?_⟩
  · have h1 := x.wt a h
    have h2 := frz_w B' H' F a
    have h3 := e a
    omega
  · refine x.vw.trans fun a o h => ?_
    by_cases m : a ∈ t'
    · rw [frz_in m] at h
      by_cases g : a ∈ G
      · rw [frz_in g]; exact h
      · rw [frz_out g]
        have : a ∈ F := by
          have h1 := mem_count m
          have h2 : G.count a = 0 := List.count_eq_zero.mpr g
          have h3 := e a
          exact count_mem (by omega)
        rw [frz_in this]; exact h
    · rw [frz_out m] at h
      by_cases g : a ∈ G
      · rw [frz_in g]; exact hb _ _ h
      · rw [frz_out g]
        exact frz_ex hb _ _ h
end Dv

namespace Dv
open PySem L2 Evl

inductive Er (α : Type) where
  | ok (a : α) (s : SD) | exc (c : Str) (s : SD)
abbrev DE (α : Type) := SD → Option (Er α)
abbrev WW := Str → L2.St → Hp → Prop
abbrev RelT (R α : Type) := Hp → Hp → List (List Addr) → R → α → List Addr → Prop
abbrev TX (R : Type) := L2.St → Hp → (R → Hp → Prop) → Prop

def Post {R α : Type} (rel : RelT R α) (K : PySem.W.Frag) (W : WW) (B H : Hp) (t : List Addr) (σ : L2.St) (Q : R → Hp → Prop) : Er α → Prop
  | .ok a s' => ∀ v B' H' Fs' F, Rel K B' H' σ s' Fs' → ES B H t B' H' (F ++ Fs'.flatten) → (∀ x, w B' x + (F ++ Fs'.flatten).count x ≤ 1) → (∀ x ∈ F, H' x ≠ none) → rel B' H' Fs' v a F → Q v H'
  | .exc c s' => ∀ B' H' Fs', Rel K B' H' σ s' Fs' → ES B H t B' H' Fs'.flatten → W c σ H'
def J {R α : Type} (rel : RelT R α) (K : PySem.W.Frag) (W : WW) (te : TX R) (de : DE α) : Prop :=
  ∀ s r, de s = some r → ∀ B H σ Fs, Rel K B H σ s Fs → ∀ Q, Post rel K W B H Fs.flatten σ Q r → te σ H Q
abbrev rB (K : PySem.W.Frag) : RelT V D := fun B H Fs v d F => Re K (frz B H Fs.flatten) H v d ∧ F = []
abbrev rC (K : PySem.W.Frag) : RelT V (D × Ow) := fun B H _ v p F => RS K B H v p.1 p.2 F
abbrev rT : RelT Bool Bool := fun _ _ _ b c F => b = c ∧ F = []
abbrev rL (K : PySem.W.Frag) : RelT (List V) (List D) := fun B H Fs vs ds F => ReL K (frz B H Fs.flatten) H vs ds ∧ F = []
def rCL (K : PySem.W.Frag) : RelT (List V) (List D × Bool) := fun B H _ vs p F => match p.2 with
  | true => OwnL K H vs p.1 F
  | false => ReL K B H vs p.1 ∧ F = []
abbrev JB (K : PySem.W.Frag) (W : WW) (te : TE) (de : DE D) : Prop := J (rB K) K W te de
abbrev JC (K : PySem.W.Frag) (W : WW) (te : TE) (de : DE (D × Ow)) : Prop := J (rC K) K W te de
abbrev JT (K : PySem.W.Frag) (W : WW) (te : TT) (de : DE Bool) : Prop := J rT K W te de
abbrev JA (K : PySem.W.Frag) (W : WW) (te : TA) (de : DE (List D)) : Prop := J (rL K) K W te de
abbrev JCL (K : PySem.W.Frag) (W : WW) (te : TA) (de : DE (List D × Bool)) : Prop := J (rCL K) K W te de

def bnd {α β : Type} (da : DE α) (k : α → DE β) : DE β := fun s => match da s with
  | some (.ok a s1) => k a s1
  | some (.exc c s1) => some (.exc c s1)
  | none => none

section
variable {R R1 R2 α β : Type} {K : PySem.W.Frag} {W : WW} {B H B1 H1 : Hp} {t t1 : List Addr} {σ : L2.St} {s : SD} {Fs : List (List Addr)}
theorem Rel.val (r : Rel K B H σ s Fs) : ∀ x, w B x + (([] : List Addr) ++ Fs.flatten).count x ≤ 1 := fun x => r.wf x
theorem Post.step {rel : RelT R α} {Q : R → Hp → Prop} {r : Er α} (e : ES B H t B1 H1 t1) (p : Post rel K W B H t σ Q r) : Post rel K W B1 H1 t1 σ Q r := by
  cases r with
  | ok a s' => exact fun v B' H' Fs' F x y z l q => p v B' H' Fs' F x (e.trans y) z l q
  | exc c s' => exact fun B' H' Fs' x y => p B' H' Fs' x (e.trans y)
theorem Post.here {rel : RelT R α} {Q : R → Hp → Prop} {a : α} (R0 : Rel K B H σ s Fs) {v : R} (h : rel B H Fs v a []) (p : Post rel K W B H Fs.flatten σ Q (.ok a s)) : Q v H :=
  p v B H Fs [] R0 (ES.refl _ _ _) R0.val (fun _ q => nomatch q) h
theorem J.bind {rel1 : RelT R1 α} {rel2 : RelT R2 β} {te : TX R1} {de : DE α} {k : R1 → TX R2} {dk : α → DE β} (h : J rel1 K W te de)
    (hk : ∀ a s1 r, dk a s1 = some r → ∀ v B1 H1 σ Fs1 F, Rel K B1 H1 σ s1 Fs1 → (∀ x, w B1 x + (F ++ Fs1.flatten).count x ≤ 1) → (∀ x ∈ F, H1 x ≠ none) → rel1 B1 H1 Fs1 v a F → ∀ Q, Post rel2 K W B1 H1 (F ++ Fs1.flatten) σ Q r → k v σ H1 Q) :
    J rel2 K W (fun σ H Q => te σ H fun v H1 => k v σ H1 Q) (bnd de dk) := by
  intro s r e B H σ Fs R0 Q p
  unfold bnd at e
  cases e1 : de s with
  | none => rw [e1] at e; cases e
  | some r1 =>
    rw [e1] at e
    refine h s r1 e1 B H σ Fs R0 _ ?_
    cases r1 with
    | ok a s1 => exact fun v B1 H1 Fs1 F x y z l q => hk a s1 r e v B1 H1 σ Fs1 F x z l q Q (p.step y)
    | exc c s1 =>
      have e2 : r = .exc c s1 := (Option.some.inj e).symm
      subst e2
      exact p
theorem J.pend {rel : RelT R α} {te : TX R} {de : DE α} {F : List Addr} (h : J rel K W te de) {r : Er α} (e : de s = some r) (R0 : Rel K B H σ s Fs) (hv : ∀ x, w B x + (F ++ Fs.flatten).count x ≤ 1) (hl : ∀ x ∈ F, H x ≠ none) {Q : R → Hp → Prop}
    (hok : ∀ a s', r = .ok a s' → ∀ v B' H' Fs' G, Rel K B' H' σ s' Fs' → ES B H (F ++ Fs.flatten) B' H' (F ++ (G ++ Fs'.flatten)) → (∀ x, w B' x + (F ++ (G ++ Fs'.flatten)).count x ≤ 1) → (∀ x ∈ G, H' x ≠ none) → rel B' H' Fs' v a G → Q v H')
    (hx : ∀ c s', r = .exc c s' → ∀ B' H' Fs', Rel K B' H' σ s' Fs' → ES B H (F ++ Fs.flatten) B' H' (F ++ Fs'.flatten) → (∀ x, w B' x + (F ++ Fs'.flatten).count x ≤ 1) → W c σ H') : te σ H Q := by
  have key : ∀ {B' H' : Hp} {L' : List Addr}, ES B H Fs.flatten B' H' L' → (∀ x, w B' x + L'.count x ≤ 1) → ES B H (F ++ Fs.flatten) B' H' (F ++ L') ∧ ∀ x, w B' x + (F ++ L').count x ≤ 1 := by
    intro B' H' L' y z
    have wt : ∀ a, H a ≠ none → w B' a + (F ++ L').count a ≤ w B a + (F ++ Fs.flatten).count a := fun a ha => by
      have := y.wt a ha
      rw [List.count_append, List.count_append]
      omega
    refine ⟨⟨y.exB, y.exH, wt, fun a o q => ?_⟩, fun a => ?_⟩
    · by_cases m : a ∈ F
      · rw [frz_in (List.mem_append_left _ m)] at q ⊢
        exact y.exH _ _ q
      · have q2 : frz B H Fs.flatten a = some o := by
          rw [← q]
          by_cases g : a ∈ Fs.flatten
          · rw [frz_in g, frz_in (List.mem_append_right _ g)]
          · rw [frz_out g, frz_out fun z => (List.mem_append.mp z).elim m g]
        have q3 := y.vw _ _ q2
        rw [← q3]
        by_cases g : a ∈ L'
        · rw [frz_in g, frz_in (List.mem_append_right _ g)]
        · rw [frz_out g, frz_out fun z => (List.mem_append.mp z).elim m g]
    · by_cases ha : H a = none
      · have e1 : F.count a = 0 := List.count_eq_zero.mpr fun m => hl a m ha
        have := z a
        rw [List.count_append]
        omega
      · have h1 := wt a ha
        have h2 := hv a
        omega
  refine h s r e B H σ Fs R0 Q ?_
  cases r with
  | ok a s' =>
    intro v B' H' Fs' G x y z l q
    obtain ⟨k1, k2⟩ := key y z
    exact hok a s' rfl v B' H' Fs' G x k1 k2 l q
  | exc c s' =>
    intro B' H' Fs' x y
    obtain ⟨k1, k2⟩ := key y x.wf
    exact hx c s' rfl B' H' Fs' x k1 k2
end

theorem getD_mem {Fs : List (List Addr)} {i : Nat} {a : Addr} (h : a ∈ Fs.getD i []) : Fs.getD i [] ∈ Fs := by
  rw [List.getD_eq_getElem?_getD] at h ⊢
  cases e : Fs[i]? with
  | none => rw [e] at h; cases h
  | some G => exact List.mem_of_getElem? e
def dVar (i : Nat) : DE D := fun s => match s[i]? with
  | some (some (d, _)) => some (.ok d s)
  | _ => none
def dC (d : D) : DE D := fun s => some (.ok d s)
def dOp (f : D → D → Option D) (a b : DE D) : DE D := bnd a fun x => bnd b fun y => fun s => (f x y).map fun d => .ok d s
def dUn (f : D → Option D) (a : DE D) : DE D := bnd a fun x s => (f x).map fun d => .ok d s
def dNil : DE (List D) := fun s => some (.ok [] s)
def dCons (a : DE D) (l : DE (List D)) : DE (List D) := bnd a fun x => bnd l fun xs s => some (.ok (x :: xs) s)
def dCB (f : List D → Option D) (a : DE (List D)) : DE D := bnd a fun xs s => (f xs).map fun d => .ok d s
section
variable {K : PySem.W.Frag} {W : WW} {ta tb te : TE} {da db : DE D} {i : Nat}
theorem jVar : JB K W (tVar i) (dVar i) := by
  intro s r e B H σ Fs R0 Q p
  unfold dVar at e
  split at e
  · rename_i d ow h
    cases e
    obtain ⟨v, hv, q⟩ := R0.at_ i d ow h
    exact ⟨v, hv, Post.here R0 ⟨q.fz (frz_ex R0.ex) fun a ha => frz_in (List.mem_flatten.mpr ⟨_, getD_mem ha, ha⟩), rfl⟩ p⟩
  · cases e
theorem jC {v : V} {d : D} (h : ∀ G H, Re K G H v d) : JB K W (tC v) (dC d) := by
  intro s r e B H σ Fs R0 Q p
  cases e
  exact Post.here R0 ⟨h _ H, rfl⟩ p
theorem jInt {n : Int} : JB K W (tC (.int n)) (dC (.int n)) := jC fun _ _ => .int n
theorem jBl {n : Bool} : JB K W (tC (.bl n)) (dC (.bl n)) := jC fun _ _ => .bl n
def RV (K : PySem.W.Frag) (r : R2) (f : D → D → Option D) : Prop := ∀ G H x y dx dy d, Ex G H → Re K G H x dx → Re K G H y dy → f dx dy = some d → ∀ Q : VK, (∀ v, Re K G H v d → Q v H) → r x y H Q
def RU1 (K : PySem.W.Frag) (r : V → Hp → VK → Prop) (f : D → Option D) : Prop := ∀ G H x dx d, Ex G H → Re K G H x dx → f dx = some d → ∀ Q : VK, (∀ v, Re K G H v d → Q v H) → r x H Q
def RCL (K : PySem.W.Frag) (r : List V → Hp → VK → Prop) (f : List D → Option D) : Prop := ∀ G H xs ds d, Ex G H → ReL K G H xs ds → f ds = some d → ∀ Q : VK, (∀ v, Re K G H v d → Q v H) → r xs H Q
theorem J.two {R β : Type} {rel : RelT R β} {k : V → V → TX R} {dk : D → D → DE β} (ha : JB K W ta da) (hb : JB K W tb db)
    (hk : ∀ x y s r, dk x y s = some r → ∀ vx vy B H σ Fs, Rel K B H σ s Fs → Re K (frz B H Fs.flatten) H vx x → Re K (frz B H Fs.flatten) H vy y → ∀ Q, Post rel K W B H Fs.flatten σ Q r → k vx vy σ H Q) :
    J rel K W (fun σ H Q => ta σ H fun x H1 => tb σ H1 fun y H2 => k x y σ H2 Q) (bnd da fun x => bnd db fun y => dk x y) := by
  intro s r e B H σ Fs R0 Q p
  unfold bnd at e
  cases e1 : da s with
  | none => rw [e1] at e; cases e
  | some r1 =>
    rw [e1] at e
    refine ha s r1 e1 B H σ Fs R0 _ ?_
    cases r1 with
    | exc c s1 =>
      have e2 : r = .exc c s1 := (Option.some.inj e).symm
      subst e2
      exact p
    | ok a s1 =>
      intro v B1 H1 Fs1 F R1 y1 z1 l1 q1
      obtain ⟨q1, rfl⟩ := q1
      have e : bnd db (fun y => dk a y) s1 = some r := e
      unfold bnd at e
      cases e3 : db s1 with
      | none => rw [e3] at e; cases e
      | some r2 =>
        rw [e3] at e
        refine hb s1 r2 e3 B1 H1 σ Fs1 R1 _ ?_
        cases r2 with
        | exc c s2 =>
          have e2 : r = .exc c s2 := (Option.some.inj e).symm
          subst e2
          exact p.step y1
        | ok b s2 =>
          intro u B2 H2 Fs2 F2 R2 y2 z2 l2 q2
          obtain ⟨q2, rfl⟩ := q2
          exact hk a b s2 r e v u B2 H2 σ Fs2 R2 (q1.mono y2.vw (Tk.of_ex y2.exH)) q2 Q (p.step (y1.trans y2))
theorem jOp {r : R2} {f : D → D → Option D} (hr : RV K r f) (ha : JB K W ta da) (hb : JB K W tb db) : JB K W (tOp r ta tb) (dOp f da db) := by
  refine J.two (k := fun x y _ H Q => r x y H Q) (dk := fun x y s => (f x y).map fun d => .ok d s) ha hb fun x y s r0 e vx vy B H σ Fs R0 q1 q2 Q p => ?_
  cases ef : f x y with
  | none => rw [ef] at e; cases e
  | some d =>
    rw [ef] at e
    cases e
    exact hr _ H vx vy x y d (frz_le R0.ex) q1 q2 ef Q fun v h => Post.here R0 ⟨h, rfl⟩ p
theorem J.one {R R1 α β : Type} {rel1 : RelT R1 α} {rel : RelT R β} {te : TX R1} {de : DE α} {k : R1 → TX R} {dk : α → DE β} (h : J rel1 K W te de) (h0 : ∀ B H L v a F, rel1 B H L v a F → F = [])
    (hk : ∀ x s r, dk x s = some r → ∀ vx B H σ Fs, Rel K B H σ s Fs → rel1 B H Fs vx x [] → ∀ Q, Post rel K W B H Fs.flatten σ Q r → k vx σ H Q) :
    J rel K W (fun σ H Q => te σ H fun x H1 => k x σ H1 Q) (bnd de dk) := by
  refine J.bind h fun a s1 r1 e1 v B1 H1 σ Fs1 F R1 hv hl q1 Q p => ?_
  obtain rfl := h0 _ _ _ _ _ _ q1
  exact hk a s1 r1 e1 v B1 H1 σ Fs1 R1 q1 Q p
theorem zB : ∀ B H L v a F, rB K B H L v a F → F = [] := fun _ _ _ _ _ _ h => h.2
theorem zL : ∀ B H L v a F, rL K B H L v a F → F = [] := fun _ _ _ _ _ _ h => h.2
theorem zT : ∀ B H L v a F, rT B H L v a F → F = [] := fun _ _ _ _ _ _ h => h.2
theorem jNil : JA K W tNil dNil := by
  intro s r e B H σ Fs R0 Q p
  cases e
  exact Post.here R0 ⟨.nil, rfl⟩ p
theorem jCons {tr : TA} {dr : DE (List D)} (ha : JB K W ta da) (hr : JA K W tr dr) : JA K W (tCons ta tr) (dCons da dr) := by
  intro s r e B H σ Fs R0 Q p
  unfold dCons bnd at e
  cases e1 : da s with
  | none => rw [e1] at e; cases e
  | some r1 =>
    rw [e1] at e
    refine ha s r1 e1 B H σ Fs R0 _ ?_
    cases r1 with
    | exc c s1 =>
      have e2 : r = .exc c s1 := (Option.some.inj e).symm
      subst e2
      exact p
    | ok a s1 =>
      intro v B1 H1 Fs1 F R1 y1 z1 l1 q1
      obtain ⟨q1, rfl⟩ := q1
      have e : bnd dr (fun xs s => some (.ok (a :: xs) s)) s1 = some r := e
      unfold bnd at e
      cases e3 : dr s1 with
      | none => rw [e3] at e; cases e
      | some r2 =>
        rw [e3] at e
        refine hr s1 r2 e3 B1 H1 σ Fs1 R1 _ ?_
        cases r2 with
        | exc c s2 =>
          have e2 : r = .exc c s2 := (Option.some.inj e).symm
          subst e2
          exact p.step y1
        | ok b s2 =>
          intro u B2 H2 Fs2 F2 R2 y2 z2 l2 q2
          obtain ⟨q2, rfl⟩ := q2
          have e2 : r = .ok (a :: b) s2 := (Option.some.inj e).symm
          subst e2
          exact Post.here R2 ⟨.cons (q1.mono y2.vw (Tk.of_ex y2.exH)) q2, rfl⟩ (p.step (y1.trans y2))
theorem jCB {r : List V → Hp → VK → Prop} {f : List D → Option D} {tr : TA} {dr : DE (List D)} (hf : RCL K r f) (h : JA K W tr dr) : JB K W (tCB r tr) (dCB f dr) := by
  refine J.one (k := fun x _ H Q => r x H Q) (dk := fun x s => (f x).map fun d => .ok d s) h zL fun x s r0 e vx B H σ Fs R0 q1 Q p => ?_
  cases ef : f x with
  | none => rw [ef] at e; cases e
  | some d =>
    rw [ef] at e
    cases e
    exact hf _ H vx x d (frz_le R0.ex) q1.1 ef Q fun v h => Post.here R0 ⟨h, rfl⟩ p
end

def dTest (a : DE D) : DE Bool := bnd a fun d s => match d with
  | .bl b => some (.ok b s)
  | _ => none
def dAnd (a b : DE Bool) : DE Bool := bnd a fun c => if c then b else fun s => some (.ok false s)
def dOr (a b : DE Bool) : DE Bool := bnd a fun c => if c then (fun s => some (.ok true s)) else b
def dNot (a : DE Bool) : DE Bool := bnd a fun c s => some (.ok (!c) s)
def dAndV (a b : DE D) : DE D := bnd a fun d => match d with
  | .bl true => b
  | .bl false => fun s => some (.ok (.bl false) s)
  | _ => fun _ => none
def dOrV (a b : DE D) : DE D := bnd a fun d => match d with
  | .bl false => b
  | .bl true => fun s => some (.ok (.bl true) s)
  | _ => fun _ => none
def dNotV (a : DE D) : DE D := bnd a fun d s => match d with
  | .bl b => some (.ok (.bl (!b)) s)
  | _ => none
def dIf {α : Type} (c : DE Bool) (a b : DE α) : DE α := bnd c fun k => if k then a else b
section
variable {K : PySem.W.Frag} {W : WW} {ta tb te : TE} {da db : DE D} {t u : TT} {dt du : DE Bool}
theorem jTest (ha : JB K W ta da) : JT K W (tTest ta) (dTest da) := by
  refine J.one (k := fun x _ H Q => ∃ k, x = .bl k ∧ Q k H) ha zB fun x s r0 e vx B H σ Fs R0 q1 Q p => ?_
  cases q1.1 with
  | bl b =>
    cases e
    exact ⟨b, rfl, Post.here R0 ⟨rfl, rfl⟩ p⟩
  | _ => cases e
theorem jTB (ha : JB K W ta da) : JT K W (tB ta) (dTest da) := jTest ha
theorem jAnd (h1 : JT K W t dt) (h2 : JT K W u du) : JT K W (tAnd t u) (dAnd dt du) := by
  refine J.one (k := fun c σ H Q => if c = true then u σ H Q else Q false H) h1 zT fun x s r0 e vx B H σ Fs R0 q1 Q p => ?_
  obtain rfl := q1.1
  cases vx with
  | true =>
    rw [if_pos rfl]
    exact h2 s r0 (by simpa using e) B H σ Fs R0 Q p
  | false =>
    have e : some (Er.ok false s) = some r0 := by simpa using e
    cases e
    exact Post.here R0 ⟨rfl, rfl⟩ p
theorem jOr (h1 : JT K W t dt) (h2 : JT K W u du) : JT K W (tOr t u) (dOr dt du) := by
  refine J.one (k := fun c σ H Q => if c = true then Q true H else u σ H Q) h1 zT fun x s r0 e vx B H σ Fs R0 q1 Q p => ?_
  obtain rfl := q1.1
  cases vx with
  | false => exact h2 s r0 (by simpa using e) B H σ Fs R0 Q p
  | true =>
    have e : some (Er.ok true s) = some r0 := by simpa using e
    cases e
    exact Post.here R0 ⟨rfl, rfl⟩ p
theorem jNot (h1 : JT K W t dt) : JT K W (tNot t) (dNot dt) := by
  refine J.one (k := fun c _ H Q => Q (!c) H) h1 zT fun x s r0 e vx B H σ Fs R0 q1 Q p => ?_
  obtain rfl := q1.1
  cases e
  exact Post.here R0 ⟨rfl, rfl⟩ p
theorem jAndV (h1 : JB K W ta da) (h2 : JB K W tb db) : JB K W (tAndV ta tb) (dAndV da db) := by
  refine J.one (k := fun x σ H Q => ∃ c, x = .bl c ∧ if c = true then tb σ H Q else Q (.bl false) H) h1 zB fun x s r0 e vx B H σ Fs R0 q1 Q p => ?_
  cases q1.1 with
  | bl b =>
    refine ⟨b, rfl, ?_⟩
    cases b with
    | true => exact h2 s r0 e B H σ Fs R0 Q p
    | false =>
      cases e
      exact Post.here R0 ⟨.bl _, rfl⟩ p
  | _ => cases e
end
end Dv

namespace Dv
open PySem L2 Evl

def toB (a : DE (D × Ow)) : DE D := fun s => match a s with
  | some (.ok (d, _) s1) => some (.ok d s1)
  | some (.exc c s1) => some (.exc c s1)
  | none => none
def toC (a : DE D) : DE (D × Ow) := fun s => match a s with
  | some (.ok d s1) => if imm d then some (.ok (d, .full) s1) else none
  | some (.exc c s1) => some (.exc c s1)
  | none => none
def fzAll (s : SD) : SD := s.map (Option.map fun p => (p.1, Ow.no))
def mvOw (d : D) (ow : Ow) : Ow := match ow with
  | .no => if imm d = true then .full else .no
  | .adr _ => .full
  | o => o
theorem RS.mv {K : PySem.W.Frag} {B H : Hp} {v : V} {d : D} {ow : Ow} {F : List Addr} (q : RS K B H v d ow F) : RS K B H v d (mvOw d ow) F := by
  cases ow with
  | full => exact q
  | top => exact q
  | adr a => exact q.1
  | no =>
    by_cases hi : imm d = true
    · have e : mvOw d .no = .full := if_pos hi
      rw [e]
      obtain ⟨r, rfl⟩ := q
      exact Own.im hi (r.any hi)
    · have e : mvOw d .no = .no := if_neg hi
      rw [e]
      exact q
def cMove (i : Nat) : DE (D × Ow) := fun s => match s[i]? with
  | some (some (d, ow)) => some (.ok (d, mvOw d ow) (s.set i none))
  | _ => none
def cAlias (i : Nat) : DE (D × Ow) := fun s => match s[i]? with
  | some (some (d, _)) => if imm d then some (.ok (d, .full) s) else some (.ok (d, .no) (s.set i (some (d, .no))))
  | _ => none
def cShare (a : DE D) : DE (D × Ow) := fun s => match a s with
  | some (.ok d s1) => if imm d then some (.ok (d, .full) s1) else some (.ok (d, .no) (fzAll s1))
  | some (.exc c s1) => some (.exc c s1)
  | none => none
section
variable {K : PySem.W.Frag} {W : WW} {te ta tb : TE} {dc : DE (D × Ow)} {de da db : DE D} {i : Nat} {B H : Hp} {σ : L2.St} {s : SD} {Fs : List (List Addr)}
theorem frz_frz {B H : Hp} {F L : List Addr} (a : Addr) : frz (frz B H F) H L a = frz B H (F ++ L) a := by
  by_cases m : a ∈ L
  · rw [frz_in m, frz_in (List.mem_append_right _ m)]
  · rw [frz_out m]
    by_cases g : a ∈ F
    · rw [frz_in g, frz_in (List.mem_append_left _ g)]
    · rw [frz_out g, frz_out fun z => (List.mem_append.mp z).elim g m]
theorem Rel.know (r : Rel K B H σ s Fs) {F : List Addr} (hv : ∀ x, w B x + (F ++ Fs.flatten).count x ≤ 1) : Rel K (frz B H F) H σ s Fs := by
  refine ⟨frz_le r.ex, r.l1, r.l2, fun i d ow e => ?_, fun a => ?_, r.lv⟩
  · obtain ⟨v, h1, h2⟩ := r.at_ i d ow e
    exact ⟨v, h1, h2.mono (frz_ex r.ex) (Tk.refl _) fun _ _ => rfl⟩
  · have h1 := frz_w B H F a
    have h2 := hv a
    rw [List.count_append, tot_flat] at h2
    omega
theorem jToB (h : JC K W te dc) : JB K W te (toB dc) := by
  intro s r e B H σ Fs R0 Q p
  unfold toB at e
  cases e1 : dc s with
  | none => rw [e1] at e; cases e
  | some r1 =>
    rw [e1] at e
    refine h s r1 e1 B H σ Fs R0 _ ?_
    cases r1 with
    | exc c s1 =>
      cases e
      exact p
    | ok a s1 =>
      obtain ⟨d, ow⟩ := a
      cases e
      intro v B1 H1 Fs1 F R1 y1 z1 l1 q1
      have y2 : ES B H Fs.flatten (frz B1 H1 F) H1 Fs1.flatten := y1.let_go F _ l1 (fun a => List.count_append) R1.ex
      refine p v _ H1 Fs1 [] (R1.know z1) y2 (R1.know z1).wf (fun _ q => nomatch q) ⟨?_, rfl⟩
      have q2 : RS K B1 H1 v d ow F := q1
      refine q2.fz (G := frz (frz B1 H1 F) H1 Fs1.flatten) ((frz_ex R1.ex).trans (frz_ex (frz_le R1.ex))) fun a ha => ?_
      rw [frz_frz]
      exact frz_in (List.mem_append_left _ ha)
theorem jToC (h : JB K W te de) : JC K W te (toC de) := by
  intro s r e B H σ Fs R0 Q p
  unfold toC at e
  cases e1 : de s with
  | none => rw [e1] at e; cases e
  | some r1 =>
    rw [e1] at e
    refine h s r1 e1 B H σ Fs R0 _ ?_
    cases r1 with
    | exc c s1 =>
      cases e
      exact p
    | ok d s1 =>
      have e : (if imm d then some (Er.ok (d, Ow.full) s1) else none) = some r := e
      split at e
      · rename_i hi
        cases e
        intro v B1 H1 Fs1 F R1 y1 z1 l1 q1
        obtain ⟨q1, rfl⟩ := q1
        exact p v B1 H1 Fs1 [] R1 y1 z1 l1 (Own.im hi (q1.any hi))
      · cases e
theorem getD_set {Fs : List (List Addr)} {i j : Nat} {F : List Addr} (h : i < Fs.length) : (Fs.set i F).getD j [] = if j = i then F else Fs.getD j [] := by
  rw [List.getD_eq_getElem?_getD, List.getD_eq_getElem?_getD]
  by_cases e : j = i
  · subst e
    rw [if_pos rfl, List.getElem?_set_self h]
    rfl
  · rw [if_neg e, List.getElem?_set_ne (Ne.symm e)]
theorem flat_set {Fs : List (List Addr)} {i : Nat} {F : List Addr} (h : i < Fs.length) (a : Addr) : (Fs.set i F).flatten.count a + (Fs.getD i []).count a = Fs.flatten.count a + F.count a := by
  rw [tot_flat, tot_flat]
  exact tot_set Fs i F a h
theorem flat_get {Fs : List (List Addr)} {i : Nat} (a : Addr) : (Fs.getD i []).count a ≤ Fs.flatten.count a := by
  rw [tot_flat]
  exact tot_get Fs i a
theorem mem_set_flat {Fs : List (List Addr)} {i : Nat} {F : List Addr} {a : Addr} (h : a ∈ (Fs.set i F).flatten) : a ∈ Fs.flatten ∨ a ∈ F := by
  obtain ⟨G, hG, ha⟩ := List.mem_flatten.mp h
  rcases List.mem_or_eq_of_mem_set hG with hG | rfl
  · exact .inl (List.mem_flatten.mpr ⟨G, hG, ha⟩)
  · exact .inr ha
theorem Rel.slot {sl : Sl} {F : List Addr} (r : Rel K B H σ s Fs) (hi : i < s.length) (hs : ∀ d ow, sl = some (d, ow) → ∃ v, σ[i]? = some (some v) ∧ RS K B H v d ow F) (wt : ∀ a, w B a + (Fs.set i F).flatten.count a ≤ 1) (lv : ∀ a ∈ F, H a ≠ none) : Rel K B H σ (s.set i sl) (Fs.set i F) := by
  have hF : i < Fs.length := by rw [r.l2, ← r.l1]; exact hi
  refine ⟨r.ex, by rw [List.length_set]; exact r.l1, by rw [List.length_set]; exact r.l2, fun j d ow e => ?_, fun a => by rw [← tot_flat]; exact wt a, fun a ha => (mem_set_flat ha).elim (r.lv a) (lv a)⟩
  rw [getD_set hF]
  by_cases ej : j = i
  · subst ej
    rw [List.getElem?_set_self hi] at e
    rw [if_pos rfl]
    exact hs d ow (Option.some.inj e)
  · rw [List.getElem?_set_ne (Ne.symm ej)] at e
    rw [if_neg ej]
    exact r.at_ j d ow e
theorem lt_of_get {α : Type} {l : List α} {i : Nat} {x : α} (h : l[i]? = some x) : i < l.length := (List.getElem?_eq_some_iff.mp h).1
theorem ES.of_count {B H : Hp} {L L' : List Addr} (e : ∀ a, L.count a = L'.count a) : ES B H L B H L' :=
  (ES.refl B H L).cong (fun _ => rfl) e
theorem jMove : JC K W (tVar i) (cMove i) := by
  intro s r e B H σ Fs R0 Q p
  unfold cMove at e
  split at e
  · rename_i d ow h
    cases e
    obtain ⟨v, hv, q⟩ := R0.at_ i d ow h
    have hi := lt_of_get h
    have hF : i < Fs.length := by rw [R0.l2, ← R0.l1]; exact hi
    have cnt : ∀ a, Fs.flatten.count a = (Fs.getD i [] ++ (Fs.set i []).flatten).count a := fun a => by
      have := flat_set (F := []) hF a
      rw [List.count_append]
      simp at this ⊢
      omega
    refine ⟨v, hv, p v B H (Fs.set i []) (Fs.getD i []) (R0.slot (sl := none) (F := []) hi (fun _ _ z => nomatch z) (fun a => ?_) (fun _ z => nomatch z)) (ES.of_count cnt) (fun a => by rw [← cnt a]; exact R0.wf a) q.live q.mv⟩
    have h1 := flat_set (F := []) hF a
    have h2 := R0.wf a
    simp at h1
    omega
  · cases e
theorem flat_nil (Fs : List (List Addr)) : (Fs.map fun _ => ([] : List Addr)).flatten = [] := by
  induction Fs with
  | nil => rfl
  | cons x xs ih => simpa using ih
theorem Rel.letAll (r : Rel K B H σ s Fs) : Rel K (frz B H Fs.flatten) H σ (fzAll s) (Fs.map fun _ => []) := by
  refine ⟨frz_le r.ex, by unfold fzAll; rw [List.length_map]; exact r.l1, by rw [List.length_map]; exact r.l2, fun j d ow e => ?_, fun a => ?_, fun a ha => by rw [flat_nil] at ha; cases ha⟩
  · unfold fzAll at e
    rw [List.getElem?_map] at e
    cases e1 : s[j]? with
    | none => rw [e1] at e; cases e
    | some x =>
      rw [e1] at e
      cases x with
      | none => cases e
      | some y =>
        obtain ⟨d1, ow1⟩ := y
        cases e
        obtain ⟨v, h1, h2⟩ := r.at_ j d1 ow1 e1
        refine ⟨v, h1, h2.fz (frz_ex r.ex) fun a ha => frz_in (List.mem_flatten.mpr ⟨_, getD_mem ha, ha⟩), ?_⟩
        rw [List.getD_eq_getElem?_getD, List.getElem?_map]
        cases Fs[j]? <;> rfl
  · have h1 : tot (Fs.map fun _ => []) a = 0 := by
      rw [← tot_flat, flat_nil]
      rfl
    rw [h1]
    exact w_le
theorem frz_same (B H : Hp) (L : List Addr) : frz (frz B H L) H [] = frz B H L := by
  funext a
  exact frz_out (fun q => nomatch q)
theorem ES.all (e : Ex B H) (L : List Addr) : ES B H L (frz B H L) H [] :=
  ⟨frz_ex e, Ex.refl _, fun a _ => by have := frz_w B H L a; simpa using this, by rw [frz_same]; exact Ex.refl _⟩
theorem jShare (h : JB K W te de) : JC K W te (cShare de) := by
  intro s r e B H σ Fs R0 Q p
  unfold cShare at e
  cases e1 : de s with
  | none => rw [e1] at e; cases e
  | some r1 =>
    rw [e1] at e
    refine h s r1 e1 B H σ Fs R0 _ ?_
    cases r1 with
    | exc c s1 =>
      cases e
      exact p
    | ok d s1 =>
      have e : (if imm d then some (Er.ok (d, Ow.full) s1) else some (.ok (d, .no) (fzAll s1))) = some r := e
      intro v B1 H1 Fs1 F R1 y1 z1 l1 q1
      obtain ⟨q1, rfl⟩ := q1
      split at e
      · rename_i hi
        cases e
        exact p v B1 H1 Fs1 [] R1 y1 z1 l1 (Own.im hi (q1.any hi))
      · cases e
        refine p v (frz B1 H1 Fs1.flatten) H1 (Fs1.map fun _ => []) [] R1.letAll ?_ (by rw [flat_nil]; exact fun x => w_le) (fun _ q => nomatch q) ⟨q1, rfl⟩
        rw [flat_nil]
        exact y1.trans (ES.all R1.ex _)
theorem jAlias : JC K W (tVar i) (cAlias i) := by
  intro s r e B H σ Fs R0 Q p
  unfold cAlias at e
  split at e
  · rename_i d ow h
    obtain ⟨v, hv, q⟩ := R0.at_ i d ow h
    have hi := lt_of_get h
    have hF : i < Fs.length := by rw [R0.l2, ← R0.l1]; exact hi
    split at e
    · rename_i hm
      cases e
      exact ⟨v, hv, Post.here R0 (Own.im hm ((q.re R0.ex).any hm)) p⟩
    · cases e
      have cnt : ∀ a, Fs.flatten.count a = (Fs.getD i []).count a + (Fs.set i []).flatten.count a := fun a => by
        have := flat_set (F := []) hF a
        simp at this ⊢
        omega
      have y := (ES.refl B H Fs.flatten).let_go (Fs.getD i []) (Fs.set i []).flatten q.live cnt R0.ex
      have q2 : Re K (frz B H (Fs.getD i [])) H v d := q.fz (frz_ex R0.ex) fun a ha => frz_in ha
      have R1 : Rel K (frz B H (Fs.getD i [])) H σ (s.set i (some (d, .no))) (Fs.set i []) := by
        refine Rel.slot (F := []) (r := (?_ : Rel K (frz B H (Fs.getD i [])) H σ (s.set i none) (Fs.set i []))) (by simpa using hi) (fun d' ow' z => ?_) (fun a => ?_) (fun _ z => nomatch z) |> fun z => by simpa using z
        · refine Rel.know (B := B) (R0.slot (sl := none) (F := []) hi (fun _ _ z => nomatch z) (fun a => ?_) (fun _ z => nomatch z)) fun a => ?_
          · have h1 := cnt a
            have h2 := R0.wf a
            omega
          · rw [List.count_append, ← cnt a]
            exact R0.wf a
        · cases z
          exact ⟨v, hv, q2, rfl⟩
        · have h1 := cnt a
          have h2 := R0.wf a
          have h3 := frz_w B H (Fs.getD i []) a
          rw [List.set_set]
          omega
      refine ⟨v, hv, p v _ H (Fs.set i []) [] R1 y (fun a => ?_) (fun _ q => nomatch q) ⟨q2, rfl⟩⟩
      exact R1.wf a
  · cases e
end
end Dv

namespace Dv
open PySem L2 Evl

section
variable {K : PySem.W.Frag} {W : WW} {B H B' H' : Hp} {σ : L2.St} {s : SD} {Fs : List (List Addr)} {L F : List Addr} {p : Addr} {o : HO}
theorem Rel.ext (r : Rel K B H σ s Fs) (e : Ex H H') : Rel K B H' σ s Fs := by
  refine ⟨r.ex.trans e, r.l1, r.l2, fun i d ow h => ?_, r.wt, fun a ha => ex_ne e (r.lv a ha)⟩
  obtain ⟨v, h1, h2⟩ := r.at_ i d ow h
  refine ⟨v, h1, h2.mono (Ex.refl _) (Tk.of_ex e) fun a ha => ?_⟩
  cases q : H a with
  | none => exact absurd q (h2.live a ha)
  | some x => exact e _ _ q
theorem ES.ext (b : Ex B H) (e : Ex H H') : ES B H L B H' L := by
  refine ⟨Ex.refl _, e, fun _ _ => Nat.le_refl _, fun a x h => ?_⟩
  by_cases m : a ∈ L
  · rw [frz_in m] at h ⊢
    exact e _ _ h
  · rw [frz_out m] at h ⊢
    exact h
theorem ES.more (b : Ex B H) (e : Ex H H') (new : ∀ a ∈ F, H a = none) : ES B H L B H' (F ++ L) := by
  refine ⟨Ex.refl _, e, fun a h => ?_, fun a x h => ?_⟩
  · have : F.count a = 0 := List.count_eq_zero.mpr fun m => h (new a m)
    rw [List.count_append]
    omega
  · have hx : H a = some x := frz_le b _ _ h
    have nF : a ∉ F := fun m => by rw [new a m] at hx; cases hx
    by_cases m : a ∈ L
    · rw [frz_in (List.mem_append_right _ m)]
      exact e _ _ hx
    · rw [frz_out m] at h
      rw [frz_out fun z => (List.mem_append.mp z).elim nF m]
      exact h
theorem val_new {B H : Hp} {p : Addr} {L : List Addr} (b : Ex B H) (hp : H p = none) (hv : ∀ x, w B x + L.count x ≤ 1) (hl : ∀ x ∈ L, H x ≠ none) : ∀ x, w B x + (p :: L).count x ≤ 1 := fun x => by
  rw [List.count_cons]
  by_cases e : p = x
  · subst e
    have h1 : L.count p = 0 := List.count_eq_zero.mpr fun m => hl p m hp
    have h2 : w B p = 0 := by
      cases q : B p with
      | none => exact w_none q
      | some u => rw [b _ _ q] at hp; cases hp
    simp [h1, h2]
  · have := hv x
    simp [e]
    exact this
theorem ne_new {H : Hp} {p a : Addr} (hp : H p = none) (h : H a ≠ none) : a ≠ p := fun e => h (by rw [e]; exact hp)
theorem upd_keep {H : Hp} {p : Addr} {o : HO} (hp : H p = none) {F : List Addr} (hl : ∀ a ∈ F, H a ≠ none) : ∀ a ∈ F, upd H p o a = H a := fun a ha => upd_ne (ne_new hp (hl a ha))

def cNil : DE (List D × Bool) := fun s => some (.ok ([], true) s)
def cCons (a : DE (D × Ow)) (l : DE (List D × Bool)) : DE (List D × Bool) := bnd a fun x => bnd l fun y s => some (.ok (x.1 :: y.1, decide (x.2 = .full) && y.2) s)
theorem jcNil : JCL K W tNil cNil := by
  intro s r e B H σ Fs R0 Q p
  cases e
  exact Post.here R0 (show OwnL K H [] [] [] from .nil) p
theorem rCL_go {G : Hp} {vs : List V} {ds : List D} {b : Bool} {L : List (List Addr)} (q : rCL K B H L vs (ds, b) F) (g : Ex B G) (k : ∀ a ∈ F, G a = H a) : ReL K G H vs ds := by
  cases b with
  | true => exact OwnL.re q k
  | false => exact q.1.mono g (Tk.refl _)
theorem jcCons {ta : TE} {tr : TA} {da : DE (D × Ow)} {dr : DE (List D × Bool)} (ha : JC K W ta da) (hr : JCL K W tr dr) : JCL K W (tCons ta tr) (cCons da dr) := by
  refine J.bind (k := fun x σ H Q => tr σ H fun xs H2 => Q (x :: xs) H2) ha fun a s1 r e v B1 H1 σ Fs1 F R1 hv hl q1 Q p => ?_
  obtain ⟨d, ow⟩ := a
  unfold bnd at e
  cases e3 : dr s1 with
  | none => rw [e3] at e; cases e
  | some r2 =>
    rw [e3] at e
    have q1 : RS K B1 H1 v d ow F := q1
    refine J.pend hr e3 R1 hv hl (fun b s2 er u B2 H2 Fs2 G R2 y2 z2 l2 q2 => ?_) (fun c s2 er B2 H2 Fs2 R2 y2 z2 => ?_)
    · subst er
      obtain ⟨ds, fu⟩ := b
      cases e
      have q3 : RS K B2 H2 v d ow F := q1.mono y2.exB (Tk.of_ex y2.exH) fun a ha => by
        cases q : H1 a with
        | none => exact absurd q (hl a ha)
        | some x => exact y2.exH _ _ q
      have lFG : ∀ x ∈ F ++ G, H2 x ≠ none := fun x hx => (List.mem_append.mp hx).elim (q3.live x) (l2 x)
      have go : ReL K (frz B2 H2 (F ++ G)) H2 (v :: u) (d :: ds) :=
        .cons (q3.fz (frz_ex R2.ex) fun a ha => frz_in (List.mem_append_left _ ha)) (rCL_go q2 (frz_ex R2.ex) fun a ha => frz_in (List.mem_append_right _ ha))
      have zz : ∀ x, w B2 x + ((F ++ G) ++ Fs2.flatten).count x ≤ 1 := fun x => by rw [List.append_assoc]; exact z2 x
      have yy := (y2.let_go (F ++ G) Fs2.flatten lFG (fun a => by rw [← List.append_assoc, List.count_append]) R2.ex)
      by_cases hf : (decide (ow = .full) && fu) = true
      · have h2 := Bool.and_eq_true_iff.mp hf
        have h1 := of_decide_eq_true h2.1
        have h3 := h2.2
        subst h1 h3
        refine p (v :: u) B2 H2 Fs2 (F ++ G) R2 (by rw [List.append_assoc]; exact y2) zz lFG ?_
        show OwnL K H2 (v :: u) (d :: ds) (F ++ G)
        exact .cons q3 q2
      · have hf2 : (decide (ow = .full) && fu) = false := by simpa using hf
        refine p (v :: u) _ H2 Fs2 [] (R2.know zz) yy (R2.know zz).wf (fun _ q => nomatch q) ?_
        show rCL K _ _ _ _ (d :: ds, decide (ow = .full) && fu) []
        rw [hf2]
        exact ⟨go, rfl⟩
    · subst er
      cases e
      exact p _ H2 Fs2 (R2.know z2) (y2.let_go F Fs2.flatten (fun a ha => ex_ne y2.exH (hl a ha)) (fun a => List.count_append) R2.ex)
def cLst (l : DE (List D × Bool)) : DE (D × Ow) := bnd l fun y s => if y.1.length ≤ 1000000 then some (.ok (.lst y.1, if y.2 then .full else .top) s) else none
def cTup (l : DE (List D × Bool)) : DE (D × Ow) := bnd l fun y s => if y.1.length ≤ 1000000 then some (.ok (.tup y.1, if y.2 then .full else .no) s) else none
theorem sz6 {n : Nat} (h : n ≤ 1000000) : n ≤ sizeLine := Nat.le_trans h (by decide)
theorem new_list {vs : List V} {ds : List D} {b : Bool} (R0 : Rel K B H σ s Fs) (hv : ∀ x, w B x + (F ++ Fs.flatten).count x ≤ 1) (hl : ∀ x ∈ F, H x ≠ none) (q : rCL K B H Fs vs (ds, b) F) (hp : H p = none) :
    Rel K B (upd H p (.lst vs)) σ s Fs ∧ ES B H (F ++ Fs.flatten) B (upd H p (.lst vs)) ((p :: F) ++ Fs.flatten) ∧ (∀ x, w B x + ((p :: F) ++ Fs.flatten).count x ≤ 1) ∧ (∀ x ∈ p :: F, upd H p (.lst vs) x ≠ none) ∧ rC K B (upd H p (.lst vs)) Fs (.ref p) (.lst ds, if b then .full else .top) (p :: F) := by
  have e : Ex H (upd H p (.lst vs)) := Ex.new hp
  refine ⟨R0.ext e, ES.more (F := [p]) R0.ex e (fun a ha => by rw [List.mem_singleton.mp ha]; exact hp), ?_, fun x hx => ?_, ?_⟩
  · exact val_new (L := F ++ Fs.flatten) R0.ex hp hv fun x hx => (List.mem_append.mp hx).elim (hl x) (R0.lv x)
  · rcases List.mem_cons.mp hx with rfl | hx
    · rw [upd_same]; exact fun z => nomatch z
    · exact ex_ne e (hl x hx)
  · cases b with
    | true => exact Own.lst upd_same (OwnL.mono (Tk.of_ex e) q (upd_keep hp hl))
    | false =>
      obtain ⟨q, rfl⟩ := q
      exact ⟨p, vs, ds, rfl, rfl, upd_same, q.mono (Ex.refl _) (Tk.of_ex e), rfl⟩
theorem jcLst {tr : TA} {dr : DE (List D × Bool)} (hr : JCL K W tr dr) : JC K W (tLst tr) (cLst dr) := by
  refine J.bind (k := fun xs σ H Q => xs.length ≤ sizeLine ∧ ∀ p, H p = none → Q (V.ref p) (upd H p (.lst xs))) hr fun a s1 r e vs B1 H1 σ Fs1 F R1 hv hl q1 Q p => ?_
  obtain ⟨ds, b⟩ := a
  split at e
  · rename_i hz
    cases e
    have len : vs.length = ds.length := (rCL_go q1 R1.ex fun _ _ => rfl).length
    refine ⟨by rw [len]; exact sz6 hz, fun x hx => ?_⟩
    obtain ⟨a1, a2, a3, a4, a5⟩ := new_list R1 hv hl q1 hx
    exact p _ B1 _ Fs1 (x :: F) a1 a2 a3 a4 a5
  · cases e
end

inductive Fo where
  | ret (d : D) (ow : Ow) | exc (c : Str)
abbrev DF := List D → Option Fo
def spD (K : PySem.W.Frag) (cl : Str → Value) (n : Nat) (df : DF) : Sp := fun vs H Q E => ∃ B ds o, Ex B H ∧ ReL K B H vs ds ∧ ds.length = n ∧ df ds = some o ∧ match o with
  | .ret d ow => ∀ v B' H' F, Ex B B' → Ex B' H' → Ex H H' → (∀ a, H a ≠ none → w B' a + F.count a ≤ w B a) → (∀ a, w B' a + F.count a ≤ 1) → RS K B' H' v d ow F → Q v H'
  | .exc c => ∀ H', Ex H H' → E (cl c) none H'
theorem spD_len {K : PySem.W.Frag} {cl : Str → Value} {n : Nat} {df : DF} {vs : List V} {H : Hp} {Q : VK} {E : XK} (h : spD K cl n df vs H Q E) : vs.length = n := by
  obtain ⟨B, ds, o, _, r, e, _⟩ := h
  rw [r.length, e]
def wOf (cl : Str → Value) (X : WX) : WW := fun c σ H => X (cl c) none σ H
def cCall (df : DF) (a : DE (List D)) : DE (D × Ow) := bnd a fun ds s => match df ds with
  | some (.ret d ow) => if imm d || decide (ow = .full) then some (.ok (d, .full) s) else some (.ok (d, ow) (fzAll s))
  | some (.exc c) => some (.exc c s)
  | none => none
section
variable {K : PySem.W.Frag} {B H B' H' : Hp} {σ : L2.St} {s : SD} {Fs : List (List Addr)} {cl : Str → Value} {X : WX}
theorem jcCall {n : Nat} {df : DF} {tr : TA} {dr : DE (List D)} (hn : ∀ ds, df ds ≠ none → ds.length = n) (hr : JA K (wOf cl X) tr dr) : JC K (wOf cl X) (tCallS (spD K cl n df) (WE X) tr) (cCall df dr) := by
  refine J.one (k := fun vs σ H Q => spD K cl n df vs H Q (WE X σ)) hr zL fun ds s r e vs B H σ Fs R0 q Q p => ?_
  obtain ⟨q, -⟩ := q
  cases ed : df ds with
  | none => rw [ed] at e; cases e
  | some o =>
    rw [ed] at e
    refine ⟨frz B H Fs.flatten, ds, o, frz_le R0.ex, q, hn ds (by rw [ed]; exact fun z => nomatch z), ed, ?_⟩
    cases o with
    | exc c =>
      cases e
      intro H' x
      exact p B H' Fs (R0.ext x) (ES.ext R0.ex x)
    | ret d ow =>
      intro v B' H' F x1 x2 x3 x4 x5 x6
      have e : (if (imm d || decide (ow = .full)) = true then some (Er.ok (d, Ow.full) s) else some (.ok (d, ow) (fzAll s))) = some r := e
      have newF : ∀ a ∈ F, frz B H Fs.flatten a = none ∨ H a = none := fun a ha => by
        by_cases hh : H a = none
        · exact .inr hh
        · refine .inl ?_
          have h1 := x4 a hh
          have h2 := mem_count ha
          have h3 := w_mono x1 a
          exact w_zero (by omega)
      split at e
      · rename_i hc
        cases e
        -- held in full, or no list in it
        have own : ∃ G, Own K H' v d G ∧ (∀ a ∈ G, a ∈ F) ∧ ∀ a, G.count a ≤ F.count a := by
          rcases Bool.or_eq_true_iff.mp hc with hi | ho
          · exact ⟨[], .im hi ((x6.re x2).any hi), fun a (z : a ∈ []) => (nomatch z), fun a => Nat.zero_le _⟩
          · have := of_decide_eq_true ho
            subst this
            exact ⟨F, x6, fun _ z => z, fun a => Nat.le_refl _⟩
        obtain ⟨G, oG, sG, cG⟩ := own
        have newG : ∀ a ∈ G, H a = none := fun a ha => by
          by_cases hh : H a = none
          · exact hh
          · have h1 := x4 a hh
            have h2 := mem_count (sG a ha)
            have h3 := w_mono x1 a
            have h5 := x5 a
            have h6 : w B' a = 0 := by omega
            exfalso
            have h7 : w (frz B H Fs.flatten) a = 0 := by omega
            omega
        refine p v B H' Fs G (R0.ext x3) (ES.more R0.ex x3 newG) (fun a => ?_) oG.live oG
        rw [List.count_append]
        by_cases ha : a ∈ G
        · have hn := newG a ha
          have h1 : Fs.flatten.count a = 0 := List.count_eq_zero.mpr fun m => R0.lv a m hn
          have h2 : w B a = 0 := by
            cases q : B a with
            | none => exact w_none q
            | some u => rw [R0.ex _ _ q] at hn; cases hn
          have h3 := x5 a
          have h4 := cG a
          omega
        · have h1 : G.count a = 0 := List.count_eq_zero.mpr ha
          have h2 := R0.wf a
          omega
      · cases e
        have R1 := R0.letAll
        have R2 : Rel K B' H' σ (fzAll s) (Fs.map fun _ => []) := by
          refine ⟨x2, R1.l1, R1.l2, fun i d' ow' h => ?_, fun a => ?_, fun a ha => by rw [flat_nil] at ha; cases ha⟩
          · obtain ⟨u, h1, h2⟩ := R1.at_ i d' ow' h
            exact ⟨u, h1, h2.mono x1 (Tk.of_ex x3) fun a ha => by
              cases q : H a with
              | none => exact absurd q (h2.live a ha)
              | some x => exact x3 _ _ q⟩
          · have h0 : tot (Fs.map fun _ => []) a = 0 := by rw [← tot_flat, flat_nil] <;> rfl
            rw [h0]
            exact w_le
        refine p v B' H' _ F R2 ?_ (fun a => by rw [flat_nil, List.append_nil]; exact x5 a) x6.live x6
        rw [flat_nil, List.append_nil]
        refine ⟨(frz_ex R0.ex).trans x1, x3, fun a h => ?_, fun a o h => ?_⟩
        · have h1 := x4 a h
          have h2 := frz_w B H Fs.flatten a
          omega
        · have h1 := x1 _ _ h
          have nF : a ∉ F := fun m => by
            have h2 := mem_count m
            have h3 := x5 a
            have h4 := w_some h1
            omega
          rw [frz_out nF]
          exact h1
end
end Dv

namespace Dv
open PySem L2 Evl

inductive Out where
  | next (s : SD) | brk (s : SD) | cont (s : SD) | ret (d : D) (ow : Ow) | exc (c : Str) (s : SD) | retS (d : D) (ow : Ow) (s : SD)
abbrev DS := SD → Option Out
def PostS (K : PySem.W.Frag) (W : WW) (B H : Hp) (L : List Addr) (En : Ends) : Out → Prop
  | .next s' => ∀ σ' B' H' Fs', Rel K B' H' σ' s' Fs' → SS B H L B' H' Fs'.flatten → En.nx σ' H'
  | .brk s' => ∀ σ' B' H' Fs', Rel K B' H' σ' s' Fs' → SS B H L B' H' Fs'.flatten → En.bk σ' H'
  | .cont s' => ∀ σ' B' H' Fs', Rel K B' H' σ' s' Fs' → SS B H L B' H' Fs'.flatten → En.ct σ' H'
  | .ret d ow => ∀ v B' H' F, Ex B' H' → SS B H L B' H' F → (∀ a, w B' a + F.count a ≤ 1) → RS K B' H' v d ow F → En.rt v H'
  | .exc c s' => ∀ σ' B' H' Fs', Rel K B' H' σ' s' Fs' → SS B H L B' H' Fs'.flatten → W c σ' H'
  | .retS d ow s' => ∀ v σ' B' H' F Fs', Rel K B' H' σ' s' Fs' → SS B H L B' H' (F ++ Fs'.flatten) → (∀ a, w B' a + (F ++ Fs'.flatten).count a ≤ 1) → (∀ x ∈ F, H' x ≠ none) → RS K B' H' v d ow F → En.rt v H'
def JS (K : PySem.W.Frag) (W : WW) (ts : TS) (ds : DS) : Prop :=
  ∀ s o, ds s = some o → ∀ B H σ Fs, Rel K B H σ s Fs → ∀ En : Ends, PostS K W B H Fs.flatten En o → ts En σ H
section
variable {K : PySem.W.Frag} {W : WW} {B H B1 H1 B' H' : Hp} {L L1 : List Addr} {En : Ends} {o : Out} {σ : L2.St} {s : SD} {Fs : List (List Addr)} {F : List Addr} {i : Nat} {v : V} {d : D} {ow : Ow}
theorem PostS.step (x : SS B H L B1 H1 L1) (p : PostS K W B H L En o) : PostS K W B1 H1 L1 En o := by
  cases o with
  | next s' => exact fun σ' B' H' Fs' a b => p σ' B' H' Fs' a (x.trans b)
  | brk s' => exact fun σ' B' H' Fs' a b => p σ' B' H' Fs' a (x.trans b)
  | cont s' => exact fun σ' B' H' Fs' a b => p σ' B' H' Fs' a (x.trans b)
  | exc c s' => exact fun σ' B' H' Fs' a b => p σ' B' H' Fs' a (x.trans b)
  | ret d ow => exact fun v B' H' F a b c e => p v B' H' F a (x.trans b) c e
  | retS d ow s' => exact fun v σ' B' H' F Fs' a b c e => p v σ' B' H' F Fs' a (x.trans b) c e
theorem Rel.store (r : Rel K B H σ s Fs) (hi : i < s.length) (q : RS K B H v d ow F) (hv : ∀ a, w B a + (F ++ Fs.flatten).count a ≤ 1) :
    Rel K B H (σ.set i (some v)) (s.set i (some (d, ow))) (Fs.set i F) ∧ ∀ a, (Fs.set i F).flatten.count a ≤ (F ++ Fs.flatten).count a := by
  have hF : i < Fs.length := by rw [r.l2, ← r.l1]; exact hi
  have le : ∀ a, (Fs.set i F).flatten.count a ≤ (F ++ Fs.flatten).count a := fun a => by
    have := flat_set (F := F) hF a
    rw [List.count_append]
    omega
  refine ⟨⟨r.ex, by rw [List.length_set, List.length_set]; exact r.l1, by rw [List.length_set, List.length_set]; exact r.l2, fun j d' ow' e => ?_, fun a => ?_, fun a ha => (mem_set_flat ha).elim (r.lv a) (q.live a)⟩, le⟩
  · rw [getD_set hF]
    by_cases ej : j = i
    · subst ej
      rw [List.getElem?_set_self hi] at e
      rw [if_pos rfl]
      cases e
      exact ⟨v, List.getElem?_set_self (by rw [← r.l1]; exact hi), q⟩
    · rw [List.getElem?_set_ne (Ne.symm ej)] at e
      rw [if_neg ej]
      obtain ⟨u, h1, h2⟩ := r.at_ j d' ow' e
      exact ⟨u, by rw [List.getElem?_set_ne (Ne.symm ej)]; exact h1, h2⟩
  · rw [← tot_flat]
    have := le a
    have := hv a
    omega
end

def sSeq (a b : DS) : DS := fun s => match a s with
  | some (.next s1) => b s1
  | r => r
def sNext : DS := fun s => some (.next s)
def sBrk : DS := fun s => some (.brk s)
def sCont : DS := fun s => some (.cont s)
def sNever : DS := fun _ => none
def sSet (i : Nat) (c : DE (D × Ow)) : DS := fun s => match c s with
  | some (.ok (d, ow) s1) => if i < s1.length then some (.next (s1.set i (some (d, ow)))) else none
  | some (.exc x s1) => some (.exc x s1)
  | none => none
def sDrop (a : DE D) : DS := fun s => match a s with
  | some (.ok _ s1) => some (.next s1)
  | some (.exc x s1) => some (.exc x s1)
  | none => none
def sRet (c : DE (D × Ow)) : DS := fun s => match c s with
  | some (.ok (d, ow) _) => some (.ret d ow)
  | some (.exc x s1) => some (.exc x s1)
  | none => none
def sRetN : DS := fun _ => some (.ret .non .full)
def sIf (c : DE Bool) (a b : DS) : DS := fun s => match c s with
  | some (.ok true s1) => a s1
  | some (.ok false s1) => b s1
  | some (.exc x s1) => some (.exc x s1)
  | none => none
section
variable {K : PySem.W.Frag} {W : WW} {t u : TS} {a b : DS} {te : TE} {tt : TT} {c : DE (D × Ow)} {de : DE D} {dt : DE Bool} {i : Nat}
theorem jsSeq (h1 : JS K W t a) (h2 : JS K W u b) : JS K W (tSeq t u) (sSeq a b) := by
  intro s o e B H σ Fs R0 En p
  unfold sSeq at e
  cases e1 : a s with
  | none => rw [e1] at e; cases e
  | some r =>
    rw [e1] at e
    refine h1 s r e1 B H σ Fs R0 _ ?_
    cases r with
    | next s1 => exact fun σ' B' H' Fs' x y => h2 s1 o e B' H' σ' Fs' x En (p.step y)
    | brk s1 => cases e; exact p
    | cont s1 => cases e; exact p
    | exc x s1 => cases e; exact p
    | ret d ow => cases e; exact p
    | retS d ow s1 => cases e; exact p
theorem jsNext : JS K W tNext sNext := by
  intro s o e B H σ Fs R0 En p
  cases e
  exact p σ B H Fs R0 (SS.refl _ _ _)
theorem jsSet (h : JC K W te c) : JS K W (tAsg te (gName i)) (sSet i c) := by
  intro s o e B H σ Fs R0 En p
  unfold sSet at e
  cases e1 : c s with
  | none => rw [e1] at e; cases e
  | some r =>
    rw [e1] at e
    refine h s r e1 B H σ Fs R0 _ ?_
    cases r with
    | exc x s1 =>
      cases e
      exact fun B' H' Fs' x y => p σ B' H' Fs' x y.ss
    | ok q s1 =>
      obtain ⟨d, ow⟩ := q
      have e : (if i < s1.length then some (Out.next (s1.set i (some (d, ow)))) else none) = some o := e
      split at e
      · rename_i hi
        cases e
        intro v B' H' Fs' F x y z l q
        obtain ⟨h1, h2⟩ := x.store hi q z
        exact p _ B' H' _ h1 (y.ss.le h2)
      · cases e
theorem jsRet (h : JC K W te c) : JS K W (tRet te) (sRet c) := by
  intro s o e B H σ Fs R0 En p
  unfold sRet at e
  cases e1 : c s with
  | none => rw [e1] at e; cases e
  | some r =>
    rw [e1] at e
    refine h s r e1 B H σ Fs R0 _ ?_
    cases r with
    | exc x s1 =>
      cases e
      exact fun B' H' Fs' x y => p σ B' H' Fs' x y.ss
    | ok q s1 =>
      obtain ⟨d, ow⟩ := q
      cases e
      intro v B' H' Fs' F x y z l q
      refine p v B' H' F x.ex (y.ss.le fun a => ?_) (fun a => ?_) q
      · rw [List.count_append]; omega
      · have := z a
        rw [List.count_append] at this
        omega
theorem jsIf (h : JT K W tt dt) (h1 : JS K W t a) (h2 : JS K W u b) : JS K W (tIfS tt t u) (sIf dt a b) := by
  intro s o e B H σ Fs R0 En p
  unfold sIf at e
  cases e1 : dt s with
  | none => rw [e1] at e; cases e
  | some r =>
    rw [e1] at e
    refine h s r e1 B H σ Fs R0 _ ?_
    cases r with
    | exc x s1 =>
      cases e
      exact fun B' H' Fs' x y => p σ B' H' Fs' x y.ss
    | ok q s1 =>
      intro v B' H' Fs' F x y z l q
      obtain ⟨rfl, rfl⟩ := q
      cases v with
      | true => exact h1 s1 o e B' H' σ Fs' x En (p.step y.ss)
      | false => exact h2 s1 o e B' H' σ Fs' x En (p.step y.ss)
end

def stD (ds : List D) (n : Nat) : SD := ds.map (fun d => some (d, Ow.no)) ++ List.replicate (n - ds.length) none
def outF : Option Out → Option Fo
  | some (.ret d ow) => some (.ret d ow)
  | some (.retS d ow _) => some (.ret d ow)
  | some (.next _) => some (.ret .non .full)
  | some (.exc c _) => some (.exc c)
  | _ => none
def dDef (n : Nat) (body : DS) : DF := fun ds => outF (body (stD ds n))
theorem start_len {N : List Str} {vs : List V} (h : vs.length ≤ N.length) : (L2.start N vs).length = N.length := by
  unfold L2.start
  simp
  omega
theorem def_ok {K : PySem.W.Frag} {cl : Str → Value} {N : List Str} {n : Nat} {body : DS} {ts : TS} {E : XK} {vs : List V} {H : Hp} {Q : VK} (hn : n ≤ N.length) (h : JS K (fun c _ H' => E (cl c) none H') ts body)
    (sp : spD K cl n (dDef N.length body) vs H Q E) : ts { nx := fun _ H' => Q .non H', rt := Q } (L2.start N vs) H := by
  obtain ⟨B, ds, o, eB, r, el, ed, post⟩ := sp
  have lv : vs.length = n := by rw [r.length, el]
  unfold dDef at ed
  cases eb : body (stD ds N.length) with
  | none => rw [eb] at ed; cases ed
  | some out =>
    rw [eb] at ed
    have R0 : Rel K B H (L2.start N vs) (stD ds N.length) (List.replicate N.length []) := by
      refine ⟨eB, ?_, ?_, fun i d ow e => ?_, fun a => by rw [tot_rep]; exact w_le, fun a ha => ?_⟩
      · rw [start_len (by omega)]
        unfold stD
        simp
        omega
      · rw [start_len (by omega), List.length_replicate]
      · unfold stD at e
        by_cases hi : i < ds.length
        · rw [List.getElem?_append_left (by simpa using hi), List.getElem?_map] at e
          cases e1 : ds[i]? with
          | none => rw [e1] at e; cases e
          | some d1 =>
            rw [e1] at e
            cases e
            obtain ⟨v, h1, h2⟩ := r.get e1
            refine ⟨v, ?_, h2, ?_⟩
            · unfold L2.start
              have := lt_of_get h1
              rw [List.getElem?_append_left (by simpa using this), List.getElem?_map, h1]
              rfl
            · rw [List.getD_eq_getElem?_getD, List.getElem?_replicate]
              split <;> rfl
        · rw [List.getElem?_append_right (by simpa using hi), List.getElem?_replicate] at e
          split at e <;> cases e
      · have : (List.replicate N.length ([] : List Addr)).flatten = [] := by
          induction N.length with
          | zero => rfl
          | succ m ih => simp [List.replicate_succ] at ih ⊢
        rw [this] at ha
        cases ha
    have L0 : (List.replicate N.length ([] : List Addr)).flatten = [] := by
      induction N.length with
      | zero => rfl
      | succ m ih => simp [List.replicate_succ] at ih ⊢
    refine h _ out eb B H _ _ R0 _ ?_
    rw [L0]
    cases out with
    | next s' =>
      cases ed
      intro σ' B' H' Fs' x y
      refine post .non B' H' [] y.exB x.ex (y.all fun _ => rfl) (fun a ha => ?_) (fun a => w_le) (Own.im rfl .non)
      have := y.wt a ha
      simp at this ⊢
      omega
    | brk s' => cases ed
    | cont s' => cases ed
    | exc c s' =>
      cases ed
      exact fun σ' B' H' Fs' x y => post H' (y.all fun _ => rfl)
    | ret d ow =>
      cases ed
      intro v B' H' F x y z q
      exact post v B' H' F y.exB x (y.all fun _ => rfl) (fun a ha => by have := y.wt a ha; simpa using this) z q
    | retS d ow s' =>
      cases ed
      intro v σ' B' H' F Fs' x y z _ q
      refine post v B' H' F y.exB x.ex (y.all fun _ => rfl) (fun a ha => ?_) (fun a => ?_) q
      · have := y.wt a ha
        rw [List.count_append] at this
        simp at this ⊢
        omega
      · have := z a
        rw [List.count_append] at this
        omega
end Dv

namespace Dv
open PySem L2 Evl

abbrev DT := D → Ow → SD → Option SD
def JG (K : PySem.W.Frag) (g : TG) (tg : DT) (own : List Nat) : Prop := ∀ d ow s s', tg d ow s = some s' → ∀ B H σ Fs v F, Rel K B H σ s Fs → RS K B H v d ow F → (∀ a, w B a + (F ++ Fs.flatten).count a ≤ 1) →
  ∀ Q : L2.St → Hp → Prop, (∀ σ' Fs', Rel K B H σ' s' Fs' → (∀ a, Fs'.flatten.count a ≤ (F ++ Fs.flatten).count a) → σ'.length = σ.length → (∀ j, j ∉ own → σ'[j]? = σ[j]?) → Q σ' H) → g v σ H Q
def tgN (i : Nat) : DT := fun d ow s => if i < s.length then some (s.set i (some (d, ow))) else none
theorem jgN {K : PySem.W.Frag} {i : Nat} : JG K (gName i) (tgN i) [i] := by
  intro d ow s s' e B H σ Fs v F R0 q z Q h
  unfold tgN at e
  split at e
  · rename_i hi
    cases e
    obtain ⟨h1, h2⟩ := R0.store hi q z
    exact h _ _ h1 h2 (by rw [List.length_set]) fun j hj => List.getElem?_set_ne fun e => hj (by simp [e])
  · cases e
def tgL : List Nat → List D → Ow → SD → Option SD
  | [], [], _, s => some s
  | i :: is, d :: ds, ow, s => if i < s.length then tgL is ds ow (s.set i (some (d, if imm d then .full else ow))) else none
  | _, _, _, _ => none
def tgT (is : List Nat) : DT := fun d ow s => match d with
  | .tup ds => if ow.tp = true then none else tgL is ds ow s
  | _ => none
def gNs : List Nat → TGs
  | [] => gNil
  | i :: is => gCons (gName i) (gNs is)
def RL (K : PySem.W.Frag) (B H : Hp) (vs : List V) (ds : List D) : Ow → List Addr → Prop
  | .full, F => OwnL K H vs ds F
  | _, F => ReL K B H vs ds ∧ F = []
section
variable {K : PySem.W.Frag} {B H : Hp}
theorem RL.cons {v : V} {d : D} {vs : List V} {ds : List D} {ow : Ow} {F : List Addr} (ht : ¬ ow.tp = true) (q : RL K B H (v :: vs) (d :: ds) ow F) (e : Ex B H) :
    ∃ F1 F2, F = F1 ++ F2 ∧ RS K B H v d (if imm d then .full else ow) F1 ∧ RL K B H vs ds ow F2 := by
  cases ow with
  | top => exact absurd rfl ht
  | adr _ => exact absurd rfl ht
  | full =>
    have q : OwnL K H (v :: vs) (d :: ds) F := q
    cases q with
    | cons a b =>
      refine ⟨_, _, rfl, ?_, b⟩
      split
      · exact a
      · exact a
  | no =>
    obtain ⟨q, rfl⟩ := q
    cases q with
    | cons a b =>
      refine ⟨[], [], rfl, ?_, b, rfl⟩
      split
      · rename_i hi
        exact Own.im hi (a.any hi)
      · exact ⟨a, rfl⟩
end
def sAsg (tg : DT) (c : DE (D × Ow)) : DS := fun s => match c s with
  | some (.ok (d, ow) s1) => (tg d ow s1).map Out.next
  | some (.exc x s1) => some (.exc x s1)
  | none => none
def goFor (tg : DT) (body : DS) : List (D × Ow) → DS
  | [], s => some (.next s)
  | (d, ow) :: r, s => match tg d ow s with
    | none => none
    | some s1 => match body s1 with
      | some (.next s2) => goFor tg body r s2
      | some (.cont s2) => goFor tg body r s2
      | some (.brk s2) => some (.next s2)
      | x => x
section
variable {K : PySem.W.Frag} {W : WW} {B1 H1 : Hp} {L1 : List Addr} {g : TG} {tb : TS} {tg : DT} {own : List Nat} {body : DS} {o : Out} {En : Ends} {items : List (D × Ow)}
def FP (K : PySem.W.Frag) (tg : DT) (body : DS) (o : Out) (B1 H1 : Hp) (L1 : List Addr) (items : List (D × Ow)) (k : Nat) (σ : L2.St) (H : Hp) : Prop :=
  ∃ B' Fs' s', Rel K B' H σ s' Fs' ∧ SS B1 H1 L1 B' H Fs'.flatten ∧ goFor tg body (items.drop k) s' = some o
theorem for_step (hg : JG K g tg own) (hb : JS K W tb body) (p : PostS K W B1 H1 L1 En o) {k : Nat} {d : D} {ow : Ow} (hk : items[k]? = some (d, ow)) {v : V} {σ : L2.St} {H : Hp} (P : FP K tg body o B1 H1 L1 items k σ H)
    (hv : ∀ B' H' L', SS B1 H1 L1 B' H' L' → RS K B' H' v d ow []) :
    g v σ H fun σ2 H2 => tb { En with nx := FP K tg body o B1 H1 L1 items (k + 1), ct := FP K tg body o B1 H1 L1 items (k + 1), bk := En.nx } σ2 H2 := by
  obtain ⟨B', Fs', s', R, x, e⟩ := P
  have hd : items.drop k = (d, ow) :: items.drop (k + 1) := by
    obtain ⟨h1, h2⟩ := List.getElem?_eq_some_iff.mp hk
    rw [List.drop_eq_getElem_cons h1, h2]
  rw [hd] at e
  unfold goFor at e
  cases e1 : tg d ow s' with
  | none => rw [e1] at e; cases e
  | some s1 =>
    rw [e1] at e
    have e : (match body s1 with
      | some (.next s2) => goFor tg body (items.drop (k + 1)) s2
      | some (.cont s2) => goFor tg body (items.drop (k + 1)) s2
      | some (.brk s2) => some (.next s2)
      | x => x) = some o := e
    refine hg d ow s' s1 e1 B' H σ Fs' v [] R (hv _ _ _ x) R.val _ fun σ2 Fs2 R2 c2 _ _ => ?_
    have x2 : SS B1 H1 L1 B' H Fs2.flatten := x.le fun a => by simpa using c2 a
    cases e2 : body s1 with
    | none => rw [e2] at e; cases e
    | some r =>
      rw [e2] at e
      refine hb s1 r e2 B' H σ2 Fs2 R2 _ ?_
      cases r with
      | next s2 => exact fun σ3 B3 H3 Fs3 y1 y2 => ⟨B3, Fs3, s2, y1, x2.trans y2, e⟩
      | cont s2 => exact fun σ3 B3 H3 Fs3 y1 y2 => ⟨B3, Fs3, s2, y1, x2.trans y2, e⟩
      | brk s2 =>
        cases e
        exact fun σ3 B3 H3 Fs3 y1 y2 => p σ3 B3 H3 Fs3 y1 (x2.trans y2)
      | ret d ow =>
        cases e
        exact fun v3 B3 H3 F3 y1 y2 y3 y4 => p v3 B3 H3 F3 y1 (x2.trans y2) y3 y4
      | retS d ow s3 =>
        cases e
        exact fun v3 σ3 B3 H3 F3 Fs3 y1 y2 y3 y4 => p v3 σ3 B3 H3 F3 Fs3 y1 (x2.trans y2) y3 y4
      | exc c s2 =>
        cases e
        exact fun σ3 B3 H3 Fs3 y1 y2 => p σ3 B3 H3 Fs3 y1 (x2.trans y2)
theorem for_end (p : PostS K W B1 H1 L1 En o) {σ : L2.St} {H : Hp} (P : FP K tg body o B1 H1 L1 items items.length σ H) : En.nx σ H := by
  obtain ⟨B', Fs', s', R, x, e⟩ := P
  rw [List.drop_length] at e
  cases e
  exact p σ B' H Fs' R x
theorem for_l {a : Addr} {vs : List V} {σ : L2.St} {B : Hp} {s : SD} {Fs : List (List Addr)} (hg : JG K g tg own) (hb : JS K W tb body) (R : Rel K B1 H1 σ s Fs) (p : PostS K W B1 H1 Fs.flatten En o) (e : goFor tg body items s = some o)
    (hl : vs.length = items.length) (stay : ∀ B' H' L', Ex B' H' → SS B1 H1 Fs.flatten B' H' L' → SqL K H' a vs) (hv : ∀ (k : Nat) v d ow, vs[k]? = some v → items[k]? = some (d, ow) → ∀ B' H' L', SS B1 H1 Fs.flatten B' H' L' → RS K B' H' v d ow []) :
    ∃ W : Nat → Nat → L2.St → Hp → Prop, (∃ m, W 0 m σ H1) ∧ ∀ i m σ H, W i m σ H →
      ((Itl K a).stop i H ∧ En.nx σ H) ∨ ((Itl K a).go i H ∧ ∃ N : L2.St → Hp → Prop, (∀ σ' H', N σ' H' → ∃ m', m' < m ∧ W (i + 1) m' σ' H') ∧ ∀ x H', (Itl K a).yld i H x H' → g x σ H' fun σ2 H2 => tb { En with nx := N, ct := N, bk := En.nx } σ2 H2) := by
  refine for_list (xs := vs) (FP K tg body o B1 H1 Fs.flatten items) ⟨B1, Fs, s, R, SS.refl _ _ _, e⟩ (fun i σ H _ ⟨B', Fs', s', R', x', _⟩ => stay B' H _ R'.ex x') (fun i x σ H hx P => ?_) fun σ H P => ?_
  · have hi := lt_of_get hx
    obtain ⟨it, hit⟩ : ∃ it, items[i]? = some it := ⟨items[i], List.getElem?_eq_getElem (by omega)⟩
    obtain ⟨d, ow⟩ := it
    exact for_step hg hb p hit P (hv i x d ow hx hit)
  · rw [hl] at P
    exact for_end p P
theorem for_t {a : Addr} {vs : List V} {σ : L2.St} {B : Hp} {s : SD} {Fs : List (List Addr)} (hg : JG K g tg own) (hb : JS K W tb body) (R : Rel K B1 H1 σ s Fs) (p : PostS K W B1 H1 Fs.flatten En o) (e : goFor tg body items s = some o)
    (hl : vs.length = items.length) (stay : ∀ B' H' L', Ex B' H' → SS B1 H1 Fs.flatten B' H' L' → SqT K H' a vs) (hv : ∀ (k : Nat) v d ow, vs[k]? = some v → items[k]? = some (d, ow) → ∀ B' H' L', SS B1 H1 Fs.flatten B' H' L' → RS K B' H' v d ow []) :
    ∃ W : Nat → Nat → L2.St → Hp → Prop, (∃ m, W 0 m σ H1) ∧ ∀ i m σ H, W i m σ H →
      ((Itt K a).stop i H ∧ En.nx σ H) ∨ ((Itt K a).go i H ∧ ∃ N : L2.St → Hp → Prop, (∀ σ' H', N σ' H' → ∃ m', m' < m ∧ W (i + 1) m' σ' H') ∧ ∀ x H', (Itt K a).yld i H x H' → g x σ H' fun σ2 H2 => tb { En with nx := N, ct := N, bk := En.nx } σ2 H2) := by
  refine for_tup (xs := vs) (FP K tg body o B1 H1 Fs.flatten items) ⟨B1, Fs, s, R, SS.refl _ _ _, e⟩ (fun i σ H _ ⟨B', Fs', s', R', x', _⟩ => stay B' H _ R'.ex x') (fun i x σ H hx P => ?_) fun σ H P => ?_
  · have hi := lt_of_get hx
    obtain ⟨it, hit⟩ : ∃ it, items[i]? = some it := ⟨items[i], List.getElem?_eq_getElem (by omega)⟩
    obtain ⟨d, ow⟩ := it
    exact for_step hg hb p hit P (hv i x d ow hx hit)
  · rw [hl] at P
    exact for_end p P
def rngD (lo : Int) (n : Nat) : List (D × Ow) := (List.range n).map fun (k : Nat) => (D.int (lo + (k : Int)), Ow.full)
theorem for_r {lo : Int} {n : Nat} {σ : L2.St} {s : SD} {Fs : List (List Addr)} (hg : JG K g tg own) (hb : JS K W tb body) (R : Rel K B1 H1 σ s Fs) (p : PostS K W B1 H1 Fs.flatten En o) (e : goFor tg body (rngD lo n) s = some o) :
    ∃ W : Nat → Nat → L2.St → Hp → Prop, (∃ m, W 0 m σ H1) ∧ ∀ i m σ H, W i m σ H →
      ((Itr lo n).stop i H ∧ En.nx σ H) ∨ ((Itr lo n).go i H ∧ ∃ N : L2.St → Hp → Prop, (∀ σ' H', N σ' H' → ∃ m', m' < m ∧ W (i + 1) m' σ' H') ∧ ∀ x H', (Itr lo n).yld i H x H' → g x σ H' fun σ2 H2 => tb { En with nx := N, ct := N, bk := En.nx } σ2 H2) := by
  refine for_range (FP K tg body o B1 H1 Fs.flatten (rngD lo n)) ⟨B1, Fs, s, R, SS.refl _ _ _, e⟩ (fun i σ H hi P => ?_) fun σ H P => ?_
  · have hit : (rngD lo n)[i]? = some (D.int (lo + (i : Int)), Ow.full) := by
      unfold rngD
      rw [List.getElem?_map, List.getElem?_range hi]
      rfl
    exact for_step hg hb p hit P fun B' H' L' x => Own.im rfl (.int _)
  · have hl : n = (rngD lo n).length := by simp [rngD]
    have P2 : FP K tg body o B1 H1 Fs.flatten (rngD lo n) (rngD lo n).length σ H := hl ▸ P
    exact for_end p P2
end

def sForR (tg : DT) (a : DE (List D)) (body : DS) : DS := fun s => match a s with
  | some (.ok ds s1) => match ds with
    | [.int j] => if -(2 ^ 62) ≤ j ∧ j < 2 ^ 62 then goFor tg body (rngD 0 j.toNat) s1 else none
    | [.int i, .int j] => if -(2 ^ 62) ≤ i ∧ i < 2 ^ 62 ∧ -(2 ^ 62) ≤ j ∧ j < 2 ^ 62 then goFor tg body (rngD i (j - i).toNat) s1 else none
    | _ => none
  | some (.exc x s1) => some (.exc x s1)
  | none => none
section
variable {K : PySem.W.Frag} {W : WW} {g : TG} {tb : TS} {tg : DT} {own : List Nat} {body : DS} {ta : TA} {da : DE (List D)}
theorem reL1 {G H : Hp} {vs : List V} {i : Int} (h : ReL K G H vs [.int i]) : vs = [.int i] := by
  cases h with
  | cons a b =>
    cases a
    cases b
    rfl
theorem jsForR1 (ha : JA K W ta da) (hg : JG K g tg own) (hb : JS K W tb body) (h1 : ∀ s ds s1, da s = some (.ok ds s1) → ds.length = 1) : JS K W (tFor (iRng1 ta) g tb) (sForR tg da body) := by
  intro s o e B H σ Fs R0 En p
  unfold sForR at e
  cases e1 : da s with
  | none => rw [e1] at e; cases e
  | some r =>
    rw [e1] at e
    refine ha s r e1 B H σ Fs R0 _ ?_
    cases r with
    | exc x s1 =>
      cases e
      exact fun B' H' Fs' x y => p σ B' H' Fs' x y.ss
    | ok ds s1 =>
      intro vs B' H' Fs' F R1 y z l q
      obtain ⟨q, rfl⟩ := q
      have hl := h1 _ _ _ e1
      simp only at e
      split at e
      · rename_i j
        split at e
        · rename_i hj
          exact ⟨j, reL1 q, hj.1, hj.2, for_r hg hb R1 (p.step y.ss) e⟩
        · cases e
      · simp at hl
      · cases e
end
end Dv

namespace Dv
open PySem L2 Evl

def tOr2 (t u : TE) : TE := fun σ H Q => t σ H Q ∨ u σ H Q
def iOr2 (t u : TI) : TI := fun σ H R => t σ H R ∨ u σ H R
theorem pi_or2 {X : Cx} {g e : Expr} {t u : TI} (h1 : PI X g e t) (h2 : PI X g e u) : PI X g e (iOr2 t u) :=
  ⟨fun pins s σ H Q I h => h.elim (h1.run pins s σ H Q I) (h2.run pins s σ H Q I)⟩
def itm (d : D) (ow : Ow) : D × Ow := (d, if imm d then .full else ow)
def itemsOf : D → Option (List D)
  | .lst ds => some ds
  | .sc ds => some ds
  | .tup ds => some ds
  | _ => none
abbrev noIt (ds : List D) : List (D × Ow) := ds.map fun d => itm d .no
abbrev iSq (K : PySem.W.Frag) (te : TE) : TI := iOr2 (iList K te) (iTup K te)
def sForC (tg : DT) (c : DE (D × Ow)) (body : DS) : DS := fun s => match c s with
  | some (.ok (d, _) s1) => match itemsOf d with
    | some its => goFor tg body (noIt its) s1
    | none => none
  | some (.exc x s1) => some (.exc x s1)
  | none => none
section
variable {K : PySem.W.Frag} {W : WW} {te : TE} {g : TG} {tb : TS} {tg : DT} {own : List Nat} {body : DS} {c : DE (D × Ow)}
theorem noIt_ok {B H B' H' : Hp} {vs : List V} {ds : List D} {L L' : List Addr} (r : ReL K B H vs ds) (x : SS B H L B' H' L') : ∀ (k : Nat) v d ow, vs[k]? = some v → (noIt ds)[k]? = some (d, ow) → RS K B' H' v d ow [] := by
  intro k v d ow hv hi
  rw [List.getElem?_map] at hi
  cases e : ds[k]? with
  | none => rw [e] at hi; cases hi
  | some d0 =>
    rw [e] at hi
    cases hi
    obtain ⟨u, h1, h2⟩ := r.get e
    rw [hv] at h1
    cases h1
    have h3 := h2.mono x.exB x.tk
    show RS K B' H' v d (if imm d then .full else .no) []
    split
    · rename_i hm
      exact Own.im hm (h3.any hm)
    · exact ⟨h3, rfl⟩
theorem jsForC (hc : JC K W te c) (hg : JG K g tg own) (hb : JS K W tb body) : JS K W (tFor (iSq K te) g tb) (sForC tg c body) := by
  intro s o e B H σ Fs R0 En p
  unfold sForC at e
  cases e1 : c s with
  | none => rw [e1] at e; cases e
  | some r =>
    rw [e1] at e
    have hh := hc s r e1 B H σ Fs R0
    cases r with
    | exc x s1 =>
      cases e
      exact .inl (hh _ fun B' H' Fs' x y => p σ B' H' Fs' x y.ss)
    | ok q s1 =>
      obtain ⟨d, ow⟩ := q
      have key : ∀ (v : V) (B' H' : Hp) (Fs' : List (List Addr)) (F : List Addr), Rel K B' H' σ s1 Fs' → ES B H Fs.flatten B' H' (F ++ Fs'.flatten) → (∀ x, w B' x + (F ++ Fs'.flatten).count x ≤ 1) → (∀ x ∈ F, H' x ≠ none) → RS K B' H' v d ow F →
          Rel K (frz B' H' F) H' σ s1 Fs' ∧ SS B H Fs.flatten (frz B' H' F) H' Fs'.flatten ∧ Re K (frz B' H' F) H' v d := fun v B' H' Fs' F R1 y z l q =>
        ⟨R1.know z, (y.let_go F _ l (fun a => List.count_append) R1.ex).ss, q.fz (frz_ex R1.ex) fun a ha => frz_in ha⟩
      cases d with
      | lst ds =>
        refine .inl (hh _ fun v B' H' Fs' F R1 y z l q => ?_)
        obtain ⟨R2, y2, q2⟩ := key v B' H' Fs' F R1 y z l q
        cases q2 with
        | lst hp hr =>
          rename_i a vs
          have hs : ∀ B2 H2 L2, Ex B2 H2 → SS (frz B' H' F) H' Fs'.flatten B2 H2 L2 → SqL K H2 a vs := fun B2 H2 L2 e2 x2 => sq_of (e2 _ _ (x2.exB _ _ hp))
          exact ⟨a, rfl, ⟨vs, sq_of (R2.ex _ _ hp)⟩, for_l (B := B) hg hb R2 (p.step y2) e (by rw [hr.length, List.length_map]) hs fun k v d ow h1 h2 B2 H2 L2 x2 => noIt_ok hr x2 k v d ow h1 h2⟩
      | sc ds =>
        refine .inl (hh _ fun v B' H' Fs' F R1 y z l q => ?_)
        obtain ⟨R2, y2, q2⟩ := key v B' H' Fs' F R1 y z l q
        cases q2 with
        | sc hp hr =>
          rename_i a vs
          have hs : ∀ B2 H2 L2, Ex B2 H2 → SS (frz B' H' F) H' Fs'.flatten B2 H2 L2 → SqL K H2 a vs := fun B2 H2 L2 e2 x2 => (x2.tk.sf hp).l
          exact ⟨a, rfl, ⟨vs, hp.l⟩, for_l (B := B) hg hb R2 (p.step y2) e (by rw [hr.length, List.length_map]) hs fun k v d ow h1 h2 B2 H2 L2 x2 => noIt_ok hr x2 k v d ow h1 h2⟩
      | tup ds =>
        refine .inr (hh _ fun v B' H' Fs' F R1 y z l q => ?_)
        obtain ⟨R2, y2, q2⟩ := key v B' H' Fs' F R1 y z l q
        cases q2 with
        | tup hp hr =>
          rename_i a vs
          have hs : ∀ B2 H2 L2, Ex B2 H2 → SS (frz B' H' F) H' Fs'.flatten B2 H2 L2 → SqT K H2 a vs := fun B2 H2 L2 e2 x2 => x2.tk.sq (SqT.of hp)
          exact ⟨a, rfl, ⟨vs, SqT.of hp⟩, for_t (B := B) hg hb R2 (p.step y2) e (by rw [hr.length, List.length_map]) hs fun k v d ow h1 h2 B2 H2 L2 x2 => noIt_ok hr x2 k v d ow h1 h2⟩
      | _ => cases e
end

def goWh (c : DE Bool) (body : DS) : Nat → DS
  | 0, _ => none
  | n + 1, s => match c s with
    | some (.ok true s1) => match body s1 with
      | some (.next s2) => goWh c body n s2
      | some (.cont s2) => goWh c body n s2
      | some (.brk s2) => some (.next s2)
      | x => x
    | some (.ok false s1) => some (.next s1)
    | some (.exc x s1) => some (.exc x s1)
    | none => none
def fuel : Nat := 1208925819614629174706176
def sWhile (c : DE Bool) (body : DS) : DS := goWh c body fuel
section
variable {K : PySem.W.Frag} {W : WW} {tc : TT} {tb : TS} {c : DE Bool} {body : DS}
theorem jsWhile (hc : JT K W tc c) (hb : JS K W tb body) : JS K W (tWhile tc tb) (sWhile c body) := by
  intro s o e B H σ Fs R0 En p
  refine ⟨fun m σ' H' => ∃ B' Fs' s', Rel K B' H' σ' s' Fs' ∧ SS B H Fs.flatten B' H' Fs'.flatten ∧ goWh c body m s' = some o, ⟨fuel, B, Fs, s, R0, SS.refl _ _ _, e⟩, ?_⟩
  rintro m σ1 H1 ⟨B1, Fs1, s1, R1, x1, e1⟩
  cases m with
  | zero => cases e1
  | succ m =>
    unfold goWh at e1
    cases e2 : c s1 with
    | none => rw [e2] at e1; cases e1
    | some r =>
      rw [e2] at e1
      refine hc s1 r e2 B1 H1 σ1 Fs1 R1 _ ?_
      cases r with
      | exc x s2 =>
        cases e1
        exact fun B' H' Fs' x y => p σ1 B' H' Fs' x (x1.trans y.ss)
      | ok b s2 =>
        intro v B2 H2 Fs2 F R2 y z l q
        obtain ⟨rfl, rfl⟩ := q
        cases v with
        | false =>
          cases e1
          exact p σ1 B2 H2 Fs2 R2 (x1.trans y.ss)
        | true =>
          have e1 : (match body s2 with
            | some (.next s2) => goWh c body m s2
            | some (.cont s2) => goWh c body m s2
            | some (.brk s2) => some (.next s2)
            | x => x) = some o := e1
          refine ⟨_, fun σ' H' h => ⟨m, Nat.lt_succ_self m, h⟩, ?_⟩
          cases e3 : body s2 with
          | none => rw [e3] at e1; cases e1
          | some r2 =>
            rw [e3] at e1
            refine hb s2 r2 e3 B2 H2 σ1 Fs2 R2 _ ?_
            have x2 := x1.trans y.ss
            cases r2 with
            | next s3 => exact fun σ3 B3 H3 Fs3 y1 y2 => ⟨B3, Fs3, s3, y1, x2.trans y2, e1⟩
            | cont s3 => exact fun σ3 B3 H3 Fs3 y1 y2 => ⟨B3, Fs3, s3, y1, x2.trans y2, e1⟩
            | brk s3 =>
              cases e1
              exact fun σ3 B3 H3 Fs3 y1 y2 => p σ3 B3 H3 Fs3 y1 (x2.trans y2)
            | ret d ow =>
              cases e1
              exact fun v3 B3 H3 F3 y1 y2 y3 y4 => p v3 B3 H3 F3 y1 (x2.trans y2) y3 y4
            | retS d ow s3 =>
              cases e1
              exact fun v3 σ3 B3 H3 F3 Fs3 y1 y2 y3 y4 => p v3 σ3 B3 H3 F3 Fs3 y1 (x2.trans y2) y3 y4
            | exc x s3 =>
              cases e1
              exact fun σ3 B3 H3 Fs3 y1 y2 => p σ3 B3 H3 Fs3 y1 (x2.trans y2)
end

def wipeD : List Nat → SD → SD
  | [], s => s
  | i :: is, s => (wipeD is s).set i none
def okE (m : Bool) (e : D) (eo : Ow) : Bool := match m with
  | true => decide (eo = .full)
  | false => true
def goC (m : Bool) (tg : DT) (cond : DE Bool) (elt : DE (D × Ow)) (own : List Nat) : List (D × Ow) → List D → DE (List D)
  | [], acc, s => some (.ok acc s)
  | (d, ow) :: r, acc, s => match tg d ow s with
    | none => none
    | some s1 => match cond s1 with
      | some (.ok false s2) => goC m tg cond elt own r acc (wipeD own s2)
      | some (.ok true s2) => match elt s2 with
        | some (.ok (e, eo) s3) => if (okE m e eo && decide (acc.length < 1000000)) = true then goC m tg cond elt own r (acc ++ [e]) (wipeD own s3) else none
        | _ => none
      | _ => none
section
variable {K : PySem.W.Frag} {B H B' H' : Hp} {σ : L2.St} {s : SD} {Fs : List (List Addr)} {own : List Nat}
def wipeF : List Nat → List (List Addr) → List (List Addr)
  | [], Fs => Fs
  | i :: is, Fs => (wipeF is Fs).set i []
theorem wipeD_len : ∀ (own : List Nat) (s : SD), (wipeD own s).length = s.length
  | [], _ => rfl
  | i :: is, s => by unfold wipeD; rw [List.length_set, wipeD_len is s]
theorem wipeF_len : ∀ (own : List Nat) (s : List (List Addr)), (wipeF own s).length = s.length
  | [], _ => rfl
  | i :: is, s => by unfold wipeF; rw [List.length_set, wipeF_len is s]
theorem wipeF_le : ∀ (own : List Nat) (Fs : List (List Addr)) (a : Addr), (wipeF own Fs).flatten.count a ≤ Fs.flatten.count a
  | [], _, _ => Nat.le_refl _
  | i :: is, Fs, a => by
    unfold wipeF
    have h1 := wipeF_le is Fs a
    by_cases hi : i < (wipeF is Fs).length
    · have h2 := flat_set (F := []) hi a
      simp at h2
      omega
    · rw [List.set_eq_of_length_le (by omega)]
      exact h1
theorem wipeD_none : ∀ (own : List Nat) (s : SD) (i : Nat) (x : D × Ow), (wipeD own s)[i]? = some (some x) → s[i]? = some (some x) ∧ i ∉ own
  | [], s, i, x, h => ⟨h, by simp⟩
  | j :: is, s, i, x, h => by
    unfold wipeD at h
    by_cases e : i = j
    · subst e
      by_cases hl : i < (wipeD is s).length
      · rw [List.getElem?_set_self hl] at h; cases h
      · rw [List.getElem?_eq_none (by rw [List.length_set]; omega)] at h; cases h
    · rw [List.getElem?_set_ne (Ne.symm e)] at h
      obtain ⟨h1, h2⟩ := wipeD_none is s i x h
      exact ⟨h1, by simp [e, h2]⟩
theorem wipeF_out : ∀ (own : List Nat) (Fs : List (List Addr)) (i : Nat), i ∉ own → (wipeF own Fs).getD i [] = Fs.getD i []
  | [], _, _, _ => rfl
  | j :: is, Fs, i, h => by
    unfold wipeF
    have h1 : i ≠ j := fun e => h (by simp [e])
    have h2 : i ∉ is := fun m => h (by simp [m])
    rw [List.getD_eq_getElem?_getD, List.getElem?_set_ne (Ne.symm h1), ← List.getD_eq_getElem?_getD]
    exact wipeF_out is Fs i h2
theorem wipe_out : ∀ (own : List Nat) (σ : L2.St) (i : Nat), i ∉ own → (wipe σ own)[i]? = σ[i]?
  | [], _, _, _ => rfl
  | j :: is, σ, i, h => by
    unfold wipe
    have h1 : i ≠ j := fun e => h (by simp [e])
    have h2 : i ∉ is := fun m => h (by simp [m])
    rw [List.getElem?_set_ne (Ne.symm h1)]
    exact wipe_out is σ i h2
theorem Rel.wipe (r : Rel K B H σ s Fs) (own : List Nat) : Rel K B H (L2.wipe σ own) (wipeD own s) (wipeF own Fs) := by
  refine ⟨r.ex, by rw [wipeD_len, wipe_length]; exact r.l1, by rw [wipeF_len, wipe_length]; exact r.l2, fun i d ow e => ?_, fun a => ?_, fun a ha => r.lv a ?_⟩
  · obtain ⟨h1, h2⟩ := wipeD_none own s i _ e
    obtain ⟨v, h3, h4⟩ := r.at_ i d ow h1
    exact ⟨v, by rw [wipe_out own σ i h2]; exact h3, by rw [wipeF_out own Fs i h2]; exact h4⟩
  · have h1 := wipeF_le own Fs a
    have h2 := r.wf a
    rw [← tot_flat]
    omega
  · have h1 := mem_count ha
    have h2 := wipeF_le own Fs a
    exact count_mem (by omega)
theorem Rel.unwipe (r : Rel K B H (L2.wipe σ own) s Fs) (hs : wipeD own s = s) : Rel K B H σ s Fs := by
  refine ⟨r.ex, by rw [r.l1, wipe_length], by rw [r.l2, wipe_length], fun i d ow e => ?_, r.wt, r.lv⟩
  obtain ⟨v, h1, h2⟩ := r.at_ i d ow e
  exact ⟨v, (wipe_some h1).1, h2⟩
theorem wipeD_set (own : List Nat) (s : SD) (i : Nat) (h : i ∈ own) : (wipeD own s).set i none = wipeD own s := by
  induction own with
  | nil => cases h
  | cons j is ih =>
    unfold wipeD
    by_cases e : i = j
    · subst e
      rw [List.set_set]
    · have hm : i ∈ is := (List.mem_cons.mp h).resolve_left e
      rw [List.set_comm _ _ (Ne.symm e), ih hm]
theorem wipeD_idem : ∀ (own : List Nat) (s : SD), wipeD own (wipeD own s) = wipeD own s := by
  intro own
  have key : ∀ (l : List Nat) (s : SD), (∀ i ∈ l, i ∈ own) → wipeD l (wipeD own s) = wipeD own s := by
    intro l
    induction l with
    | nil => intro s _; rfl
    | cons j is ih =>
      intro s h
      show (wipeD is (wipeD own s)).set j none = wipeD own s
      rw [ih s fun i hi => h i (by simp [hi])]
      exact wipeD_set own s j (h j (by simp))
  exact fun s => key own s fun _ h => h
theorem Rel.mut (r : Rel K B H σ s Fs) {p : Addr} {xs ys : List V} (hB : B p = none) (hF : p ∉ Fs.flatten) (hp : H p = some (.lst xs)) : Rel K B (upd H p (.lst ys)) σ s Fs := by
  have tk : Tk H (upd H p (.lst ys)) := ⟨fun q zs h => by rw [upd_ne (ne_of h hp (fun z => nomatch z))]; exact h, fun q o u h => by rw [upd_ne (ne_of h hp (fun z => nomatch z))]; exact h⟩
  refine ⟨fun a o h => ?_, r.l1, r.l2, fun i d ow e => ?_, r.wt, fun a ha => ?_⟩
  · rw [upd_ne (fun q => by rw [q, hB] at h; cases h)]
    exact r.ex a o h
  · obtain ⟨v, h1, h2⟩ := r.at_ i d ow e
    refine ⟨v, h1, h2.mono (Ex.refl _) tk fun a ha => upd_ne fun q => hF ?_⟩
    subst q
    exact List.mem_flatten.mpr ⟨_, getD_mem ha, ha⟩
  · by_cases q : a = p
    · subst q; rw [upd_same]; exact fun z => nomatch z
    · rw [upd_ne q]; exact r.lv a ha
theorem ES.mutNew {L L' : List Addr} (x : ES B H L B' H' L') (bH : Ex B H) {p : Addr} {o : HO} (hp : H p = none) : ES B H L B' (upd H' p o) L' := by
  refine ⟨x.exB, x.exH.mut hp, x.wt, fun a u h => ?_⟩
  have hn : a ≠ p := fun q => by
    have := frz_le bH _ _ h
    rw [q, hp] at this
    cases this
  have h2 := x.vw _ _ h
  by_cases m : a ∈ L'
  · rw [frz_in m] at h2 ⊢
    rw [upd_ne hn]; exact h2
  · rw [frz_out m] at h2 ⊢
    exact h2
theorem goC_wiped {m : Bool} {tg : DT} {cond : DE Bool} {elt : DE (D × Ow)} : ∀ {items : List (D × Ow)} {acc : List D} {s : SD} {a : List D} {s' : SD}, wipeD own s = s → goC m tg cond elt own items acc s = some (.ok a s') → wipeD own s' = s'
  | [], acc, s, a, s', h, e => by
    cases e
    exact h
  | (d, ow) :: r, acc, s, a, s', h, e => by
    unfold goC at e
    split at e
    · cases e
    · split at e
      · exact goC_wiped (wipeD_idem own _) e
      · split at e
        · split at e
          · exact goC_wiped (wipeD_idem own _) e
          · cases e
        · cases e
      · cases e
theorem goC_ok {m : Bool} {tg : DT} {cond : DE Bool} {elt : DE (D × Ow)} : ∀ {items : List (D × Ow)} {acc : List D} {s : SD} {r : Er (List D)}, goC m tg cond elt own items acc s = some r → ∃ a s', r = .ok a s'
  | [], acc, s, r, e => by
    cases e
    exact ⟨_, _, rfl⟩
  | (d, ow) :: _, acc, s, r, e => by
    unfold goC at e
    split at e
    · cases e
    · split at e
      · exact goC_ok e
      · split at e
        · split at e
          · exact goC_ok e
          · cases e
        · cases e
      · cases e
end
abbrev W0 : WW := fun _ _ _ => False
section
variable {K : PySem.W.Frag} {g : TG} {tg : DT} {tt : TT} {cond : DE Bool} {te : TE} {elt : DE (D × Ow)} {own : List Nat} {items : List (D × Ow)} {B1 H1 : Hp} {σ : L2.St} {Fs1 : List (List Addr)} {R : Er (List D)} {Dp : Addr} {m : Bool}
def CP (m : Bool) (K : PySem.W.Frag) (tg : DT) (cond : DE Bool) (elt : DE (D × Ow)) (own : List Nat) (items : List (D × Ow)) (B1 H1 : Hp) (σ : L2.St) (Fs1 : List (List Addr)) (R : Er (List D)) (Dp : Addr) (k : Nat) (H : Hp) : Prop :=
  ∃ B' Fs' s' vs acc F, Rel K B' H (wipe σ own) s' Fs' ∧ wipeD own s' = s' ∧ H Dp = some (.lst vs) ∧ rCL K B' H Fs' vs (acc, m) F ∧ (∀ a ∈ F, H a ≠ none) ∧ ES B1 H1 Fs1.flatten B' H ((Dp :: F) ++ Fs'.flatten) ∧ (∀ a, w B' a + ((Dp :: F) ++ Fs'.flatten).count a ≤ 1) ∧ goC m tg cond elt own (items.drop k) acc s' = some R
theorem wipe_in : ∀ (own : List Nat) (σ : L2.St) (i : Nat), i ∈ own → i < σ.length → (wipe σ own)[i]? = some none
  | j :: is, σ, i, h, hl => by
    unfold wipe
    by_cases e : i = j
    · subst e
      exact List.getElem?_set_self (by rw [wipe_length]; exact hl)
    · rw [List.getElem?_set_ne (Ne.symm e)]
      exact wipe_in is σ i ((List.mem_cons.mp h).resolve_left e) hl
theorem wipe_eq {σ τ : L2.St} {own : List Nat} (hl : σ.length = τ.length) (h : ∀ i, i ∉ own → σ[i]? = τ[i]?) : wipe σ own = wipe τ own := by
  refine List.ext_getElem? fun i => ?_
  by_cases m : i ∈ own
  · by_cases q : i < σ.length
    · rw [wipe_in own σ i m q, wipe_in own τ i m (by omega)]
    · rw [List.getElem?_eq_none (by rw [wipe_length]; omega), List.getElem?_eq_none (by rw [wipe_length]; omega)]
  · rw [wipe_out own σ i m, wipe_out own τ i m, h i m]
theorem wipe_wipe (σ : L2.St) (own : List Nat) : wipe (wipe σ own) own = wipe σ own := wipe_eq (wipe_length _ _) fun i hi => wipe_out own σ i hi
theorem ES.lose {B H B' H' : Hp} {L1 L M2 P : List Addr} (x : ES B H L1 B' H' (P ++ L)) (z : ∀ a, w B' a + (P ++ L).count a ≤ 1) (hl : ∀ a ∈ L, H' a ≠ none) (hb : Ex B' H') (le : ∀ a, M2.count a ≤ L.count a) :
    ∃ M, ES B H L1 (frz B' H' M) H' (P ++ M2) ∧ (∀ a, w (frz B' H' M) a + (P ++ M2).count a ≤ 1) ∧ (∀ a, w B' a + (M ++ M2).count a ≤ 1) := by
  refine ⟨L.filter fun a => decide (a ∉ M2), ?_⟩
  have cnt : ∀ a, L.count a = (L.filter fun a => decide (a ∉ M2)).count a + M2.count a := fun a => by
    have h1 := z a
    have h2 := le a
    rw [List.count_append] at h1
    by_cases m : a ∈ M2
    · have h3 := mem_count m
      have h4 : (L.filter fun a => decide (a ∉ M2)).count a = 0 := List.count_eq_zero.mpr fun q => by
        have := (List.mem_filter.mp q).2
        simp [m] at this
      omega
    · have h3 : M2.count a = 0 := List.count_eq_zero.mpr m
      rw [List.count_filter (by simp [m])]
      omega
  have y := x.let_go (L.filter fun a => decide (a ∉ M2)) (P ++ M2) (fun a ha => hl a (List.mem_filter.mp ha).1) (fun a => by rw [List.count_append, List.count_append, cnt a]; omega) hb
  refine ⟨y, fun a => ?_, fun a => ?_⟩
  · have h1 := frz_w B' H' (L.filter fun a => decide (a ∉ M2)) a
    have h2 := z a
    have h3 := cnt a
    rw [List.count_append] at h2 ⊢
    omega
  · have h2 := z a
    have h3 := cnt a
    rw [List.count_append] at h2 ⊢
    omega
theorem rCL.mono {vs : List V} {ds : List D} {b : Bool} {F : List Addr} {B H B' H' : Hp} {Fs Fs' : List (List Addr)} (q : rCL K B H Fs vs (ds, b) F) (e : Ex B B') (t : Tk H H') (k : ∀ a ∈ F, H' a = H a) : rCL K B' H' Fs' vs (ds, b) F := by
  cases b with
  | true => exact OwnL.mono t q k
  | false => exact ⟨q.1.mono e t, q.2⟩
theorem ex_keep {H H' : Hp} {F : List Addr} (e : Ex H H') (l : ∀ a ∈ F, H a ≠ none) : ∀ a ∈ F, H' a = H a := fun a ha => by
  cases q : H a with
  | none => exact absurd q (l a ha)
  | some y => exact e _ _ q
theorem comp_step2 (hg : JG K g tg own) (ht : JT K W0 tt cond) (he : JC K W0 te elt) (b1 : Ex B1 H1) (hD : H1 Dp = none) {k : Nat} {d : D} {ow : Ow} (hk : items[k]? = some (d, ow)) {v : V} {H : Hp} (P : CP m K tg cond elt own items B1 H1 σ Fs1 R Dp k H)
    (hv : ∀ B' L', ES B1 H1 Fs1.flatten B' H L' → RS K B' H v d ow []) :
    g v (wipe σ own) H fun σ2 H2 => wipe σ2 own = wipe σ own ∧ tt σ2 H2 fun b H3 =>
      if b = true then te σ2 H3 fun y H4 => ∃ acc, H4 Dp = some (.lst acc) ∧ acc.length < sizeLine ∧ CP m K tg cond elt own items B1 H1 σ Fs1 R Dp (k + 1) (upd H4 Dp (.lst (acc ++ [y]))) else CP m K tg cond elt own items B1 H1 σ Fs1 R Dp (k + 1) H3 := by
  obtain ⟨B', Fs', s', vs, acc, F, R1, hw1, hDl, oF, lF0, x1, z1, e⟩ := P
  have hd : items.drop k = (d, ow) :: items.drop (k + 1) := by
    obtain ⟨h1, h2⟩ := List.getElem?_eq_some_iff.mp hk
    rw [List.drop_eq_getElem_cons h1, h2]
  rw [hd] at e
  unfold goC at e
  have lF : ∀ x ∈ Dp :: F, H x ≠ none := fun x hx => by
    rcases List.mem_cons.mp hx with rfl | hx
    · rw [hDl]; exact fun z => nomatch z
    · exact lF0 x hx
  cases e1 : tg d ow s' with
  | none => rw [e1] at e; cases e
  | some s1 =>
    rw [e1] at e
    refine hg d ow s' s1 e1 B' H (wipe σ own) Fs' v [] R1 (hv _ _ x1) R1.val _ fun σ2 Fs2 R2 c2 u1 u2 => ?_
    have hwp : wipe σ2 own = wipe σ own := by
      rw [← wipe_wipe σ own]
      exact wipe_eq u1 u2
    refine ⟨hwp, ?_⟩
    have c2' : ∀ a, Fs2.flatten.count a ≤ Fs'.flatten.count a := fun a => by simpa using c2 a
    obtain ⟨M, x2, z2, z2'⟩ := x1.lose z1 R1.lv R1.ex c2'
    have R3 := R2.know z2'
    -- what holds behind a turn
    have back : ∀ {B3 H3 : Hp} {Fs3 : List (List Addr)} {s3 : SD} {acc3 : List D} {vs3 : List V} {F3 : List Addr}, Rel K B3 H3 σ2 s3 Fs3 → H3 Dp = some (.lst vs3) → rCL K B3 H3 Fs3 vs3 (acc3, m) F3 → (∀ a ∈ F3, H3 a ≠ none) → ES B1 H1 Fs1.flatten B3 H3 ((Dp :: F3) ++ Fs3.flatten) →
        (∀ a, w B3 a + ((Dp :: F3) ++ Fs3.flatten).count a ≤ 1) → goC m tg cond elt own (items.drop (k + 1)) acc3 (wipeD own s3) = some R → CP m K tg cond elt own items B1 H1 σ Fs1 R Dp (k + 1) H3 := by
      intro B3 H3 Fs3 s3 acc3 vs3 F3 r3 d3 o3 l3 x3 z3 e3
      obtain ⟨M3, y1, y2, y3⟩ := x3.lose z3 r3.lv r3.ex (wipeF_le own Fs3)
      have r4 := (r3.wipe own).know y3
      rw [hwp] at r4
      exact ⟨_, _, _, vs3, acc3, F3, r4, wipeD_idem own s3, d3, o3.mono (frz_ex r3.ex) (Tk.refl _) fun _ _ => rfl, l3, y1, y2, e3⟩
    cases ec : cond s1 with
    | none => simp only [ec] at e; cases e
    | some rc =>
      cases rc with
      | exc c s2 => simp only [ec] at e; cases e
      | ok b s2 =>
        refine J.pend ht ec R3 z2 lF (fun b' s2' er bv B4 H4 Fs4 G R4 x4 z4 l4 q4 => ?_) (fun c s2' er => nomatch er)
        cases er
        obtain ⟨rfl, rfl⟩ := q4
        have x4' := x2.trans x4
        have D4 : H4 Dp = some (.lst vs) := x4.exH _ _ hDl
        have l4' : ∀ a ∈ F, H4 a ≠ none := fun a ha => ex_ne x4.exH (lF0 a ha)
        have o4 : rCL K B4 H4 Fs4 vs (acc, m) F := (oF.mono (frz_ex R1.ex) (Tk.refl _) fun _ _ => rfl : rCL K (frz B' H M) H Fs2 vs (acc, m) F).mono x4.exB (Tk.of_ex x4.exH) (ex_keep x4.exH lF0)
        cases bv with
        | false =>
          show CP m K tg cond elt own items B1 H1 σ Fs1 R Dp (k + 1) H4
          exact back R4 D4 o4 l4' x4' z4 (by simpa only [ec] using e)
        | true =>
          show te σ2 H4 _
          cases ee : elt s2 with
          | none => simp only [ec, ee] at e; cases e
          | some re =>
            cases re with
            | exc c s3 => simp only [ec, ee] at e; cases e
            | ok q s3 =>
              obtain ⟨de, eo⟩ := q
              have e9 : (if (okE m de eo && decide (acc.length < 1000000)) = true then goC m tg cond elt own (items.drop (k + 1)) (acc ++ [de]) (wipeD own s3) else none) = some R := by simpa only [ec, ee] using e
              split at e9
              · rename_i hc
                have hc2 := Bool.and_eq_true_iff.mp hc
                have hf := hc2.1
                have hz := of_decide_eq_true hc2.2
                have lF4 : ∀ x ∈ Dp :: F, H4 x ≠ none := fun x hx => ex_ne x4.exH (lF x hx)
                refine J.pend he ee R4 z4 lF4 (fun q' s3' er ev B5 H5 Fs5 G5 R5 x5 z5 l5 q5 => ?_) (fun c s3' er => nomatch er)
                cases er
                have D5 : H5 Dp = some (.lst vs) := x5.exH _ _ D4
                have l5' : ∀ a ∈ F, H5 a ≠ none := fun a ha => ex_ne x5.exH (l4' a ha)
                have o5 : rCL K B5 H5 Fs5 vs (acc, m) F := o4.mono x5.exB (Tk.of_ex x5.exH) (ex_keep x5.exH l4')
                have len : vs.length = acc.length := (rCL_go (G := H5) o5 R5.ex fun _ _ => rfl).length
                refine ⟨vs, D5, by rw [len]; exact Nat.lt_of_lt_of_le hz (by decide), ?_⟩
                have x5' := x4'.trans x5
                have zD := z5 Dp
                have cD : (Dp :: F ++ (G5 ++ Fs5.flatten)).count Dp = 1 + (F ++ (G5 ++ Fs5.flatten)).count Dp := by
                  rw [List.cons_append, List.count_cons_self]; omega
                have hB5 : B5 Dp = none := w_zero (by omega)
                have nF : Dp ∉ F := fun mm => by have := mem_count mm; rw [cD, List.count_append] at zD; omega
                have nG : Dp ∉ G5 := fun mm => by have := mem_count mm; rw [cD, List.count_append, List.count_append] at zD; omega
                have nS : Dp ∉ Fs5.flatten := fun mm => by have := mem_count mm; rw [cD, List.count_append, List.count_append] at zD; omega
                have tk : Tk H5 (upd H5 Dp (.lst (vs ++ [ev]))) := ⟨fun q zs h => by rw [upd_ne (ne_of h D5 (fun z => nomatch z))]; exact h, fun q o u h => by rw [upd_ne (ne_of h D5 (fun z => nomatch z))]; exact h⟩
                have kF : ∀ a ∈ F, upd H5 Dp (.lst (vs ++ [ev])) a = H5 a := fun a ha => upd_ne fun q => nF (q ▸ ha)
                have lv2 : ∀ a, H5 a ≠ none → upd H5 Dp (.lst (vs ++ [ev])) a ≠ none := fun a ha => by
                  by_cases q : a = Dp
                  · subst q; rw [upd_same]; exact fun z => nomatch z
                  · rw [upd_ne q]; exact ha
                have R6 := R5.mut (ys := vs ++ [ev]) hB5 nS D5
                cases m with
                | true =>
                  have hf2 : eo = .full := of_decide_eq_true hf
                  subst hf2
                  have q5 : Own K H5 ev de G5 := q5
                  have oo : OwnL K (upd H5 Dp (.lst (vs ++ [ev]))) (vs ++ [ev]) (acc ++ [de]) (F ++ (G5 ++ [])) :=
                    OwnL.append (OwnL.mono tk o5 kF) (.cons (q5.mono tk fun a ha => upd_ne fun q => nG (q ▸ ha)) .nil)
                  have cc : ∀ a, (Dp :: F ++ (G5 ++ Fs5.flatten)).count a = (Dp :: (F ++ (G5 ++ [])) ++ Fs5.flatten).count a := fun a => by
                    rw [List.append_nil, List.cons_append, List.cons_append, List.append_assoc]
                  refine back R6 upd_same oo (fun a ha => ?_) ?_ (fun a => by rw [← cc a]; exact z5 a) e9
                  · rw [List.append_nil] at ha
                    exact lv2 a ((List.mem_append.mp ha).elim (l5' a) (l5 a))
                  · exact (x5'.mutNew b1 hD).cong (fun _ => rfl) cc
                | false =>
                  obtain ⟨o5, rfl⟩ := o5
                  -- what it owns is let go
                  have zz : ∀ a, w B5 a + (G5 ++ Fs5.flatten).count a ≤ 1 := fun a => by
                    have := z5 a
                    rw [List.count_append] at this
                    omega
                  have R7 := R5.know zz
                  have y7 := x5'.let_go G5 (Dp :: [] ++ Fs5.flatten) l5 (fun a => by
                    simp only [List.count_append]; omega) R5.ex
                  have hB7 : frz B5 H5 G5 Dp = none := by rw [frz_out nG]; exact hB5
                  have q7 : Re K (frz B5 H5 G5) H5 ev de := (show RS K B5 H5 ev de eo G5 from q5).fz (frz_ex R5.ex) fun a ha => frz_in ha
                  refine back (R7.mut (ys := vs ++ [ev]) hB7 nS D5) upd_same (F3 := []) ⟨ReL.mono (frz_ex R5.ex) tk o5 |>.append (.cons (q7.mono (Ex.refl _) tk) .nil), rfl⟩ (fun a ha => nomatch ha) (y7.mutNew b1 hD) (fun a => ?_) e9
                  have h1 := z5 a
                  have h2 := frz_w B5 H5 G5 a
                  rw [List.count_append, List.count_append] at h1
                  rw [List.count_append]
                  omega
              · cases e9
theorem comp_step (hg : JG K g tg own) (ht : JT K W0 tt cond) (he : JC K W0 te elt) (b1 : Ex B1 H1) (hD : H1 Dp = none) {k : Nat} {d : D} {ow : Ow} (hk : items[k]? = some (d, ow)) {v : V} {H : Hp} (P : CP m K tg cond elt own items B1 H1 σ Fs1 R Dp k H)
    (hv : ∀ B' H' L', ES B1 H1 Fs1.flatten B' H' L' → RS K B' H' v d ow []) :
    g v (wipe σ own) H fun σ2 H2 => wipe σ2 own = wipe σ own ∧ tt σ2 H2 fun b H3 =>
      if b = true then te σ2 H3 fun y H4 => ∃ acc, H4 Dp = some (.lst acc) ∧ acc.length < sizeLine ∧ CP m K tg cond elt own items B1 H1 σ Fs1 R Dp (k + 1) (upd H4 Dp (.lst (acc ++ [y]))) else CP m K tg cond elt own items B1 H1 σ Fs1 R Dp (k + 1) H3 :=
  comp_step2 hg ht he b1 hD hk P fun B' L' x => hv B' H L' x
def cComp (m : Bool) (tg : DT) (own : List Nat) (src : DE D) (cond : DE Bool) (elt : DE (D × Ow)) : DE (D × Ow) := fun s => match src s with
  | some (.ok d s1) => match itemsOf d with
    | some its => match goC m tg cond elt own (noIt its) [] (wipeD own (fzAll s1)) with
      | some (.ok es s2) => if m = true then some (.ok (.lst es, .full) s1) else some (.ok (.lst es, .top) s2)
      | _ => none
    | none => none
  | some (.exc x s1) => some (.exc x s1)
  | none => none
def cCompR (m : Bool) (tg : DT) (own : List Nat) (a : DE (List D)) (cond : DE Bool) (elt : DE (D × Ow)) : DE (D × Ow) := fun s => match a s with
  | some (.ok ds s1) =>
    let go := fun (its : List (D × Ow)) => match goC m tg cond elt own its [] (wipeD own (fzAll s1)) with
      | some (.ok es s2) => if m = true then some (.ok (.lst es, .full) s1) else some (.ok (.lst es, .top) s2)
      | _ => none
    match ds with
    | [.int j] => if -(2 ^ 62) ≤ j ∧ j < 2 ^ 62 then go (rngD 0 j.toNat) else none
    | [.int i, .int j] => if -(2 ^ 62) ≤ i ∧ i < 2 ^ 62 ∧ -(2 ^ 62) ≤ j ∧ j < 2 ^ 62 then go (rngD i (j - i).toNat) else none
    | _ => none
  | some (.exc x s1) => some (.exc x s1)
  | none => none
section
variable {W : WW} {s1 s2 : SD} {es : List D} {Fs : List (List Addr)} {B H : Hp}
theorem comp_start (R0 : Rel K B1 H1 σ s1 Fs) (hD : H1 Dp = none) (e : goC m tg cond elt own items [] (wipeD own (fzAll s1)) = some R) :
    CP m K tg cond elt own items (frz B1 H1 Fs.flatten) H1 σ (Fs.map fun _ => []) R Dp 0 (upd H1 Dp (.lst [])) := by
  have R2 := R0.letAll.wipe own
  have hw : ∀ a, (wipeF own (Fs.map fun _ => ([] : List Addr))).flatten.count a = 0 := fun a => by
    have := wipeF_le own (Fs.map fun _ => ([] : List Addr)) a
    rw [flat_nil] at this
    simpa using this
  have ex : Ex H1 (upd H1 Dp (.lst [])) := Ex.new hD
  have nk : frz B1 H1 Fs.flatten Dp = none := by
    cases q : frz B1 H1 Fs.flatten Dp with
    | none => rfl
    | some o => have := frz_le R0.ex _ _ q; rw [hD] at this; cases this
  refine ⟨_, _, _, [], [], [], R2.ext ex, wipeD_idem own _, upd_same, ?_, (fun _ h => nomatch h), ?_, fun a => ?_, by rw [List.drop_zero]; exact e⟩
  · cases m with
    | true => exact OwnL.nil
    | false => exact ⟨.nil, rfl⟩
  · have h := ES.more (B := frz B1 H1 Fs.flatten) (L := []) (F := [Dp]) (frz_le R0.ex) ex (fun a ha => by rw [List.mem_singleton.mp ha]; exact hD)
    refine h.cong (fun a => by rw [flat_nil]) fun a => ?_
    rw [List.count_append, List.count_append, hw a]
    rfl
  · rw [List.count_append, hw a, List.count_cons]
    by_cases q : Dp = a
    · subst q; rw [w_none nk]; simp
    · have := w_le (B := frz B1 H1 Fs.flatten) (a := a)
      simp [q]; exact this
theorem comp_end (R0 : Rel K B1 H1 σ s1 Fs) (hD : H1 Dp = none) (e : goC m tg cond elt own items [] (wipeD own (fzAll s1)) = some (.ok es s2)) {H' : Hp}
    (P : CP m K tg cond elt own items (frz B1 H1 Fs.flatten) H1 σ (Fs.map fun _ => []) (.ok es s2) Dp items.length H') {Q : V → Hp → Prop} {B0 H0 : Hp} {L0 : List Addr} (y : ES B0 H0 L0 B1 H1 Fs.flatten)
    (p : Post (rC K) K W B0 H0 L0 σ Q (if m = true then .ok (.lst es, .full) s1 else .ok (.lst es, .top) s2)) : Q (.ref Dp) H' := by
  obtain ⟨B', Fs', s', vs, acc, F, R1, hw1, hDl, oF, lF, x1, z1, e1⟩ := P
  rw [List.drop_length] at e1
  cases e1
  rw [flat_nil] at x1
  have newF : ∀ a ∈ Dp :: F, H1 a = none := fun a ha => by
    by_cases h : H1 a = none
    · exact h
    · exfalso
      have h1 := x1.wt a h
      have h2 : 0 < ((Dp :: F) ++ Fs'.flatten).count a := mem_count (List.mem_append_left _ ha)
      have h3 := w_mono x1.exB a
      have h4 := z1 a
      simp only [List.count_nil] at h1
      omega
  cases m with
  | true =>
    rw [if_pos rfl] at p
    refine p _ B1 H' Fs (Dp :: F) (R0.ext x1.exH) (y.trans (ES.more R0.ex x1.exH newF)) (fun a => ?_) (fun a ha => ?_) (Own.lst hDl oF)
    · rw [List.count_append]
      by_cases ha : a ∈ Dp :: F
      · have hn := newF a ha
        have h1 : Fs.flatten.count a = 0 := List.count_eq_zero.mpr fun q => R0.lv a q hn
        have h2 : w B1 a = 0 := by
          cases q : B1 a with
          | none => exact w_none q
          | some u => rw [R0.ex _ _ q] at hn; cases hn
        have h3 := z1 a
        rw [List.count_append] at h3
        omega
      · have h1 : (Dp :: F).count a = 0 := List.count_eq_zero.mpr ha
        have h2 := R0.wf a
        omega
    · rcases List.mem_cons.mp ha with rfl | ha
      · rw [hDl]; exact fun z => nomatch z
      · exact lF a ha
  | false =>
    rw [if_neg Bool.false_ne_true] at p
    obtain ⟨oF, rfl⟩ := oF
    have hw2 := goC_wiped (wipeD_idem own _) e
    refine p _ B' H' Fs' [Dp] (R1.unwipe hw1) ((y.trans (ES.all R0.ex _)).trans x1) z1 (fun a ha => ?_) ⟨Dp, vs, es, rfl, rfl, hDl, oF, rfl⟩
    rw [List.mem_singleton.mp ha, hDl]; exact fun z => nomatch z
end
abbrev tCmp2 (wi : TI) (g : TG) (tt : TT) (te : TE) (own : List Nat) : TE := tLc wi g tt te own
section
variable {W : WW} {ts : TE} {src : DE D} {ta : TA} {da : DE (List D)}
theorem jcComp (hs : JB K W ts src) (hg : JG K g tg own) (ht : JT K W0 tt cond) (he : JC K W0 te elt) : JC K W (tLc (iSq K ts) g tt te own) (cComp m tg own src cond elt) := by
  intro s r e B H σ Fs R0 Q p
  unfold cComp at e
  cases e1 : src s with
  | none => rw [e1] at e; cases e
  | some r1 =>
    have hh := hs s r1 e1 B H σ Fs R0
    cases r1 with
    | exc x s1 =>
      simp only [e1] at e
      cases e
      exact .inl (hh _ fun B' H' Fs' x y => p B' H' Fs' x y)
    | ok d s1 =>
      simp only [e1] at e
      cases ei : itemsOf d with
      | none => simp only [ei] at e; cases e
      | some its =>
        simp only [ei] at e
        cases eg : goC m tg cond elt own (noIt its) [] (wipeD own (fzAll s1)) with
        | none => simp only [eg] at e; cases e
        | some rg =>
          obtain ⟨es, s2, rfl⟩ := goC_ok eg
          simp only [eg] at e
          have er : r = if m = true then .ok (.lst es, .full) s1 else .ok (.lst es, .top) s2 := by
            cases m <;> simpa using e.symm
          subst er
          cases d with
          | lst ds =>
            cases ei
            refine .inl (hh _ fun v B1 H1 Fs1 F R1 y z l q => ?_)
            obtain ⟨q, rfl⟩ := q
            cases q with
            | lst hp hr =>
              rename_i a vs
              have hp1 := frz_le R1.ex _ _ hp
              refine ⟨a, rfl, ⟨vs, sq_of hp1⟩, fun Dp hD => lc_list (xs := vs) (CP m K tg cond elt own (noIt its) (frz B1 H1 Fs1.flatten) H1 σ (Fs1.map fun _ => []) (.ok es s2) Dp) (comp_start R1 hD eg) (fun i H2 _ P => ?_) (fun i x H2 hx P => ?_) fun H2 P => ?_⟩
              · obtain ⟨B', Fs', s', vs', acc, F, _, _, _, _, _, x1, _, _⟩ := P
                exact sq_of (x1.exH _ _ hp1)
              · have hi := lt_of_get hx
                obtain ⟨it, hit⟩ : ∃ it, (noIt its)[i]? = some it := ⟨(noIt its)[i]'(by rw [List.length_map, ← hr.length]; exact hi), List.getElem?_eq_getElem _⟩
                obtain ⟨d, ow⟩ := it
                exact comp_step hg ht he (frz_le R1.ex) hD hit P fun B' H' L' x1 => noIt_ok hr x1.ss i x d ow hx hit
              · have hl : vs.length = (noIt its).length := by rw [hr.length, List.length_map]
                rw [hl] at P
                exact comp_end R1 hD eg P y p
          | sc ds =>
            cases ei
            refine .inl (hh _ fun v B1 H1 Fs1 F R1 y z l q => ?_)
            obtain ⟨q, rfl⟩ := q
            cases q with
            | sc hp hr =>
              rename_i a vs
              refine ⟨a, rfl, ⟨vs, hp.l⟩, fun Dp hD => lc_list (xs := vs) (CP m K tg cond elt own (noIt its) (frz B1 H1 Fs1.flatten) H1 σ (Fs1.map fun _ => []) (.ok es s2) Dp) (comp_start R1 hD eg) (fun i H2 _ P => ?_) (fun i x H2 hx P => ?_) fun H2 P => ?_⟩
              · obtain ⟨B', Fs', s', vs', acc, F, _, _, _, _, _, x1, _, _⟩ := P
                exact ((Tk.of_ex x1.exH).sf hp).l
              · have hi := lt_of_get hx
                obtain ⟨it, hit⟩ : ∃ it, (noIt its)[i]? = some it := ⟨(noIt its)[i]'(by rw [List.length_map, ← hr.length]; exact hi), List.getElem?_eq_getElem _⟩
                obtain ⟨d, ow⟩ := it
                exact comp_step hg ht he (frz_le R1.ex) hD hit P fun B' H' L' x1 => noIt_ok hr x1.ss i x d ow hx hit
              · have hl : vs.length = (noIt its).length := by rw [hr.length, List.length_map]
                rw [hl] at P
                exact comp_end R1 hD eg P y p
          | tup ds =>
            cases ei
            refine .inr (hh _ fun v B1 H1 Fs1 F R1 y z l q => ?_)
            obtain ⟨q, rfl⟩ := q
            cases q with
            | tup hp hr =>
              rename_i a vs
              refine ⟨a, rfl, ⟨vs, SqT.of hp⟩, fun Dp hD => lc_tup (xs := vs) (CP m K tg cond elt own (noIt its) (frz B1 H1 Fs1.flatten) H1 σ (Fs1.map fun _ => []) (.ok es s2) Dp) (comp_start R1 hD eg) (fun i H2 _ P => ?_) (fun i x H2 hx P => ?_) fun H2 P => ?_⟩
              · obtain ⟨B', Fs', s', vs', acc, F, _, _, _, _, _, x1, _, _⟩ := P
                exact (Tk.of_ex x1.exH).sq (SqT.of hp)
              · have hi := lt_of_get hx
                obtain ⟨it, hit⟩ : ∃ it, (noIt its)[i]? = some it := ⟨(noIt its)[i]'(by rw [List.length_map, ← hr.length]; exact hi), List.getElem?_eq_getElem _⟩
                obtain ⟨d, ow⟩ := it
                exact comp_step hg ht he (frz_le R1.ex) hD hit P fun B' H' L' x1 => noIt_ok hr x1.ss i x d ow hx hit
              · have hl : vs.length = (noIt its).length := by rw [hr.length, List.length_map]
                rw [hl] at P
                exact comp_end R1 hD eg P y p
          | _ => cases ei
end
end
end Dv

namespace Dv
open PySem L2 Evl

section
variable {K : PySem.W.Frag} {B H : Hp} {G : Hp}
mutual
def D.py : D → Option PyData
  | .non => some .none
  | .bl b => some (.bool b)
  | .int i => some (.int i)
  | .str x => some (.str x)
  | .tup xs => (D.pyL xs).map .tuple
  | .lst xs => (D.pyL xs).map .list
  | .sc xs => (D.pyL xs).map .list
  | .dK _ => none
  | .dT _ => none
  | .dN _ => none
  | .ins _ _ => none
def D.pyL : List D → Option (List PyData)
  | [] => some []
  | x :: xs => match D.py x, D.pyL xs with
    | some a, some b => some (a :: b)
    | _, _ => none
end
mutual
theorem Re.dp {v : V} {d : D} {p : PyData} : Re K G H v d → Ex G H → d.py = some p → L2.Dp K H v p
  | .non, _, e => by cases e; exact .non
  | .bl b, _, e => by cases e; exact .bl b
  | .int i, _, e => by cases e; exact .int i
  | .str x, _, e => by cases e; exact .str x
  | .tup h r, g, e => by
    obtain ⟨q, h1, h2⟩ := Option.map_eq_some_iff.mp (show (D.pyL _).map PyData.tuple = some p from e)
    subst h2
    exact .tup (SqT.of h) (ReL.dp r g h1)
  | .lst h r, g, e => by
    obtain ⟨q, h1, h2⟩ := Option.map_eq_some_iff.mp (show (D.pyL _).map PyData.list = some p from e)
    subst h2
    exact .lst (sq_of (g _ _ h)) (ReL.dp r g h1)
  | .sc h r, g, e => by
    obtain ⟨q, h1, h2⟩ := Option.map_eq_some_iff.mp (show (D.pyL _).map PyData.list = some p from e)
    subst h2
    exact .lst h.l (ReL.dp r g h1)
  | .dk _ _ _, _, e => absurd (show (none : Option PyData) = some p from e) (fun z => nomatch z)
  | .dt _ _ _, _, e => absurd (show (none : Option PyData) = some p from e) (fun z => nomatch z)
  | .dkF _ _ _ _, _, e => absurd (show (none : Option PyData) = some p from e) (fun z => nomatch z)
  | .dtF _ _ _, _, e => absurd (show (none : Option PyData) = some p from e) (fun z => nomatch z)
  | .dn _ _ _ _, _, e => absurd (show (none : Option PyData) = some p from e) (fun z => nomatch z)
  | .xc _ _ _, _, e => absurd (show (none : Option PyData) = some p from e) (fun z => nomatch z)
  | .ob _ _ _, _, e => absurd (show (none : Option PyData) = some p from e) (fun z => nomatch z)
theorem ReL.dp {vs : List V} {ds : List D} {ps : List PyData} : ReL K G H vs ds → Ex G H → D.pyL ds = some ps → L2.DpAll K H vs ps
  | .nil, _, e => by cases e; exact .nil
  | .cons (d := d) (ds := ds) a b, g, e => by
    have e : (match D.py d, D.pyL ds with
      | some a, some b => some (a :: b)
      | _, _ => none) = some ps := e
    cases h1 : D.py d with
    | none => rw [h1] at e; cases e
    | some x =>
      cases h2 : D.pyL ds with
      | none => rw [h1, h2] at e; cases e
      | some xs =>
        rw [h1, h2] at e
        cases e
        exact .cons (Re.dp a g h1) (ReL.dp b g h2)
end

def fEqB (x y : D) : Option Bool := match x.py, y.py with
  | some a, some b => if (SeqAt.shaped a && SeqAt.shaped b) = true then some (PyData.eqv a b) else none
  | _, _ => none
def fEq (x y : D) : Option D := (fEqB x y).map .bl
def fNe (x y : D) : Option D := (fEqB x y).map fun b => .bl (!b)
theorem fEqB_some {x y : D} {b : Bool} (e : fEqB x y = some b) : ∃ a c, x.py = some a ∧ y.py = some c ∧ SeqAt.shaped a = true ∧ SeqAt.shaped c = true ∧ b = PyData.eqv a c := by
  unfold fEqB at e
  split at e
  · rename_i a c h1 h2
    split at e
    · rename_i h3
      have h4 := Bool.and_eq_true_iff.mp h3
      exact ⟨a, c, h1, h2, h4.1, h4.2, (Option.some.inj e).symm⟩
    · cases e
  · cases e
theorem rvEq : RV K (rEqD K) fEq := by
  intro G H x y dx dy d g rx ry e Q q
  obtain ⟨b, e1, rfl⟩ := Option.map_eq_some_iff.mp e
  obtain ⟨a, c, h1, h2, h3, h4, rfl⟩ := fEqB_some e1
  exact ⟨a, c, rx.dp g h1, ry.dp g h2, h3, h4, q _ (.bl _)⟩
theorem rvNe : RV K (rNeD K) fNe := by
  intro G H x y dx dy d g rx ry e Q q
  obtain ⟨b, e1, rfl⟩ := Option.map_eq_some_iff.mp e
  obtain ⟨a, c, h1, h2, h3, h4, rfl⟩ := fEqB_some e1
  exact ⟨a, c, rx.dp g h1, ry.dp g h2, h3, h4, q _ (.bl _)⟩
def fI (C : Int → Int → Bool) (g : Int → Int → D) : D → D → Option D
  | .int i, .int j => if C i j = true then some (g i j) else none
  | _, _ => none
def rOr (r u : R2) : R2 := fun x y H Q => r x y H Q ∨ u x y H Q
theorem or_ok {X : Cx} {f : Value → Value → Sem Value} {r u : R2} (h : OpR X f r) (h' : OpR X f u) : OpR X f (rOr r u) := h.or h'
theorem rvI0 {g : Int → Int → V} {g' : Int → Int → D} (h : ∀ G H i j, Re K G H (g i j) (g' i j)) : RV K (rI0 g) (fI (fun _ _ => true) g') := by
  intro G H x y dx dy d _ rx ry e Q q
  unfold fI at e
  split at e
  · cases rx
    cases ry
    rename_i i j
    have e : some (g' i j) = some d := e
    cases e
    exact ⟨i, j, rfl, rfl, q _ (h _ _ _ _)⟩
  · cases e
theorem rvI {C : Int → Int → Prop} {c : Int → Int → Bool} {g : Int → Int → V} {g' : Int → Int → D} (hc : ∀ i j, c i j = true → C i j) (h : ∀ G H i j, Re K G H (g i j) (g' i j)) : RV K (rI C g) (fI c g') := by
  intro G H x y dx dy d _ rx ry e Q q
  unfold fI at e
  split at e
  · cases rx
    cases ry
    rename_i i j
    split at e
    · rename_i hh
      cases e
      exact ⟨i, j, rfl, rfl, hc _ _ hh, q _ (h _ _ _ _)⟩
    · cases e
  · cases e
abbrev rLt : R2 := rI0 fun i j => .bl (decide (i < j))
abbrev rLe : R2 := rI0 fun i j => .bl (decide (i ≤ j))
abbrev rGt' : R2 := rI0 fun i j => .bl (decide (j < i))
abbrev rGe' : R2 := rI0 fun i j => .bl (decide (j ≤ i))
def fLt := fI (fun _ _ => true) fun i j => .bl (decide (i < j))
def fLe := fI (fun _ _ => true) fun i j => .bl (decide (i ≤ j))
def fGt := fI (fun _ _ => true) fun i j => .bl (decide (j < i))
def fGe := fI (fun _ _ => true) fun i j => .bl (decide (j ≤ i))
theorem rvLt : RV K rLt fLt := rvI0 fun _ _ _ _ => .bl _
theorem rvGt : RV K rGt' fGt := rvI0 fun _ _ _ _ => .bl _
theorem rvGe : RV K rGe' fGe := rvI0 fun _ _ _ _ => .bl _
abbrev rSub : R2 := rI0 fun i j => .int (i - j)
def fSub := fI (fun _ _ => true) fun i j => .int (i - j)
theorem rvSub : RV K rSub fSub := rvI0 fun _ _ _ _ => .int _
abbrev rMod : R2 := rI (fun _ j => 0 < j) fun i j => .int (i % j)
def fMod := fI (fun _ j => decide (0 < j)) fun i j => .int (i % j)
theorem rvMod : RV K rMod fMod := rvI (fun _ _ h => of_decide_eq_true h) fun _ _ _ _ => .int _
abbrev rDiv : R2 := rI CDivW fun i j => .int (i / j)
def fDiv := fI (fun _ j => decide (0 < j) && decide (j.natAbs.log2 < 9000)) fun i j => .int (i / j)
abbrev rPow : R2 := rI CPow fun i j => .int (i ^ j.toNat)
def fPow := fI (fun i j => decide (0 ≤ j ∧ j ≤ 1000 ∧ i.natAbs < 2 ^ 64)) fun i j => .int (i ^ j.toNat)
def mulOk (i j : Int) : Bool := decide (i.natAbs < 2 ^ 64) || (decide (j.natAbs < 2 ^ 64) || decide (i.natAbs.log2 + j.natAbs.log2 < 100000000))
def CMulX (i j : Int) : Prop := i.natAbs.log2 + j.natAbs.log2 < 100000000
theorem CMulX.ok {i j : Int} (h : CMulX i j) : PySem.IntMulOk i j := by
  have b : ∀ x : Int, Builtin.Int.intBits x ≤ x.natAbs.log2 + 1 := fun x => by
    unfold Builtin.Int.intBits
    split <;> omega
  have h1 := b i
  have h2 := b j
  have h3 : i.natAbs.log2 + j.natAbs.log2 < 100000000 := h
  have e : PySem.bitsLine = 134217728 := by decide
  unfold PySem.IntMulOk
  intro z
  rw [Bool.and_eq_true] at z
  have z2 := z.2
  unfold Builtin.Int.intTooBig at z2
  have z3 := of_decide_eq_true z2
  rw [e] at z3
  omega
theorem op_mulX {X : Cx} : OpR X (binaryOp .Mult) (rI CMulX fun i j => .int (i * j)) := opI fun _ _ _ _ _ _ _ hc q => PySem.P.mul_int q hc.ok
abbrev rMul : R2 := rOr (rI CMul fun i j => .int (i * j)) (rI CMulX fun i j => .int (i * j))
def fMul := fI mulOk fun i j => .int (i * j)
theorem rvMul : RV K rMul fMul := by
  intro G H x y dx dy d _ rx ry e Q q
  unfold fMul fI at e
  split at e
  · cases rx
    cases ry
    rename_i i j
    split at e
    · rename_i hh
      cases e
      rcases Bool.or_eq_true_iff.mp hh with h | h
      · have := of_decide_eq_true h
        exact .inl ⟨i, j, rfl, rfl, .inl ⟨by omega, by omega⟩, q _ (.int _)⟩
      · rcases Bool.or_eq_true_iff.mp h with h | h
        · have := of_decide_eq_true h
          exact .inl ⟨i, j, rfl, rfl, .inr ⟨by omega, by omega⟩, q _ (.int _)⟩
        · exact .inr ⟨i, j, rfl, rfl, of_decide_eq_true (p := i.natAbs.log2 + j.natAbs.log2 < 100000000) h, q _ (.int _)⟩
    · cases e
  · cases e
abbrev rNeg : V → Hp → VK → Prop := rU fun i => .int (-i)
def fNeg : D → Option D
  | .int i => some (.int (-i))
  | _ => none
def isN : D → Bool
  | .non => true
  | _ => false
abbrev rIsNn : R2 := fun x y H Q => y = .non ∧ Q (.bl (decide (x = .non))) H
abbrev rNotNn : R2 := fun x y H Q => y = .non ∧ Q (.bl (!decide (x = .non))) H
def fIsN (x y : D) : Option D := match y with
  | .non => some (.bl (isN x))
  | _ => none
def fNotN (x y : D) : Option D := match y with
  | .non => some (.bl (!isN x))
  | _ => none
abbrev rIsBl : R2 := fun x y H Q => ∃ a b, x = .bl a ∧ y = .bl b ∧ Q (.bl (decide (a = b))) H
abbrev rNotBl : R2 := fun x y H Q => ∃ a b, x = .bl a ∧ y = .bl b ∧ Q (.bl (!decide (a = b))) H
def fIsBl : D → D → Option D
  | .bl a, .bl b => some (.bl (decide (a = b)))
  | _, _ => none
def fNotBl : D → D → Option D
  | .bl a, .bl b => some (.bl (!decide (a = b)))
  | _, _ => none
def fIx (x y : D) : Option D := match y with
  | .int i => match x with
    | .lst ds => atI ds i
    | .sc ds => atI ds i
    | .tup ds => atI ds i
    | .str z => if z.length ≤ 1000000 then (atI z.cps.toList i).map fun c => .str ⟨#[c]⟩ else none
    | _ => none
  | _ => none
theorem atI_re {vs : List V} {ds : List D} {i : Int} {d : D} (r : ReL K G H vs ds) (e : atI ds i = some d) : ∃ v, atI vs i = some v ∧ Re K G H v d := by
  unfold atI at e ⊢
  rw [r.length]
  cases h : ixN ds.length i with
  | none => rw [h] at e; cases e
  | some j =>
    rw [h] at e
    exact r.get e
theorem rvIx : RV K (rIx K) fIx := by
  intro G H x y dx dy d g rx ry e Q q
  unfold fIx at e
  split at e
  · cases ry
    rename_i i
    cases rx with
    | lst hp hr =>
      obtain ⟨v, h1, h2⟩ := atI_re hr e
      exact .inl ⟨_, _, i, v, rfl, rfl, sq_of (g _ _ hp), h1, q v h2⟩
    | sc hp hr =>
      obtain ⟨v, h1, h2⟩ := atI_re hr e
      exact .inl ⟨_, _, i, v, rfl, rfl, hp.l, h1, q v h2⟩
    | tup hp hr =>
      obtain ⟨v, h1, h2⟩ := atI_re hr e
      exact .inr (.inl ⟨_, _, i, v, rfl, rfl, SqT.of hp, h1, q v h2⟩)
    | str z =>
      have e : (if z.length ≤ 1000000 then (atI z.cps.toList i).map fun c => D.str ⟨#[c]⟩ else none) = some d := e
      split at e
      · rename_i hz
        obtain ⟨c, h1, rfl⟩ := Option.map_eq_some_iff.mp e
        exact .inr (.inr ⟨z, i, c, rfl, rfl, sz6 hz, h1, q _ (.str _)⟩)
      · cases e
    | _ => cases e
  · cases e
def flatD : D → Option V
  | .non => some .non
  | .bl b => some (.bl b)
  | .int i => some (.int i)
  | .str x => some (.str x)
  | _ => none
def flatL : List D → Option (List V)
  | [] => some []
  | d :: ds => match flatD d, flatL ds with
    | some v, some vs => some (v :: vs)
    | _, _ => none
def fInB (x y : D) : Option Bool := match itemsL y with
  | some ds => match flatD x, flatL ds with
    | some v, some vs => some (inV v vs)
    | _, _ => none
  | none => none
where itemsL : D → Option (List D)
  | .lst ds => some ds
  | .tup ds => some ds
  | _ => none
def fIn (x y : D) : Option D := (fInB x y).map .bl
def fNotIn (x y : D) : Option D := (fInB x y).map fun b => .bl (!b)
abbrev rcOr (r u : List V → Hp → VK → Prop) : List V → Hp → VK → Prop := fun xs H Q => r xs H Q ∨ u xs H Q
abbrev rLenSq (K : PySem.W.Frag) : List V → Hp → VK → Prop := fun xs H Q => ∃ p ys, xs = [.ref p] ∧ (SqL K H p ys ∨ SqT K H p ys) ∧ Q (.int ys.length) H
abbrev rLenStr : List V → Hp → VK → Prop := fun xs H Q => ∃ z, xs = [.str z] ∧ z.length ≤ sizeLine ∧ Q (.int z.length) H
abbrev rLenU (K : PySem.W.Frag) := rcOr (rLenSq K) rLenStr
theorem call_lenU {X : Cx} : CallR X (.builtin "len") (rLenU X.K) := call_len_seq.or call_len_str
def fLen : List D → Option D
  | [.lst ds] => some (.int ds.length)
  | [.sc ds] => some (.int ds.length)
  | [.tup ds] => some (.int ds.length)
  | [.str z] => if z.length ≤ 1000000 then some (.int z.length) else none
  | _ => none
theorem reL1c {vs : List V} {d : D} (h : ReL K G H vs [d]) : ∃ v, vs = [v] ∧ Re K G H v d := by
  cases h with
  | cons a b =>
    cases b
    exact ⟨_, rfl, a⟩
theorem rclLen : RCL K (rLenU K) fLen := by
  intro G H xs ds d g r e Q q
  unfold fLen at e
  split at e
  · obtain ⟨v, rfl, h⟩ := reL1c r
    cases h with
    | lst hp hr =>
      cases e
      exact .inl ⟨_, _, rfl, .inl (sq_of (g _ _ hp)), by rw [hr.length]; exact q _ (.int _)⟩
  · obtain ⟨v, rfl, h⟩ := reL1c r
    cases h with
    | sc hp hr =>
      cases e
      exact .inl ⟨_, _, rfl, .inl hp.l, by rw [hr.length]; exact q _ (.int _)⟩
  · obtain ⟨v, rfl, h⟩ := reL1c r
    cases h with
    | tup hp hr =>
      cases e
      exact .inl ⟨_, _, rfl, .inr (SqT.of hp), by rw [hr.length]; exact q _ (.int _)⟩
  · split at e
    · rename_i hz
      obtain ⟨v, rfl, h⟩ := reL1c r
      cases h
      cases e
      exact .inr ⟨_, rfl, sz6 hz, q _ (.int _)⟩
    · cases e
  · cases e
abbrev rMax2 : List V → Hp → VK → Prop := fun xs H Q => ∃ i j, xs = [.int i, .int j] ∧ Q (.int (if j > i then j else i)) H
abbrev rMin2 : List V → Hp → VK → Prop := fun xs H Q => ∃ i j, xs = [.int i, .int j] ∧ Q (.int (if j < i then j else i)) H
def fMax2 : List D → Option D
  | [.int i, .int j] => some (.int (if j > i then j else i))
  | _ => none
def fMin2 : List D → Option D
  | [.int i, .int j] => some (.int (if j < i then j else i))
  | _ => none
abbrev rAbs : List V → Hp → VK → Prop := fun xs H Q => ∃ i, xs = [.int i] ∧ Q (.int (if i < 0 then -i else i)) H
def fAbs : List D → Option D
  | [.int i] => some (.int (if i < 0 then -i else i))
  | _ => none
abbrev rInt1 : List V → Hp → VK → Prop := fun xs H Q => (∃ i, xs = [.int i] ∧ Q (.int i) H) ∨ ∃ k, xs = [.bl k] ∧ Q (.int (if k then 1 else 0)) H
def fInt1 : List D → Option D
  | [.int i] => some (.int i)
  | [.bl k] => some (.int (if k then 1 else 0))
  | _ => none
abbrev rStrI : List V → Hp → VK → Prop := fun xs H Q => ∃ i, xs = [.int i] ∧ i.natAbs.log2 < 1920 ∧ Q (.str (toString i)) H
def fStrI : List D → Option D
  | [.int i] => if i.natAbs.log2 < 1920 then some (.str (Str.ofString (toString i))) else none
  | _ => none
def tyN : D → Option String
  | .non => some "NoneType"
  | .bl _ => some "bool"
  | .int _ => some "int"
  | .str _ => some "str"
  | .lst _ => some "list"
  | .sc _ => some "list"
  | .tup _ => some "tuple"
  | .dK [] => some "dict"
  | _ => none
theorem ty_ok {v : V} {d : D} {n : String} (g : Ex G H) (r : Re K G H v d) (e : tyN d = some n) : TyX K H v (.type n) := by
  cases r with
  | non => cases e; exact .base .non
  | bl b => cases e; exact .base (.bl _)
  | int i => cases e; exact .base (.int _)
  | str x => cases e; exact .base (.str _)
  | lst hp hr => cases e; exact .base (.lst (g _ _ hp))
  | @dk p ks kd hp _ _ =>
    cases kd with
    | nil => cases e; exact .base (.dK (g _ _ hp))
    | cons _ _ => cases e
  | @dkF p o ks kd hp hn hk _ =>
    cases kd with
    | nil => exact absurd (List.map_eq_nil_iff.mp hk) hn
    | cons _ _ => cases e
  | dt hp _ _ => cases e
  | dn hp _ _ _ => cases e
  | xc _ _ _ => cases e
  | ob _ _ _ => cases e
  | dtF hp _ _ => cases e
  | sc hp hr =>
    cases e
    rcases hp with ⟨o, h⟩ | ⟨o, its, m, h1, h2, _⟩
    · exact .base (.frz h)
    · exact .kList h1 h2
  | tup hp hr =>
    cases e
    exact .base (.tup hp)
def isTy (n t : String) : Option Bool := kitB n t
def dIsi (t : String) (a : DE D) : DE D := bnd a fun x s => match tyN x with
  | some n => (kitB n t).map fun b => .ok (.bl b) s
  | none => none
theorem jIsi {W : WW} {ta : TE} {da : DE D} {t : String} (ha : JB K W ta da) : JB K W (tCB (rIsi K) (tCons ta (tCons (tC (.ty t)) tNil))) (dIsi t da) := by
  refine J.one (k := fun x σ H Q => rIsi K [x, .ty t] H Q) ha zB fun x s r0 e vx B H σ Fs R0 q1 Q p => ?_
  cases en : tyN x with
  | none => rw [en] at e; cases e
  | some n =>
    rw [en] at e
    obtain ⟨b, h1, rfl⟩ := Option.map_eq_some_iff.mp (show (kitB n t).map (fun b => Er.ok (D.bl b) s) = some r0 from e)
    exact ⟨vx, .ty t, .type n, .type t, b, rfl, .ty _, ty_ok (frz_le R0.ex) q1.1 en, kit_ty h1, Post.here R0 ⟨.bl _, rfl⟩ p⟩
def truD : D → Option Bool
  | .non => some false
  | .bl b => some b
  | .int i => some (i != 0)
  | .lst ds => some (!ds.isEmpty)
  | .tup ds => some (!ds.isEmpty)
  | _ => none
abbrev tTruth (K : PySem.W.Frag) (ta : TE) : TT := fun σ H Q => ta σ H fun x H' => ∃ k, TruV K x H' k ∧ Q k H'
def dTruth (a : DE D) : DE Bool := bnd a fun x s => (truD x).map fun b => .ok b s
def dChain (f g : D → D → Option D) (a b c : DE D) : DE D := bnd a fun x => bnd b fun y s => match f x y with
  | some (.bl true) => bnd c (fun z s => (g y z).map fun d => .ok d s) s
  | some (.bl false) => some (.ok (.bl false) s)
  | _ => none
end
end Dv

namespace Dv
open PySem L2 Evl

section
variable {K : PySem.W.Frag} {W : WW} {B H H' : Hp} {σ : L2.St} {s : SD} {Fs : List (List Addr)} {p : Addr}
def mkL (ds : List D) (s : SD) : Er (D × Ow) := if immL ds = true then .ok (.lst ds, .full) s else .ok (.lst ds, .top) (fzAll s)
theorem newL {vs : List V} {ds : List D} (R0 : Rel K B H σ s Fs) (q : ReL K (frz B H Fs.flatten) H vs ds) (hp : H p = none) {Q : V → Hp → Prop} (P : Post (rC K) K W B H Fs.flatten σ Q (mkL ds s)) : Q (.ref p) (upd H p (.lst vs)) := by
  unfold mkL at P
  split at P
  · rename_i hi
    obtain ⟨a1, a2, a3, a4, a5⟩ := new_list (F := []) (b := true) R0 (fun x => R0.wf x) (fun _ z => nomatch z) (OwnL.imms q hi) hp
    exact P _ B _ Fs [p] a1 a2 a3 a4 a5
  · have R1 := R0.letAll
    have z : ∀ x, w (frz B H Fs.flatten) x + (([] : List Addr) ++ (Fs.map fun _ => ([] : List Addr)).flatten).count x ≤ 1 := fun x => by
      rw [flat_nil]
      exact w_le
    have q' : rCL K (frz B H Fs.flatten) H (Fs.map fun _ => []) vs (ds, false) [] := ⟨q, rfl⟩
    obtain ⟨a1, a2, a3, a4, a5⟩ := new_list (F := []) (b := false) R1 z (fun _ z => nomatch z) q' hp
    refine P _ _ _ _ [p] a1 ?_ a3 a4 a5
    rw [flat_nil] at a2 ⊢
    exact (ES.all R0.ex _).trans a2
def mkT (ds : List D) (s : SD) : Option (Er (D × Ow)) := if immL ds = true then some (.ok (.tup ds, .full) s) else none
theorem newT {vs : List V} {ds : List D} {r : Er (D × Ow)} (R0 : Rel K B H σ s Fs) (q : ReL K (frz B H Fs.flatten) H vs ds) (hp : H p = none) (e : mkT ds s = some r) {Q : V → Hp → Prop} (P : Post (rC K) K W B H Fs.flatten σ Q r) : Q (.ref p) (upd H p (.tup vs)) := by
  unfold mkT at e
  split at e
  · rename_i hi
    cases e
    have x : Ex H (upd H p (.tup vs)) := Ex.new hp
    refine P _ B _ Fs [] (R0.ext x) (ES.ext R0.ex x) R0.val (fun _ z => nomatch z) (Own.im (by simpa [imm] using hi) (Re.tup upd_same ?_))
    exact (q.any hi (G' := upd H p (.tup vs))).mono (Ex.refl _) (Tk.of_ex x)
  · cases e

abbrev rAddStr : R2 := fun x y H Q => ∃ i j, x = .str i ∧ y = .str j ∧ i.length + j.length ≤ sizeLine ∧ Q (.str (i ++ j)) H
abbrev rAddU (K : PySem.W.Frag) : R2 := rOr (rI0 fun i j => .int (i + j)) (rOr rAddStr (rOr rCat (rCatA K)))
theorem op_addU {X : Cx} : OpR X (binaryOp .Add) (rAddU X.K) := or_ok op_add (or_ok op_add_str (or_ok op_cat op_catA))
def cAdd (a b : DE D) : DE (D × Ow) := bnd a fun x => bnd b fun y s => match x, y with
  | .int i, .int j => some (.ok (.int (i + j), .full) s)
  | .str i, .str j => if i.length + j.length ≤ 1000000 then some (.ok (.str (i ++ j), .full) s) else none
  | .lst xs, .lst ys => if xs.length + ys.length ≤ 1000000 then some (mkL (xs ++ ys) s) else none
  | .tup xs, .tup ys => if xs.length + ys.length ≤ 1000000 then match xs, ys with
    | [], ys => if immL ys = true then some (.ok (.tup ys, .full) s) else none
    | x :: xs, [] => if immL (x :: xs) = true then some (.ok (.tup (x :: xs), .full) s) else none
    | x :: xs, y :: ys => mkT (x :: xs ++ y :: ys) s
    else none
  | _, _ => none
theorem re_lst {G : Hp} {v : V} {ds : List D} (h : Re K G H v (.lst ds)) : ∃ p vs, v = .ref p ∧ G p = some (.lst vs) ∧ ReL K G H vs ds := by
  cases h with
  | lst a b => exact ⟨_, _, rfl, a, b⟩
theorem re_tup {G : Hp} {v : V} {ds : List D} (h : Re K G H v (.tup ds)) : ∃ p vs, v = .ref p ∧ H p = some (.tup vs) ∧ ReL K G H vs ds := by
  cases h with
  | tup a b => exact ⟨_, _, rfl, a, b⟩
theorem re_int {G : Hp} {v : V} {i : Int} (h : Re K G H v (.int i)) : v = .int i := by
  cases h
  rfl
theorem re_str {G : Hp} {v : V} {i : Str} (h : Re K G H v (.str i)) : v = .str i := by
  cases h
  rfl
variable {ta tb : TE} {da db : DE D}
theorem jcAdd (ha : JB K W ta da) (hb : JB K W tb db) : JC K W (tOp (rAddU K) ta tb) (cAdd da db) := by
  refine J.two (k := fun x y _ H Q => rAddU K x y H Q) ha hb fun x y s r0 e vx vy B H σ Fs R0 q1 q2 Q p => ?_
  split at e
  · cases e
    rw [re_int q1, re_int q2]
    exact .inl ⟨_, _, rfl, rfl, Post.here R0 (Own.im rfl (.int _)) p⟩
  · split at e
    · rename_i hz
      cases e
      rw [re_str q1, re_str q2]
      exact .inr (.inl ⟨_, _, rfl, rfl, sz6 hz, Post.here R0 (Own.im rfl (.str _)) p⟩)
    · cases e
  · split at e
    · rename_i xs ys hz
      cases e
      obtain ⟨a, vs, rfl, h1, h2⟩ := re_lst q1
      obtain ⟨b, us, rfl, h3, h4⟩ := re_lst q2
      refine .inr (.inr (.inl ⟨a, b, vs, us, rfl, rfl, frz_le R0.ex _ _ h1, frz_le R0.ex _ _ h3, by rw [h2.length, h4.length]; exact sz6 hz, fun c hc => ?_⟩))
      exact newL R0 (h2.append h4) hc p
    · cases e
  · rename_i xs ys
    obtain ⟨a, vs, rfl, h1, h2⟩ := re_tup q1
    obtain ⟨b, us, rfl, h3, h4⟩ := re_tup q2
    split at e
    · rename_i hz
      have hz2 : vs.length + us.length ≤ sizeLine := by rw [h2.length, h4.length]; exact sz6 hz
      split at e
      · split at e
        · rename_i hi
          cases e
          cases h2
          exact .inr (.inr (.inr ⟨a, b, [], us, rfl, rfl, SqT.of h1, SqT.of h3, hz2, fun _ => Post.here R0 (Own.im (by simpa [imm] using hi) (Re.tup h3 (h4.any hi))) p, fun z => absurd rfl z, fun z => absurd rfl z⟩))
        · cases e
      · split at e
        · rename_i hi
          cases e
          cases h4
          cases h2 with
          | cons c d => exact .inr (.inr (.inr ⟨a, b, _, [], rfl, rfl, SqT.of h1, SqT.of h3, hz2, (fun z => nomatch z), fun _ _ => Post.here R0 (Own.im (by simpa [imm] using hi) (Re.tup h1 ((ReL.cons c d).any hi))) p, fun _ z => absurd rfl z⟩))
        · cases e
      · have h5 := h2.append h4
        cases h2 with
        | cons c1 d1 =>
          cases h4 with
          | cons c2 d2 => exact .inr (.inr (.inr ⟨a, b, _, _, rfl, rfl, SqT.of h1, SqT.of h3, hz2, (fun z => nomatch z), (fun _ z => nomatch z), fun _ _ c hc => newT R0 h5 hc e p⟩))
    · cases e
  · cases e
abbrev rMulU (K : PySem.W.Frag) : R2 := rOr rMul rRep
theorem op_mulU {X : Cx} : OpR X (binaryOp .Mult) (rMulU X.K) := or_ok (or_ok op_mul op_mulX) op_rep
def cMul (a b : DE D) : DE (D × Ow) := bnd a fun x => bnd b fun y s => match x, y with
  | .int i, .int j => if mulOk i j = true then some (.ok (.int (i * j), .full) s) else none
  | .lst xs, .int k => if -(2 ^ 63) ≤ k ∧ k < 2 ^ 63 ∧ xs.length * k.toNat ≤ 1000000 then some (mkL (List.replicate k.toNat xs).flatten s) else none
  | _, _ => none
theorem reL_rep {G : Hp} {vs : List V} {ds : List D} (h : ReL K G H vs ds) : ∀ n : Nat, ReL K G H (List.replicate n vs).flatten (List.replicate n ds).flatten
  | 0 => .nil
  | n + 1 => by
    rw [List.replicate_succ, List.replicate_succ, List.flatten_cons, List.flatten_cons]
    exact h.append (reL_rep h n)
theorem jcMul (ha : JB K W ta da) (hb : JB K W tb db) : JC K W (tOp (rMulU K) ta tb) (cMul da db) := by
  refine J.two (k := fun x y _ H Q => rMulU K x y H Q) ha hb fun x y s r0 e vx vy B H σ Fs R0 q1 q2 Q p => ?_
  split at e
  · rename_i i j
    split at e
    · rename_i hm
      cases e
      refine .inl (rvMul _ H vx vy (.int i) (.int j) (.int (i * j)) (frz_le R0.ex) q1 q2 (by simp [fMul, fI, hm]) Q fun v h => ?_)
      exact Post.here R0 (Own.im rfl (h.any rfl)) p
    · cases e
  · split at e
    · rename_i xs k hz
      cases e
      obtain ⟨a, vs, rfl, h1, h2⟩ := re_lst q1
      rw [re_int q2]
      refine .inr ⟨a, k, vs, rfl, rfl, frz_le R0.ex _ _ h1, hz.1, hz.2.1, by rw [h2.length]; exact sz6 hz.2.2, fun c hc => ?_⟩
      exact newL R0 (reL_rep h2 _) hc p
    · cases e
  · cases e

abbrev DO := DE (Option Int)
abbrev rO : RelT (Option Int) (Option Int) := fun _ _ _ b c F => b = c ∧ F = []
abbrev JO (K : PySem.W.Frag) (W : WW) (to : TO) (d : DO) : Prop := J rO K W to d
def oNone : DO := fun s => some (.ok none s)
def oSome (a : DE D) : DO := bnd a fun x s => match x with
  | .int i => some (.ok (some i) s)
  | _ => none
def cut {α : Type} (xs : List α) (lo hi : Option Int) : List α := (xs.drop (HT.sIx xs.length 0 lo)).take (HT.sIx xs.length xs.length hi - HT.sIx xs.length 0 lo)
abbrev rSlU (K : PySem.W.Frag) : V → Option Int → Option Int → Hp → VK → Prop := fun x lo hi H Q => rSlL K x lo hi H Q ∨ rSlS x lo hi H Q
theorem J.then {R R1 R2 α β γ : Type} {rel1 : RelT R1 α} {rel2 : RelT R2 β} {rel : RelT R γ} {te : TX R1} {tf : TX R2} {de : DE α} {df : DE β} (h : J rel1 K W te de) (h2 : J rel2 K W tf df) (z1 : ∀ B H L v a F, rel1 B H L v a F → F = [])
    (z2 : ∀ B H L v a F, rel2 B H L v a F → F = []) (keep : ∀ B H Fs v a B' H' Fs', rel1 B H Fs v a [] → ES B H Fs.flatten B' H' Fs'.flatten → rel1 B' H' Fs' v a [])
    {k : R1 → R2 → TX R} {dk : α → β → DE γ} (hk : ∀ x y s r, dk x y s = some r → ∀ vx vy B H σ Fs, Rel K B H σ s Fs → rel1 B H Fs vx x [] → rel2 B H Fs vy y [] → ∀ Q, Post rel K W B H Fs.flatten σ Q r → k vx vy σ H Q) :
    J rel K W (fun σ H Q => te σ H fun x H1 => tf σ H1 fun y H2 => k x y σ H2 Q) (bnd de fun x => bnd df fun y => dk x y) := by
  intro s r e B H σ Fs R0 Q p
  unfold bnd at e
  cases e1 : de s with
  | none => rw [e1] at e; cases e
  | some r1 =>
    rw [e1] at e
    refine h s r1 e1 B H σ Fs R0 _ ?_
    cases r1 with
    | exc c s1 =>
      have e2 : r = .exc c s1 := (Option.some.inj e).symm
      subst e2
      exact p
    | ok a s1 =>
      intro v B1 H1 Fs1 F R1 y1 w1 l1 q1
      obtain rfl := z1 _ _ _ _ _ _ q1
      have e : bnd df (fun y => dk a y) s1 = some r := e
      unfold bnd at e
      cases e3 : df s1 with
      | none => rw [e3] at e; cases e
      | some r2 =>
        rw [e3] at e
        refine h2 s1 r2 e3 B1 H1 σ Fs1 R1 _ ?_
        cases r2 with
        | exc c s2 =>
          have e2 : r = .exc c s2 := (Option.some.inj e).symm
          subst e2
          exact p.step y1
        | ok b s2 =>
          intro u B2 H2 Fs2 F2 R2 y2 w2 l2 q2
          obtain rfl := z2 _ _ _ _ _ _ q2
          exact hk a b s2 r e v u B2 H2 σ Fs2 R2 (keep _ _ _ _ _ _ _ _ q1 y2) q2 Q (p.step (y1.trans y2))
abbrev tPair (tl th : TO) : TX (Option Int × Option Int) := fun σ H Q => tl σ H fun l H1 => th σ H1 fun u H2 => Q (l, u) H2
def dPair (lo hi : DO) : DE (Option Int × Option Int) := bnd lo fun l => bnd hi fun h s => some (.ok (l, h) s)
abbrev rO2 : RelT (Option Int × Option Int) (Option Int × Option Int) := fun _ _ _ b c F => b = c ∧ F = []
def cSlice (a : DE D) (lo hi : DO) : DE (D × Ow) := bnd a fun x => bnd (dPair lo hi) fun y s => match x with
  | .lst xs => some (mkL (cut xs y.1 y.2) s)
  | .sc xs => some (mkL (cut xs y.1 y.2) s)
  | .str z => if z.length ≤ 1000000 then some (.ok (.str (cutS z y.1 y.2), .full) s) else none
  | _ => none
abbrev rListO (K : PySem.W.Frag) : List V → Hp → VK → Prop := fun xs H Q => ∃ p ys, xs = [.ref p] ∧ (SqL K H p ys ∨ SqT K H p ys) ∧ ∀ l, H l = none → Q (.ref l) (upd H l (.lst ys))
abbrev rTupO (K : PySem.W.Frag) : List V → Hp → VK → Prop := fun xs H Q => ∃ p ys, xs = [.ref p] ∧ ((SqL K H p ys ∧ ∀ l, H l = none → Q (.ref l) (upd H l (.tup ys))) ∨ (SqT K H p ys ∧ Q (.ref p) H))
def cListOf (a : DE (List D)) : DE (D × Ow) := bnd a fun xs s => match xs with
  | [.lst ds] => some (mkL ds s)
  | [.sc ds] => some (mkL ds s)
  | [.tup ds] => some (mkL ds s)
  | _ => none
def cTupOf (a : DE (List D)) : DE (D × Ow) := bnd a fun xs s => match xs with
  | [.lst ds] => mkT ds s
  | [.sc ds] => mkT ds s
  | [.tup ds] => if immL ds = true then some (.ok (.tup ds, .full) s) else none
  | _ => none
theorem jcListOf {tr : TA} {dr : DE (List D)} (h : JA K W tr dr) : JC K W (tCB (rListO K) tr) (cListOf dr) := by
  refine J.one (k := fun x _ H Q => rListO K x H Q) h zL fun x s r0 e vx B H σ Fs R0 q1 Q p => ?_
  obtain ⟨q1, -⟩ := q1
  split at e
  · cases e
    obtain ⟨v, rfl, q⟩ := reL1c q1
    obtain ⟨a, vs, rfl, h1, h2⟩ := re_lst q
    exact ⟨a, vs, rfl, .inl (sq_of (frz_le R0.ex _ _ h1)), fun c hc => newL R0 h2 hc p⟩
  · cases e
    obtain ⟨v, rfl, q⟩ := reL1c q1
    cases q with
    | sc h1 h2 => exact ⟨_, _, rfl, .inl h1.l, fun c hc => newL R0 h2 hc p⟩
  · cases e
    obtain ⟨v, rfl, q⟩ := reL1c q1
    obtain ⟨a, vs, rfl, h1, h2⟩ := re_tup q
    exact ⟨a, vs, rfl, .inr (SqT.of h1), fun c hc => newL R0 h2 hc p⟩
  · cases e
variable {ta2 : TA} {da2 : DE (List D)} {g : TG} {tg : DT} {tt : TT} {cond : DE Bool} {te : TE} {elt : DE (D × Ow)} {own : List Nat} {m : Bool}
def cCmpR (m : Bool) (tg : DT) (own : List Nat) (a : DE (List D)) (cond : DE Bool) (elt : DE (D × Ow)) : DE (D × Ow) := fun s => match a s with
  | some (.ok [.int j] s1) => if -(2 ^ 62) ≤ j ∧ j < 2 ^ 62 then match goC m tg cond elt own (rngD 0 j.toNat) [] (wipeD own (fzAll s1)) with
      | some (.ok es s2) => if m = true then some (.ok (.lst es, .full) s1) else some (.ok (.lst es, .top) s2)
      | _ => none
    else none
  | some (.exc x s1) => some (.exc x s1)
  | _ => none
def cCmpR2 (m : Bool) (tg : DT) (own : List Nat) (a : DE (List D)) (cond : DE Bool) (elt : DE (D × Ow)) : DE (D × Ow) := fun s => match a s with
  | some (.ok [.int i, .int j] s1) => if -(2 ^ 62) ≤ i ∧ i < 2 ^ 62 ∧ -(2 ^ 62) ≤ j ∧ j < 2 ^ 62 then match goC m tg cond elt own (rngD i (j - i).toNat) [] (wipeD own (fzAll s1)) with
      | some (.ok es s2) => if m = true then some (.ok (.lst es, .full) s1) else some (.ok (.lst es, .top) s2)
      | _ => none
    else none
  | some (.exc x s1) => some (.exc x s1)
  | _ => none
end
end Dv

namespace Dv
open PySem L2 Evl

def getP : List Int → D → Option D
  | [], d => some d
  | k :: ks, .lst ds => (atI ds k).bind (getP ks)
  | k :: ks, .tup ds => (atI ds k).bind (getP ks)
  | _, _ => none
def setI (ds : List D) (k : Int) (d : D) : List D := match ixN ds.length k with
  | some j => ds.set j d
  | none => ds
def setP : List Int → D → D → D
  | [], _, n => n
  | k :: ks, .lst ds, n => match atI ds k with
    | some d => .lst (setI ds k (setP ks d n))
    | none => .lst ds
  | k :: ks, .tup ds, n => match atI ds k with
    | some d => .tup (setI ds k (setP ks d n))
    | none => .tup ds
  | _, d, _ => d
inductive WkP (H : Hp) : List Int → V → V → Prop
  | nil (v : V) : WkP H [] v v
  | lst {p : Addr} {vs : List V} {k : Int} {ks : List Int} {x u : V} : H p = some (.lst vs) → atI vs k = some x → WkP H ks x u → WkP H (k :: ks) (.ref p) u
  | tup {p : Addr} {vs : List V} {k : Int} {ks : List Int} {x u : V} : H p = some (.tup vs) → atI vs k = some x → WkP H ks x u → WkP H (k :: ks) (.ref p) u
theorem WkP.uniq {H : Hp} : ∀ {ks : List Int} {v u u' : V}, WkP H ks v u → WkP H ks v u' → u = u'
  | _, _, _, _, .nil _, .nil _ => rfl
  | _, _, _, _, .lst a b c, .lst a' b' c' => by
    rw [a] at a'; cases a'
    rw [b] at b'; cases b'
    exact WkP.uniq c c'
  | _, _, _, _, .tup a b c, .tup a' b' c' => by
    rw [a] at a'; cases a'
    rw [b] at b'; cases b'
    exact WkP.uniq c c'
  | _, _, _, _, .lst a b c, .tup a' b' c' => by
    rw [a] at a'; cases a'
  | _, _, _, _, .tup a b c, .lst a' b' c' => by
    rw [a] at a'; cases a'
theorem WkP.ex {H H' : Hp} (e : Ex H H') : ∀ {ks : List Int} {v u : V}, WkP H ks v u → WkP H' ks v u
  | _, _, _, .nil _ => .nil _
  | _, _, _, .lst a b c => .lst (e _ _ a) b (WkP.ex e c)
  | _, _, _, .tup a b c => .tup (e _ _ a) b (WkP.ex e c)
section
variable {K : PySem.W.Frag} {H : Hp}
theorem atI_some {α : Type} {xs : List α} {k : Int} {x : α} (h : atI xs k = some x) : ∃ j, ixN xs.length k = some j ∧ xs[j]? = some x := by
  unfold atI at h
  cases e : ixN xs.length k with
  | none => rw [e] at h; cases h
  | some j =>
    rw [e] at h
    exact ⟨j, rfl, h⟩
theorem atI_mk {α : Type} {xs : List α} {k : Int} {x : α} {j : Nat} (h1 : ixN xs.length k = some j) (h2 : xs[j]? = some x) : atI xs k = some x := by
  unfold atI
  rw [h1]
  exact h2
theorem OwnL.at_ : ∀ {vs : List V} {ds : List D} {F : List Addr} {j : Nat} {d : D}, OwnL K H vs ds F → ds[j]? = some d →
    ∃ (v : V) (Fj R : List Addr), vs[j]? = some v ∧ Own K H v d Fj ∧ (∀ a, F.count a = Fj.count a + R.count a) ∧
      ∀ (H' : Hp) (d' : D) (F' : List Addr), Tk H H' → (∀ a ∈ R, H' a = H a) → Own K H' v d' F' → ∃ G : List Addr, OwnL K H' vs (ds.set j d') G ∧ ∀ a, G.count a = F'.count a + R.count a
  | _, _, _, _, _, .nil, e => by simp at e
  | _, _, _, 0, d, .cons (F := F1) (G := G1) x y, e => by
    simp at e
    subst e
    refine ⟨_, F1, G1, rfl, x, fun a => List.count_append, fun H' d' F' t k o => ⟨F' ++ G1, .cons o (y.mono t k), fun a => List.count_append⟩⟩
  | _, _, _, j + 1, d, .cons (F := F1) (G := G1) x y, e => by
    obtain ⟨v, Fj, R, h1, h2, h3, h4⟩ := OwnL.at_ (j := j) (d := d) y (by simpa using e)
    refine ⟨v, Fj, F1 ++ R, by simpa using h1, h2, fun a => ?_, fun H' d' F' t k o => ?_⟩
    · have := h3 a
      rw [List.count_append, List.count_append]
      omega
    · obtain ⟨G, g1, g2⟩ := h4 H' d' F' t (fun a ha => k a (List.mem_append_right _ ha)) o
      refine ⟨F1 ++ G, .cons (x.mono t fun a ha => k a (List.mem_append_left _ ha)) g1, fun a => ?_⟩
      have := g2 a
      rw [List.count_append, List.count_append]
      omega
theorem imm_getP : ∀ (ks : List Int) (d e : D), imm d = true → getP ks d = some e → imm e = true := by
  have memL : ∀ (ds : List D) (j : Nat) (d : D), immL ds = true → ds[j]? = some d → imm d = true := by
    intro ds
    induction ds with
    | nil => intro j d _ h; simp at h
    | cons x xs ih =>
      intro j d h1 h2
      have h3 : (imm x && immL xs) = true := by simpa only [immL] using h1
      have h4 := Bool.and_eq_true_iff.mp h3
      cases j with
      | zero => simp at h2; subst h2; exact h4.1
      | succ j => exact ih j d h4.2 (by simpa using h2)
  intro ks
  induction ks with
  | nil => intro d e h g; cases g; exact h
  | cons k ks ih =>
    intro d e h g
    cases d with
    | lst ds => simp [imm] at h
    | tup ds =>
      obtain ⟨x, g1, g2⟩ := Option.bind_eq_some_iff.mp (show (atI ds k).bind (getP ks) = some e from g)
      obtain ⟨j, _, g3⟩ := atI_some g1
      exact ih x e (memL ds j x (by simpa [imm] using h) g3) g2
    | _ => cases g
theorem own_path : ∀ (ks : List Int) (d : D) (v : V) (F : List Addr) (ds : List D), Own K H v d F → getP ks d = some (.lst ds) →
    ∃ (p : Addr) (vs : List V) (F1 R : List Addr), WkP H ks v (.ref p) ∧ H p = some (.lst vs) ∧ OwnL K H vs ds F1 ∧ (∀ a, F.count a = (p :: F1).count a + R.count a) ∧
      ∀ (H' : Hp) (d' : D) (F' : List Addr), Tk H H' → (∀ a ∈ R, a ≠ p → H' a = H a) → (∀ a, F.count a ≤ 1) → Own K H' (.ref p) d' F' → ∃ G : List Addr, Own K H' v (setP ks d d') G ∧ ∀ a, G.count a = F'.count a + R.count a := by
  intro ks
  induction ks with
  | nil =>
    intro d v F ds o g
    cases g
    cases o with
    | im hi _ => simp [imm] at hi
    | lst hp r =>
      rename_i p vs F1
      exact ⟨p, vs, F1, [], .nil _, hp, r, fun a => by simp, fun H' d' F' t k n o' => ⟨F', o', fun a => by simp⟩⟩
  | cons k ks ih =>
    intro d v F ds o g
    have nim : imm d = false := by
      cases hi : imm d with
      | false => rfl
      | true => exact absurd (imm_getP _ _ _ hi g) (by simp [imm])
    cases o with
    | im hi _ => rw [nim] at hi; cases hi
    | dk _ _ _ => cases g
    | dt _ _ _ => cases g
    | dn _ _ _ _ => cases g
    | ob _ _ _ _ => cases g
    | lst hp r =>
      rename_i p vs es F0
      obtain ⟨x, g1, g2⟩ := Option.bind_eq_some_iff.mp (show (atI es k).bind (getP ks) = some (.lst ds) from g)
      obtain ⟨j, g3, g4⟩ := atI_some g1
      obtain ⟨u, Fj, R, h1, h2, h3, h4⟩ := r.at_ g4
      obtain ⟨q, us, F1, R1, w1, w2, w3, w4, w5⟩ := ih x u Fj ds h2 g2
      have len : vs.length = es.length := (r.re (G := H) fun _ _ => rfl).length
      refine ⟨q, us, F1, p :: R ++ R1, .lst hp (atI_mk (by rw [len]; exact g3) h1) w1, w2, w3, fun a => ?_, fun H' d' F' t kp n o' => ?_⟩
      · have e1 := h3 a
        have e2 := w4 a
        simp only [List.count_cons, List.cons_append, List.count_append] at e1 e2 ⊢
        omega
      · have nq : ∀ a ∈ p :: R ++ R1, a ≠ q := fun a ha e => by
          subst e
          have e1 := h3 a
          have e2 := w4 a
          have e3 := n a
          have e4 := mem_count ha
          simp only [List.cons_append, List.count_cons, List.count_append, beq_self_eq_true, if_true] at e2 e3 e4
          omega
        have kk : ∀ a ∈ p :: R ++ R1, H' a = H a := fun a ha => kp a ha (nq a ha)
        obtain ⟨G1, z1, z2⟩ := w5 H' d' F' t (fun a ha _ => kk a (List.mem_append_right _ ha)) (fun a => by have e1 := h3 a; have e3 := n a; rw [List.count_cons] at e3; omega) o'
        obtain ⟨G, z3, z4⟩ := h4 H' (setP ks x d') G1 t (fun a ha => kk a (List.mem_append_left _ (List.mem_cons_of_mem _ ha))) z1
        have es' : setP (k :: ks) (.lst es) d' = .lst (es.set j (setP ks x d')) := by
          show (match atI es k with
            | some d => D.lst (setI es k (setP ks d d'))
            | none => .lst es) = _
          rw [g1]
          unfold setI
          simp only [g3]
        refine ⟨p :: G, by rw [es']; exact .lst ((kk p (by simp)).trans hp) z3, fun a => ?_⟩
        have e1 := z2 a
        have e2 := z4 a
        simp only [List.count_cons, List.cons_append, List.count_append] at e1 e2 ⊢
        omega
    | tup hp r =>
      rename_i p vs es
      obtain ⟨x, g1, g2⟩ := Option.bind_eq_some_iff.mp (show (atI es k).bind (getP ks) = some (.lst ds) from g)
      obtain ⟨j, g3, g4⟩ := atI_some g1
      obtain ⟨u, Fj, R, h1, h2, h3, h4⟩ := r.at_ g4
      obtain ⟨q, us, F1, R1, w1, w2, w3, w4, w5⟩ := ih x u Fj ds h2 g2
      have len : vs.length = es.length := (r.re (G := H) fun _ _ => rfl).length
      refine ⟨q, us, F1, R ++ R1, .tup hp (atI_mk (by rw [len]; exact g3) h1) w1, w2, w3, fun a => ?_, fun H' d' F' t kp n o' => ?_⟩
      · have e1 := h3 a
        have e2 := w4 a
        rw [List.count_append]
        omega
      · have nq : ∀ a ∈ R ++ R1, a ≠ q := fun a ha e => by
          subst e
          have e1 := h3 a
          have e2 := w4 a
          have e3 := n a
          have e4 := mem_count ha
          rw [List.count_append] at e4
          rw [List.count_cons_self] at e2
          omega
        have kk : ∀ a ∈ R ++ R1, H' a = H a := fun a ha => kp a ha (nq a ha)
        obtain ⟨G1, z1, z2⟩ := w5 H' d' F' t (fun a ha _ => kk a (List.mem_append_right _ ha)) (fun a => by have e1 := h3 a; have e3 := n a; omega) o'
        obtain ⟨G, z3, z4⟩ := h4 H' (setP ks x d') G1 t (fun a ha => kk a (List.mem_append_left _ ha)) z1
        have es' : setP (k :: ks) (.tup es) d' = .tup (es.set j (setP ks x d')) := by
          show (match atI es k with
            | some d => D.tup (setI es k (setP ks d d'))
            | none => .tup es) = _
          rw [g1]
          unfold setI
          simp only [g3]
        refine ⟨G, by rw [es']; exact .tup (t.t _ _ hp) z3, fun a => ?_⟩
        have e1 := z2 a
        have e2 := z4 a
        rw [List.count_append]
        omega
end
end Dv

namespace Dv
open PySem L2 Evl

section
variable {K : PySem.W.Frag} {W : WW} {B H H' : Hp} {σ : L2.St} {s : SD} {Fs : List (List Addr)} {i : Nat} {E : List Addr}
theorem tk_upd {H : Hp} {p : Addr} {vs ys : List V} (hp : H p = some (.lst vs)) : Tk H (upd H p (.lst ys)) :=
  ⟨fun q zs h => by rw [upd_ne (ne_of h hp (fun z => nomatch z))]; exact h, fun q o u h => by rw [upd_ne (ne_of h hp (fun z => nomatch z))]; exact h⟩
theorem live_upd {H : Hp} {p a : Addr} {o : HO} (h : H a ≠ none) : upd H p o a ≠ none := by
  by_cases q : a = p
  · subst q; rw [upd_same]; exact fun z => nomatch z
  · rw [upd_ne q]; exact h
theorem mut_slot {ks : List Int} {d : D} {ds : List D} (R0 : Rel K B H σ s Fs) (hs : s[i]? = some (some (d, .full))) (g : getP ks d = some (.lst ds)) (hv : ∀ a, w B a + (E ++ Fs.flatten).count a ≤ 1) :
    ∃ (v : V) (p : Addr) (vs : List V) (F1 : List Addr), σ[i]? = some (some v) ∧ WkP H ks v (.ref p) ∧ H p = some (.lst vs) ∧ OwnL K H vs ds F1 ∧ (∀ a ∈ F1, a ≠ p) ∧ (∀ a ∈ E, a ≠ p) ∧
      ∀ (vs' : List V) (ds' : List D) (F' : List Addr), OwnL K (upd H p (.lst vs')) vs' ds' F' → (∀ a, F'.count a ≤ F1.count a + E.count a) →
        ∃ G : List Addr, Rel K B (upd H p (.lst vs')) σ (s.set i (some (setP ks d (.lst ds'), .full))) (Fs.set i G) ∧ SS B H (E ++ Fs.flatten) B (upd H p (.lst vs')) (Fs.set i G).flatten := by
  obtain ⟨v, hσ, o⟩ := R0.at_ i d .full hs
  have o : Own K H v d (Fs.getD i []) := o
  obtain ⟨p, vs, F1, R, w1, w2, w3, w4, w5⟩ := own_path ks d v _ ds o g
  have hi := lt_of_get hs
  have hF : i < Fs.length := by rw [R0.l2, ← R0.l1]; exact hi
  have hp1 : ∀ a, (Fs.getD i []).count a + E.count a ≤ 1 := fun a => by
    have h1 := hv a
    have h2 := flat_get (Fs := Fs) (i := i) a
    rw [List.count_append] at h1
    omega
  have pS : 0 < Fs.flatten.count p := by
    have h1 := w4 p
    have h2 := flat_get (Fs := Fs) (i := i) p
    rw [List.count_cons_self] at h1
    omega
  have hBp : B p = none := by
    have h1 := R0.wf p
    exact w_zero (by omega)
  refine ⟨v, p, vs, F1, hσ, w1, w2, w3, fun a ha e => ?_, fun a ha e => ?_, fun vs' ds' F' o' c' => ?_⟩
  · subst e
    have h1 := w4 a
    have h2 := hp1 a
    have h3 := mem_count ha
    rw [List.count_cons_self] at h1
    omega
  · subst e
    have h1 := w4 a
    have h2 := hp1 a
    have h3 := mem_count ha
    rw [List.count_cons_self] at h1
    omega
  · have tk := tk_upd (ys := vs') w2
    obtain ⟨G, o2, cG⟩ := w5 (upd H p (.lst vs')) (.lst ds') (p :: F') tk (fun a _ hn => upd_ne hn) (fun a => by have := hp1 a; omega) (.lst upd_same o')
    have le : ∀ a, (Fs.set i G).flatten.count a ≤ (E ++ Fs.flatten).count a := fun a => by
      have h1 := flat_set (F := G) hF a
      have h2 := cG a
      have h3 := w4 a
      have h4 := c' a
      rw [List.count_append]
      rw [List.count_cons] at h2 h3
      omega
    have q : RS K B (upd H p (.lst vs')) v (setP ks d (.lst ds')) .full G := o2
    refine ⟨G, ⟨fun a x h => ?_, by rw [List.length_set]; exact R0.l1, by rw [List.length_set]; exact R0.l2, fun j d' ow' e => ?_, fun a => ?_, fun a ha => ?_⟩, ⟨Ex.refl _, tk, fun a ha z => ?_, fun a ha => live_upd ha, fun a ha => ?_⟩⟩
    · rw [upd_ne (fun q => by rw [q, hBp] at h; cases h)]
      exact R0.ex a x h
    · rw [getD_set hF]
      by_cases ej : j = i
      · subst ej
        rw [List.getElem?_set_self hi] at e
        rw [if_pos rfl]
        cases e
        exact ⟨v, hσ, q⟩
      · rw [List.getElem?_set_ne (Ne.symm ej)] at e
        rw [if_neg ej]
        obtain ⟨u, h1, h2⟩ := R0.at_ j d' ow' e
        refine ⟨u, h1, h2.mono (Ex.refl _) tk fun a ha => upd_ne fun q => ?_⟩
        subst q
        have h3 : 0 < (Fs.getD i []).count a := by
          have := w4 a
          rw [List.count_cons_self] at this
          omega
        have h4 := mem_count ha
        have h5 := R0.wt a
        have h6 := tot_get2 Fs j i a ej
        omega
    · rw [← tot_flat]
      have := le a
      have := hv a
      omega
    · rcases mem_set_flat ha with h | h
      · exact live_upd (R0.lv a h)
      · exact q.live a h
    · refine upd_ne fun q => ?_
      subst q
      rw [List.count_append] at z
      omega
    · have := le a
      omega
theorem mut_top {ds : List D} (R0 : Rel K B H σ s Fs) (hs : s[i]? = some (some (.lst ds, .top))) :
    ∃ (p : Addr) (vs : List V), σ[i]? = some (some (.ref p)) ∧ H p = some (.lst vs) ∧ ReL K B H vs ds ∧ B p = none ∧
      ∀ (vs' : List V) (ds' : List D), ReL K B (upd H p (.lst vs')) vs' ds' → Rel K B (upd H p (.lst vs')) σ (s.set i (some (.lst ds', .top))) Fs ∧ SS B H Fs.flatten B (upd H p (.lst vs')) Fs.flatten := by
  obtain ⟨v, hσ, p, vs, ds0, rfl, e2, w2, w3, w4⟩ := R0.at_ i _ .top hs
  cases e2
  have hi := lt_of_get hs
  have hF : i < Fs.length := by rw [R0.l2, ← R0.l1]; exact hi
  have pS : 0 < (Fs.getD i []).count p := by rw [w4]; simp
  have hBp : B p = none := by
    have h1 := R0.wf p
    have h2 := flat_get (Fs := Fs) (i := i) p
    exact w_zero (by omega)
  refine ⟨p, vs, hσ, w2, w3, hBp, fun vs' ds' r' => ?_⟩
  have tk := tk_upd (ys := vs') w2
  refine ⟨⟨fun a x h => ?_, by rw [List.length_set]; exact R0.l1, R0.l2, fun j d' ow' e => ?_, R0.wt, fun a ha => live_upd (R0.lv a ha)⟩, ⟨Ex.refl _, tk, fun a ha z => ?_, fun a ha => live_upd ha, fun a ha => Nat.le_refl _⟩⟩
  · rw [upd_ne (fun q => by rw [q, hBp] at h; cases h)]
    exact R0.ex a x h
  · by_cases ej : j = i
    · subst ej
      rw [List.getElem?_set_self hi] at e
      cases e
      exact ⟨_, hσ, p, vs', ds', rfl, rfl, upd_same, r', w4⟩
    · rw [List.getElem?_set_ne (Ne.symm ej)] at e
      obtain ⟨u, h1, h2⟩ := R0.at_ j d' ow' e
      refine ⟨u, h1, h2.mono (Ex.refl _) tk fun a ha => upd_ne fun q => ?_⟩
      subst q
      have h4 := mem_count ha
      have h5 := R0.wt a
      have h6 := tot_get2 Fs j i a ej
      omega
  · refine upd_ne fun q => ?_
    subst q
    have h2 := flat_get (Fs := Fs) (i := i) a
    omega
def sApp (i : Nat) (c : DE (D × Ow)) : DS := fun s => match s[i]? with
  | some (some (.lst _, ow0)) => if ow0 = .no then none else match c s with
    | some (.ok (e, eo) s1) => match s1[i]? with
      | some (some (.lst ds, .full)) => if eo = .full ∧ ds.length < 1000000 then some (.next (s1.set i (some (.lst (ds ++ [e]), .full)))) else none
      | some (some (.lst ds, .top)) => if ds.length < 1000000 then some (.next (s1.set i (some (.lst (ds ++ [e]), .top)))) else none
      | _ => none
    | some (.exc x s1) => some (.exc x s1)
    | none => none
  | _ => none
abbrev tApp (K : PySem.W.Frag) (to tc : TE) : TS := tDrop (tBM K "list" rAppend to (tCons tc tNil))
variable {tc : TE} {c : DE (D × Ow)}
theorem jsApp (hc : JC K W tc c) : JS K W (tApp K (tVar i) tc) (sApp i c) := by
  intro s o e B H σ Fs R0 En p
  unfold sApp at e
  split at e
  · rename_i ds0 ow0 h0
    split at e
    · cases e
    · rename_i hno
      -- the list's place
      have place : ∃ q vs, σ[i]? = some (some (.ref q)) ∧ H q = some (.lst vs) := by
        obtain ⟨v, hσ, r⟩ := R0.at_ i _ _ h0
        cases ow0 with
        | no => exact absurd rfl hno
        | adr a =>
          obtain ⟨r, rfl⟩ := r
          obtain ⟨F0, hF0⟩ : ∃ F0, F0 = Fs.getD i [] := ⟨_, rfl⟩
          rw [← hF0] at r
          cases r with
          | im hi _ => simp [imm] at hi
          | lst h _ => exact ⟨_, _, hσ, h⟩
        | top =>
          obtain ⟨q, vs, _, rfl, _, h, _⟩ := r
          exact ⟨q, vs, hσ, h⟩
        | full =>
          have r : Own K H v (.lst ds0) (Fs.getD i []) := r
          obtain ⟨F0, hF0⟩ : ∃ F0, F0 = Fs.getD i [] := ⟨_, rfl⟩
          rw [← hF0] at r
          cases r with
          | im hi _ => simp [imm] at hi
          | lst h _ => exact ⟨_, _, hσ, h⟩
      obtain ⟨q, vs0, hσ, hq⟩ := place
      refine ⟨.ref q, hσ, .inl ⟨rfl, vs0, sq_of hq⟩, ?_⟩
      cases e1 : c s with
      | none => rw [e1] at e; cases e
      | some r =>
        rw [e1] at e
        refine hc s r e1 B H σ Fs R0 _ ?_
        cases r with
        | exc x s1 =>
          cases e
          exact fun B' H' Fs' x y => p σ B' H' Fs' x y.ss
        | ok z s1 =>
          obtain ⟨d, eo⟩ := z
          intro v B' H' Fs' F R1 y zz l qv
          have qv : RS K B' H' v d eo F := qv
          simp only at e
          split at e
          · rename_i ds h1
            split at e
            · rename_i hh
              obtain ⟨hf, hz⟩ := hh
              subst hf
              cases e
              obtain ⟨v2, p2, vs2, F1, a1, a2, a3, a4, a5, a6, a7⟩ := mut_slot (ks := []) (ds := ds) (E := F) R1 h1 rfl zz
              rw [hσ] at a1
              cases a1
              cases a2
              refine ⟨_, vs2, v, rfl, rfl, a3, ?_, ?_⟩
              · rw [(a4.re (G := H') fun _ _ => rfl).length]
                exact Nat.lt_of_lt_of_le hz (by decide)
              · have tk := tk_upd (ys := vs2 ++ [v]) a3
                have o2 : OwnL K (upd H' q (.lst (vs2 ++ [v]))) (vs2 ++ [v]) (ds ++ [d]) (F1 ++ (F ++ [])) :=
                  (a4.mono tk fun a ha => upd_ne (a5 a ha)).append (.cons (Own.mono tk qv fun a ha => upd_ne (a6 a ha)) .nil)
                obtain ⟨G, b1, b2⟩ := a7 _ _ _ o2 fun a => by simp only [List.count_append, List.append_nil]; omega
                exact p σ _ _ _ b1 (y.ss.trans b2)
            · cases e
          · rename_i ds h1
            split at e
            · rename_i hz
              cases e
              -- what the new thing owns is let go
              have R2 := R1.know zz
              have y2 := y.let_go F Fs'.flatten l (fun a => List.count_append) R1.ex
              obtain ⟨p2, vs2, a1, a3, a4, a5, a7⟩ := mut_top R2 h1
              rw [hσ] at a1
              cases a1
              refine ⟨_, vs2, v, rfl, rfl, a3, ?_, ?_⟩
              · rw [a4.length]
                exact Nat.lt_of_lt_of_le hz (by decide)
              · have tk := tk_upd (ys := vs2 ++ [v]) a3
                obtain ⟨b1, b2⟩ := a7 (vs2 ++ [v]) (ds ++ [d]) ((a4.mono (Ex.refl _) tk).append (.cons ((qv.fz (frz_ex R1.ex) fun a ha => frz_in ha).mono (Ex.refl _) tk) .nil))
                exact p σ _ _ _ b1 (y2.ss.trans b2)
            · cases e
          · cases e
  · cases e
end
end Dv

namespace Dv
open PySem L2 Evl

structure QB (X : Cx) (K : PySem.W.Frag) (W : WW) (e : Expr) (t : TE) (d : DE D) : Prop where
  hk : X.K = K
  p : PE X e t
  j : JB K W t d
structure QC (X : Cx) (K : PySem.W.Frag) (W : WW) (e : Expr) (t : TE) (d : DE (D × Ow)) : Prop where
  hk : X.K = K
  p : PE X e t
  j : JC K W t d
structure QT (X : Cx) (K : PySem.W.Frag) (W : WW) (e : Expr) (t : TT) (d : DE Bool) : Prop where
  hk : X.K = K
  p : PT X e t
  j : JT K W t d
structure QW (X : Cx) (K : PySem.W.Frag) (W : WW) (e : Expr) (t : TT) (d : DE Bool) : Prop where
  hk : X.K = K
  p : PW X e t
  j : JT K W t d
structure QTs (X : Cx) (K : PySem.W.Frag) (W : WW) (es : List Expr) (t : TT) (d : DE Bool) : Prop where
  hk : X.K = K
  p : PTs X es t
  j : JT K W t d
structure QA (X : Cx) (K : PySem.W.Frag) (W : WW) (es : List Expr) (t : TA) (d : DE (List D)) : Prop where
  hk : X.K = K
  p : PA X es t
  j : JA K W t d
structure QL (X : Cx) (K : PySem.W.Frag) (W : WW) (es : List Expr) (t : TA) (d : DE (List D × Bool)) : Prop where
  hk : X.K = K
  p : PA X es t
  j : JCL K W t d
structure QO (X : Cx) (K : PySem.W.Frag) (W : WW) (e : Option Expr) (t : TO) (d : DO) : Prop where
  hk : X.K = K
  p : PO X e t
  j : JO K W t d
structure QG (X : Cx) (K : PySem.W.Frag) (e : Expr) (g : TG) (d : DT) (own : List Nat) : Prop where
  hk : X.K = K
  p : PG X e g
  j : JG K g d own
structure QGs (X : Cx) (K : PySem.W.Frag) (es : List Expr) (is : List Nat) : Prop where
  hk : X.K = K
  p : PGs X es (gNs is)
structure QS (X : Cx) (K : PySem.W.Frag) (W : WW) (st : Stmt) (t : TS) (d : DS) : Prop where
  hk : X.K = K
  p : PS X st t
  j : JS K W t d
structure QSs (X : Cx) (K : PySem.W.Frag) (W : WW) (st : List Stmt) (t : TS) (d : DS) : Prop where
  hk : X.K = K
  p : PSs X st t
  j : JS K W t d

section
variable {X : Cx} {K : PySem.W.Frag} {W : WW} {x y : Str} {i : Nat} {p p2 pos : Pos} {a b c e : Expr} {es : List Expr} {ta tb tc te : TE} {da db dc de : DE D} {ca cb : DE (D × Ow)} {tt tu : TT} {dt du : DE Bool} {t : TA} {dA : DE (List D)} {dL : DE (List D × Bool)}
theorem q_var (i : Nat) (hk : X.K = K := by rfl) (hN : X.N[i]? = some x := by rfl) (hv : Vis X.env.scope x := by first | exact Or.inl rfl | exact Or.inr (Or.inl rfl) | exact Or.inr (Or.inr rfl)) (hd : (x == ("__debug__" : Str)) = false := by decide) (hcd : (x == ("__classdict__" : Str)) = false := by decide) : QB X K W (.Name x p) (tVar i) (dVar i) := ⟨hk, pv i hN hv hd hcd, jVar⟩
theorem q_mv (i : Nat) (hk : X.K = K := by rfl) (hN : X.N[i]? = some x := by rfl) (hv : Vis X.env.scope x := by first | exact Or.inl rfl | exact Or.inr (Or.inl rfl) | exact Or.inr (Or.inr rfl)) (hd : (x == ("__debug__" : Str)) = false := by decide) (hcd : (x == ("__classdict__" : Str)) = false := by decide) : QC X K W (.Name x p) (tVar i) (cMove i) := ⟨hk, pv i hN hv hd hcd, jMove⟩
theorem q_al (i : Nat) (hk : X.K = K := by rfl) (hN : X.N[i]? = some x := by rfl) (hv : Vis X.env.scope x := by first | exact Or.inl rfl | exact Or.inr (Or.inl rfl) | exact Or.inr (Or.inr rfl)) (hd : (x == ("__debug__" : Str)) = false := by decide) (hcd : (x == ("__classdict__" : Str)) = false := by decide) : QC X K W (.Name x p) (tVar i) (cAlias i) := ⟨hk, pv i hN hv hd hcd, jAlias⟩
theorem q_int {n : Int} {jj} (hk : X.K = K := by rfl) : QB X K W (.Constant (.int n) jj p) (tC (.int n)) (dC (.int n)) := ⟨hk, pe_int, jInt⟩
theorem q_bl {n : Bool} {jj} (hk : X.K = K := by rfl) : QB X K W (.Constant (.bool n) jj p) (tC (.bl n)) (dC (.bl n)) := ⟨hk, pe_bl, jBl⟩
theorem qToC (h : QB X K W e te de) : QC X K W e te (toC de) := ⟨h.hk, h.p, jToC h.j⟩
theorem qToB (h : QC X K W e te ca) : QB X K W e te (toB ca) := ⟨h.hk, h.p, jToB h.j⟩
theorem qSh (h : QB X K W e te de) : QC X K W e te (cShare de) := ⟨h.hk, h.p, jShare h.j⟩
theorem q_op {op : Operator} {r : PySem.W.Frag → R2} {f : D → D → Option D} (ho : OpR X (binaryOp op) (r X.K)) (hr : RV K (r K) f) (ha : QB X K W a ta da) (hb : QB X K W b tb db) : QB X K W (.BinOp a op b pos) (tOp (r K) ta tb) (dOp f da db) := by
  obtain ⟨rfl, pa, ja⟩ := ha
  exact ⟨rfl, pe_op ho pa hb.p, jOp hr ja hb.j⟩
theorem q_sub (ha : QB X K W a ta da) (hb : QB X K W b tb db) : QB X K W (.BinOp a .Sub b pos) (tOp rSub ta tb) (dOp fSub da db) := q_op (r := fun _ => rSub) op_sub rvSub ha hb
theorem q_mod (ha : QB X K W a ta da) (hb : QB X K W b tb db) : QB X K W (.BinOp a .Mod b pos) (tOp rMod ta tb) (dOp fMod da db) := q_op (r := fun _ => rMod) op_mod rvMod ha hb
theorem q_add (ha : QB X K W a ta da) (hb : QB X K W b tb db) : QC X K W (.BinOp a .Add b pos) (tOp (rAddU K) ta tb) (cAdd da db) := by
  obtain ⟨rfl, pa, ja⟩ := ha
  exact ⟨rfl, pe_op op_addU pa hb.p, jcAdd ja hb.j⟩
theorem q_mul (ha : QB X K W a ta da) (hb : QB X K W b tb db) : QC X K W (.BinOp a .Mult b pos) (tOp (rMulU K) ta tb) (cMul da db) := by
  obtain ⟨rfl, pa, ja⟩ := ha
  exact ⟨rfl, pe_op op_mulU pa hb.p, jcMul ja hb.j⟩
theorem q_cmp {op : CmpOp} {r : PySem.W.Frag → R2} {f : D → D → Option D} (ho : OpR X (compareOp op) (r X.K)) (hr : RV K (r K) f) (hm : behindInMarks op b = false) (ha : QB X K W a ta da) (hb : QB X K W b tb db) : QB X K W (.Compare a [op] [b] pos) (tOp (r K) ta tb) (dOp f da db) := by
  obtain ⟨rfl, pa, ja⟩ := ha
  exact ⟨rfl, pe_cmpR ho pa hb.p hm, jOp hr ja hb.j⟩
theorem qt_cmp {op : CmpOp} {r : PySem.W.Frag → R2} {f : D → D → Option D} (ho : OpR X (compareOp op) (r X.K)) (hr : RV K (r K) f) (hm : behindInMarks op b = false) (ha : QB X K W a ta da) (hb : QB X K W b tb db) : QT X K W (.Compare a [op] [b] pos) (tTest (tOp (r K) ta tb)) (dTest (dOp f da db)) := by
  obtain ⟨rfl, pa, ja⟩ := ha
  exact ⟨rfl, pt_cmpR ho pa hb.p hm, jTest (jOp hr ja hb.j)⟩
theorem q_eq (hu : X.A.units + 64 < cLine) (ha : QB X K W a ta da) (hb : QB X K W b tb db) : QB X K W (.Compare a [.Eq] [b] pos) (tOp (rEqD K) ta tb) (dOp fEq da db) := q_cmp (r := rEqD) (op_eqD hu) rvEq (nomark _) ha hb
theorem qt_eq (hu : X.A.units + 64 < cLine) (ha : QB X K W a ta da) (hb : QB X K W b tb db) : QT X K W (.Compare a [.Eq] [b] pos) (tTest (tOp (rEqD K) ta tb)) (dTest (dOp fEq da db)) := qt_cmp (r := rEqD) (op_eqD hu) rvEq (nomark _) ha hb
theorem qt_ne (hu : X.A.units + 64 < cLine) (ha : QB X K W a ta da) (hb : QB X K W b tb db) : QT X K W (.Compare a [.NotEq] [b] pos) (tTest (tOp (rNeD K) ta tb)) (dTest (dOp fNe da db)) := qt_cmp (r := rNeD) (op_neD hu) rvNe (nomark _) ha hb
theorem qt_lt (ha : QB X K W a ta da) (hb : QB X K W b tb db) : QT X K W (.Compare a [.Lt] [b] pos) (tTest (tOp rLt ta tb)) (dTest (dOp fLt da db)) := qt_cmp (r := fun _ => rLt) op_lt rvLt (nomark _) ha hb
theorem qt_gt (ha : QB X K W a ta da) (hb : QB X K W b tb db) : QT X K W (.Compare a [.Gt] [b] pos) (tTest (tOp rGt' ta tb)) (dTest (dOp fGt da db)) := qt_cmp (r := fun _ => rGt') op_gt rvGt (nomark _) ha hb
theorem qt_ge (ha : QB X K W a ta da) (hb : QB X K W b tb db) : QT X K W (.Compare a [.GtE] [b] pos) (tTest (tOp rGe' ta tb)) (dTest (dOp fGe da db)) := qt_cmp (r := fun _ => rGe') op_ge rvGe (nomark _) ha hb
theorem qt_val (h : QB X K W e te de) (he : ∀ whole, isTrue e X.env whole = (do let v ← whole; standAt e.pos; holding [v] (truthy v)) := by intro _; rfl) : QT X K W e (tB te) (dTest de) := ⟨h.hk, pt_val h.p he, jTB h.j⟩
theorem qw_pt (h : QW X K W e tt dt) : QT X K W e tt dt := ⟨h.hk, h.p.pt, h.j⟩
theorem qw_and1 (h : QT X K W a tt dt) : QW X K W (.BoolOp .And [a] pos) tt dt := ⟨h.hk, pw_and1 h.p, h.j⟩
theorem qw_or1 (h : QT X K W a tt dt) : QW X K W (.BoolOp .Or [a] pos) tt dt := ⟨h.hk, pw_or1 h.p, h.j⟩
theorem qw_and (h : QT X K W a tt dt) (g : QW X K W (.BoolOp .And (b :: es) pos) tu du) : QW X K W (.BoolOp .And (a :: b :: es) pos) (tAnd tt tu) (dAnd dt du) := ⟨h.hk, pw_and h.p g.p, jAnd h.j g.j⟩
theorem qw_or (h : QT X K W a tt dt) (g : QW X K W (.BoolOp .Or (b :: es) pos) tu du) : QW X K W (.BoolOp .Or (a :: b :: es) pos) (tOr tt tu) (dOr dt du) := ⟨h.hk, pw_or h.p g.p, jOr h.j g.j⟩
theorem qt_not (h : QT X K W a tt dt) : QT X K W (.UnaryOp .Not a pos) (tNot tt) (dNot dt) := ⟨h.hk, pt_not h.p, jNot h.j⟩
theorem q_one {op} (h : QB X K W a ta da) : QB X K W (.BoolOp op [a] pos) ta da := ⟨h.hk, pe_one h.p, h.j⟩
theorem q_and (h : QB X K W a ta da) (g : QB X K W (.BoolOp .And (b :: es) pos) tb db) : QB X K W (.BoolOp .And (a :: b :: es) pos) (tAndV ta tb) (dAndV da db) := ⟨h.hk, pe_and h.p g.p, jAndV h.j g.j⟩
theorem q_ix (ha : QB X K W a ta da) (hb : QB X K W b tb db) (hs : PlainIx b := by exact fun _ _ => rfl) : QB X K W (.Subscript a b pos) (tOp (rIx K) ta tb) (dOp fIx da db) := by
  obtain ⟨rfl, pa, ja⟩ := ha
  exact ⟨rfl, pe_ix ix_seq pa hb.p hs, jOp rvIx ja hb.j⟩
variable {o1 o2 : Option Expr} {tl th : TO} {dl dh : DO}
theorem qa_nil (hk : X.K = K := by rfl) : QA X K W [] tNil dNil := ⟨hk, pa_nil, jNil⟩
theorem qa_cons (h : QB X K W a ta da) (r : QA X K W es t dA) (hs : starEach (a :: es) X.env = (false, eval a X.env) :: starEach es X.env := by rfl) : QA X K W (a :: es) (tCons ta t) (dCons da dA) := ⟨h.hk, pa_cons h.p r.p hs, jCons h.j r.j⟩
theorem ql_nil (hk : X.K = K := by rfl) : QL X K W [] tNil cNil := ⟨hk, pa_nil, jcNil⟩
theorem ql_cons (h : QC X K W a ta ca) (r : QL X K W es t dL) (hs : starEach (a :: es) X.env = (false, eval a X.env) :: starEach es X.env := by rfl) : QL X K W (a :: es) (tCons ta t) (cCons ca dL) := ⟨h.hk, pa_cons h.p r.p hs, jcCons h.j r.j⟩
theorem q_lst (h : QL X K W es t dL) : QC X K W (.List es pos) (tLst t) (cLst dL) := ⟨h.hk, pe_lst h.p, jcLst h.j⟩
theorem q_cb {id : String} {r : PySem.W.Frag → List V → Hp → VK → Prop} {f : List D → Option D} (hc : CallR X (.builtin id) (r X.K)) (hf : RCL K (r K) f) (hv : bootBuiltins x = some (.builtin id)) (hg : Gl X x) (hm : X.mg x = none) (h : QA X K W (e :: es) t dA) (hn : x ≠ "__name__" := by decide) (hdb : (x == ("__debug__" : Str)) = false := by decide)
    (he : starEach (e :: es) X.env = (false, eval e X.env) :: starEach es X.env := by rfl) (hpl : (backTo pos (starEach es X.env)).any (·.1) = false := by rfl) : QB X K W (.Call (.Name x p) (e :: es) [] pos) (tCB (r K) t) (dCB f dA) := by
  obtain ⟨rfl, pa, ja⟩ := h
  exact ⟨rfl, pe_callB hc hg hm hv pa hn hdb he hpl, jCB hf ja⟩
abbrev cpLen : CallR X (.builtin "len") (rLenU X.K) := call_lenU
theorem q_len (hg : Gl X "len") (hm : X.mg "len" = none) (h : QA X K W (e :: es) t dA) (he : starEach (e :: es) X.env = (false, eval e X.env) :: starEach es X.env := by rfl) (hpl : (backTo pos (starEach es X.env)).any (·.1) = false := by rfl) : QB X K W (.Call (.Name "len" p) (e :: es) [] pos) (tCB (rLenU K) t) (dCB fLen dA) := q_cb (r := rLenU) call_lenU rclLen boot_len hg hm h (he := he) (hpl := hpl)
theorem q_list (hg : Gl X "list") (hm : X.mg "list" = none) (h : QA X K W (e :: es) t dA) (he : starEach (e :: es) X.env = (false, eval e X.env) :: starEach es X.env := by rfl) (hpl : (backTo pos (starEach es X.env)).any (·.1) = false := by rfl) : QC X K W (.Call (.Name "list" p) (e :: es) [] pos) (tCB (rListO K) t) (cListOf dA) := by
  obtain ⟨rfl, pa, ja⟩ := h
  exact ⟨rfl, pe_callTy call_list_of hg hm (by rfl) pa (by decide) (by decide) he hpl, jcListOf ja⟩
theorem q_isi {T : Str} {s : String} (hg : Gl X "isinstance") (hm : X.mg "isinstance" = none) (hgT : Gl X T) (hmT : X.mg T = none) (hv : bootBuiltins T = some (.type s)) (ha : QB X K W a ta da) (hn : T ≠ "__name__" := by decide) (hdb : (T == ("__debug__" : Str)) = false := by decide)
    (hs : starEach [a, .Name T p2] X.env = (false, eval a X.env) :: starEach [.Name T p2] X.env := by rfl) (hpl : (backTo pos (starEach [.Name T p2] X.env)).any (·.1) = false := by rfl) : QB X K W (.Call (.Name "isinstance" p) [a, .Name T p2] [] pos) (tCB (rIsi K) (tCons ta (tCons (tC (.ty s)) tNil))) (dIsi s da) := by
  obtain ⟨rfl, pa, ja⟩ := ha
  exact ⟨rfl, pe_callB call_isi hg hm (by rfl) (pa_cons pa (pa_cons (pe_bltn hgT hmT hv rfl hn hdb) pa_nil (by rfl)) hs) (by decide) (by decide) hs hpl, jIsi ja⟩
theorem q_call {cl : Str → Value} {Wx : WX} {k n : Nat} {f : Addr} {fd : FuncData} {ps : List Str} {df : DF} (tk : Takes X Wx) (F : FnOk X.prog X.w X.K X.mg X.base (L2.CX X.prog X.w) k f fd ps (spD K cl n df)) (hr : Room k X.A) (hm : X.mg x = some (.ref f)) (kp : PySem.W.keepIn X.K (.ref f) = true) (hb : Binds X.K fd ps [])
    (hn : ∀ ds, df ds ≠ none → ds.length = n) (hg : Gl X x) (h : QA X K (wOf cl Wx) (e :: es) t dA) (hdb : (x == ("__debug__" : Str)) = false := by decide) (he : starEach (e :: es) X.env = (false, eval e X.env) :: starEach es X.env := by rfl) (hpl : (backTo pos (starEach es X.env)).any (·.1) = false := by rfl) :
    QC X K (wOf cl Wx) (.Call (.Name x p) (e :: es) [] pos) (tCallS (spD K cl n df) (WE Wx) t) (cCall df dA) := by
  obtain ⟨rfl, pa, ja⟩ := h
  exact ⟨rfl, pe_callS F hr hg hm kp hb (fun σ => passAt tk σ) pa hdb he hpl, jcCall hn ja⟩
theorem qg_name (i : Nat) (hk : X.K = K := by rfl) (hN : X.N.Nodup) (hi : X.N[i]? = some x := by rfl) (hx : Loc X.env.scope x := by first | exact Or.inl rfl | exact Or.inr rfl) (hf : X.fn x = true ∨ X.env.scope.names.lookup x = some .local := by first | exact .inl rfl | exact .inr rfl) : QG X K (.Name x pos) (gName i) (tgN i) [i] := ⟨hk, pg_name hN hi hx hf, jgN⟩
end
end Dv

namespace Dv
open PySem L2 Evl

section
variable {X : Cx} {K : PySem.W.Frag} {W : WW} {x y : Str} {i : Nat} {p p2 pos spos : Pos} {a b c e elt tg src : Expr} {es ifs : List Expr} {ta tb tc te : TE} {da db dc de : DE D} {ca cb : DE (D × Ow)} {tt tu : TT} {dt du : DE Bool} {t : TA} {dA : DE (List D)} {dL : DE (List D × Bool)} {g : TG} {tgd : DT} {ow : List Nat}
theorem qts_nil (hk : X.K = K := by rfl) : QTs X K W [] tYes (fun s => some (.ok true s)) := ⟨hk, pts_nil, by
  intro s r e B H σ Fs R0 Q p
  cases e
  exact Post.here R0 ⟨rfl, rfl⟩ p⟩
abbrev blkX (X : Cx) (scope : Scope) (s : Shared) (H : Hp) (C : Addr) (cl : List (Str × Addr)) (fp : List Addr) : Cx := X.blk s H scope (compEnvC scope cl C X.env) fp
section
variable {scope : Scope} {own : List (Str × Nat)}
theorem qs_lc (m : Bool) (i : Nat) (hc : X.calm = true) (hN : X.N.Nodup) (hs : QB X K W src ta da) (ok : BlkOk X.N X.env.scope scope own) (hg : ∀ s H C cl fp, QG (blkX X scope s H C cl fp) K tg g tgd (own.map (·.2))) (ht : ∀ s H C cl fp, QTs (blkX X scope s H C cl fp) K W0 ifs tt dt) (he : ∀ s H C cl fp, QC (blkX X scope s H C cl fp) K W0 elt te ca)
    (hy : X.N[i]? = some y := by rfl) (hyl : X.env.scope.names.lookup y = some .local := by rfl) (hsw : swapsWith (.ListComp elt [⟨tg, src, ifs, 0⟩] scope pos) (some (.Name y p)) spos.line X.env = pure true := by rfl) (hf : ∀ x, foldedSetIterable src X.env x = pure x := by intro _; rfl) :
    QS X K W (.Assign [.Name y p] (.ListComp elt [⟨tg, src, ifs, 0⟩] scope pos) spos) (tAsg (tLc (iSq K ta) g tt te (own.map (·.2))) (gName i)) (sSet i (cComp m tgd (own.map (·.2)) da dt ca)) := by
  obtain ⟨rfl, ps, js⟩ := hs
  exact ⟨rfl, ps_setLc hc hN hy hyl hsw (pi_or2 (pi_list ps) (pi_tup ps)) ok (fun s H C cl fp => (hg s H C cl fp).p) (fun s H C cl fp => (ht s H C cl fp).p) (fun s H C cl fp => (he s H C cl fp).p) hf,
    jsSet (jcComp js (hg X.s_0 X.H_0 0 [] []).j (ht X.s_0 X.H_0 0 [] []).j (he X.s_0 X.H_0 0 [] []).j)⟩
end
variable {st : Stmt} {body orelse rest : List Stmt} {t1 t2 : TS} {d1 d2 : DS}
theorem qss_nil (hk : X.K = K := by rfl) : QSs X K W [] tNext sNext := ⟨hk, pss_nil, jsNext⟩
theorem qss_one (h : QS X K W st t1 d1) : QSs X K W [st] t1 d1 := ⟨h.hk, pss_one h.p, h.j⟩
theorem qss_cons (h : QS X K W st t1 d1) (r : QSs X K W rest t2 d2) : QSs X K W (st :: rest) (tSeq t1 t2) (sSeq d1 d2) := ⟨h.hk, pss_cons h.p r.p, jsSeq h.j r.j⟩
theorem qs_set (i : Nat) (hN : X.N.Nodup) (he : QC X K W e te ca) (hi : X.N[i]? = some x := by rfl) (hx : Loc X.env.scope x := by first | exact Or.inl rfl | exact Or.inr rfl) (hs : swapsWith e (some (.Name x p)) pos.line X.env = pure false := by rfl) (hf : X.fn x = true ∨ X.env.scope.names.lookup x = some .local := by first | exact .inl rfl | exact .inr rfl) :
    QS X K W (.Assign [.Name x p] e pos) (tAsg te (gName i)) (sSet i ca) := ⟨he.hk, ps_set hN hi hx he.p hs hf, jsSet he.j⟩
theorem qs_ret (he : QC X K W e te ca) : QS X K W (.Return (some e) pos) (tRet te) (sRet ca) := ⟨he.hk, ps_ret he.p, jsRet he.j⟩
theorem qs_if (h : QT X K W c tt dt) (ha : QSs X K W body t1 d1) (hb : QSs X K W orelse t2 d2) : QS X K W (.If c body orelse pos) (tIfS tt t1 t2) (sIf dt d1 d2) := ⟨h.hk, ps_if h.p ha.p hb.p, jsIf h.j ha.j hb.j⟩
theorem qs_while (hp : PassesOwn (model X.prog X.w) X.A X.env X.xe) (h : QT X K W c tt dt) (hb : QSs X K W body t1 d1) : QS X K W (.While c body [] pos) (tWhile tt t1) (sWhile dt d1) := ⟨h.hk, ps_while hp h.p hb.p, jsWhile h.j hb.j⟩
theorem qs_for (hp : PassesOwn (model X.prog X.w) X.A X.env X.xe) (hc : X.calm = true) (hs : QC X K W src te ca) (hg : QG X K tg g tgd ow) (hb : QSs X K W body t1 d1) (hf : ∀ x, foldedSetIterable src X.env x = pure x := by intro _; rfl) : QS X K W (.For tg src body [] pos) (tFor (iSq K te) g t1) (sForC tgd ca d1) := by
  obtain ⟨rfl, ps, js⟩ := hs
  exact ⟨rfl, ps_for hp hc (pi_or2 (pi_list ps) (pi_tup ps)) hg.p hb.p hf, jsForC js hg.j hb.j⟩
theorem len_cons {ta : TE} {da : DE D} {l : DE (List D)} {s s1 : SD} {ds : List D} (e : dCons da l s = some (.ok ds s1)) {n : Nat} (h : ∀ s ds s1, l s = some (.ok ds s1) → ds.length = n) : ds.length = n + 1 := by
  unfold dCons bnd at e
  split at e
  · dsimp only at e
    split at e
    · rename_i e2
      cases e
      exact congrArg (· + 1) (h _ _ _ e2)
    · cases e
    · cases e
  · cases e
  · cases e
theorem len_nil {s s1 : SD} {ds : List D} (e : dNil s = some (.ok ds s1)) : ds.length = 0 := by
  cases e
  rfl
theorem qs_for1 (hp : PassesOwn (model X.prog X.w) X.A X.env X.xe) (hc : X.calm = true) (hg0 : Gl X "range") (hm : X.mg "range" = none) (hs : QB X K W a ta da) (hg : QG X K tg g tgd ow) (hb : QSs X K W body t1 d1) (h0 : starEach [a] X.env = [(false, eval a X.env)] := by rfl) : QS X K W (.For tg (.Call (.Name "range" p) [a] [] p2) body [] pos) (tFor (iRng1 (tCons ta tNil)) g t1) (sForR tgd (dCons da dNil) d1) :=
  ⟨hs.hk, ps_for hp hc (pi_range1 hg0 hm (pa_cons hs.p pa_nil h0) h0) hg.p hb.p, jsForR1 (jCons hs.j jNil) hg.j hb.j fun s ds s1 e => len_cons (ta := ta) e fun _ _ _ => len_nil⟩
end
def dFn (n N : Nat) (body : DS) : DF := fun ds => if ds.length = n then dDef N body ds else none
theorem dFn_len {n N : Nat} {body : DS} : ∀ ds, dFn n N body ds ≠ none → ds.length = n := fun ds h => by
  unfold dFn at h
  split at h
  · assumption
  · exact absurd rfl h
section
variable {P : Program} {w : World} {K : PySem.W.Frag} {mg : Str → Option Value} {base : Heap} {f : Addr} {fd : FuncData}
theorem q_def {cl : Str → Value} {x qual : Str} {pr : Arguments} {st : List Stmt} {scope : Scope} {N ps : List Str} {k : Nat} {d : DS} (F : FunD K x qual pr st scope [] [] f fd) (S : FnScope N ps scope) (hl : ps.length ≤ N.length)
    (h : ∀ (cdv : Value) (A : Around) (outer : List Env) (s : Shared) (H : Hp) (E : XK) (X : Cx), X = cxOf (L2.CX P w) P w K mg base N qual scope f cdv A outer s H E → Room k X.A → Takes X (fun cls d _ H => E cls d H) → PassesOwn (model X.prog X.w) X.A X.env X.xe → ∃ t, QSs X K (wOf cl fun cls d _ H => E cls d H) st t d) :
    FnOk P w K mg base (L2.CX P w) (k + 1) f fd ps (spD K cl ps.length (dFn ps.length N.length d)) := by
  refine F.ok S (fun vs H Q E h => spD_len h) (fun cdv A outer s H vs Q E hr sp => ?_)
  obtain ⟨t, q⟩ := h cdv A outer s H E _ rfl hr (takes_of rfl rfl rfl rfl) (passes_of rfl)
  refine ⟨t, q.p, def_ok hl q.j ?_⟩
  obtain ⟨B, ds, o, eB, r, el, ed, post⟩ := sp
  unfold dFn at ed
  rw [if_pos el] at ed
  exact ⟨B, ds, o, eB, r, el, ed, post⟩
end
end Dv

namespace Dv
open PySem L2 Evl

def blkB (N : List Str) (sc scope : Scope) (own : List (Str × Nat)) : Bool :=
  decide (scope.kind = .function) && (scope.names.all fun y => decide (scope.names.lookup y.1 = some y.2)) && (own.all fun p => decide (N[p.2]? = some p.1)) &&
    (scope.names.all fun y => decide (y.2 = .free → sc.names.lookup y.1 = some .cell ∨ sc.names.lookup y.1 = some .free)) &&
    scope.names.all fun y => decide (y.2 = .local ∨ y.2 = .cell → y.1 ∈ own.map (·.1) ∨ y.1 ∉ N)
theorem blkOk {N : List Str} {sc scope : Scope} {own : List (Str × Nat)} (h : blkB N sc scope own = true) : BlkOk N sc scope own := by
  unfold blkB at h
  simp only [Bool.and_eq_true, List.all_eq_true, decide_eq_true_eq] at h
  obtain ⟨⟨⟨⟨h1, h2⟩, h3⟩, h4⟩, h5⟩ := h
  exact ⟨h1, h2, h3, h4, h5⟩
structure Cal (P : Program) (w : World) (K : PySem.W.Frag) (mg : Str → Option Value) (base : Heap) (cl : Str → Value) (x : Str) (k n : Nat) (df : DF) : Prop where
  ex : ∃ (f : Addr) (fd : FuncData) (ps : List Str), FnOk P w K mg base (L2.CX P w) k f fd ps (spD K cl n df) ∧ mg x = some (.ref f) ∧ PySem.W.keepIn K (.ref f) = true ∧ Binds K fd ps []
def upOw (d : D) (ow : Ow) : Ow := match ow with
  | .top => match d with
    | .lst ds => if immL ds = true then .full else .top
    | _ => .top
  | o => o
def cUp (c : DE (D × Ow)) : DE (D × Ow) := fun s => match c s with
  | some (.ok (d, ow) s1) => some (.ok (d, upOw d ow) s1)
  | some (.exc x s1) => some (.exc x s1)
  | none => none
theorem RS.up {K : PySem.W.Frag} {B H : Hp} {v : V} {d : D} {ow : Ow} {F : List Addr} (q : RS K B H v d ow F) : RS K B H v d (upOw d ow) F := by
  cases ow with
  | full => exact q
  | no => exact q
  | adr a => exact q
  | top =>
    have q0 := q
    obtain ⟨p, vs, ds, rfl, rfl, h, r, rfl⟩ := q
    by_cases hi : immL ds = true
    · have e : upOw (.lst ds) .top = .full := if_pos hi
      rw [e]
      exact Own.lst h (OwnL.imms r hi)
    · have e : upOw (.lst ds) .top = .top := if_neg hi
      rw [e]
      exact q0
section
variable {X : Cx} {K : PySem.W.Frag} {x : Str} {i : Nat} {p p2 pos cpos apos : Pos} {a b c e : Expr} {es : List Expr} {ta tb tc te : TE} {da db dc de : DE D} {ca cb : DE (D × Ow)} {t : TA} {dA : DE (List D)} {W : WW}
theorem q_callC {cl : Str → Value} {Wx : WX} {k j n : Nat} {df : DF} (tk : Takes X Wx) (hr : Room j X.A) (C : Cal X.prog X.w X.K X.mg X.base cl x k n df) (hkj : k ≤ j) (hn : ∀ ds, df ds ≠ none → ds.length = n) (hg : Gl X x) (h : QA X K (wOf cl Wx) (e :: es) t dA)
    (hdb : (x == ("__debug__" : Str)) = false := by decide) (he : starEach (e :: es) X.env = (false, eval e X.env) :: starEach es X.env := by rfl) (hpl : (backTo pos (starEach es X.env)).any (·.1) = false := by rfl) :
    QC X K (wOf cl Wx) (.Call (.Name x p) (e :: es) [] pos) (tCallS (spD K cl n df) (WE Wx) t) (cCall df dA) := by
  have hk := h.hk
  subst hk
  obtain ⟨f, fd, ps, F, hm, kp, hb⟩ := C.ex
  exact q_call tk F (hr.mono hkj) hm kp hb hn hg h hdb he hpl
theorem qs_app (i : Nat) (ho : QB X K W a (tVar i) (dVar i)) (he : QC X K W e te ca) (h1 : attributeBase a "append" X.env (eval a X.env) = eval a X.env := by rfl)
    (h2 : (((List.all (backTo cpos (starEach [e] X.env)) fun x => !Prod.fst x) && List.all (backToKw cpos (keywordEach [] X.env)) fun x => Option.isSome (Prod.fst x)) && decide ((List.length [e] + List.length ([] : List Keyword) + if List.isEmpty ([] : List Keyword) = true then 0 else 1) < 30)) = true := by rfl)
    (h3 : (apos.endLine == cpos.line) = true := by rfl) (h4 : starEach [e] X.env = (false, eval e X.env) :: starEach [] X.env := by rfl) (hs : swapsWith (.Call (.Attribute a "append" apos) [e] [] cpos) none pos.line X.env = pure false := by rfl) :
    QS X K W (.Expr (.Call (.Attribute a "append" apos) [e] [] cpos) pos) (tApp K (tVar i) te) (sApp i ca) := by
  obtain ⟨rfl, pa, ja⟩ := ho
  exact ⟨rfl, ps_expr (pe_bm PySem.F.plainAttrs_list PySem.F.slot_list_append PySem.F.type_list_append mt_append pa (pa_cons he.p pa_nil h4) h1 h2 h3 h4 (by rfl)) hs, jsApp he.j⟩
end
section
variable {P : Program} {w : World} {K : PySem.W.Frag} {mg : Str → Option Value} {base : Heap} {f : Addr} {fd : FuncData}
theorem Cal.def_ {cl : Str → Value} {x qual : Str} {pr : Arguments} {st : List Stmt} {scope : Scope} {N ps : List Str} {k : Nat} {d : DS} (F : FunD K x qual pr st scope [] [] f fd) (hm : mg x = some (.ref f)) (S : FnScope N ps scope) (hl : ps.length ≤ N.length)
    (hb : ∀ (kV doc pm : Value) (an : Option Addr) (cdv ct : Value) (us : List Value), us.length = ps.length → bindArgs (PySem.W.fnOf x qual pr st scope .none kV doc pm an cdv ct) ⟨us, []⟩ = pure (ps.zip us))
    (h : ∀ (cdv : Value) (A : Around) (outer : List Env) (s : Shared) (H : Hp) (E : XK) (X : Cx), X = cxOf (L2.CX P w) P w K mg base N qual scope f cdv A outer s H E → Room k X.A → Takes X (fun cls d _ H => E cls d H) → PassesOwn (model X.prog X.w) X.A X.env X.xe → ∃ t, QSs X K (wOf cl fun cls d _ H => E cls d H) st t d) :
    Cal P w K mg base cl x (k + 1) ps.length (dFn ps.length N.length d) :=
  ⟨f, fd, ps, q_def F S hl h, hm, F.kp, F.bindsN hb⟩
theorem cx_no {H : Hp} {s : Shared} {e : Value} {s' : Shared} (h : L2.CX P w [] H s (fun _ _ _ => False) e s') : False := by
  obtain ⟨_, _, _, _, _, _, _, _, _, _, _, _, z⟩ := h
  exact z
theorem sc_re {H : Hp} {a : Addr} {ns : List Int} (hO : L2.Only H) (hS : SqL K H a (ns.map V.int)) (B : Hp) : ReL K B H [.ref a] [.sc (ns.map D.int)] := by
  have hI : ReL K B H (ns.map V.int) (ns.map D.int) := by
    clear hS
    induction ns with
    | nil => exact .nil
    | cons n ns ih => exact .cons (.int n) ih
  refine .cons (.sc ?_ hI) .nil
  rcases hS with h | h
  · rcases h with h | h
    · rcases hO a with e | ⟨o, xs, e⟩
      · rw [e] at h; cases h
      · rw [e] at h; cases h
    · exact .inl h
  · exact .inr h
theorem law_sp {cl : Str → Value} {H : Hp} {a : Addr} {ns : List Int} {df : DF} {ow : Ow} (hO : L2.Only H) (hS : SqL K H a (ns.map V.int)) (e : df [.sc (ns.map D.int)] = some (.ret (.bl true) ow)) :
    spD K cl 1 df [.ref a] H (fun v _ => v = .bl true) fun _ _ _ => False := by
  refine ⟨fun _ => none, [.sc (ns.map D.int)], _, (fun a o z => (nomatch z)), sc_re hO hS _, rfl, e, fun v B' H' F _ e1 _ _ _ q => ?_⟩
  have r : Re K (frz B' H' F) H' v (.bl true) := q.fz (frz_ex e1) fun a ha => frz_in ha
  cases r
  rfl
end
section
open PySem.Spec PyProof.Rows
theorem walk_D {row : PySem.W.OpenLaw} {n k : Nat} {q : Program} {loose : List Str} {XP : (Str → Option Value) → Heap → Prop} {YP : World → Heap → Prop} {d : DefRec} {x : Str} {df : DF} (hn : row.most = some n) (hz : n ≤ sizeLine) (hdf : d.params.defaults = []) (hr : Room k callerA)
    (F : ∀ (w : World) (mg : Str → Option Value) (fa : Addr) (h : Heap), YP w h → h.Ns mainGlobals mg → mg d.name = some (.ref fa) → ∃ (K : PySem.W.Frag) (fd : FuncData) (cl : Str → Value), K.In h ∧ (∀ (s : Shared) (u : Value), BindsTo s fd ⟨[u], []⟩ [(x, u)]) ∧ ∀ base : Heap, K.In base → base.Ns mainGlobals mg → FnOk row.prog w K mg base (L2.CX row.prog w) k fa fd [x] (spD K cl 1 df))
    (T : ∀ ns : List Int, ns.length ≤ n → (∀ z ∈ ns, Builtin.Int.intBits z ≤ 1048576) → ∃ ow, df [.sc (ns.map D.int)] = some (.ret (.bl true) ow)) :
    PySem.W.WalkO q loose XP YP row.row.toRowW d [] (fun f vs => PySem.call f vs) := by
  refine Att.attach_callB hn hdf ?_
  intro w t0 t1 mg mb fa o pm cd doc a vs ns gr y ho hd hcd hmg hobj hi hl hb hg
  obtain ⟨K, fd, cl, hK, bnd, ok⟩ := F w mg fa _ y gr.T.g hmg
  refine law_call hK gr.T.g gr.T.b gr.T.builtins gr.T.nolimit hg hobj hi (Nat.le_trans hl hz) hr ok bnd ?_ ?_
  · intro H hO hS
    obtain ⟨ow, e⟩ := T ns hl hb
    exact law_sp hO hS e
  · exact fun H e s' z => cx_no z
end
end Dv

namespace Dv
open PySem L2 Evl

section
variable {K : PySem.W.Frag} {W : WW} {H : Hp}
theorem own_walk : ∀ (ks : List Int) (d : D) (v : V) (F : List Addr) (e : D), Own K H v d F → getP ks d = some e → imm e = false → ∃ (u : V) (Fe : List Addr), WkP H ks v u ∧ Own K H u e Fe := by
  intro ks
  induction ks with
  | nil =>
    intro d v F e o g _
    cases g
    exact ⟨v, F, .nil _, o⟩
  | cons k ks ih =>
    intro d v F e o g hi
    have nim : imm d = false := by
      cases h : imm d with
      | false => rfl
      | true => rw [imm_getP _ _ _ h g] at hi; cases hi
    cases o with
    | im h _ => rw [nim] at h; cases h
    | dk _ _ _ => cases g
    | dt _ _ _ => cases g
    | dn _ _ _ _ => cases g
    | ob _ _ _ _ => cases g
    | lst hp r =>
      rename_i p vs es F0
      obtain ⟨x, g1, g2⟩ := Option.bind_eq_some_iff.mp (show (atI es k).bind (getP ks) = some e from g)
      obtain ⟨j, g3, g4⟩ := atI_some g1
      obtain ⟨u, Fj, R, h1, h2, h3, h4⟩ := r.at_ g4
      obtain ⟨u2, Fe, w1, w2⟩ := ih x u Fj e h2 g2 hi
      have len : vs.length = es.length := (r.re (G := H) fun _ _ => rfl).length
      exact ⟨u2, Fe, .lst hp (atI_mk (by rw [len]; exact g3) h1) w1, w2⟩
    | tup hp r =>
      rename_i p vs es
      obtain ⟨x, g1, g2⟩ := Option.bind_eq_some_iff.mp (show (atI es k).bind (getP ks) = some e from g)
      obtain ⟨j, g3, g4⟩ := atI_some g1
      obtain ⟨u, Fj, R, h1, h2, h3, h4⟩ := r.at_ g4
      obtain ⟨u2, Fe, w1, w2⟩ := ih x u Fj e h2 g2 hi
      have len : vs.length = es.length := (r.re (G := H) fun _ _ => rfl).length
      exact ⟨u2, Fe, .tup hp (atI_mk (by rw [len]; exact g3) h1) w1, w2⟩
theorem WkP.snoc : ∀ {acc : List Int} {k : Int} {v0 u : V}, WkP H (acc ++ [k]) v0 u → ∃ v, WkP H acc v0 v ∧ ((∃ p vs, v = .ref p ∧ H p = some (.lst vs) ∧ atI vs k = some u) ∨ ∃ p vs, v = .ref p ∧ H p = some (.tup vs) ∧ atI vs k = some u)
  | [], k, v0, u, h => by
    cases h with
    | lst hp ha r => cases r; exact ⟨_, .nil _, .inl ⟨_, _, rfl, hp, ha⟩⟩
    | tup hp ha r => cases r; exact ⟨_, .nil _, .inr ⟨_, _, rfl, hp, ha⟩⟩
  | a :: acc, k, v0, u, h => by
    cases h with
    | lst hp ha r =>
      obtain ⟨v, h1, h2⟩ := WkP.snoc r
      exact ⟨v, .lst hp ha h1, h2⟩
    | tup hp ha r =>
      obtain ⟨v, h1, h2⟩ := WkP.snoc r
      exact ⟨v, .tup hp ha h1, h2⟩
def tP (K : PySem.W.Frag) : TE → List TE → TE
  | to, [] => to
  | to, tk :: r => tP K (tOp (rIx K) to tk) r
def tPK (K : PySem.W.Frag) : List TE → V → TE
  | [], v => fun _ H Q => Q v H
  | tk :: r, v => fun σ H Q => tk σ H fun y H1 => rIx K v y H1 fun u H2 => tPK K r u σ H2 Q
theorem tP_eq : ∀ (r : List TE) (to : TE) (σ : L2.St) (H : Hp) (Q : VK), tP K to r σ H Q = to σ H fun v H1 => tPK K r v σ H1 Q
  | [], to, σ, H, Q => rfl
  | tk :: r, to, σ, H, Q => by
    show tP K (tOp (rIx K) to tk) r σ H Q = _
    rw [tP_eq r]
    rfl
def dPA (i : Nat) : List Int → List (DE D) → DE (List Int)
  | acc, [], s => some (.ok acc s)
  | acc, dk :: r, s => match dk s with
    | some (.ok (.int k) s1) => match s1[i]? with
      | some (some (d, .full)) => match getP (acc ++ [k]) d with
        | some e => if imm e = false then dPA i (acc ++ [k]) r s1 else none
        | none => none
      | _ => none
    | some (.exc c s1) => some (.exc c s1)
    | _ => none
inductive JBs (K : PySem.W.Frag) (W : WW) : List TE → List (DE D) → Prop
  | nil : JBs K W [] []
  | cons {t : TE} {d : DE D} {ts : List TE} {ds : List (DE D)} : JB K W t d → JBs K W ts ds → JBs K W (t :: ts) (d :: ds)
abbrev rW (v0 : V) : RelT V (List Int) := fun _ H _ v ks F => WkP H ks v0 v ∧ F = []
theorem ex_of {B H B' H' : Hp} {L L' : List Addr} (y : ES B H L B' H' L') : Ex H H' := y.exH
theorem path_ok {σ : L2.St} {i : Nat} {v0 : V} (hσ : σ[i]? = some (some v0)) : ∀ {tks : List TE} {dks : List (DE D)}, JBs K W tks dks → ∀ (acc : List Int) (s : SD) (r : Er (List Int)) (v : V) (B H : Hp) (Fs : List (List Addr)),
    dPA i acc dks s = some r → Rel K B H σ s Fs → WkP H acc v0 v → ∀ Q, Post (rW v0) K W B H Fs.flatten σ Q r → tPK K tks v σ H Q := by
  intro tks dks h
  induction h with
  | nil =>
    intro acc s r v B H Fs e R0 hw Q p
    cases e
    exact Post.here R0 ⟨hw, rfl⟩ p
  | cons h1 h2 ih =>
    rename_i t dk ts ds
    intro acc s r v B H Fs e R0 hw Q p
    unfold dPA at e
    cases e1 : dk s with
    | none => rw [e1] at e; cases e
    | some r1 =>
      rw [e1] at e
      refine h1 s r1 e1 B H σ Fs R0 _ ?_
      cases r1 with
      | exc c s1 =>
        cases e
        exact p
      | ok x s1 =>
        intro y B1 H1 Fs1 F R1 y1 z1 l1 q1
        obtain ⟨q1, rfl⟩ := q1
        cases x with
        | int k =>
          cases q1
          simp only at e
          split at e
          · rename_i d hs
            split at e
            · rename_i ee hg
              split at e
              · rename_i hi
                obtain ⟨w0, hw0, o⟩ := R1.at_ i d .full hs
                rw [hσ] at hw0
                cases hw0
                have o : Own K H1 v0 d (Fs1.getD i []) := o
                obtain ⟨u, Fe, w1, w2⟩ := own_walk _ _ _ _ _ o hg hi
                obtain ⟨v', a1, a2⟩ := w1.snoc
                obtain rfl := WkP.uniq a1 (hw.ex (ex_of y1))
                have fin : tPK K ts u σ H1 Q := ih _ _ _ u B1 H1 Fs1 e R1 w1 Q (p.step y1)
                rcases a2 with ⟨q, vs, rfl, hp, ha⟩ | ⟨q, vs, rfl, hp, ha⟩
                · exact .inl ⟨q, vs, k, u, rfl, rfl, sq_of hp, ha, fin⟩
                · exact .inr (.inl ⟨q, vs, k, u, rfl, rfl, SqT.of hp, ha, fin⟩)
              · cases e
            · cases e
          · cases e
        | _ => cases e
end

def setD (ks : List Int) (d : D) (k : Int) (e : D) : Option D := match getP ks d with
  | some (.lst ds) => match ixN ds.length k with
    | some j => some (setP ks d (.lst (ds.set j e)))
    | none => none
  | _ => none
def sSetP (i : Nat) (dks : List (DE D)) (dk : DE D) (c : DE (D × Ow)) : DS := fun s => match c s with
  | some (.ok (e, eo) s1) => match (if (s1[i]?).join.isSome = true then dPA i [] dks s1 else none) with
    | some (.ok ks s2) => match dk s2 with
      | some (.ok (.int k) s3) => match s3[i]? with
        | some (some (d, .full)) => if eo = .full then (setD ks d k e).map fun d' => .next (s3.set i (some (d', .full))) else none
        | some (some (.lst ds, .top)) => if ks = [] then (ixN ds.length k).map fun j => .next (s3.set i (some (.lst (ds.set j e), .top))) else none
        | _ => none
      | some (.exc x s3) => some (.exc x s3)
      | _ => none
    | some (.exc x s2) => some (.exc x s2)
    | none => none
  | some (.exc x s1) => some (.exc x s1)
  | none => none
section
variable {K : PySem.W.Frag} {W : WW} {i : Nat} {tks : List TE} {dks : List (DE D)} {tk tc : TE} {dk : DE D} {c : DE (D × Ow)}
theorem OwnL.put {H H' : Hp} (t : Tk H H') {v : V} {e : D} {F : List Addr} (q : Own K H' v e F) : ∀ {vs : List V} {ds : List D} {F1 : List Addr} {j : Nat}, OwnL K H vs ds F1 → j < ds.length → (∀ a ∈ F1, H' a = H a) → ∃ G, OwnL K H' (vs.set j v) (ds.set j e) G ∧ ∀ a, G.count a ≤ F1.count a + F.count a
  | _, _, _, _, .nil, hj, _ => by simp at hj
  | _, _, _, 0, .cons (F := F2) (G := G2) a b, hj, k1 => by
    refine ⟨F ++ G2, .cons q (b.mono t fun a ha => k1 a (List.mem_append_right _ ha)), fun a => ?_⟩
    simp only [List.count_append]
    omega
  | _, _, _, j + 1, .cons (F := F2) (G := G2) a b, hj, k1 => by
    obtain ⟨G, g1, g2⟩ := OwnL.put t q b (by simpa using hj) fun a ha => k1 a (List.mem_append_right _ ha)
    refine ⟨F2 ++ G, .cons (a.mono t fun a ha => k1 a (List.mem_append_left _ ha)) g1, fun a => ?_⟩
    have := g2 a
    simp only [List.count_append]
    omega
theorem ReL.put {G H : Hp} {vs : List V} {ds : List D} (r : ReL K G H vs ds) {v : V} {e : D} (q : Re K G H v e) : ∀ (j : Nat), ReL K G H (vs.set j v) (ds.set j e) := by
  have : ∀ (vs : List V) (ds : List D), ReL K G H vs ds → ∀ j, ReL K G H (vs.set j v) (ds.set j e) := by
    intro vs
    induction vs with
    | nil => intro ds h j; cases h; exact .nil
    | cons x xs ih =>
      intro ds h j
      cases h with
      | cons a b =>
        cases j with
        | zero => exact .cons q b
        | succ j => exact .cons a (ih _ b j)
  exact fun j => this _ _ r j
theorem ixN_lt {n : Nat} {k : Int} {j : Nat} (h : ixN n k = some j) : j < n := (ixN_seq h).2.1
theorem jsSetP (hc : JC K W tc c) (hp : JBs K W tks dks) (hk : JB K W tk dk) : JS K W (tAsg tc (gSub (tP K (tVar i) tks) tk rSetL)) (sSetP i dks dk c) := by
  intro s o e B H σ Fs R0 En p
  unfold sSetP at e
  cases e1 : c s with
  | none => rw [e1] at e; cases e
  | some r1 =>
    rw [e1] at e
    refine hc s r1 e1 B H σ Fs R0 _ ?_
    cases r1 with
    | exc x s1 =>
      cases e
      exact fun B' H' Fs' x y => p σ B' H' Fs' x y.ss
    | ok z s1 =>
      obtain ⟨ed, eo⟩ := z
      intro v B1 H1 Fs1 F R1 y1 z1 l1 qv
      have qv : RS K B1 H1 v ed eo F := qv
      simp only at e
      by_cases hj0 : (s1[i]?).join.isSome = true
      case neg =>
        rw [if_neg hj0] at e
        cases e
      rw [if_pos hj0] at e
      cases e2 : dPA i [] dks s1 with
      | none => rw [e2] at e; cases e
      | some r2 =>
        rw [e2] at e
        show tP K (tVar i) tks σ H1 _
        rw [tP_eq]
        -- what is read with the value pending
        have main : ∀ v0, σ[i]? = some (some v0) → tPK K tks v0 σ H1 fun o H2 => tk σ H2 fun y H3 => rSetL o y v H3 fun H4 => En.nx σ H4 := by
          intro v0 hσ
          have P2 : J (rW v0) K W (fun τ H Q => τ = σ → WkP H [] v0 v0 → tPK K tks v0 τ H Q) (dPA i [] dks) := by
            intro s' r' e' B' H' τ Fs' R0' Q' p' hτ hw'
            rw [hτ] at R0' p' ⊢
            exact path_ok hσ hp [] s' r' v0 B' H' Fs' e' R0' hw' Q' p'
          refine J.pend (F := F) P2 e2 R1 z1 l1 (Q := fun o H2 => tk σ H2 fun y H3 => rSetL o y v H3 fun H4 => En.nx σ H4) ?_ ?_ rfl (.nil _)
          · intro ks s2 er u B2 H2 Fs2 G R2 y2 z2 l2 q2
            obtain ⟨w2, rfl⟩ := q2
            cases er
            simp only at e
            cases e3 : dk s2 with
            | none => rw [e3] at e; cases e
            | some r3 =>
              rw [e3] at e
              have z2' : ∀ x, w B2 x + (F ++ Fs2.flatten).count x ≤ 1 := fun x => by simpa using z2 x
              have l2' : ∀ x ∈ F, H2 x ≠ none := fun x hx => by
                cases q : H1 x with
                | none => exact absurd q (l1 x hx)
                | some o => rw [y2.exH _ _ q]; exact fun z => nomatch z
              refine hk.pend (F := F) e3 R2 z2' l2' ?_ ?_
              · intro kd s3 er3 yv B3 H3 Fs3 G3 R3 y3 z3 l3 q3
                obtain ⟨q3, rfl⟩ := q3
                cases er3
                have z3' : ∀ x, w B3 x + (F ++ Fs3.flatten).count x ≤ 1 := fun x => by simpa using z3 x
                have l3' : ∀ x ∈ F, H3 x ≠ none := fun x hx => by
                  cases q : H2 x with
                  | none => exact absurd q (l2' x hx)
                  | some o => rw [y3.exH _ _ q]; exact fun z => nomatch z
                have y2' : ES B1 H1 (F ++ Fs1.flatten) B2 H2 (F ++ Fs2.flatten) := by simpa using y2
                have y3' : ES B2 H2 (F ++ Fs2.flatten) B3 H3 (F ++ Fs3.flatten) := by simpa using y3
                have yy : ES B H Fs.flatten B3 H3 (F ++ Fs3.flatten) := (y1.trans y2').trans y3'
                have ex13 : Ex H1 H3 := y2.exH.trans y3.exH
                have keepF : ∀ a ∈ F, H3 a = H1 a := ex_keep ex13 l1
                have bex : Ex B1 B3 := y2'.exB.trans y3'.exB
                have qv3 : RS K B3 H3 v ed eo F := qv.mono bex (Tk.of_ex ex13) keepF
                cases kd with
                | int k =>
                  cases q3
                  simp only at e
                  split at e
                  · rename_i d hs
                    split at e
                    · rename_i hf
                      subst hf
                      cases e4 : setD ks d k ed with
                      | none => rw [e4] at e; cases e
                      | some d' =>
                        rw [e4] at e
                        cases e
                        unfold setD at e4
                        split at e4
                        · rename_i ds hg
                          split at e4
                          · rename_i j hj
                            cases e4
                            obtain ⟨v1, q, vs, F1, a1, a2, a3, a4, a5, a6, a7⟩ := mut_slot (ks := ks) (ds := ds) (E := F) R3 hs hg z3'
                            rw [hσ] at a1
                            cases a1
                            obtain rfl := WkP.uniq a2 (w2.ex y3.exH)
                            have len : vs.length = ds.length := (a4.re (G := H3) fun _ _ => rfl).length
                            refine ⟨q, vs, k, j, rfl, rfl, a3, by rw [len]; exact hj, ?_⟩
                            have tk := tk_upd (ys := vs.set j v) a3
                            obtain ⟨G, g1, g2⟩ := OwnL.put tk (Own.mono tk (show Own K H3 v ed F from qv3) fun a ha => upd_ne (a6 a ha)) a4 (ixN_lt hj) fun a ha => upd_ne (a5 a ha)
                            obtain ⟨G2, b1, b2⟩ := a7 _ _ G g1 g2
                            exact p σ _ _ _ b1 (yy.ss.trans b2)
                          · cases e4
                        · cases e4
                    · cases e
                  · rename_i ds hs
                    split at e
                    · rename_i hks
                      subst hks
                      cases e4 : ixN ds.length k with
                      | none => rw [e4] at e; cases e
                      | some j =>
                        rw [e4] at e
                        cases e
                        have R4 := R3.know z3'
                        have y4 := yy.let_go F Fs3.flatten l3' (fun a => List.count_append) R3.ex
                        obtain ⟨q, vs, a1, a3, a4, a5, a7⟩ := mut_top R4 hs
                        rw [hσ] at a1
                        cases a1
                        cases w2
                        refine ⟨q, vs, k, j, rfl, rfl, a3, by rw [a4.length]; exact e4, ?_⟩
                        have tk := tk_upd (ys := vs.set j v) a3
                        obtain ⟨b1, b2⟩ := a7 (vs.set j v) (ds.set j ed) ((a4.mono (Ex.refl _) tk).put ((qv3.fz (frz_ex R3.ex) fun a ha => frz_in ha).mono (Ex.refl _) tk) j)
                        exact p σ _ _ _ b1 (y4.ss.trans b2)
                    · cases e
                  · cases e
                | _ => cases e
              · intro x s3 er3 B3 H3 Fs3 R3 y3 z3
                cases er3
                cases e
                have y2' : ES B1 H1 (F ++ Fs1.flatten) B2 H2 (F ++ Fs2.flatten) := by simpa using y2
                have l3' : ∀ x ∈ F, H3 x ≠ none := fun x hx => by
                  cases q : H2 x with
                  | none => exact absurd q (l2' x hx)
                  | some o => rw [y3.exH _ _ q]; exact fun z => nomatch z
                exact p σ _ H3 Fs3 (R3.know z3) (((y1.trans y2').trans y3).let_go F Fs3.flatten l3' (fun a => List.count_append) R3.ex).ss
          · intro x s2 er B2 H2 Fs2 R2 y2 z2
            cases er
            cases e
            have l2' : ∀ x ∈ F, H2 x ≠ none := fun x hx => by
              cases q : H1 x with
              | none => exact absurd q (l1 x hx)
              | some o => rw [y2.exH _ _ q]; exact fun z => nomatch z
            exact p σ _ H2 Fs2 (R2.know z2) ((y1.trans y2).let_go F Fs2.flatten l2' (fun a => List.count_append) R2.ex).ss
        -- the name stands
        cases hs1 : s1[i]? with
        | none => rw [hs1] at hj0; simp at hj0
        | some sl =>
          cases sl with
          | none => rw [hs1] at hj0; simp at hj0
          | some z =>
            obtain ⟨d0, ow0⟩ := z
            obtain ⟨v0, hσ, _⟩ := R1.at_ i d0 ow0 hs1
            exact ⟨v0, hσ, main v0 hσ⟩
def sAppP (i : Nat) (dks : List (DE D)) (c : DE (D × Ow)) : DS := fun s => match (if (s[i]?).join.isSome = true then dPA i [] dks s else none) with
  | some (.ok ks s1) => match s1[i]? with
    | some (some (d, .full)) => match getP ks d with
      | some (.lst _) => match c s1 with
        | some (.ok (e, eo) s2) => match s2[i]? with
          | some (some (d2, .full)) => match getP ks d2 with
            | some (.lst ds) => if eo = .full ∧ ds.length < 1000000 then some (.next (s2.set i (some (setP ks d2 (.lst (ds ++ [e])), .full)))) else none
            | _ => none
          | _ => none
        | some (.exc x s2) => some (.exc x s2)
        | none => none
      | _ => none
    | _ => none
  | some (.exc x s1) => some (.exc x s1)
  | none => none
theorem jsAppP (hp : JBs K W tks dks) (hc : JC K W tc c) : JS K W (tApp K (tP K (tVar i) tks) tc) (sAppP i dks c) := by
  intro s o e B H σ Fs R0 En p
  unfold sAppP at e
  by_cases hj0 : (s[i]?).join.isSome = true
  case neg =>
    rw [if_neg hj0] at e
    cases e
  rw [if_pos hj0] at e
  have st : ∃ v0, σ[i]? = some (some v0) := by
    cases hs1 : s[i]? with
    | none => rw [hs1] at hj0; simp at hj0
    | some sl =>
      cases sl with
      | none => rw [hs1] at hj0; simp at hj0
      | some z =>
        obtain ⟨d0, ow0⟩ := z
        obtain ⟨v0, hσ, _⟩ := R0.at_ i d0 ow0 hs1
        exact ⟨v0, hσ⟩
  obtain ⟨v0, hσ⟩ := st
  cases e2 : dPA i [] dks s with
  | none => rw [e2] at e; cases e
  | some r2 =>
    rw [e2] at e
    show tP K (tVar i) tks σ H _
    rw [tP_eq]
    refine ⟨v0, hσ, path_ok hσ hp [] s r2 v0 B H Fs e2 R0 (.nil _) _ ?_⟩
    cases r2 with
    | exc x s1 =>
      cases e
      exact fun B' H' Fs' x y => p σ B' H' Fs' x y.ss
    | ok ks s1 =>
      intro u B1 H1 Fs1 F R1 y1 z1 l1 q1
      obtain ⟨w1, rfl⟩ := q1
      simp only at e
      split at e
      · rename_i d hs
        split at e
        · rename_i ds0 hg
          obtain ⟨w0, hw0, o1⟩ := R1.at_ i d .full hs
          rw [hσ] at hw0
          cases hw0
          obtain ⟨q, vs0, F1, RR, a1, a2, _⟩ := own_path _ _ _ _ _ (show Own K H1 v0 d (Fs1.getD i []) from o1) hg
          obtain rfl := WkP.uniq a1 w1
          refine ⟨.inl ⟨rfl, vs0, sq_of a2⟩, ?_⟩
          cases e3 : c s1 with
          | none => rw [e3] at e; cases e
          | some r3 =>
            rw [e3] at e
            refine hc s1 r3 e3 B1 H1 σ Fs1 R1 _ ?_
            cases r3 with
            | exc x s2 =>
              cases e
              exact fun B' H' Fs' x y => p σ B' H' Fs' x (y1.trans y).ss
            | ok zz s2 =>
              obtain ⟨ed, eo⟩ := zz
              intro v B2 H2 Fs2 F2 R2 y2 z2 l2 qv
              have qv : RS K B2 H2 v ed eo F2 := qv
              simp only at e
              split at e
              · rename_i d2 hs2
                split at e
                · rename_i ds hg2
                  split at e
                  · rename_i hh
                    obtain ⟨hf, hz⟩ := hh
                    subst hf
                    cases e
                    obtain ⟨v1, q2, vs, F3, b1, b2, b3, b4, b5, b6, b7⟩ := mut_slot (ks := ks) (ds := ds) (E := F2) R2 hs2 hg2 z2
                    rw [hσ] at b1
                    cases b1
                    cases WkP.uniq b2 (a1.ex y2.exH)
                    refine ⟨_, vs, v, rfl, rfl, b3, ?_, ?_⟩
                    · rw [(b4.re (G := H2) fun _ _ => rfl).length]
                      exact Nat.lt_of_lt_of_le hz (by decide)
                    · have tk := tk_upd (ys := vs ++ [v]) b3
                      have o2 : OwnL K (upd H2 q (.lst (vs ++ [v]))) (vs ++ [v]) (ds ++ [ed]) (F3 ++ (F2 ++ [])) :=
                        (b4.mono tk fun a ha => upd_ne (b5 a ha)).append (.cons (Own.mono tk qv fun a ha => upd_ne (b6 a ha)) .nil)
                      obtain ⟨G, c1, c2⟩ := b7 _ _ _ o2 fun a => by simp only [List.count_append, List.append_nil]; omega
                      refine p σ _ _ _ c1 (SS.trans ?_ c2)
                      have := (y1.trans (by simpa using y2)).ss
                      exact this
                  · cases e
                · cases e
              · cases e
        · cases e
      · cases e
end

section
variable {X : Cx} {K : PySem.W.Frag} {W : WW} {x : Str} {i : Nat} {p pos cpos apos spos : Pos} {a b e : Expr} {ta tb te tk : TE} {da db de dk : DE D} {ca : DE (D × Ow)} {tks : List TE} {dks : List (DE D)}
structure QP (X : Cx) (K : PySem.W.Frag) (W : WW) (e : Expr) (i : Nat) (tks : List TE) (dks : List (DE D)) : Prop where
  hk : X.K = K
  p : PE X e (tP K (tVar i) tks)
  j : JBs K W tks dks
theorem tP_snoc : ∀ (r : List TE) (to t : TE), tP K to (r ++ [t]) = tOp (rIx K) (tP K to r) t
  | [], to, t => rfl
  | a :: r, to, t => tP_snoc r (tOp (rIx K) to a) t
theorem JBs.snoc : ∀ {tks : List TE} {dks : List (DE D)}, JBs K W tks dks → JB K W ta da → JBs K W (tks ++ [ta]) (dks ++ [da])
  | _, _, .nil, h => .cons h .nil
  | _, _, .cons a b, h => .cons a (JBs.snoc b h)
theorem qp_nil (i : Nat) (hk : X.K = K := by rfl) (hN : X.N[i]? = some x := by rfl) (hv : Vis X.env.scope x := by first | exact Or.inl rfl | exact Or.inr (Or.inl rfl) | exact Or.inr (Or.inr rfl)) (hd : (x == ("__debug__" : Str)) = false := by decide) (hcd : (x == ("__classdict__" : Str)) = false := by decide) : QP X K W (.Name x p) i [] [] := ⟨hk, pv i hN hv hd hcd, .nil⟩
theorem qp_ix (h : QP X K W a i tks dks) (hb : QB X K W b tb db) (hs : PlainIx b := by exact fun _ _ => rfl) : QP X K W (.Subscript a b pos) i (tks ++ [tb]) (dks ++ [db]) := by
  obtain ⟨rfl, pa, ja⟩ := h
  exact ⟨rfl, by rw [tP_snoc]; exact pe_ix ix_seq pa hb.p hs, ja.snoc hb.j⟩
theorem qs_setP (hc : QC X K W e te ca) (h : QP X K W a i tks dks) (hk : QB X K W b tk dk) (hs : swapsWithSole [.Subscript a b pos] e spos.line X.env = pure false := by rfl) (hw : swappedStores [.Subscript a b pos] e X.env = pure none := by rfl) (h1 : List.map (fun x => x.snd) (assignEach [.Subscript a b pos] X.env) = [assign (.Subscript a b pos) X.env] := by rfl)
    (ha : ∀ v, assign (.Subscript a b pos) X.env v = (do
      let ov ← holding [v] (eval a X.env)
      let iv ← holding [v, ov] (eval b X.env)
      standAt pos
      holding [v, ov, iv] (setItem ov iv v)
      release [v, ov, iv] []) := by intro _; rfl) : QS X K W (.Assign [.Subscript a b pos] e spos) (tAsg te (gSub (tP K (tVar i) tks) tk rSetL)) (sSetP i dks dk ca) :=
  ⟨hc.hk, ps_asg hc.p (pg_sub h.p hk.p set_list ha) hs hw h1, jsSetP hc.j h.j hk.j⟩
theorem qs_appP (h : QP X K W a i tks dks) (he : QC X K W e te ca) (h1 : attributeBase a "append" X.env (eval a X.env) = eval a X.env := by rfl)
    (h2 : (((List.all (backTo cpos (starEach [e] X.env)) fun x => !Prod.fst x) && List.all (backToKw cpos (keywordEach [] X.env)) fun x => Option.isSome (Prod.fst x)) && decide ((List.length [e] + List.length ([] : List Keyword) + if List.isEmpty ([] : List Keyword) = true then 0 else 1) < 30)) = true := by rfl)
    (h3 : (apos.endLine == cpos.line) = true := by rfl) (h4 : starEach [e] X.env = (false, eval e X.env) :: starEach [] X.env := by rfl) (hs : swapsWith (.Call (.Attribute a "append" apos) [e] [] cpos) none pos.line X.env = pure false := by rfl) :
    QS X K W (.Expr (.Call (.Attribute a "append" apos) [e] [] cpos) pos) (tApp K (tP K (tVar i) tks) te) (sAppP i dks ca) := by
  obtain ⟨rfl, pa, ja⟩ := h
  exact ⟨rfl, ps_expr (pe_bm PySem.F.plainAttrs_list PySem.F.slot_list_append PySem.F.type_list_append mt_append pa (pa_cons he.p pa_nil h4) h1 h2 h3 h4 (by rfl)) hs, jsAppP ja he.j⟩
end
end Dv

namespace Dv
open PySem L2 Evl

def lsOf : D → Option (List D)
  | .lst ds => some ds
  | .tup ds => some ds
  | _ => none
def itOw (e : D) (ow : Ow) : Ow := match ow with
  | .full => .full
  | .adr _ => .full
  | _ => if imm e = true then .full else .no
def cItem (c : DE (D × Ow)) (di : DE D) : DE (D × Ow) := fun s => match c s with
  | some (.ok (d, ow) s1) => match di s1 with
    | some (.ok (.int k) s2) => match lsOf d with
      | some ds => (atI ds k).map fun e => .ok (e, itOw e ow) s2
      | none => none
    | some (.exc x s2) => some (.exc x s2)
    | _ => none
  | some (.exc x s1) => some (.exc x s1)
  | none => none
section
variable {K : PySem.W.Frag} {W : WW} {H : Hp} {v : V} {d e : D} {F : List Addr} {ds : List D} {k : Int}
variable {te ti : TE} {c : DE (D × Ow)} {di : DE D}
end
section
variable {X : Cx} {K : PySem.W.Frag} {W : WW} {pos : Pos} {a b : Expr} {ta tb : TE} {db : DE D} {ca : DE (D × Ow)}
end
end Dv

namespace Dv
open PySem L2 Evl

def isaB (c x : Str) : Bool := decide (c = x) || decide (x = ("ProbeError" : Str))
abbrev clK (K : PySem.W.Frag) (c : Str) : Value := .ref (He.ga K c)
structure ExF (K : PySem.W.Frag) (mg : Str → Option Value) (xs : List Str) (c : Str) : Prop where
  gC : mg c = some (.ref (He.ga K c))
  ex : PySem.W.excIn K (He.ga K c) He.veBase "ValueError.__new__" = true
  kp : PySem.W.keepIn K (.ref (He.ga K c)) = true
  su : PySem.W.subIn K (.ref (He.ga K c)) (.type "BaseException") = some true
  ty : PySem.W.typeIn K (.ref (He.ga K c)) = some (.type "type")
  ec : ExcC K (He.ga K c)
  exm : PySem.W.exmOne K (.ref (He.ga K c)) (.ref (He.ga K "ProbeError")) = some true
  kit : ∀ x ∈ xs, PySem.W.kitOne K (.ref (He.ga K c)) (.ref (He.ga K x)) = some (isaB c x)
  kitV : PySem.W.kitOne K (.ref (He.ga K c)) (.type "ValueError") = some true
  exms : PySem.W.exmOne K (.ref (He.ga K c)) (.ref (He.ga K c)) = some true
structure ExAll (K : PySem.W.Frag) (mg : Str → Option Value) (xs : List Str) : Prop where
  all : ∀ c ∈ xs, ExF K mg xs c
  pe : ("ProbeError" : Str) ∈ xs
def sRaise (c : Str) : DS := fun s => some (.exc c s)
def tRaiseC (Wx : WX) (C : Addr) : TS := fun _ σ H => Wx (.ref C) none σ H
section
variable {X : Cx} {K : PySem.W.Frag} {Wx : WX} {c : Str} {xs : List Str} {m : Str} {j : Nat} {p p2 p3 pos : Pos}
end
structure QHB (X : Cx) (i : Nat) (a : Addr) (e : Expr) (t : TE) (b : Bool) : Prop where
  p : PE X e t
  j : ∀ (σ : L2.St) (H : Hp) (Q : VK), σ[i]? = some (some (.ref a)) → Q (.bl b) H → t σ H Q
structure QHT (X : Cx) (i : Nat) (a : Addr) (e : Expr) (t : TT) (b : Bool) : Prop where
  p : PT X e t
  j : ∀ (σ : L2.St) (H : Hp) (Q : Bool → Hp → Prop), σ[i]? = some (some (.ref a)) → Q b H → t σ H Q
structure QHW (X : Cx) (i : Nat) (a : Addr) (e : Expr) (t : TT) (b : Bool) : Prop where
  p : PW X e t
  j : ∀ (σ : L2.St) (H : Hp) (Q : Bool → Hp → Prop), σ[i]? = some (some (.ref a)) → Q b H → t σ H Q
def nxH (o o2 : Option Bool) : Option Bool := match o with
  | some b => some b
  | none => o2
def endH (En : Ends) (σ : L2.St) (H : Hp) : Option Bool → Prop
  | some b => En.rt (.bl b) H
  | none => En.nx σ H
structure QHS (X : Cx) (i : Nat) (a : Addr) (st : Stmt) (t : TS) (o : Option Bool) : Prop where
  p : PS X st t
  j : ∀ (σ : L2.St) (H : Hp) (En : Ends), σ[i]? = some (some (.ref a)) → endH En σ H o → t En σ H
structure QHSs (X : Cx) (i : Nat) (a : Addr) (st : List Stmt) (t : TS) (o : Option Bool) : Prop where
  p : PSs X st t
  j : ∀ (σ : L2.St) (H : Hp) (En : Ends), σ[i]? = some (some (.ref a)) → endH En σ H o → t En σ H
section
variable {X : Cx} {i : Nat} {a : Addr} {e e1 e2 : Expr} {es : List Expr} {t u : TE} {tt tu : TT} {b c : Bool} {pos p p2 p3 : Pos} {st : Stmt} {sts s1 s2 : List Stmt} {ts us : TS} {o o2 : Option Bool} {x : Str}
end
def sTry (xs : List Str) (i : Nat) (hd : Str → Option Bool) (body : DS) : DS := fun s => match body s with
  | some (.exc c s1) => if c ∈ xs ∧ i < s1.length then match hd c with
      | some b => some (.ret (.bl b) .full)
      | none => some (.next (s1.set i none))
    else none
  | r => r
section
variable {X : Cx} {K : PySem.W.Frag} {Wx : WX} {xs : List Str} {i : Nat} {n : Str} {hd : Str → Option Bool} {body suite : List Stmt} {b0 : Stmt} {np p pos pos' : Pos} {tb : WX → TS} {d : DS} {tk : Addr → Str → TS}
def tSuite (K : PySem.W.Frag) (xs : List Str) (tk : Addr → Str → TS) (a : Addr) (cls : Value) (dd : Option Addr) : TS := fun En σ H => ∃ k, k ∈ xs ∧ cls = .ref (He.ga K k) ∧ dd = none ∧ tk a k En σ H
end
end Dv

namespace Dv
open PySem L2 PySem.Spec PyProof.Rows

def ecB (K : PySem.W.Frag) (C : Addr) : Bool :=
  decide (PySem.W.findIn K (.ref C) "__getattribute__" = some (some (.builtin "BaseException.__getattribute__"))) && (decide (PySem.W.findIn K (.ref C) "__getattr__" = some none) && (decide (PySem.W.subIn K (.ref C) (.type "BaseException") = some true) &&
    (PySem.W.hasDictIn K C && (decide (PySem.W.findIn K (.ref C) "__class__" = some (some (.builtin "object.__class__"))) && (decide (PySem.W.specialIn K (.builtin "object.__class__") "__get__" = some (some (.builtin "getset_descriptor.__get__"))) &&
      (decide (PySem.W.takesIn K (.builtin "object.__class__") = some true) && decide (PySem.W.mroIn K C (.type "object") = some true)))))))
def exB1 (xs : List Str) (K : PySem.W.Frag) (c : Str) : Bool :=
  ecB K (He.ga K c) && (decide (PySem.W.exmOne K (.ref (He.ga K c)) (.ref (He.ga K "ProbeError")) = some true) && ((xs.all fun x => decide (PySem.W.kitOne K (.ref (He.ga K c)) (.ref (He.ga K x)) = some (isaB c x))) && (decide (PySem.W.kitOne K (.ref (He.ga K c)) (.type "ValueError") = some true) && decide (PySem.W.exmOne K (.ref (He.ga K c)) (.ref (He.ga K c)) = some true))))
def exOk (xs : List Str) (K : PySem.W.Frag) : Bool := xs.all (exB1 xs K)
end Dv

namespace Dv
open PySem L2 Evl

def cDNewK : DE (D × Ow) := fun s => some (.ok (.dK [], .full) s)
def cDNewT : DE (D × Ow) := fun s => some (.ok (.dT [], .full) s)
section
variable {K : PySem.W.Frag} {W : WW}
end
section
variable {X : Cx} {K : PySem.W.Frag} {W : WW} {pos : Pos}
end
end Dv

namespace Dv
open PySem L2

def E1 {α : Type} (de : DE α) (s : SD) (Q : Er α → Prop) : Prop := ∃ r, de s = some r ∧ Q r
def S1 (ds : DS) (s : SD) (Q : Out → Prop) : Prop := ∃ o, ds s = some o ∧ Q o
def F1 (df : DF) (a : List D) (Q : Fo → Prop) : Prop := ∃ o, df a = some o ∧ Q o
def O1 {α : Type} (o : Option α) (Q : α → Prop) : Prop := ∃ d, o = some d ∧ Q d
def onE {α β : Type} (k : α → SD → Prop) (Q : Er β → Prop) : Er α → Prop
  | .ok a s => k a s
  | .exc c s => Q (.exc c s)
def onB (P : Prop) (P' : Prop) (c : Bool) : Prop := (c = true → P) ∧ (c = false → P')
section
variable {α β : Type} {s : SD} {Q : Er α → Prop} {QD : Er D → Prop} {QC : Er (D × Ow) → Prop} {QL : Er (List D) → Prop} {QB : Er Bool → Prop}
@[simp] theorem onE_ok {k : α → SD → Prop} {Q : Er β → Prop} {a : α} : onE k Q (.ok a s) = k a s := rfl
@[simp] theorem onE_exc {k : α → SD → Prop} {Q : Er β → Prop} {c : Str} : onE k Q (.exc c s) = Q (.exc c s) := rfl
@[simp] theorem O1_some {o : α} {Q : α → Prop} : O1 (some o) Q = Q o := by simp [O1]
@[simp] theorem O1_none {Q : α → Prop} : O1 none Q = False := by simp [O1]
@[simp] theorem E1_dC {d : D} : E1 (dC d) s QD = QD (.ok d s) := by simp [E1, dC]
def atV (k : D → Ow → Prop) : Option Sl → Prop
  | some (some (d, ow)) => k d ow
  | _ => False
@[simp] theorem atV_some {k : D → Ow → Prop} {d : D} {ow : Ow} : atV k (some (some (d, ow))) = k d ow := rfl
@[simp] theorem E1_dNil : E1 dNil s QL = QL (.ok [] s) := by simp [E1, dNil]
def isBl (P : Bool → Prop) : D → Prop
  | .bl b => P b
  | _ => False
@[simp] theorem isBl_bl {P : Bool → Prop} {b : Bool} : isBl P (.bl b) = P b := rfl
variable {QK : Er (List D × Bool) → Prop}
@[simp] theorem E1_cNil : E1 cNil s QK = QK (.ok ([], true) s) := by simp [E1, cNil]
def onF (QC : Er (D × Ow) → Prop) (s : SD) : Fo → Prop
  | .ret d ow => (imm d = true ∨ ow = .full → QC (.ok (d, .full) s)) ∧ (imm d = false ∧ ow ≠ .full → QC (.ok (d, ow) (fzAll s)))
  | .exc c => QC (.exc c s)
variable {a b : DS} {QS : Out → Prop}
def onN (k : SD → Prop) (Q : Out → Prop) : Out → Prop
  | .next s => k s
  | o => Q o
@[simp] theorem onN_next {k : SD → Prop} : onN k QS (.next s) = k s := rfl
@[simp] theorem onN_brk {k : SD → Prop} : onN k QS (.brk s) = QS (.brk s) := rfl
@[simp] theorem onN_cont {k : SD → Prop} : onN k QS (.cont s) = QS (.cont s) := rfl
@[simp] theorem onN_ret {k : SD → Prop} {d : D} {ow : Ow} : onN k QS (.ret d ow) = QS (.ret d ow) := rfl
@[simp] theorem onN_retS {k : SD → Prop} {d : D} {ow : Ow} : onN k QS (.retS d ow s) = QS (.retS d ow s) := rfl
@[simp] theorem onN_exc {k : SD → Prop} {c : Str} : onN k QS (.exc c s) = QS (.exc c s) := rfl
@[simp] theorem S1_next : S1 sNext s QS = QS (.next s) := by simp [S1, sNext]
@[simp] theorem S1_brk : S1 sBrk s QS = QS (.brk s) := by simp [S1, sBrk]
@[simp] theorem S1_cont : S1 sCont s QS = QS (.cont s) := by simp [S1, sCont]
@[simp] theorem S1_never : S1 sNever s QS = False := by simp [S1, sNever]
def onS {α : Type} (k : α → SD → Prop) (Q : Out → Prop) : Er α → Prop
  | .ok a s => k a s
  | .exc c s => Q (.exc c s)
@[simp] theorem onS_ok {k : α → SD → Prop} {a : α} : onS k QS (.ok a s) = k a s := rfl
@[simp] theorem onS_exc {k : α → SD → Prop} {c : Str} : onS k QS (.exc c s) = QS (.exc c s) := rfl
@[simp] theorem S1_retN : S1 sRetN s QS = QS (.ret .non .full) := by simp [S1, sRetN]
theorem S1.mono {d : DS} {Q Q' : Out → Prop} (h : S1 d s Q) (k : ∀ o, Q o → Q' o) : S1 d s Q' := by
  obtain ⟨o, e, q⟩ := h
  exact ⟨o, e, k o q⟩
theorem E1.mono {d : DE α} {Q Q' : Er α → Prop} (h : E1 d s Q) (k : ∀ o, Q o → Q' o) : E1 d s Q' := by
  obtain ⟨o, e, q⟩ := h
  exact ⟨o, e, k o q⟩
end
end Dv

namespace Dv
open PySem L2

mutual
def nice : Nat → D → Bool
  | _, .non => true
  | _, .bl _ => true
  | _, .int _ => true
  | _, .str x => PyData.canLay0 (.str x)
  | n + 1, .tup xs => niceL n xs
  | n + 1, .lst xs => niceL n xs
  | n + 1, .sc xs => niceL n xs
  | _, _ => false
def niceL : Nat → List D → Bool
  | _, [] => true
  | n, x :: xs => nice n x && niceL n xs
end
mutual
def eqD : D → D → Bool
  | .non, y => match y with
    | .non => true
    | _ => false
  | .bl a, y => match y with
    | .bl b => a == b
    | .int j => (if a then 1 else 0) == j
    | _ => false
  | .int i, y => match y with
    | .bl b => i == (if b then 1 else 0)
    | .int j => i == j
    | _ => false
  | .str a, y => match y with
    | .str b => a == b
    | _ => false
  | .lst xs, y => match y with
    | .lst ys => eqDL xs ys
    | .sc ys => eqDL xs ys
    | _ => false
  | .sc xs, y => match y with
    | .lst ys => eqDL xs ys
    | .sc ys => eqDL xs ys
    | _ => false
  | .tup xs, y => match y with
    | .tup ys => eqDL xs ys
    | _ => false
  | .dK _, _ => false
  | .dT _, _ => false
  | .dN _, _ => false
  | .ins _ _, _ => false
def eqDL : List D → List D → Bool
  | [], ys => match ys with
    | [] => true
    | _ => false
  | x :: xs, ys => match ys with
    | [] => false
    | y :: ys => eqD x y && eqDL xs ys
end
mutual
theorem nice_py : ∀ {n : Nat} {d : D}, nice n d = true → ∃ p, d.py = some p ∧ p.canLay0 = true ∧ p.depth ≤ n
  | n, .non, _ => ⟨_, rfl, by simp [PyData.canLay0], by simp [PyData.depth]⟩
  | n, .bl _, _ => ⟨_, rfl, by simp [PyData.canLay0], by simp [PyData.depth]⟩
  | n, .int _, _ => ⟨_, rfl, by simp [PyData.canLay0], by simp [PyData.depth]⟩
  | n, .str x, h => ⟨_, rfl, by simpa [nice] using h, by simp [PyData.depth]⟩
  | n + 1, .tup xs, h => by
    obtain ⟨ps, e, c, dd⟩ := niceL_py (n := n) (ds := xs) (by simpa [nice] using h)
    exact ⟨.tuple ps, by simp [D.py, e], by simpa [PyData.canLay0] using c, by simp only [PyData.depth]; omega⟩
  | n + 1, .lst xs, h => by
    obtain ⟨ps, e, c, dd⟩ := niceL_py (n := n) (ds := xs) (by simpa [nice] using h)
    exact ⟨.list ps, by simp [D.py, e], by simpa [PyData.canLay0] using c, by simp only [PyData.depth]; omega⟩
  | n + 1, .sc xs, h => by
    obtain ⟨ps, e, c, dd⟩ := niceL_py (n := n) (ds := xs) (by simpa [nice] using h)
    exact ⟨.list ps, by simp [D.py, e], by simpa [PyData.canLay0] using c, by simp only [PyData.depth]; omega⟩
  | 0, .tup _, h => by simp [nice] at h
  | 0, .lst _, h => by simp [nice] at h
  | 0, .sc _, h => by simp [nice] at h
  | _, .dK _, h => by simp [nice] at h
  | _, .dT _, h => by simp [nice] at h
  | _, .dN _, h => by simp [nice] at h
  | _, .ins _ _, h => by simp [nice] at h
theorem niceL_py : ∀ {n : Nat} {ds : List D}, niceL n ds = true → ∃ ps, D.pyL ds = some ps ∧ PyData.canLayAll0 ps = true ∧ PyData.depthAll ps ≤ n
  | n, [], _ => ⟨[], rfl, rfl, by simp [PyData.depthAll]⟩
  | n, d :: ds, h => by
    simp only [niceL, Bool.and_eq_true] at h
    obtain ⟨p, e1, c1, d1⟩ := nice_py h.1
    obtain ⟨ps, e2, c2, d2⟩ := niceL_py h.2
    refine ⟨p :: ps, by simp [D.pyL, e1, e2], by simp [PyData.canLayAll0, c1, c2], ?_⟩
    simp only [PyData.depthAll]
    omega
end
mutual
theorem eqv_D : ∀ {x y : D} {p q : PyData}, x.py = some p → y.py = some q → PyData.eqv p q = eqD x y
  | .non, y, p, q, h1, h2 => by
    cases h1
    cases y <;> simp [D.py] at h2 <;> first | (obtain ⟨_, _, rfl⟩ := h2; simp [PyData.eqv, eqD]) | (subst h2; simp [PyData.eqv, eqD])
  | .bl b, y, p, q, h1, h2 => by
    cases h1
    cases y <;> simp [D.py] at h2 <;> first | (obtain ⟨_, _, rfl⟩ := h2; simp [PyData.eqv, eqD]) | (subst h2; simp [PyData.eqv, eqD])
  | .int b, y, p, q, h1, h2 => by
    cases h1
    cases y <;> simp [D.py] at h2 <;> first | (obtain ⟨_, _, rfl⟩ := h2; simp [PyData.eqv, eqD]) | (subst h2; simp [PyData.eqv, eqD])
  | .str b, y, p, q, h1, h2 => by
    cases h1
    cases y <;> simp [D.py] at h2 <;> first | (obtain ⟨_, _, rfl⟩ := h2; simp [PyData.eqv, eqD]) | (subst h2; simp [PyData.eqv, eqD])
  | .tup xs, y, p, q, h1, h2 => by
    simp only [D.py, Option.map_eq_some_iff] at h1
    obtain ⟨ps, h1, rfl⟩ := h1
    cases y with
    | tup ys =>
      simp only [D.py, Option.map_eq_some_iff] at h2
      obtain ⟨qs, h2, rfl⟩ := h2
      simpa [PyData.eqv, eqD] using eqvL_D h1 h2
    | _ => simp [D.py] at h2 <;> first | (obtain ⟨_, _, rfl⟩ := h2; simp [PyData.eqv, eqD]) | (subst h2; simp [PyData.eqv, eqD])
  | .lst xs, y, p, q, h1, h2 => by
    simp only [D.py, Option.map_eq_some_iff] at h1
    obtain ⟨ps, h1, rfl⟩ := h1
    cases y with
    | lst ys =>
      simp only [D.py, Option.map_eq_some_iff] at h2
      obtain ⟨qs, h2, rfl⟩ := h2
      simpa [PyData.eqv, eqD] using eqvL_D h1 h2
    | sc ys =>
      simp only [D.py, Option.map_eq_some_iff] at h2
      obtain ⟨qs, h2, rfl⟩ := h2
      simpa [PyData.eqv, eqD] using eqvL_D h1 h2
    | _ => simp [D.py] at h2 <;> first | (obtain ⟨_, _, rfl⟩ := h2; simp [PyData.eqv, eqD]) | (subst h2; simp [PyData.eqv, eqD])
  | .sc xs, y, p, q, h1, h2 => by
    simp only [D.py, Option.map_eq_some_iff] at h1
    obtain ⟨ps, h1, rfl⟩ := h1
    cases y with
    | lst ys =>
      simp only [D.py, Option.map_eq_some_iff] at h2
      obtain ⟨qs, h2, rfl⟩ := h2
      simpa [PyData.eqv, eqD] using eqvL_D h1 h2
    | sc ys =>
      simp only [D.py, Option.map_eq_some_iff] at h2
      obtain ⟨qs, h2, rfl⟩ := h2
      simpa [PyData.eqv, eqD] using eqvL_D h1 h2
    | _ => simp [D.py] at h2 <;> first | (obtain ⟨_, _, rfl⟩ := h2; simp [PyData.eqv, eqD]) | (subst h2; simp [PyData.eqv, eqD])
  | .dK _, _, _, _, h1, _ => by simp [D.py] at h1
  | .dT _, _, _, _, h1, _ => by simp [D.py] at h1
  | .dN _, _, _, _, h1, _ => by simp [D.py] at h1
  | .ins _ _, _, _, _, h1, _ => by simp [D.py] at h1
theorem eqvL_D : ∀ {xs ys : List D} {ps qs : List PyData}, D.pyL xs = some ps → D.pyL ys = some qs → PyData.eqvAll ps qs = eqDL xs ys
  | [], [], ps, qs, h1, h2 => by cases h1; cases h2; rfl
  | [], y :: ys, ps, qs, h1, h2 => by
    cases h1
    simp only [D.pyL] at h2
    split at h2
    · cases h2; rfl
    · cases h2
  | x :: xs, [], ps, qs, h1, h2 => by
    cases h2
    simp only [D.pyL] at h1
    split at h1
    · cases h1; rfl
    · cases h1
  | x :: xs, y :: ys, ps, qs, h1, h2 => by
    simp only [D.pyL] at h1 h2
    split at h1
    · rename_i a b e1 e2
      cases h1
      split at h2
      · rename_i a' b' e3 e4
        cases h2
        simp only [PyData.eqvAll, eqDL, eqv_D e1 e3, eqvL_D e2 e4]
      · cases h2
    · cases h1
end
section
variable {Q : D → Prop} {x y : D}
mutual
theorem eqD_self : ∀ {n : Nat} {d : D}, nice n d = true → eqD d d = true
  | _, .non, _ => by simp [eqD]
  | _, .bl _, _ => by simp [eqD]
  | _, .int _, _ => by simp [eqD]
  | _, .str _, _ => by simp [eqD]
  | n + 1, .tup xs, h => by simpa [eqD] using eqDL_self (n := n) (ds := xs) (by simpa [nice] using h)
  | n + 1, .lst xs, h => by simpa [eqD] using eqDL_self (n := n) (ds := xs) (by simpa [nice] using h)
  | n + 1, .sc xs, h => by simpa [eqD] using eqDL_self (n := n) (ds := xs) (by simpa [nice] using h)
  | 0, .tup _, h => by simp [nice] at h
  | 0, .lst _, h => by simp [nice] at h
  | 0, .sc _, h => by simp [nice] at h
  | _, .dK _, h => by simp [nice] at h
  | _, .dT _, h => by simp [nice] at h
  | _, .dN _, h => by simp [nice] at h
  | _, .ins _ _, h => by simp [nice] at h
theorem eqDL_self : ∀ {n : Nat} {ds : List D}, niceL n ds = true → eqDL ds ds = true
  | _, [], _ => by simp [eqDL]
  | n, d :: ds, h => by
    simp only [niceL, Bool.and_eq_true] at h
    simp [eqDL, eqD_self h.1, eqDL_self h.2]
end
variable {i j : Int}
variable {s : SD} {QC : Er (D × Ow) → Prop}
def addF (x y : D) (s : SD) : Option (Er (D × Ow)) := match x, y with
  | .int i, .int j => some (.ok (.int (i + j), .full) s)
  | .str i, .str j => if i.length + j.length ≤ 1000000 then some (.ok (.str (i ++ j), .full) s) else none
  | .lst xs, .lst ys => if xs.length + ys.length ≤ 1000000 then some (mkL (xs ++ ys) s) else none
  | x, y => cAdd (dC x) (dC y) s
def mulF (x y : D) (s : SD) : Option (Er (D × Ow)) := match x, y with
  | .int i, .int j => if mulOk i j = true then some (.ok (.int (i * j), .full) s) else none
  | .lst xs, .int k => if -(2 ^ 63) ≤ k ∧ k < 2 ^ 63 ∧ xs.length * k.toNat ≤ 1000000 then some (mkL (List.replicate k.toNat xs).flatten s) else none
  | _, _ => none
theorem mulOk_l (h : i.natAbs < 2 ^ 64) : mulOk i j = true := by simp [mulOk, h]
theorem mulOk_r (h : j.natAbs < 2 ^ 64) : mulOk i j = true := by simp [mulOk, h]
def listF (xs : List D) (s : SD) : Option (Er (D × Ow)) := match xs with
  | [.lst ds] => some (mkL ds s)
  | [.sc ds] => some (mkL ds s)
  | [.tup ds] => some (mkL ds s)
  | _ => none
variable {α : Type} {m : Bool} {tg : DT} {cond : DE Bool} {elt : DE (D × Ow)} {own : List Nat} {items : List (D × Ow)} {QL : Er (List D) → Prop}
def yesD : DE Bool := fun s => some (.ok true s)
end
end Dv

namespace Dv
open PySem L2

section
variable {α β : Type} {s : SD} {QC : Er (D × Ow) → Prop} {QD : Er D → Prop} {QO : Er (Option Int) → Prop} {QS : Out → Prop} {i j : Int} {Q' : D → Prop}
def isI (P : Int → Prop) : D → Prop
  | .int i => P i
  | _ => False
@[simp] theorem isI_int {P : Int → Prop} : isI P (.int i) = P i := rfl
def slF (x : D) (lo hi : Option Int) (s : SD) : Option (Er (D × Ow)) := match x with
  | .lst xs => some (mkL (cut xs lo hi) s)
  | .sc xs => some (mkL (cut xs lo hi) s)
  | .str z => if z.length ≤ 1000000 then some (.ok (.str (L2.cutS z lo hi), .full) s) else none
  | _ => none
def isLs (k : List D → Ow → Prop) : Option Sl → Prop
  | some (some (.lst ds, ow)) => k ds ow
  | _ => False
@[simp] theorem isLs_lst {k : List D → Ow → Prop} {ds : List D} {ow : Ow} : isLs k (some (some (.lst ds, ow))) = k ds ow := rfl
def appK (ds : List D) (ow : Ow) (x : D × Ow) (s1 : SD) (i : Nat) (QS : Out → Prop) : Prop := match ow with
  | .full => (x.2 = .full ∧ ds.length < 1000000) ∧ QS (.next (s1.set i (some (.lst (ds ++ [x.1]), .full))))
  | .top => ds.length < 1000000 ∧ QS (.next (s1.set i (some (.lst (ds ++ [x.1]), .top))))
  | _ => False
end
end Dv

namespace Dv
open PySem L2

section
variable {α β : Type} {s : SD} {QC : Er (D × Ow) → Prop} {QD : Er D → Prop} {QS : Out → Prop} {i j : Int}
def getL (P : List D → Prop) : Option D → Prop
  | some (.lst ds) => P ds
  | _ => False
@[simp] theorem getL_lst {P : List D → Prop} {ds : List D} : getL P (some (.lst ds)) = P ds := rfl
def isFull (P : Prop) : Ow → Prop
  | .full => P
  | _ => False
@[simp] theorem isFull_full {P : Prop} : isFull P .full = P := rfl
def hdK (P : Bool → Prop) (N : Prop) : Option Bool → Prop
  | some b => P b
  | none => N
def onX (k : Str → SD → Prop) (Q : Out → Prop) : Out → Prop
  | .exc c s => k c s
  | o => Q o
def tupF (xs : List D) (s : SD) : Option (Er (D × Ow)) := match xs with
  | [.lst ds] => mkT ds s
  | [.sc ds] => mkT ds s
  | [.tup ds] => if immL ds = true then some (.ok (.tup ds, .full) s) else none
  | _ => none
theorem getP_lst {ds : List D} {k : Int} {ks : List Int} : getP (k :: ks) (.lst ds) = (L2.atI ds k).bind (getP ks) := rfl
theorem getP_tup {ds : List D} {k : Int} {ks : List Int} : getP (k :: ks) (.tup ds) = (L2.atI ds k).bind (getP ks) := rfl
end
end Dv

namespace Dv
open PySem PySem.SeqAt Ob
open PySem.AutoSeq1 (wpAny_loadPart')
open PySem.MeetsSeq PySem.MeetsSeq2 PySem.MeetsSeq3 PySem.SeqRoads2

end Dv

namespace Dv
open PySem PySem.Spec PyProof.Rows L2 Evl

def ltL : List Int → List Int → Bool
  | [], [] => false
  | [], _ :: _ => true
  | _ :: _, [] => false
  | x :: p, y :: q => decide (x < y) || (decide (x = y) && ltL p q)
def leL : List Int → List Int → Bool
  | [], _ => true
  | _ :: _, [] => false
  | x :: p, y :: q => decide (x < y) || (decide (x = y) && leL p q)
def rLsC (f : List Int → List Int → Bool) (K : PySem.W.Frag) : R2 := fun x y H Q => ∃ (a b : Addr) (ns ms : List Int), x = .ref a ∧ y = .ref b ∧ SqL K H a (ns.map V.int) ∧ SqL K H b (ms.map V.int) ∧ Q (.bl (f ns ms)) H
def intsOf : List D → Option (List Int)
  | [] => some []
  | .int i :: r => (intsOf r).map (i :: ·)
  | _ :: _ => none
def lsD : D → Option (List Int)
  | .lst ds => intsOf ds
  | .sc ds => intsOf ds
  | _ => none
def fLsC (f : List Int → List Int → Bool) (x y : D) : Option D := match lsD x, lsD y with
  | some a, some b => some (.bl (f a b))
  | _, _ => none
def fGtL := fLsC fun a b => ltL b a
def fLtL := fLsC ltL
def fLeL := fLsC leL
section
variable {X : Cx} {K : PySem.W.Frag} {W : WW} {a b : Expr} {ta tb : TE} {da db : DE D} {pos : Pos}
end
end Dv

namespace Dv
open PySem L2

inductive R (α : Type) where
  | ok (a : α) | exc (c : Str) | bad
def R.bind {α β : Type} (x : R α) (k : α → R β) : R β := match x with
  | .ok a => k a
  | .exc c => .exc c
  | .bad => .bad
section
variable {α β γ : Type}
@[simp] theorem ok_bind (a : α) (k : α → R β) : R.bind (.ok a) k = k a := rfl
@[simp] theorem exc_bind (c : Str) (k : α → R β) : R.bind (.exc c) k = .exc c := rfl
@[simp] theorem bad_bind (k : α → R β) : R.bind .bad k = .bad := rfl
theorem bind_bind (x : R α) (k : α → R β) (l : β → R γ) : R.bind (R.bind x k) l = R.bind x fun a => R.bind (k a) l := by
  cases x <;> rfl
theorem bind_ok (x : R α) : R.bind x R.ok = x := by cases x <;> rfl
end
def Ho {α : Type} (x : R α) (P : α → Prop) : Prop := match x with
  | .ok w => P w
  | .exc _ => False
  | .bad => True
theorem Ho.of {α : Type} {x : R α} {P : α → Prop} {a : α} (h : Ho x P) (e : x = .ok a) : P a := by subst e; exact h
def Ok {α : Type} (x : R α) (Q : α → Prop) : Prop := ∃ a, x = .ok a ∧ Q a

class Enc (α : Type) where
  enc : α → D
open Enc (enc)
structure Sc where
  ns : List Int
structure T3 (α β γ : Type) where
  a : α
  b : β
  c : γ
  deriving DecidableEq
structure T4 (α β γ δ : Type) where
  a : α
  b : β
  c : γ
  d : δ
  deriving DecidableEq
section
variable {α β γ δ : Type} [Enc α] [Enc β] [Enc γ] [Enc δ]
instance : Enc D := ⟨id⟩
instance : Enc Int := ⟨D.int⟩
instance : Enc Bool := ⟨D.bl⟩
instance : Enc Str := ⟨D.str⟩
instance : Enc Unit := ⟨fun _ => .non⟩
instance : Enc Sc := ⟨fun x => .sc (x.ns.map D.int)⟩
instance : Enc (List α) := ⟨fun l => .lst (l.map enc)⟩
instance : Enc (Option α) := ⟨fun o => match o with
  | none => .non
  | some a => enc a⟩
instance : Enc (α × β) := ⟨fun p => .tup [enc p.1, enc p.2]⟩
instance : Enc (T3 α β γ) := ⟨fun p => .tup [enc p.a, enc p.b, enc p.c]⟩
instance : Enc (T4 α β γ δ) := ⟨fun p => .tup [enc p.a, enc p.b, enc p.c, enc p.d]⟩
end
class Imm (α : Type) [Enc α] : Prop where
  im : ∀ a : α, imm (enc a) = true
section
variable {α β γ δ : Type} [Enc α] [Enc β] [Enc γ] [Enc δ]
instance : Imm Int := ⟨fun _ => rfl⟩
instance : Imm Bool := ⟨fun _ => rfl⟩
instance : Imm Str := ⟨fun _ => rfl⟩
instance : Imm Unit := ⟨fun _ => rfl⟩
instance [Imm α] [Imm β] : Imm (α × β) := ⟨fun p => by simp [enc, imm, immL, Imm.im]⟩
instance [Imm α] [Imm β] [Imm γ] : Imm (T3 α β γ) := ⟨fun p => by simp [enc, imm, immL, Imm.im]⟩
instance [Imm α] [Imm β] [Imm γ] [Imm δ] : Imm (T4 α β γ δ) := ⟨fun p => by simp [enc, imm, immL, Imm.im]⟩
instance [Imm α] : Imm (Option α) := ⟨fun p => by cases p with
  | none => rfl
  | some a => exact Imm.im a⟩
theorem immL_map [Imm α] : ∀ l : List α, immL (l.map enc) = true
  | [] => rfl
  | a :: l => by simp [immL, Imm.im, immL_map l]
end

inductive Oc where
  | f | t | o | n | a (q : Addr)
def Oc.ok : Oc → D → Ow → Prop
  | .f, _, ow => ow = .full
  | .t, _, ow => ow = .top
  | .o, d, ow => ow = .no ∨ (imm d = true ∧ ow = .full)
  | .n, _, _ => True
  | .a q, _, ow => ow = .adr q
def Oc.na : Oc → Prop
  | .a _ => False
  | _ => True
inductive Pt where
  | x | h (c : Oc) (d : D)
def Pt.val : Pt → Option D
  | .x => none
  | .h _ d => some d
def Pt.ok : Pt → Sl → Prop
  | .x, _ => True
  | .h c d, sl => ∃ ow, sl = some (d, ow) ∧ c.ok d ow
def Ms : List Pt → SD → Prop
  | [], [] => True
  | p :: ps, sl :: s => p.ok sl ∧ Ms ps s
  | _, _ => False
theorem Ms.len : ∀ {ps : List Pt} {s : SD}, Ms ps s → s.length = ps.length
  | [], [], _ => rfl
  | _ :: ps, _ :: s, h => by simp [Ms.len h.2]
  | [], _ :: _, h => h.elim
  | _ :: _, [], h => h.elim
theorem Ms.get : ∀ {ps : List Pt} {s : SD} {i : Nat} {c : Oc} {d : D}, Ms ps s → ps.getD i .x = .h c d → ∃ ow, s[i]? = some (some (d, ow)) ∧ c.ok d ow
  | [], [], _, _, _, _, e => by simp at e
  | [], _ :: _, _, _, _, h, _ => h.elim
  | _ :: _, [], _, _, _, h, _ => h.elim
  | p :: ps, sl :: s, 0, c, d, h, e => by
    have e : p = .h c d := by simpa using e
    subst e
    obtain ⟨ow, rfl, q⟩ := h.1
    exact ⟨ow, rfl, q⟩
  | p :: ps, sl :: s, i + 1, c, d, h, e => by
    obtain ⟨ow, q⟩ := Ms.get (i := i) (c := c) (d := d) h.2 (by simpa using e)
    exact ⟨ow, by simpa using q⟩
theorem Ms.set : ∀ {ps : List Pt} {s : SD} {p : Pt} {sl : Sl} (i : Nat), Ms ps s → p.ok sl → Ms (ps.set i p) (s.set i sl)
  | [], [], _, _, _, _, _ => trivial
  | [], _ :: _, _, _, _, h, _ => h.elim
  | _ :: _, [], _, _, _, h, _ => h.elim
  | _ :: _, _ :: _, _, _, 0, h, q => ⟨q, h.2⟩
  | _ :: _, _ :: _, _, _, i + 1, h, q => ⟨h.1, Ms.set i h.2 q⟩
theorem Ms.x {ps : List Pt} {s : SD} (i : Nat) (h : Ms ps s) {sl : Sl} : Ms (ps.set i .x) (s.set i sl) := h.set i trivial
def Pt.fz : Pt → Pt
  | .x => .x
  | .h .o d => .h .o d
  | .h _ d => .h .n d
def fzP : List Pt → List Pt
  | [] => []
  | p :: ps => p.fz :: fzP ps
theorem Pt.fz_no {p : Pt} {sl : Sl} (h : p.ok sl) : p.fz.ok (sl.map fun q => (q.1, Ow.no)) := by
  cases p with
  | x => trivial
  | h c d =>
    obtain ⟨ow, rfl, q⟩ := h
    cases c <;> exact ⟨.no, rfl, by first | exact .inl rfl | trivial⟩
theorem Pt.fz_le {p : Pt} {sl : Sl} (h : p.ok sl) : p.fz.ok sl := by
  cases p with
  | x => trivial
  | h c d =>
    obtain ⟨ow, rfl, q⟩ := h
    cases c <;> exact ⟨ow, rfl, by first | exact q | trivial⟩
theorem Ms.fz : ∀ {ps : List Pt} {s : SD}, Ms ps s → Ms (fzP ps) (fzAll s)
  | [], [], _ => trivial
  | [], _ :: _, h => h.elim
  | _ :: _, [], h => h.elim
  | _ :: _, _ :: _, h => ⟨Pt.fz_no h.1, Ms.fz h.2⟩
theorem Ms.fzle : ∀ {ps : List Pt} {s : SD}, Ms ps s → Ms (fzP ps) s
  | [], [], _ => trivial
  | [], _ :: _, h => h.elim
  | _ :: _, [], h => h.elim
  | _ :: _, _ :: _, h => ⟨Pt.fz_le h.1, Ms.fzle h.2⟩
theorem fzAll_len (s : SD) : (fzAll s).length = s.length := by simp [fzAll]
def wipeP : List Nat → List Pt → List Pt
  | [], ps => ps
  | i :: is, ps => (wipeP is ps).set i .x
theorem Ms.wipe : ∀ (own : List Nat) {ps : List Pt} {s : SD}, Ms ps s → Ms (wipeP own ps) (wipeD own s)
  | [], _, _, h => h
  | i :: is, _, _, h => (Ms.wipe is h).x i
theorem wipe_len : ∀ (own : List Nat) (s : SD), (wipeD own s).length = s.length
  | [], s => rfl
  | i :: is, s => by simp [wipeD, wipe_len is s]
inductive Wk : List Pt → List Pt → Prop
  | nil : Wk [] []
  | x {p : Pt} {ps qs : List Pt} : Wk ps qs → Wk (p :: ps) (.x :: qs)
  | n {c : Oc} {d : D} {ps qs : List Pt} : Wk ps qs → Wk (.h c d :: ps) (.h .n d :: qs)
  | e {c : Oc} {d : D} {ps qs : List Pt} : Wk ps qs → Wk (.h c d :: ps) (.h c d :: qs)
  | i {d : D} {ps qs : List Pt} (hi : imm d = true) : Wk ps qs → Wk (.h .f d :: ps) (.h .o d :: qs)
theorem Ms.wk : ∀ {ps qs : List Pt} {s : SD}, Ms ps s → Wk ps qs → Ms qs s
  | _, _, [], h, .nil => trivial
  | _, _, _ :: _, h, .nil => h.elim
  | _, _, [], h, .x _ => h.elim
  | _, _, _ :: _, h, .x r => ⟨trivial, Ms.wk h.2 r⟩
  | _, _, [], h, .n _ => h.elim
  | _, _, _ :: _, h, .n r => ⟨let ⟨ow, e, _⟩ := h.1; ⟨ow, e, trivial⟩, Ms.wk h.2 r⟩
  | _, _, [], h, .e _ => h.elim
  | _, _, _ :: _, h, .e r => ⟨h.1, Ms.wk h.2 r⟩
  | _, _, [], h, .i _ _ => h.elim
  | _, _, _ :: _, h, .i hi r => ⟨let ⟨ow, e, q⟩ := h.1; ⟨ow, e, .inr ⟨hi, q⟩⟩, Ms.wk h.2 r⟩
theorem Wk.refl : ∀ ps : List Pt, Wk ps ps
  | [] => .nil
  | .x :: ps => .x (Wk.refl ps)
  | .h _ _ :: ps => .e (Wk.refl ps)

section
variable {α β γ δ τ σ ρ α' β' : Type}
def RGs (ps : List Pt) (de : DE β) (x : R α) (V : α → β → Prop) (ps' : List Pt) (s : SD) : Prop := match x with
  | .ok a => ∃ b s', de s = some (.ok b s') ∧ V a b ∧ Ms ps' s' ∧ s'.length = s.length
  | .exc c => ∃ s', de s = some (.exc c s') ∧ s'.length = s.length
  | .bad => True
structure RG (ps : List Pt) (de : DE β) (x : R α) (V : α → β → Prop) (ps' : List Pt) : Prop where
  h : ∀ s, Ms ps s → RGs ps de x V ps' s
instance {ps ps' : List Pt} {de : DE β} {x : R α} {V : α → β → Prop} : CoeFun (RG ps de x V ps') (fun _ => ∀ s, Ms ps s → RGs ps de x V ps' s) := ⟨RG.h⟩
abbrev RB [Enc α] (ps : List Pt) (de : DE D) (x : R α) (ps' : List Pt) : Prop := RG ps de x (fun a d => d = enc a) ps'
abbrev RC [Enc α] (ps : List Pt) (de : DE (D × Ow)) (x : R α) (c : Oc) (ps' : List Pt) : Prop := RG ps de x (fun a p => p.1 = enc a ∧ c.ok (enc a) p.2) ps'
abbrev RT (ps : List Pt) (de : DE Bool) (x : R Bool) (ps' : List Pt) : Prop := RG ps de x (fun a b => b = a) ps'
abbrev RA (ps : List Pt) (de : DE (List D)) (x : R γ) (el : γ → List D) (ps' : List Pt) : Prop := RG ps de x (fun a ds => ds = el a) ps'
theorem RG.bnd {ps ps1 ps2 : List Pt} {da : DE β} {k : β → DE β'} {x : R α} {kx : α → R α'} {V : α → β → Prop} {V' : α' → β' → Prop} (h : RG ps da x V ps1) (hk : ∀ a b, V a b → RG ps1 (k b) (kx a) V' ps2) : RG ps (bnd da k) (R.bind x kx) V' ps2 := by
  refine ⟨fun s hs => ?_⟩
  have h := h s hs
  cases x with
  | bad => trivial
  | exc c =>
    obtain ⟨s1, e, l⟩ := h
    exact ⟨s1, by unfold Dv.bnd; rw [e], l⟩
  | ok a =>
    obtain ⟨b, s1, e, v, m, l⟩ := h
    have h2 := hk a b v s1 m
    have eb : Dv.bnd da k s = k b s1 := by unfold Dv.bnd; rw [e]
    show match kx a with
      | .ok a => _
      | .exc c => _
      | .bad => _
    rw [eb]
    cases e3 : kx a with
    | bad => trivial
    | exc c =>
      rw [e3] at h2
      obtain ⟨s2, e2, l2⟩ := h2
      exact ⟨s2, e2, l2.trans l⟩
    | ok a2 =>
      rw [e3] at h2
      obtain ⟨b2, s2, e2, v2, m2, l2⟩ := h2
      exact ⟨b2, s2, e2, v2, m2, l2.trans l⟩
theorem RG.pure {ps : List Pt} {b : β} {a : α} {V : α → β → Prop} (v : V a b) : RG ps (fun s => some (.ok b s)) (.ok a) V ps := .mk fun s hs => ⟨b, s, rfl, v, hs, rfl⟩
theorem RG.wk {ps ps1 ps2 : List Pt} {de : DE β} {x : R α} {V : α → β → Prop} (h : RG ps de x V ps1) (w : Wk ps1 ps2) : RG ps de x V ps2 := by
  refine ⟨fun s hs => ?_⟩
  have h := h s hs
  cases x with
  | bad => trivial
  | exc c => exact h
  | ok a =>
    obtain ⟨b, s1, e, v, m, l⟩ := h
    exact ⟨b, s1, e, v, m.wk w, l⟩
theorem RG.cv {ps ps1 : List Pt} {de : DE β} {x y : R α} {V : α → β → Prop} (h : RG ps de x V ps1) (e : x = y) : RG ps de y V ps1 := e ▸ h
end

section
variable {α β γ δ : Type} [Enc α] [Enc β] [Enc γ] [Enc δ] {ps ps1 ps2 ps3 : List Pt} {da db dc : DE D}
theorem rb_var {a : α} (i : Nat) (h : (ps.getD i .x).val = some (enc a)) : RB ps (dVar i) (.ok a) ps := by
  refine ⟨fun s hs => ?_⟩
  cases e : ps.getD i .x with
  | x => rw [e] at h; cases h
  | h c d =>
    rw [e] at h
    obtain ⟨ow, e2, _⟩ := hs.get e
    cases h
    exact ⟨_, s, by unfold dVar; rw [e2], rfl, hs, rfl⟩
theorem rb_c {d : D} {a : α} (h : d = enc a) : RB ps (dC d) (.ok a) ps := RG.pure h
theorem rb_int (i : Int) : RB ps (dC (.int i)) (.ok i) ps := rb_c rfl
theorem rb_bl (b : Bool) : RB ps (dC (.bl b)) (.ok b) ps := rb_c rfl
def Dn (g : α → R β) : Prop := ∀ a, Ho (g a) fun b => enc b = enc a
def unO (o : Option α) : R α := match o with
  | some a => .ok a
  | none => .bad
def asI : D → R Int
  | .int i => .ok i
  | _ => .bad
def asB : D → R Bool
  | .bl i => .ok i
  | _ => .bad
def asS : D → R Str
  | .str i => .ok i
  | _ => .bad
def asL : D → R (List D)
  | .lst i => .ok i
  | _ => .bad
def OpE (f : D → D → Option D) (g : α → β → R γ) : Prop := ∀ u v, Ho (g u v) fun w => f (enc u) (enc v) = some (enc w)
theorem rb_op {f : D → D → Option D} {g : α → β → R γ} (hf : OpE f g) {x : R α} {y : R β} (ha : RB ps da x ps1) (hb : RB ps1 db y ps2) : RB ps (dOp f da db) (R.bind x fun u => R.bind y fun v => g u v) ps2 := by
  refine RG.bnd ha fun u d1 v1 => RG.bnd hb fun v d2 v2 => ?_
  subst v1 v2
  refine ⟨fun s hs => ?_⟩
  have := hf u v
  show match g u v with
      | .ok a => _
      | .exc c => _
      | .bad => _
  cases e : g u v with
  | bad => trivial
  | exc c => rw [e] at this; exact this.elim
  | ok w =>
    rw [e] at this
    exact ⟨_, s, by show Option.map _ (f (enc u) (enc v)) = _; rw [this]; rfl, rfl, hs, rfl⟩
def UnE (f : D → Option D) (g : α → R γ) : Prop := ∀ u, Ho (g u) fun w => f (enc u) = some (enc w)
def eN : Unit → List D := fun _ => []
def eC {γ : Type} (el : γ → List D) : α × γ → List D := fun p => enc p.1 :: el p.2
theorem ra_nil : RA ps dNil (.ok ()) eN ps := RG.pure rfl
theorem ra_cons {γ : Type} {x : R α} {y : R γ} {el : γ → List D} {dr : DE (List D)} (ha : RB ps da x ps1) (hr : RA ps1 dr y el ps2) : RA ps (dCons da dr) (R.bind x fun u => R.bind y fun v => .ok (u, v)) (eC el) ps2 :=
  RG.bnd ha fun u d1 v1 => RG.bnd hr fun v d2 v2 => RG.pure (by subst v1 v2; rfl)
def CbE {γ : Type} (el : γ → List D) (f : List D → Option D) (g : γ → R δ) : Prop := ∀ u, Ho (g u) fun w => f (el u) = some (enc w)
theorem rb_cb {γ : Type} {el : γ → List D} {f : List D → Option D} {g : γ → R δ} (hf : CbE el f g) {x : R γ} {dr : DE (List D)} (ha : RA ps dr x el ps1) : RB ps (dCB f dr) (R.bind x g) ps1 := by
  refine RG.bnd ha fun u d1 v1 => ?_
  subst v1
  refine ⟨fun s hs => ?_⟩
  have := hf u
  cases e : g u with
  | bad => trivial
  | exc c => rw [e] at this; exact this.elim
  | ok w =>
    rw [e] at this
    exact ⟨_, s, by show Option.map _ (f (el u)) = _; rw [this]; rfl, rfl, hs, rfl⟩
variable {t u : DE Bool}
theorem rt_test {x : R Bool} (h : RB ps da x ps1) : RT ps (dTest da) x ps1 := by
  have := RG.bnd (k := fun d s => match d with
    | .bl b => some (.ok b s)
    | _ => none) (kx := R.ok) (V' := fun a b => b = a) (ps2 := ps1) h fun a b v => by
      subst v
      exact RG.pure rfl
  rw [bind_ok] at this
  exact this
def TruE (g : α → R Bool) : Prop := ∀ u, Ho (g u) fun w => truD (enc u) = some w
theorem rt_and {x y : R Bool} (h1 : RT ps t x ps1) (h2 : RT ps1 u y ps1) : RT ps (dAnd t u) (R.bind x fun c => if c = true then y else .ok false) ps1 := by
  refine RG.bnd h1 fun a b v => ?_
  subst v
  cases b with
  | true => rw [if_pos rfl, if_pos rfl]; exact h2
  | false => rw [if_neg Bool.false_ne_true, if_neg Bool.false_ne_true]; exact RG.pure rfl
theorem rt_or {x y : R Bool} (h1 : RT ps t x ps1) (h2 : RT ps1 u y ps1) : RT ps (dOr t u) (R.bind x fun c => if c = true then .ok true else y) ps1 := by
  refine RG.bnd h1 fun a b v => ?_
  subst v
  cases b with
  | true => rw [if_pos rfl, if_pos rfl]; exact RG.pure rfl
  | false => rw [if_neg Bool.false_ne_true, if_neg Bool.false_ne_true]; exact h2
theorem rt_orP {x : R Bool} {b : Bool} (h1 : RT ps t x ps1) (h2 : RT ps1 u (.ok b) ps1) : RT ps (dOr t u) (R.bind x fun c => .ok (c || b)) ps1 := by
  refine RG.cv (rt_or h1 h2) ?_
  cases x with
  | ok c => cases c <;> rfl
  | _ => rfl
theorem rt_not {x : R Bool} (h1 : RT ps t x ps1) : RT ps (dNot t) (R.bind x fun c => .ok (!c)) ps1 :=
  RG.bnd h1 fun a b v => by subst v; exact RG.pure rfl
theorem rb_and {x y : R Bool} (h1 : RB ps da x ps1) (h2 : RB ps1 db y ps1) : RB ps (dAndV da db) (R.bind x fun c => if c = true then y else .ok false) ps1 := by
  refine RG.bnd h1 fun a b v => ?_
  subst v
  cases a with
  | true => rw [if_pos rfl]; exact h2
  | false => rw [if_neg Bool.false_ne_true]; exact RG.pure rfl
theorem rb_andP {x : R Bool} {b : Bool} (h1 : RB ps da x ps1) (h2 : RB ps1 db (.ok b) ps1) : RB ps (dAndV da db) (R.bind x fun c => .ok (c && b)) ps1 := by
  refine RG.cv (rb_and h1 h2) ?_
  cases x with
  | ok c => cases c <;> rfl
  | _ => rfl
theorem rb_isi {T : String} {b : Bool} {x : R α} (hT : ∀ a : α, ((tyN (enc a)).bind fun n => L2.kitB n T) = some b) (h : RB ps da x ps1) : RB ps (dIsi T da) (R.bind x fun _ => .ok b) ps1 := by
  refine RG.bnd h fun a d v => ?_
  subst v
  refine ⟨fun s hs => ?_⟩
  have := hT a
  cases e : tyN (enc a) with
  | none => rw [e] at this; cases this
  | some n =>
    rw [e] at this
    exact ⟨_, s, by simp only [Option.bind_some] at this; simp only [e, this]; rfl, rfl, hs, rfl⟩
def isD (T : String) (d : D) : R Bool := match (tyN d).bind fun n => L2.kitB n T with
  | some b => .ok b
  | none => .bad
end
end Dv

namespace Dv
open Enc (enc)
open PySem L2

noncomputable def okIf {α : Type} (p : Prop) (a : α) : R α := @ite _ p (Classical.propDecidable p) (.ok a) .bad
noncomputable def modR (u v : Int) : R Int := okIf (0 < v) (u % v)
noncomputable def divR (u v : Int) : R Int := okIf ((decide (0 < v) && decide (v.natAbs.log2 < 9000)) = true) (u / v)
noncomputable def powR (u v : Int) : R Int := okIf (0 ≤ v ∧ v ≤ 1000 ∧ u.natAbs < 2 ^ 64) (u ^ v.toNat)
noncomputable def mulR (u v : Int) : R Int := okIf (mulOk u v = true) (u * v)
def ofO {γ : Type} (o : Option γ) : R γ := match o with
  | some a => .ok a
  | none => .bad
def atR {α : Type} (l : List α) (i : Int) : R α := ofO (L2.atI l i)
def setR {α : Type} (l : List α) (k : Int) (a : α) : R (List α) := match L2.ixN l.length k with
  | some j => .ok (l.set j a)
  | none => .bad
noncomputable def appR {α : Type} (l : List α) (a : α) : R (List α) := okIf (l.length < 1000000) (l ++ [a])
noncomputable def catR {α : Type} (u v : List α) : R (List α) := okIf (u.length + v.length ≤ 1000000) (u ++ v)
noncomputable def repR {α : Type} (u : List α) (k : Int) : R (List α) := okIf (-(2 ^ 63) ≤ k ∧ k < 2 ^ 63 ∧ u.length * k.toNat ≤ 1000000) (List.replicate k.toNat u).flatten
def rngL (lo : Int) (n : Nat) : List Int := (List.range n).map fun (k : Nat) => lo + (k : Int)
noncomputable def rng1 (j : Int) : R (List Int) := okIf (-(2 ^ 62) ≤ j ∧ j < 2 ^ 62) (rngL 0 j.toNat)
noncomputable def rng2 (i j : Int) : R (List Int) := okIf (-(2 ^ 62) ≤ i ∧ i < 2 ^ 62 ∧ -(2 ^ 62) ≤ j ∧ j < 2 ^ 62) (rngL i (j - i).toNat)
def ilen {α : Type} (l : List α) : Int := (l.length : Int)
def absI (i : Int) : Int := if i < 0 then -i else i
def maxI (i j : Int) : Int := if j > i then j else i
def minI (i j : Int) : Int := if j < i then j else i
def b2i (b : Bool) : Int := if b then 1 else 0
structure Tv (α : Type) where
  l : List α
  deriving DecidableEq
instance {α : Type} [Enc α] : Enc (Tv α) := ⟨fun t => .tup (t.l.map enc)⟩
instance {α : Type} [Enc α] [Imm α] : Imm (Tv α) := ⟨fun t => by simp [enc, imm, immL_map]⟩
section
variable {α β γ δ : Type} [Enc α] [Enc β] [Enc γ] [Enc δ]
theorem ho_if {p : Prop} {w : γ} {P : γ → Prop} (h : p → P w) : Ho (okIf p w) P := by
  unfold okIf
  by_cases hp : p
  · rw [if_pos hp]; exact h hp
  · rw [if_neg hp]; trivial
theorem ho_of {o : Option γ} {P : γ → Prop} (h : ∀ w, o = some w → P w) : Ho (ofO o) P := by
  cases o with
  | none => trivial
  | some a => exact h a rfl
theorem oe_sub : OpE fSub fun u v : Int => .ok (u - v) := fun u v => by simp [Ho, enc, fSub, fI]
theorem oe_mod : OpE fMod modR := fun u v => ho_if fun h => by simp [enc, fMod, fI, h]
theorem oe_lt : OpE fLt fun u v : Int => .ok (decide (u < v)) := fun u v => by simp [Ho, enc, fLt, fI]
theorem oe_gt : OpE fGt fun u v : Int => .ok (decide (u > v)) := fun u v => by simp [Ho, enc, fGt, fI]
theorem oe_ge : OpE fGe fun u v : Int => .ok (decide (u ≥ v)) := fun u v => by simp [Ho, enc, fGe, fI]
class NN (α : Type) [Enc α] : Prop where
  nn : ∀ a : α, isN (enc a) = false
instance : NN Int := ⟨fun _ => rfl⟩
instance : NN Bool := ⟨fun _ => rfl⟩
instance : NN Str := ⟨fun _ => rfl⟩
instance : NN (List α) := ⟨fun _ => rfl⟩
instance : NN (α × β) := ⟨fun _ => rfl⟩
instance : NN (T3 α β γ) := ⟨fun _ => rfl⟩
instance : NN (T4 α β γ δ) := ⟨fun _ => rfl⟩
instance : NN (Tv α) := ⟨fun _ => rfl⟩
theorem atI_map {α β : Type} (f : α → β) (l : List α) (i : Int) : L2.atI (l.map f) i = (L2.atI l i).map f := by
  unfold L2.atI
  rw [List.length_map]
  cases L2.ixN l.length i with
  | none => rfl
  | some j => simp
theorem oe_ixL : OpE fIx (atR : List α → Int → R α) := fun u v => ho_of fun w e => by
  show L2.atI (u.map enc) v = _
  rw [atI_map, e]
  rfl
theorem oe_ixS : OpE fIx (fun (u : Sc) (v : Int) => atR u.ns v) := fun u v => ho_of fun w e => by
  show L2.atI (u.ns.map D.int) v = _
  rw [atI_map, e]
  rfl
def ixD (u : D) (i : Int) : R D := ofO (fIx u (.int i))
def Prj (k : Int) (g : α → β) : Prop := ∀ a, fIx (enc a) (.int k) = some (enc (g a))
abbrev e1 (α : Type) [Enc α] : α × Unit → List D := eC eN
abbrev e2 (α β : Type) [Enc α] [Enc β] : α × (β × Unit) → List D := eC (eC eN)
theorem cb_lenL : CbE (e1 (List α)) fLen fun g => .ok (ilen g.1) := fun g => by simp [Ho, eC, eN, enc, fLen, ilen]
theorem cb_lenS : CbE (e1 Sc) fLen fun g => .ok (ilen g.1.ns) := fun g => by simp [Ho, eC, eN, enc, fLen, ilen]
noncomputable def lenStr (z : Str) : R Int := okIf (z.length ≤ 1000000) (z.length : Int)
def lenD (u : D) : R D := ofO (fLen [u])
noncomputable def strI (i : Int) : R Str := okIf (i.natAbs.log2 < 1920) (Str.ofString (toString i))
theorem ty_int_int (a : Int) : ((tyN (enc a)).bind fun n => L2.kitB n "int") = some true := by
  show L2.kitB "int" "int" = _
  decide
theorem ty_int_bool (a : Int) : ((tyN (enc a)).bind fun n => L2.kitB n "bool") = some false := by
  show L2.kitB "int" "bool" = _
  decide
theorem ty_list_list (a : List α) : ((tyN (enc a)).bind fun n => L2.kitB n "list") = some true := by
  show L2.kitB "list" "list" = _
  decide
class Eqv (α : Type) [Enc α] [DecidableEq α] where
  dep : Nat
  nice : ∀ a : α, nice dep (enc a) = true
  eqv : ∀ a b : α, eqD (enc a) (enc b) = decide (a = b)
instance : Eqv Int := ⟨0, fun _ => rfl, fun a b => by
  show (a == b) = _
  rw [Bool.eq_iff_iff]
  simp⟩
instance : Eqv Bool := ⟨0, fun _ => rfl, fun a b => by cases a <;> cases b <;> rfl⟩
mutual
theorem nice_up : ∀ {n : Nat} {d : D}, nice n d = true → nice (n + 1) d = true
  | _, .non, _ => by simp [nice]
  | _, .bl _, _ => by simp [nice]
  | _, .int _, _ => by simp [nice]
  | _, .str _, h => by simpa [nice] using h
  | 0, .tup _, h => by simp [nice] at h
  | 0, .lst _, h => by simp [nice] at h
  | 0, .sc _, h => by simp [nice] at h
  | n + 1, .tup xs, h => by
    have := niceL_up (n := n) (xs := xs) (by simpa [nice] using h)
    simpa [nice] using this
  | n + 1, .lst xs, h => by
    have := niceL_up (n := n) (xs := xs) (by simpa [nice] using h)
    simpa [nice] using this
  | n + 1, .sc xs, h => by
    have := niceL_up (n := n) (xs := xs) (by simpa [nice] using h)
    simpa [nice] using this
  | _, .dK _, h => by simp [nice] at h
  | _, .dT _, h => by simp [nice] at h
  | _, .dN _, h => by simp [nice] at h
  | _, .ins _ _, h => by simp [nice] at h
theorem niceL_up : ∀ {n : Nat} {xs : List D}, niceL n xs = true → niceL (n + 1) xs = true
  | _, [], _ => rfl
  | n, x :: xs, h => by
    simp only [niceL, Bool.and_eq_true] at h ⊢
    exact ⟨nice_up h.1, niceL_up h.2⟩
end
theorem nice_le {n m : Nat} {d : D} (h : n ≤ m) (q : nice n d = true) : nice m d = true := by
  induction h with
  | refl => exact q
  | step _ ih => exact nice_up ih
theorem niceL_map {n : Nat} (h : ∀ a : α, nice n (enc a) = true) : ∀ l : List α, niceL n (l.map enc) = true
  | [] => rfl
  | a :: l => by simp [niceL, h a, niceL_map h l]
theorem eqDL_map [DecidableEq α] (h : ∀ a b : α, eqD (enc a) (enc b) = decide (a = b)) : ∀ l m : List α, eqDL (l.map enc) (m.map enc) = decide (l = m)
  | [], [] => by simp [eqDL]
  | [], b :: m => by simp [eqDL]
  | a :: l, [] => by simp [eqDL]
  | a :: l, b :: m => by
    simp only [List.map_cons, eqDL, h a b, eqDL_map h l m, List.cons.injEq]
    by_cases h1 : a = b <;> by_cases h2 : l = m <;> simp [h1, h2]
instance [DecidableEq α] [Eqv α] : Eqv (List α) := ⟨Eqv.dep α + 1, fun l => by simp only [enc, nice]; exact niceL_map Eqv.nice l, fun a b => by simp only [enc, eqD]; exact eqDL_map Eqv.eqv a b⟩
instance [DecidableEq α] [Eqv α] : Eqv (Tv α) := ⟨Eqv.dep α + 1, fun l => by simp only [enc, nice]; exact niceL_map Eqv.nice l.l, fun a b => by
  cases a; cases b
  simp only [enc, eqD, Tv.mk.injEq]
  exact eqDL_map Eqv.eqv _ _⟩
instance [DecidableEq α] [Eqv α] [DecidableEq β] [Eqv β] : Eqv (α × β) := ⟨Eqv.dep α + Eqv.dep β + 1, fun p => by
    simp only [enc, nice, niceL, Bool.and_true, Bool.and_eq_true]
    exact ⟨nice_le (by omega) (Eqv.nice p.1), nice_le (by omega) (Eqv.nice p.2)⟩, fun a b => by
    cases a; cases b
    simp only [enc, eqD, eqDL, Eqv.eqv, Prod.mk.injEq, Bool.and_true]
    rw [Bool.eq_iff_iff]
    simp⟩
instance [DecidableEq α] [Eqv α] [DecidableEq β] [Eqv β] [DecidableEq γ] [Eqv γ] : Eqv (T3 α β γ) := ⟨Eqv.dep α + Eqv.dep β + Eqv.dep γ + 1, fun p => by
    simp only [enc, nice, niceL, Bool.and_true, Bool.and_eq_true]
    exact ⟨nice_le (by omega) (Eqv.nice p.a), nice_le (by omega) (Eqv.nice p.b), nice_le (by omega) (Eqv.nice p.c)⟩, fun a b => by
    cases a; cases b
    simp only [enc, eqD, eqDL, Eqv.eqv, T3.mk.injEq, Bool.and_true]
    rw [Bool.eq_iff_iff]
    simp⟩
instance [DecidableEq α] [Eqv α] [NN α] : Eqv (Option α) := ⟨Eqv.dep α, fun o => by
    cases o with
    | none => simp [enc, nice]
    | some a => exact Eqv.nice a, fun a b => by
    cases a with
    | none =>
      cases b with
      | none => simp [enc, eqD]
      | some b =>
        have := NN.nn b
        have e : enc (some b) = enc b := rfl
        rw [e]
        show eqD .non (enc b) = _
        cases h : enc b <;> rw [h] at this <;> simp [isN, eqD] at this ⊢
    | some a =>
      cases b with
      | none =>
        have := NN.nn a
        have e : enc (some a) = enc a := rfl
        rw [e]
        show eqD (enc a) .non = _
        cases h : enc a <;> rw [h] at this <;> simp [isN, eqD] at this ⊢
      | some b =>
        show eqD (enc a) (enc b) = _
        rw [Eqv.eqv]
        simp⟩
theorem fEq_nice {n : Nat} {x y : D} (hn : n ≤ 64) (hx : nice n x = true) (hy : nice n y = true) : fEqB x y = some (eqD x y) := by
  obtain ⟨p, e1, c1, d1⟩ := nice_py hx
  obtain ⟨q, e2, c2, d2⟩ := nice_py hy
  unfold fEqB
  rw [e1, e2]
  have s1 : SeqAt.shaped p = true := by simp [SeqAt.shaped, c1]; omega
  have s2 : SeqAt.shaped q = true := by simp [SeqAt.shaped, c2]; omega
  simp only [s1, s2, Bool.and_self, if_true]
  rw [eqv_D e1 e2]
theorem oe_eq [DecidableEq α] [Eqv α] (h : Eqv.dep α ≤ 64) : OpE fEq fun u v : α => .ok (decide (u = v)) := fun u v => by
  show fEq _ _ = _
  unfold fEq
  rw [fEq_nice h (Eqv.nice u) (Eqv.nice v), Eqv.eqv]
  rfl
theorem oe_ne [DecidableEq α] [Eqv α] (h : Eqv.dep α ≤ 64) : OpE fNe fun u v : α => .ok (!decide (u = v)) := fun u v => by
  show fNe _ _ = _
  unfold fNe
  rw [fEq_nice h (Eqv.nice u) (Eqv.nice v), Eqv.eqv]
  rfl
def eqR (u v : D) : R Bool := ofO (fEqB u v)
def neR (u v : D) : R Bool := R.bind (eqR u v) fun b => .ok (!b)
end
end Dv

namespace Dv
open Enc (enc)
open PySem L2

def nt : Oc → Prop
  | .t => False
  | .a _ => False
  | _ => True
def nft : Oc → Prop
  | .f => True
  | .n => True
  | _ => False
section
variable {α β γ δ ρ : Type} [Enc α] [Enc β] [Enc γ] [Enc δ] [Enc ρ] {ps ps1 ps2 ps3 : List Pt} {da db : DE D} {ca cb : DE (D × Ow)} {c c1 c2 : Oc}
theorem Oc.mv {d : D} {ow : Ow} (hna : c.na) (h : c.ok d ow) : c.ok d (mvOw d ow) := by
  cases c with
  | a q => exact hna.elim
  | f => have h : ow = .full := h; subst h; rfl
  | t => have h : ow = .top := h; subst h; rfl
  | o =>
    rcases h with h | ⟨h1, h2⟩
    · subst h
      unfold mvOw
      by_cases hi : imm d = true
      · rw [if_pos hi]; exact .inr ⟨hi, rfl⟩
      · rw [if_neg hi]; exact .inl rfl
    · subst h2
      exact .inr ⟨h1, rfl⟩
  | n => trivial
theorem rc_mv {a : α} (i : Nat) (h : ps.getD i .x = .h c (enc a)) (hna : c.na := by exact trivial) : RC ps (cMove i) (.ok a) c (ps.set i .x) := by
  refine ⟨fun s hs => ?_⟩
  obtain ⟨ow, e, q⟩ := hs.get h
  exact ⟨(enc a, mvOw (enc a) ow), s.set i none, by unfold cMove; rw [e], ⟨rfl, Oc.mv hna q⟩, hs.x i, by simp⟩
theorem Oc.mvI [Imm α] {a : α} {ow : Ow} (h : Oc.o.ok (enc a) ow) : mvOw (enc a) ow = .full := by
  rcases h with h | ⟨h1, h2⟩
  · subst h
    unfold mvOw
    rw [if_pos (Imm.im a)]
  · subst h2
    rfl
theorem rc_mvI [Imm α] {a : α} (i : Nat) (h : ps.getD i .x = .h .o (enc a)) : RC ps (cMove i) (.ok a) .f (ps.set i .x) := by
  refine ⟨fun s hs => ?_⟩
  obtain ⟨ow, e, q⟩ := hs.get h
  exact ⟨(enc a, mvOw (enc a) ow), s.set i none, by unfold cMove; rw [e], ⟨rfl, Oc.mvI q⟩, hs.x i, by simp⟩
theorem val_h {p : Pt} {d : D} (h : p.val = some d) : ∃ c, p = .h c d := by
  cases p with
  | x => cases h
  | h c d' => cases h; exact ⟨c, rfl⟩
theorem rc_alI [Imm α] {a : α} (i : Nat) (h : (ps.getD i .x).val = some (enc a)) : RC ps (cAlias i) (.ok a) .f ps := by
  refine ⟨fun s hs => ?_⟩
  obtain ⟨c, h⟩ := val_h h
  obtain ⟨ow, e, q⟩ := hs.get h
  exact ⟨(enc a, .full), s, by unfold cAlias; rw [e]; simp only [Imm.im, if_true], ⟨rfl, rfl⟩, hs, rfl⟩
theorem RG.map {α β β' : Type} {de : DE β} {de' : DE β'} {x : R α} {V : α → β → Prop} {V' : α → β' → Prop} (h : RG ps de x V ps1)
    (hok : ∀ s a b s', de s = some (.ok b s') → V a b → Ms ps1 s' → ∃ b' s'', de' s = some (.ok b' s'') ∧ V' a b' ∧ Ms ps2 s'' ∧ s''.length = s'.length) (hex : ∀ s c s', de s = some (.exc c s') → de' s = some (.exc c s')) : RG ps de' x V' ps2 := by
  refine ⟨fun s hs => ?_⟩
  have h := h s hs
  cases x with
  | bad => trivial
  | exc c =>
    obtain ⟨s1, e, l⟩ := h
    exact ⟨s1, hex _ _ _ e, l⟩
  | ok a =>
    obtain ⟨b, s1, e, v, m, l⟩ := h
    obtain ⟨b', s2, e2, v2, m2, l2⟩ := hok s a b s1 e v m
    exact ⟨b', s2, e2, v2, m2, l2.trans l⟩
theorem rc_toC [Imm α] {x : R α} (h : RB ps da x ps1) : RC ps (toC da) x .f ps1 :=
  h.map (fun s a b s' e v m => ⟨(enc a, .full), s', by subst v; unfold toC; rw [e]; simp only [Imm.im, if_true], ⟨rfl, rfl⟩, m, rfl⟩) fun s c s' e => by unfold toC; rw [e]
theorem rc_shI [Imm α] {x : R α} (h : RB ps da x ps1) : RC ps (cShare da) x .f ps1 :=
  h.map (fun s a b s' e v m => ⟨(enc a, .full), s', by subst v; unfold cShare; rw [e]; simp only [Imm.im, if_true], ⟨rfl, rfl⟩, m, rfl⟩) fun s c s' e => by unfold cShare; rw [e]
theorem rb_toB {x : R α} (h : RC ps ca x c ps1) : RB ps (toB ca) x ps1 :=
  h.map (fun s a b s' e v m => by
    obtain ⟨d, ow⟩ := b
    obtain ⟨v1, v2⟩ := v
    exact ⟨d, s', by unfold toB; rw [e], v1, m, rfl⟩) fun s c s' e => by unfold toB; rw [e]
theorem rc_oI [Imm α] {x : R α} (h : RC ps ca x .f ps1) : RC ps ca x .o ps1 := h.map (fun s a b s' e v m => ⟨b, s', e, ⟨v.1, .inr ⟨Imm.im a, v.2⟩⟩, m, rfl⟩) fun _ _ _ e => e
abbrev RLs (ps : List Pt) (de : DE (List D × Bool)) (x : R (List α)) (c : Oc) (k : Nat) (ps' : List Pt) : Prop := RG ps de x (fun l p => p.1 = l.map enc ∧ l.length = k ∧ (c = .f → p.2 = true)) ps'
theorem rl_nil : RLs ps cNil (.ok ([] : List α)) c 0 ps := RG.pure ⟨rfl, rfl, fun _ => rfl⟩
theorem rl_cons {k : Nat} {x : R α} {y : R (List α)} {cl : DE (List D × Bool)} (ha : RC ps ca x c ps1) (hr : RLs ps1 cl y c k ps2) : RLs ps (cCons ca cl) (R.bind x fun u => R.bind y fun v => .ok (u :: v)) c (k + 1) ps2 :=
  RG.bnd ha fun a b v => RG.bnd hr fun l p w => RG.pure ⟨by simp [v.1, w.1], by simp [w.2.1], fun h => by
    subst h
    have : b.2 = .full := v.2
    simp [this, w.2.2 rfl]⟩
theorem rc_lst {k : Nat} {x : R (List α)} {cl : DE (List D × Bool)} (h : RLs ps cl x c k ps1) (hk : k ≤ 1000000) (hc0 : nft c) : RC ps (cLst cl) x c ps1 := by
  have hc : c = .f ∨ c = .n := by
    cases c with
    | f => exact .inl rfl
    | n => exact .inr rfl
    | t => exact hc0.elim
    | o => exact hc0.elim
    | a q => exact hc0.elim
  have := RG.bnd (k := fun y s => if y.1.length ≤ 1000000 then some (.ok (.lst y.1, if y.2 then .full else .top) s) else none) (kx := R.ok) (V' := fun (a : List α) (p : D × Ow) => p.1 = enc a ∧ c.ok (enc a) p.2) (ps2 := ps1) h fun l p v => by
    refine ⟨fun s hs => ?_⟩
    have hl : p.1.length ≤ 1000000 := by rw [v.1, List.length_map, v.2.1]; exact hk
    refine ⟨(.lst p.1, if p.2 then .full else .top), s, if_pos hl, ⟨by rw [v.1]; rfl, ?_⟩, hs, rfl⟩
    rcases hc with rfl | rfl
    · show (if p.2 = true then Ow.full else .top) = .full
      rw [if_pos (v.2.2 rfl)]
    · trivial
  rw [bind_ok] at this
  exact this
class NI (β : Type) [Enc β] : Prop where
  ni : ∀ b : β, imm (enc b) = false
instance : NI (List β) := ⟨fun _ => rfl⟩
abbrev RTu (ps : List Pt) (de : DE (List D × Bool)) (x : R γ) (el : γ → List D) (c : Oc) (k : Nat) (ps' : List Pt) : Prop := RG ps de x (fun g p => p.1 = el g ∧ p.1.length = k ∧ (c = .f → p.2 = true) ∧ (c = .o → p.2 = false)) ps'
theorem ru_nil : RTu (γ := Unit) ps cNil (.ok ()) eN .f 0 ps := RG.pure ⟨rfl, rfl, fun _ => rfl, fun h => nomatch h⟩
theorem ru_consN {γ : Type} {k : Nat} {el : γ → List D} {x : R α} {y : R γ} {cl : DE (List D × Bool)} (ha : RC ps ca x c1 ps1) (hr : RTu ps1 cl y el c2 k ps2) : RTu ps (cCons ca cl) (R.bind x fun u => R.bind y fun v => .ok (u, v)) (eC el) .n (k + 1) ps2 :=
  RG.bnd ha fun a b v => RG.bnd hr fun l p w => RG.pure ⟨by simp [v.1, w.1, eC], by simp [w.2.1], (fun h => nomatch h), (fun h => nomatch h)⟩
theorem rc_two {α' : Type} [Enc α'] {f : D → D → SD → Option (Er (D × Ow))} {x : R α} {y : R β} {g : α → β → R α'} (ha : RB ps da x ps1) (hb : RB ps1 db y ps2)
    (h : ∀ u v s, Ms ps2 s → Ho (g u v) fun w => ∃ ow s', f (enc u) (enc v) s = some (.ok (enc w, ow) s') ∧ c.ok (enc w) ow ∧ Ms ps3 s' ∧ s'.length = s.length) : RC ps (bnd da fun x => bnd db fun y => f x y) (R.bind x fun u => R.bind y fun v => g u v) c ps3 :=
  RG.bnd ha fun u d1 v1 => RG.bnd hb fun v d2 v2 => by
    subst v1 v2
    refine ⟨fun s hs => ?_⟩
    have := h u v s hs
    cases e : g u v with
    | bad => trivial
    | exc c => rw [e] at this; exact this.elim
    | ok w =>
      rw [e] at this
      obtain ⟨ow, s', h1, h2, h3, h4⟩ := this
      exact ⟨_, s', h1, ⟨rfl, h2⟩, h3, h4⟩
theorem rc_addI {x y : R Int} (ha : RB ps da x ps1) (hb : RB ps1 db y ps2) : RC ps (cAdd da db) (R.bind x fun u => R.bind y fun v => .ok (u + v)) .f ps2 :=
  rc_two ha hb fun u v s hs => ⟨.full, s, rfl, rfl, hs, rfl⟩
noncomputable def catS (u v : Str) : R Str := okIf (u.length + v.length ≤ 1000000) (u ++ v)
theorem mkL_im [Imm α] (l : List α) (s : SD) : mkL (l.map enc) s = .ok (enc l, .full) s := if_pos (immL_map l)
theorem rc_addL [Imm α] {x y : R (List α)} (ha : RB ps da x ps1) (hb : RB ps1 db y ps2) : RC ps (cAdd da db) (R.bind x fun u => R.bind y fun v => catR u v) .f ps2 :=
  rc_two ha hb fun u v s hs => ho_if fun h => ⟨.full, s, by
    show (if (u.map enc).length + (v.map enc).length ≤ 1000000 then some (mkL (u.map enc ++ v.map enc) s) else none) = _
    rw [if_pos (by simpa using h), ← List.map_append, mkL_im], rfl, hs, rfl⟩
theorem mkL_any (l : List α) {s : SD} (hs : Ms ps s) : ∃ ow s', mkL (l.map enc) s = .ok (enc l, ow) s' ∧ Ms (fzP ps) s' ∧ s'.length = s.length := by
  unfold mkL
  by_cases h : immL (l.map enc) = true
  · rw [if_pos h]; exact ⟨.full, s, rfl, hs.fzle, rfl⟩
  · rw [if_neg h]; exact ⟨.top, fzAll s, rfl, hs.fz, fzAll_len s⟩
theorem rc_addLn {x y : R (List α)} (ha : RB ps da x ps1) (hb : RB ps1 db y ps2) : RC ps (cAdd da db) (R.bind x fun u => R.bind y fun v => catR u v) .n (fzP ps2) :=
  rc_two ha hb fun u v s hs => ho_if fun h => by
    obtain ⟨ow, s', e, m, l⟩ := mkL_any (u ++ v) hs
    refine ⟨ow, s', ?_, trivial, m, l⟩
    show (if (u.map enc).length + (v.map enc).length ≤ 1000000 then some (mkL (u.map enc ++ v.map enc) s) else none) = _
    rw [if_pos (by simpa using h), ← List.map_append, e]
theorem rc_mulI {x y : R Int} (ha : RB ps da x ps1) (hb : RB ps1 db y ps2) : RC ps (cMul da db) (R.bind x fun u => R.bind y fun v => mulR u v) .f ps2 :=
  rc_two ha hb fun u v s hs => ho_if fun h => ⟨.full, s, if_pos h, rfl, hs, rfl⟩
theorem rep_enc (l : List α) : ∀ n, (List.replicate n (l.map enc)).flatten = ((List.replicate n l).flatten).map (enc : α → D)
  | 0 => rfl
  | n + 1 => by rw [List.replicate_succ, List.flatten_cons, rep_enc l n, ← List.map_append, List.replicate_succ, List.flatten_cons]
theorem rc_mulL [Imm α] {x : R (List α)} {y : R Int} (ha : RB ps da x ps1) (hb : RB ps1 db y ps2) : RC ps (cMul da db) (R.bind x fun u => R.bind y fun v => repR u v) .f ps2 :=
  rc_two ha hb fun u v s hs => ho_if fun h => ⟨.full, s, by
    show (if _ then some (mkL (List.replicate v.toNat (u.map enc)).flatten s) else none) = _
    rw [if_pos (by simpa using h), rep_enc, mkL_im], rfl, hs, rfl⟩
abbrev RO (ps : List Pt) (de : DO) (x : R (Option Int)) (ps' : List Pt) : Prop := RG ps de x (fun a b => b = a) ps'
noncomputable def cutR (z : Str) (l k : Option Int) : R Str := okIf (z.length ≤ 1000000) (L2.cutS z l k)
theorem rc_one {τ : Type} {γ : Type} [Enc τ] {el : γ → List D} {f : List D → SD → Option (Er (D × Ow))} {g : γ → R τ} {x : R γ} {dr : DE (List D)} (ha : RA ps dr x el ps1)
    (h : ∀ u s, Ms ps1 s → Ho (g u) fun w => ∃ ow s', f (el u) s = some (.ok (enc w, ow) s') ∧ c.ok (enc w) ow ∧ Ms ps2 s' ∧ s'.length = s.length) : RC ps (bnd dr fun x => f x) (R.bind x g) c ps2 :=
  RG.bnd ha fun u d1 v1 => by
    subst v1
    refine ⟨fun s hs => ?_⟩
    have := h u s hs
    cases e : g u with
    | bad => trivial
    | exc c => rw [e] at this; exact this.elim
    | ok w =>
      rw [e] at this
      obtain ⟨ow, s', h1, h2, h3, h4⟩ := this
      exact ⟨_, s', h1, ⟨rfl, h2⟩, h3, h4⟩
theorem rc_listL [Imm α] {x : R (List α × Unit)} {dr : DE (List D)} (ha : RA ps dr x (e1 (List α)) ps1) : RC ps (cListOf dr) (R.bind x fun g => .ok g.1) .f ps1 :=
  rc_one ha fun u s hs => ⟨.full, s, by show some (mkL (u.1.map enc) s) = _; rw [mkL_im], rfl, hs, rfl⟩
def ItO (c : Oc) : Oc := match c with
  | .f => .f
  | .o => .o
  | _ => .n
end
end Dv

namespace Dv
open Enc (enc)
open PySem L2

inductive Lp (σ τ : Type) where
  | nx (v : σ) | bk (v : σ) | out (t : τ)
section
variable {ι σ τ ρ α : Type}
def forR : List ι → σ → (ι → σ → R σ) → R σ
  | [], v, _ => .ok v
  | a :: l, v, f => R.bind (f a v) fun v => forR l v f
def forX : List ι → σ → (ι → σ → R (Lp σ τ)) → R (σ ⊕ τ)
  | [], v, _ => .ok (.inl v)
  | a :: l, v, f => R.bind (f a v) fun o => match o with
    | .nx v => forX l v f
    | .bk v => .ok (.inl v)
    | .out t => .ok (.inr t)
def whN (c : σ → R Bool) (f : σ → R σ) : Nat → σ → R σ
  | 0, _ => .bad
  | n + 1, v => R.bind (c v) fun b => if b = true then R.bind (f v) fun v => whN c f n v else .ok v
def whR (v : σ) (c : σ → R Bool) (f : σ → R σ) : R σ := whN c f fuel v
def whXN (c : σ → R Bool) (f : σ → R (Lp σ τ)) : Nat → σ → R (σ ⊕ τ)
  | 0, _ => .bad
  | n + 1, v => R.bind (c v) fun b => if b = true then R.bind (f v) fun o => match o with
    | .nx v => whXN c f n v
    | .bk v => .ok (.inl v)
    | .out t => .ok (.inr t)
    else .ok (.inl v)
def whX (v : σ) (c : σ → R Bool) (f : σ → R (Lp σ τ)) : R (σ ⊕ τ) := whXN c f fuel v
def R.andThen (x : R (σ ⊕ τ)) (k : σ → R τ) : R τ := R.bind x fun o => match o with
  | .inl v => k v
  | .inr t => .ok t
def cmpGo (f : ι → R (Option α)) : List ι → List α → R (List α)
  | [], acc => .ok acc
  | a :: l, acc => match f a with
    | .ok (some b) => if acc.length < 1000000 then cmpGo f l (acc ++ [b]) else .bad
    | .ok none => cmpGo f l acc
    | _ => .bad
def cmpR (l : List ι) (f : ι → R α) : R (List α) := cmpGo (fun a => R.bind (f a) fun b => .ok (some b)) l []
def cmpI (l : List ι) (c : ι → R Bool) (f : ι → R α) : R (List α) := cmpGo (fun a => R.bind (c a) fun t => if t = true then R.bind (f a) fun b => .ok (some b) else .ok none) l []
end

section
variable {ι σ τ ρ α β γ δ : Type} [Enc ι] [Enc ρ] [Enc α] [Enc β] [Enc γ] [Enc δ] {ps ps1 ps2 ps3 : List Pt} {da db : DE D} {ca cb : DE (D × Ow)} {c c1 c2 : Oc} {dt : DE Bool} {a b rest body : DS}
def TG (ps : List Pt) (tg : DT) (c : Oc) (d : D) (ps' : List Pt) : Prop := ∀ s ow, Ms ps s → c.ok d ow → ∃ s', tg d ow s = some s' ∧ Ms ps' s' ∧ s'.length = s.length
theorem tg_n {d : D} (i : Nat) (hi : i < ps.length) : TG ps (tgN i) c d (ps.set i (.h c d)) := fun s ow hs q => ⟨s.set i (some (d, ow)), if_pos (hs.len ▸ hi), hs.set i ⟨ow, rfl, q⟩, by simp⟩
theorem Oc.part {d e : D} {ow : Ow} (h : c.ok d ow) (hc : c = .f ∨ c = .o) (hi : imm d = true → imm e = true) : c.ok e (if imm e = true then .full else ow) := by
  rcases hc with rfl | rfl
  · have h : ow = .full := h
    subst h
    show (if imm e = true then Ow.full else .full) = .full
    split <;> rfl
  · by_cases he : imm e = true
    · exact .inr ⟨he, if_pos he⟩
    · rw [if_neg he]
      rcases h with h | ⟨h1, _⟩
      · exact .inl h
      · exact absurd (hi h1) he
inductive OcP : Oc → Oc → D → Prop
  | s {c : Oc} {d : D} (hc : c = .f ∨ c = .o) : OcP c c d
  | i {c : Oc} {d : D} (hc : c = .f ∨ c = .o) (hd : imm d = true) : OcP c .o d
theorem OcP.hc {c c' : Oc} {d : D} : OcP c c' d → c = .f ∨ c = .o
  | .s h => h
  | .i h _ => h
theorem OcP.ok {c c' : Oc} {d e : D} {ow : Ow} (h : OcP c c' e) (q : c.ok d ow) (hi : imm d = true → imm e = true) : c'.ok e (if imm e = true then .full else ow) := by
  cases h with
  | s hc => exact Oc.part q hc hi
  | i hc hd => exact .inr ⟨hd, if_pos hd⟩
theorem TG.wk {tg : DT} {d : D} (h : TG ps tg c d ps1) (w : ∀ s, Ms ps1 s → Ms ps2 s) : TG ps tg c d ps2 := fun s ow hs q => by
  obtain ⟨s', e, m, l⟩ := h s ow hs q
  exact ⟨s', e, w _ m, l⟩

def Sat (x : R τ) (o : Option Out) (n : Nat) (Φ : τ → Out → Prop) : Prop := match x with
  | .ok t => ∃ o', o = some o' ∧ Φ t o'
  | .exc c => ∃ s', o = some (.exc c s') ∧ s'.length = n
  | .bad => True
structure RSt (ps : List Pt) (ds : DS) (x : R τ) (Φ : τ → Out → Prop) : Prop where
  h : ∀ s, Ms ps s → Sat x (ds s) s.length Φ
instance {ps : List Pt} {ds : DS} {x : R τ} {Φ : τ → Out → Prop} : CoeFun (RSt ps ds x Φ) (fun _ => ∀ s, Ms ps s → Sat x (ds s) s.length Φ) := ⟨RSt.h⟩
def ΦN (N : σ → List Pt) : σ → Out → Prop := fun v o => ∃ s', o = .next s' ∧ Ms (N v) s'
def ΦC (N : σ → List Pt) : σ → Out → Prop := fun v o => ∃ s', (o = .next s' ∨ o = .cont s') ∧ Ms (N v) s'
def ΦR (c : Oc) : ρ → Out → Prop := fun r o => (∃ ow, o = .ret (enc r) ow ∧ c.ok (enc r) ow) ∨ ∃ s', o = .next s' ∧ enc r = .non
def isRet : Out → Prop
  | .ret _ _ => True
  | .retS _ _ _ => True
  | _ => False
def notNext : Out → Prop
  | .next _ => False
  | _ => True
def ΦL (N : σ → List Pt) (Φ : τ → Out → Prop) : Lp σ τ → Out → Prop
  | .nx v, o => ∃ s', (o = .next s' ∨ o = .cont s') ∧ Ms (N v) s'
  | .bk v, o => ∃ s', o = .brk s' ∧ Ms (N v) s'
  | .out t, o => Φ t o ∧ isRet o
def ΦE (N : σ → List Pt) (Φ : τ → Out → Prop) : σ ⊕ τ → Out → Prop
  | .inl v, o => ∃ s', o = .next s' ∧ Ms (N v) s'
  | .inr t, o => Φ t o ∧ notNext o
variable {Φ : τ → Out → Prop}
theorem RSt.cv {x y : R τ} (h : RSt ps a x Φ) (e : x = y) : RSt ps a y Φ := e ▸ h
def AcN (Φ : τ → Out → Prop) (ps : List Pt) (t : τ) : Prop := ∀ s, Ms ps s → Φ t (.next s)
def AcB (Φ : τ → Out → Prop) (ps : List Pt) (t : τ) : Prop := ∀ s, Ms ps s → Φ t (.brk s)
def AcC (Φ : τ → Out → Prop) (ps : List Pt) (t : τ) : Prop := ∀ s, Ms ps s → Φ t (.cont s)
def AcR (Φ : τ → Out → Prop) (c : Oc) (w : ρ → τ) : Prop := ∀ r ow, c.ok (enc r) ow → Φ (w r) (.ret (enc r) ow)
variable {N : σ → List Pt} {v : σ}
theorem an_N (w : Wk ps (N v)) : AcN (ΦN N) ps v := fun s hs => ⟨s, rfl, hs.wk w⟩
theorem an_C (w : Wk ps (N v)) : AcN (ΦC N) ps v := fun s hs => ⟨s, .inl rfl, hs.wk w⟩
theorem an_L (w : Wk ps (N v)) : AcN (ΦL N Φ) ps (.nx v) := fun s hs => ⟨s, .inl rfl, hs.wk w⟩
theorem ar_R : AcR (ΦR c) c (fun r : ρ => r) := fun r ow q => .inl ⟨ow, rfl, q⟩
theorem ar_Rn : AcR (ΦR .n) c (fun r : ρ => r) := fun r ow q => .inl ⟨ow, rfl, trivial⟩
theorem ar_L {w : ρ → τ} (h : AcR Φ c w) : AcR (ΦL N Φ) c (fun r => .out (w r)) := fun r ow q => ⟨h r ow q, trivial⟩
theorem rs_next {t : τ} (h : AcN Φ ps t) : RSt ps sNext (.ok t) Φ := .mk fun s hs => ⟨_, rfl, h s hs⟩
theorem rs_ret {w : ρ → τ} {x : R ρ} (h : AcR Φ c w) (hc : RC ps ca x c ps1) : RSt ps (sRet ca) (R.bind x fun r => .ok (w r)) Φ := by
  refine ⟨fun s hs => ?_⟩
  have h1 := hc s hs
  cases x with
  | bad => trivial
  | exc c =>
    obtain ⟨s1, e, l⟩ := h1
    exact ⟨s1, by unfold sRet; rw [e], l⟩
  | ok a =>
    obtain ⟨⟨d, ow⟩, s1, e, ⟨v1, v2⟩, m, l⟩ := h1
    have v1 : d = enc a := v1
    subst v1
    exact ⟨.ret (enc a) ow, by unfold sRet; rw [e], h a ow v2⟩
theorem rs_end {x : R τ} (h : RSt ps (sSeq a sNext) x Φ) : RSt ps a x Φ := by
  refine ⟨fun s hs => ?_⟩
  have h := h s hs
  have e : sSeq a sNext s = a s := by
    unfold sSeq
    cases e : a s with
    | none => rfl
    | some o => cases o <;> rfl
  rw [e] at h
  exact h
theorem rs_nx {x : R τ} (h : RSt ps rest x Φ) : RSt ps (sSeq sNext rest) x Φ := h
theorem rs_deadRet {x : R τ} (h : RSt ps (sRet ca) x Φ) : RSt ps (sSeq (sRet ca) rest) x Φ := by
  refine ⟨fun s hs => ?_⟩
  have h := h s hs
  have e : sSeq (sRet ca) rest s = sRet ca s := by
    unfold sSeq sRet
    cases e : ca s with
    | none => rfl
    | some o => cases o <;> rfl
  rw [e]
  exact h
theorem rs_step {β' : Type} {α' : Type} {V : α' → β' → Prop} {de : DE β'} {x : R α'} {k : α' → R τ} (h : RG ps de x V ps1) (hn : ∀ s, de s = none → a s = none) (hx : ∀ s c s', de s = some (.exc c s') → a s = some (.exc c s'))
    (hk : ∀ u b s s1, de s = some (.ok b s1) → V u b → Ms ps1 s1 → s1.length = s.length → Sat (k u) (a s) s.length Φ) : RSt ps a (R.bind x k) Φ := by
  refine ⟨fun s hs => ?_⟩
  have h := h s hs
  cases x with
  | bad => trivial
  | exc c =>
    obtain ⟨s1, e, l⟩ := h
    exact ⟨s1, hx _ _ _ e, l⟩
  | ok u =>
    obtain ⟨b, s1, e, v, m, l⟩ := h
    exact hk u b s s1 e v m l
theorem RSt.at {x : R τ} (h : RSt ps1 rest x Φ) {s s1 : SD} (hs : Ms ps1 s1) (l : s1.length = s.length) (e : a s = rest s1) : Sat x (a s) s.length Φ := by
  have h := h s1 hs
  rw [e]
  cases x with
  | bad => trivial
  | ok t => exact h
  | exc c =>
    obtain ⟨s', e1, l1⟩ := h
    exact ⟨s', e1, l1.trans l⟩
theorem rs_set {x : R α} {k : α → R τ} (i : Nat) (hc : RC ps ca x c ps1) (hi : i < ps1.length) (hb : ∀ a, RSt (ps1.set i (.h c (enc a))) rest (k a) Φ) : RSt ps (sSeq (sSet i ca) rest) (R.bind x k) Φ :=
  rs_step hc (fun s e => by unfold sSeq sSet; rw [e]) (fun s c s' e => by unfold sSeq sSet; rw [e]) fun u b s s1 e v m l => by
    obtain ⟨d, ow⟩ := b
    obtain ⟨v1, v2⟩ := v
    have v1 : d = enc u := v1
    subst v1
    refine (hb u).at (m.set i ⟨ow, rfl, v2⟩) (by simp [l]) ?_
    unfold sSeq sSet
    simp only [e]
    rw [if_pos (by rw [m.len]; exact hi)]
theorem rs_setI [Imm α] {x : R α} {k : α → R τ} (i : Nat) (hc : RC ps ca x .f ps1) (hi : i < ps1.length) (hb : ∀ a, RSt (ps1.set i (.h .o (enc a))) rest (k a) Φ) : RSt ps (sSeq (sSet i ca) rest) (R.bind x k) Φ :=
  rs_set i (rc_oI hc) hi hb
theorem rs_if {x : R Bool} {p q : R τ} (hc : RT ps dt x ps1) (h1 : RSt ps1 (sSeq a rest) p Φ) (h2 : RSt ps1 (sSeq b rest) q Φ) : RSt ps (sSeq (sIf dt a b) rest) (R.bind x fun t => if t = true then p else q) Φ :=
  rs_step hc (fun s e => by unfold sSeq sIf; rw [e]) (fun s c s' e => by unfold sSeq sIf; rw [e]) fun u b1 s s1 e v m l => by
    subst v
    cases b1 with
    | true =>
      rw [if_pos rfl]
      refine h1.at m l ?_
      unfold sSeq sIf
      simp only [e]
    | false =>
      rw [if_neg Bool.false_ne_true]
      refine h2.at m l ?_
      unfold sSeq sIf
      simp only [e]
theorem rs_join {x : R σ} {k : σ → R τ} (h : RSt ps a x (ΦN N)) (hb : ∀ v, RSt (N v) rest (k v) Φ) (hl : ∀ v, (N v).length = ps.length) : RSt ps (sSeq a rest) (R.bind x k) Φ := by
  refine ⟨fun s hs => ?_⟩
  have h := h s hs
  cases x with
  | bad => trivial
  | exc c =>
    obtain ⟨s1, e, l⟩ := h
    exact ⟨s1, by unfold sSeq; rw [e], l⟩
  | ok u =>
    obtain ⟨o, e, s1, rfl, m⟩ := h
    refine (hb u).at m ?_ ?_
    · rw [m.len, hs.len, hl]
    · unfold sSeq
      simp only [e]
theorem rs_joinE {x : R (σ ⊕ τ)} {k : σ → R τ} (h : RSt ps a x (ΦE N Φ)) (hb : ∀ v, RSt (N v) rest (k v) Φ) (hl : ∀ v, (N v).length = ps.length) : RSt ps (sSeq a rest) (R.andThen x k) Φ := by
  refine ⟨fun s hs => ?_⟩
  have h := h s hs
  cases x with
  | bad => trivial
  | exc c =>
    obtain ⟨s1, e, l⟩ := h
    exact ⟨s1, by unfold sSeq; rw [e], l⟩
  | ok u =>
    cases u with
    | inl v =>
      obtain ⟨o, e, s1, rfl, m⟩ := h
      refine (hb v).at m ?_ ?_
      · rw [m.len, hs.len, hl]
      · unfold sSeq
        simp only [e]
    | inr t =>
      obtain ⟨o, e, h1, h2⟩ := h
      refine ⟨o, ?_, h1⟩
      unfold sSeq
      rw [e]
      cases o with
      | next => exact h2.elim
      | _ => rfl
inductive Its (ι : Type) [Enc ι] : List ι → List (D × Ow) → Prop
  | nil : Its ι [] []
  | cons {a : ι} {l : List ι} {ow : Ow} {r : List (D × Ow)} : Oc.o.ok (enc a) ow → Its ι l r → Its ι (a :: l) ((enc a, ow) :: r)
theorem its_no : ∀ l : List ι, Its ι l (noIt (l.map enc))
  | [] => .nil
  | a :: l => .cons (by
      by_cases h : imm (enc a) = true
      · rw [if_pos h]; exact .inr ⟨h, rfl⟩
      · rw [if_neg h]; exact .inl rfl) (its_no l)
theorem its_rng (lo : Int) (n : Nat) : Its Int (rngL lo n) (rngD lo n) := by
  unfold rngL rngD
  induction List.range n with
  | nil => exact .nil
  | cons k l ih => exact .cons (.inr ⟨rfl, rfl⟩) ih
theorem go_for {n : Nat} (hN : ∀ v, (N v).length = n) {tg : DT} {f : ι → σ → R σ} {M : ι → σ → List Pt} (ht : ∀ a v, TG (N v) tg .o (enc a) (M a v)) (hb : ∀ a v, RSt (M a v) body (f a v) (ΦC N)) :
    ∀ {l : List ι} {its : List (D × Ow)} (v : σ) (s : SD), Its ι l its → Ms (N v) s → Sat (forR l v f) (goFor tg body its s) s.length (ΦN N)
  | [], _, v, s, .nil, m => ⟨_, rfl, s, rfl, m⟩
  | a :: l, _, v, s, .cons (r := its) q r, m => by
    obtain ⟨s1, e1, m1, l1⟩ := ht a v s _ m q
    have h := hb a v s1 m1
    unfold forR goFor
    simp only [e1]
    cases e2 : f a v with
    | bad => trivial
    | exc c =>
      rw [e2] at h
      obtain ⟨s2, e3, l3⟩ := h
      exact ⟨s2, by rw [e3], l3.trans l1⟩
    | ok v1 =>
      rw [e2] at h
      obtain ⟨o, e3, s2, ho, m2⟩ := h
      have ih := go_for hN ht hb v1 s2 r m2
      have l2 : s2.length = s.length := by rw [m2.len, m.len, hN, hN]
      rw [ok_bind, e3]
      have go : Sat (forR l v1 f) (goFor tg body its s2) s.length (ΦN N) := l2 ▸ ih
      rcases ho with rfl | rfl <;> exact go
theorem go_forX {n : Nat} (hN : ∀ v, (N v).length = n) {tg : DT} {f : ι → σ → R (Lp σ τ)} {M : ι → σ → List Pt} (ht : ∀ a v, TG (N v) tg .o (enc a) (M a v)) (hb : ∀ a v, RSt (M a v) body (f a v) (ΦL N Φ)) :
    ∀ {l : List ι} {its : List (D × Ow)} (v : σ) (s : SD), Its ι l its → Ms (N v) s → Sat (forX l v f) (goFor tg body its s) s.length (ΦE N Φ)
  | [], _, v, s, .nil, m => ⟨.next s, rfl, s, rfl, m⟩
  | a :: l, _, v, s, .cons (r := its) q r, m => by
    obtain ⟨s1, e1, m1, l1⟩ := ht a v s _ m q
    have h := hb a v s1 m1
    unfold forX goFor
    simp only [e1]
    cases e2 : f a v with
    | bad => trivial
    | exc c =>
      rw [e2] at h
      obtain ⟨s2, e3, l3⟩ := h
      exact ⟨s2, by rw [e3], l3.trans l1⟩
    | ok w =>
      rw [e2] at h
      obtain ⟨o, e3, ho⟩ := h
      rw [ok_bind, e3]
      cases w with
      | nx v1 =>
        obtain ⟨s2, ho, m2⟩ := ho
        have ih := go_forX hN ht hb v1 s2 r m2
        have l2 : s2.length = s.length := by rw [m2.len, m.len, hN, hN]
        have go : Sat (forX l v1 f) (goFor tg body its s2) s.length (ΦE N Φ) := l2 ▸ ih
        rcases ho with rfl | rfl <;> exact go
      | bk v1 =>
        obtain ⟨s2, rfl, m2⟩ := ho
        exact ⟨.next s2, rfl, s2, rfl, m2⟩
      | out t =>
        obtain ⟨h1, h2⟩ := ho
        cases o with
        | ret d ow => exact ⟨.ret d ow, rfl, h1, trivial⟩
        | retS d ow s3 => exact ⟨.retS d ow s3, rfl, h1, trivial⟩
        | _ => exact h2.elim
def ItE (g : α → List ι) : Prop := ∀ a, itemsOf (enc a) = some ((g a).map enc)
theorem it_L : ItE (fun l : List α => l) := fun _ => rfl
theorem its_some {g : α → List ι} (hg : ItE g) (a : α) : ∃ its, itemsOf (enc a) = some its ∧ Its ι (g a) (noIt its) := ⟨_, hg a, its_no _⟩
theorem rs_loop {β' α' σ' : Type} {V : α' → β' → Prop} {de : DE β'} {x : R α'} {y : α' → R σ'} {Ψ : σ' → Out → Prop} (h : RG ps de x V ps1) (hn : ∀ s, de s = none → a s = none) (hx : ∀ s c s', de s = some (.exc c s') → a s = some (.exc c s'))
    (hk : ∀ u b s s1, de s = some (.ok b s1) → V u b → Ms ps1 s1 → Sat (y u) (a s) s1.length Ψ) : RSt ps a (R.bind x y) Ψ := by
  refine rs_step h hn hx fun u b s s1 e v m l => ?_
  have := hk u b s s1 e v m
  cases e2 : y u with
  | bad => trivial
  | ok t => rw [e2] at this; exact this
  | exc c =>
    rw [e2] at this
    obtain ⟨s', h1, h2⟩ := this
    exact ⟨s', h1, h2.trans l⟩
theorem rs_forC {n : Nat} {tg : DT} {f : ι → σ → R σ} {M : ι → σ → List Pt} {g : α → List ι} {x : R α} {v0 : σ} {k : σ → R τ} (hN : ∀ v, (N v).length = n) (hp : ps.length = n) (hg : ItE g) (hc : RC ps ca x c ps1) (hw : Wk ps1 (N v0)) (ht : ∀ a v, TG (N v) tg .o (enc a) (M a v)) (hb : ∀ a v, RSt (M a v) body (f a v) (ΦC N)) (hk : ∀ v, RSt (N v) rest (k v) Φ) :
    RSt ps (sSeq (sForC tg ca body) rest) (R.bind (R.bind x fun u => forR (g u) v0 f) k) Φ := by
  refine rs_join (N := N) (rs_loop hc (fun s e => by unfold sForC; rw [e]) (fun s c s' e => by unfold sForC; rw [e]) fun u b s s1 e v m => ?_) hk fun v => by rw [hN, hp]
  obtain ⟨d, ow⟩ := b
  obtain ⟨v1, v2⟩ := v
  have v1 : d = enc u := v1
  subst v1
  obtain ⟨its, e2, i2⟩ := its_some hg u
  have h := go_for hN ht hb v0 s1 i2 (m.wk hw)
  have e3 : sForC tg ca body s = goFor tg body (noIt its) s1 := by
    unfold sForC
    simp only [e, e2]
  rw [e3]
  exact h
theorem rs_forCX {n : Nat} {tg : DT} {f : ι → σ → R (Lp σ τ)} {M : ι → σ → List Pt} {g : α → List ι} {x : R α} {v0 : σ} {k : σ → R τ} (hN : ∀ v, (N v).length = n) (hp : ps.length = n) (hg : ItE g) (hc : RC ps ca x c ps1) (hw : Wk ps1 (N v0)) (ht : ∀ a v, TG (N v) tg .o (enc a) (M a v)) (hb : ∀ a v, RSt (M a v) body (f a v) (ΦL N Φ)) (hk : ∀ v, RSt (N v) rest (k v) Φ) :
    RSt ps (sSeq (sForC tg ca body) rest) (R.andThen (R.bind x fun u => forX (g u) v0 f) k) Φ := by
  refine rs_joinE (N := N) (rs_loop hc (fun s e => by unfold sForC; rw [e]) (fun s c s' e => by unfold sForC; rw [e]) fun u b s s1 e v m => ?_) hk fun v => by rw [hN, hp]
  obtain ⟨d, ow⟩ := b
  obtain ⟨v1, v2⟩ := v
  have v1 : d = enc u := v1
  subst v1
  obtain ⟨its, e2, i2⟩ := its_some hg u
  have h := go_forX hN ht hb v0 s1 i2 (m.wk hw)
  have e3 : sForC tg ca body s = goFor tg body (noIt its) s1 := by
    unfold sForC
    simp only [e, e2]
  rw [e3]
  exact h
theorem rs_forR1 {n : Nat} {tg : DT} {f : Int → σ → R σ} {M : Int → σ → List Pt} {x : R Int} {v0 : σ} {k : σ → R τ} (hN : ∀ v, (N v).length = n) (hp : ps.length = n) (hc : RB ps da x ps1) (hw : Wk ps1 (N v0)) (ht : ∀ (a : Int) v, TG (N v) tg .o (enc a) (M a v)) (hb : ∀ a v, RSt (M a v) body (f a v) (ΦC N)) (hk : ∀ v, RSt (N v) rest (k v) Φ) :
    RSt ps (sSeq (sForR tg (dCons da dNil) body) rest) (R.bind (R.bind x fun j => R.bind (rng1 j) fun l => forR l v0 f) k) Φ := by
  have ha : RA ps (dCons da dNil) (R.bind x fun j => .ok (j, ())) (e1 Int) ps1 := ra_cons hc ra_nil
  have := rs_join (N := N) (Φ := Φ) (k := k) (rs_loop (a := sForR tg (dCons da dNil) body) (y := fun g : Int × Unit => R.bind (rng1 g.1) fun l => forR l v0 f) (Ψ := ΦN N) ha (fun s e => by unfold sForR; rw [e]) (fun s c s' e => by unfold sForR; rw [e]) fun u b s s1 e v m => ?_) hk (fun v => by rw [hN, hp])
  · refine RSt.cv this ?_
    congr 1
    rw [bind_bind]
    rfl
  · subst v
    unfold rng1 okIf
    by_cases hr : -(2 ^ 62) ≤ u.1 ∧ u.1 < 2 ^ 62
    · rw [if_pos hr]
      have h := go_for hN ht hb v0 s1 (its_rng 0 u.1.toNat) (m.wk hw)
      have e3 : sForR tg (dCons da dNil) body s = goFor tg body (rngD 0 u.1.toNat) s1 := by
        unfold sForR
        simp only [e, eC, eN, enc, if_pos hr]
      rw [e3]
      exact h
    · rw [if_neg hr]; trivial
end
end Dv

namespace Dv
open Enc (enc)
open PySem L2

section
variable {ι σ τ ρ α β γ δ : Type} [Enc ι] [Enc ρ] [Enc α] [Enc β] [Enc γ] [Enc δ] {ps ps1 ps2 ps3 : List Pt} {da db : DE D} {ca cb : DE (D × Ow)} {c c1 c2 : Oc} {dt : DE Bool} {a b rest body : DS} {Φ : τ → Out → Prop} {N : σ → List Pt} {v : σ}
theorem go_wh {n : Nat} (hN : ∀ v, (N v).length = n) {t : σ → R Bool} {f : σ → R σ} (hc : ∀ v, RT (N v) dt (t v) (N v)) (hb : ∀ v, RSt (N v) body (f v) (ΦC N)) : ∀ (k : Nat) (v : σ) (s : SD), Ms (N v) s → Sat (whN t f k v) (goWh dt body k s) s.length (ΦN N)
  | 0, v, s, m => trivial
  | k + 1, v, s, m => by
    have h := hc v s m
    unfold whN goWh
    cases e : t v with
    | bad => trivial
    | exc c =>
      rw [e] at h
      obtain ⟨s1, e1, l1⟩ := h
      exact ⟨s1, by rw [e1], l1⟩
    | ok w =>
      rw [e] at h
      obtain ⟨w', s1, e1, rfl, m1, l1⟩ := h
      rw [ok_bind, e1]
      cases w' with
      | false => exact ⟨_, rfl, s1, rfl, m1⟩
      | true =>
        rw [if_pos rfl]
        have h2 := hb v s1 m1
        show Sat _ (match body s1 with
          | some (.next s2) => goWh dt body k s2
          | some (.cont s2) => goWh dt body k s2
          | some (.brk s2) => some (.next s2)
          | x => x) _ _
        cases e2 : f v with
        | bad => trivial
        | exc c =>
          rw [e2] at h2
          obtain ⟨s2, e3, l3⟩ := h2
          exact ⟨s2, by rw [e3], l3.trans l1⟩
        | ok v1 =>
          rw [e2] at h2
          obtain ⟨o, e3, s2, ho, m2⟩ := h2
          have ih := go_wh hN hc hb k v1 s2 m2
          have l2 : s2.length = s.length := by rw [m2.len, m.len, hN, hN]
          rw [ok_bind, e3]
          have go : Sat (whN t f k v1) (goWh dt body k s2) s.length (ΦN N) := l2 ▸ ih
          rcases ho with rfl | rfl <;> exact go
theorem rs_wh {n : Nat} {t : σ → R Bool} {f : σ → R σ} {v0 : σ} {k : σ → R τ} (hN : ∀ v, (N v).length = n) (hp : ps.length = n) (hw : Wk ps (N v0)) (hc : ∀ v, RT (N v) dt (t v) (N v)) (hb : ∀ v, RSt (N v) body (f v) (ΦC N)) (hk : ∀ v, RSt (N v) rest (k v) Φ) :
    RSt ps (sSeq (sWhile dt body) rest) (R.bind (whR v0 t f) k) Φ :=
  rs_join (N := N) (.mk fun s hs => go_wh hN hc hb fuel v0 s (hs.wk hw)) hk fun v => by rw [hN, hp]
def fzO : List Pt → List Pt
  | [] => []
  | .x :: ps => .x :: fzO ps
  | .h _ d :: ps => .h .o d :: fzO ps
theorem Ms.fzO : ∀ {ps : List Pt} {s : SD}, Ms ps s → Ms (fzO ps) (fzAll s)
  | [], [], _ => trivial
  | [], _ :: _, h => h.elim
  | _ :: _, [], h => h.elim
  | .x :: _, _ :: _, h => ⟨trivial, Ms.fzO h.2⟩
  | .h c d :: _, _ :: _, h => ⟨by
      obtain ⟨ow, rfl, q⟩ := h.1
      exact ⟨.no, rfl, .inl rfl⟩, Ms.fzO h.2⟩
def mOc : Bool → Oc
  | true => .f
  | false => .n
theorem go_cmp {m : Bool} {tg : DT} {cond : DE Bool} {elt : DE (D × Ow)} {own : List Nat} {t : ι → R Bool} {f : ι → R α} {P0 : List Pt} {M M' Q : ι → List Pt} (ht : ∀ a, TG P0 tg .o (enc a) (M a)) (hc : ∀ a, RT (M a) cond (t a) (M' a)) (he : ∀ a, RC (M' a) elt (f a) (mOc m) (Q a))
    (w1 : ∀ a, Wk (wipeP own (M' a)) P0) (w2 : ∀ a, Wk (wipeP own (Q a)) P0) : ∀ {l : List ι} {its : List (D × Ow)} (acc : List α) (s : SD), Its ι l its → Ms P0 s →
      Ho (cmpGo (fun a => R.bind (t a) fun t => if t = true then R.bind (f a) fun b => .ok (some b) else .ok none) l acc) fun es => ∃ s', goC m tg cond elt own its (acc.map enc) s = some (.ok (es.map enc) s') ∧ Ms P0 s' ∧ s'.length = s.length
  | [], _, acc, s, .nil, hs => ⟨s, rfl, hs, rfl⟩
  | a :: l, _, acc, s, .cons (r := its) q r, hs => by
    obtain ⟨s1, e1, m1, l1⟩ := ht a s _ hs q
    have h := hc a s1 m1
    unfold cmpGo goC
    simp only [e1]
    cases e2 : t a with
    | bad => trivial
    | exc c => trivial
    | ok w =>
      rw [e2] at h
      obtain ⟨w', s2, e3, rfl, m2, l2⟩ := h
      rw [ok_bind, e3]
      cases w' with
      | false =>
        have lw : (wipeD own s2).length = s.length := by rw [wipe_len, l2, l1]
        have ih := go_cmp ht hc he w1 w2 (l := l) (its := its) acc (wipeD own s2) r ((m2.wipe own).wk (w1 a))
        rw [lw] at ih
        exact ih
      | true =>
        rw [if_pos rfl]
        have h2 := he a s2 m2
        cases e4 : f a with
        | bad => trivial
        | exc c => trivial
        | ok b =>
          rw [e4] at h2
          obtain ⟨⟨d, ow⟩, s3, e5, ⟨v1, v2⟩, m3, l3⟩ := h2
          have v1 : d = enc b := v1
          subst v1
          have lw : (wipeD own s3).length = s.length := by rw [wipe_len, l3, l2, l1]
          show Ho (if acc.length < 1000000 then _ else _) _
          by_cases hz : acc.length < 1000000
          · rw [if_pos hz]
            have ih := go_cmp ht hc he w1 w2 (l := l) (its := its) (acc ++ [b]) (wipeD own s3) r ((m3.wipe own).wk (w2 a))
            have ho : okE m (enc b) ow = true := by
              cases m with
              | true =>
                have v2 : ow = .full := v2
                simp [okE, v2]
              | false => rfl
            simp only [e5, ho, List.length_map, hz, decide_true, Bool.and_self, if_true]
            rw [lw, List.map_append] at ih
            exact ih
          · rw [if_neg hz]; trivial
theorem cmpI_true (l : List ι) (f : ι → R α) : cmpI l (fun _ => .ok true) f = cmpR l f := rfl
section
variable {tg : DT} {cond : DE Bool} {elt : DE (D × Ow)} {own : List Nat} {t : ι → R Bool} {f : ι → R α} {M M' Q : ι → List Pt}
theorem rc_cmp {x : R β} {g : β → List ι} (hg : ItE g) (hs : RB ps da x ps1) (ht : ∀ a, TG (wipeP own (fzO ps1)) tg .o (enc a) (M a)) (hc : ∀ a, RT (M a) cond (t a) (M' a)) (he : ∀ a, RC (M' a) elt (f a) .f (Q a))
    (w1 : ∀ a, Wk (wipeP own (M' a)) (wipeP own (fzO ps1))) (w2 : ∀ a, Wk (wipeP own (Q a)) (wipeP own (fzO ps1))) : RC ps (cComp true tg own da cond elt) (R.bind x fun u => cmpI (g u) t f) .f ps1 := by
  refine ⟨fun s h0 => ?_⟩
  have h := hs s h0
  cases x with
  | bad => trivial
  | exc c =>
    obtain ⟨s1, e, l⟩ := h
    exact ⟨s1, by unfold cComp; rw [e], l⟩
  | ok u =>
    obtain ⟨d, s1, e, v, m, l⟩ := h
    have v : d = enc u := v
    subst v
    have k := go_cmp (m := true) ht hc he w1 w2 (l := g u) [] (wipeD own (fzAll s1)) (its_no _) (m.fzO.wipe own)
    rw [ok_bind]
    unfold cmpI
    cases e2 : cmpGo (fun a => R.bind (t a) fun t => if t = true then R.bind (f a) fun b => .ok (some b) else .ok none) (g u) [] with
    | bad => trivial
    | exc c => rw [e2] at k; exact k.elim
    | ok es =>
      rw [e2] at k
      obtain ⟨s2, e3, m2, l2⟩ := k
      exact ⟨(.lst (es.map enc), .full), s1, by unfold cComp; simp only [e, hg u]; simp only [List.map_nil] at e3; rw [e3]; rfl, ⟨rfl, rfl⟩, m, l⟩
end
section
variable {tg : DT} {cond : DE Bool} {elt : DE (D × Ow)} {own : List Nat} {t : Int → R Bool} {f : Int → R α} {M M' Q : Int → List Pt}
end
theorem rt_yes : RT ps (fun s => some (.ok true s)) (.ok true) ps := RG.pure rfl
theorem rs_app {x : R α} {k : List α → R τ} {l : List α} (i : Nat) (h0 : ps.getD i .x = .h .f (enc l)) (hc : RC ps ca x .f ps1) (h1 : ps1.getD i .x = .h .f (enc l)) (hb : ∀ l', RSt (ps1.set i (.h .f (enc l'))) rest (k l') Φ) : RSt ps (sSeq (sApp i ca) rest) (R.bind x fun a => R.bind (appR l a) k) Φ := by
  refine ⟨fun s hs => ?_⟩
  obtain ⟨ow0, g0, q0⟩ := hs.get h0
  have q0 : ow0 = .full := q0
  subst q0
  have h := hc s hs
  have st : ∀ r, ca s = r → sApp i ca s = match r with
    | some (.ok (e, eo) s1) => match s1[i]? with
      | some (some (.lst ds, .full)) => if eo = .full ∧ ds.length < 1000000 then some (.next (s1.set i (some (.lst (ds ++ [e]), .full)))) else none
      | some (some (.lst ds, .top)) => if ds.length < 1000000 then some (.next (s1.set i (some (.lst (ds ++ [e]), .top)))) else none
      | _ => none
    | some (.exc x s1) => some (.exc x s1)
    | none => none := fun r hr => by
      unfold sApp
      rw [g0, hr]
      rfl
  cases x with
  | bad => trivial
  | exc c =>
    obtain ⟨s1, e, l1⟩ := h
    exact ⟨s1, by unfold sSeq; rw [st _ e], l1⟩
  | ok u =>
    obtain ⟨⟨d, ow⟩, s1, e, ⟨v1, v2⟩, m, l1⟩ := h
    have v1 : d = enc u := v1
    have v2 : ow = .full := v2
    subst v1 v2
    obtain ⟨ow1, g1, q1⟩ := m.get h1
    have q1 : ow1 = .full := q1
    subst q1
    show Sat (R.bind (appR l u) k) _ _ _
    unfold appR okIf
    by_cases hz : l.length < 1000000
    · rw [if_pos hz]
      refine (hb (l ++ [u])).at (m.set i ⟨.full, rfl, rfl⟩) (by simpa using l1) ?_
      unfold sSeq
      rw [st _ e]
      simp only [g1]
      have : (l.map (enc : α → D)).length < 1000000 := by simpa using hz
      simp only [enc] at this ⊢
      rw [if_pos (by simpa using this)]
      simp
    · rw [if_neg hz]; trivial
def FRs {γ : Type} (el : γ → List D) (df : DF) (n : γ → R ρ) (c : Oc) (g : γ) : Prop := match n g with
  | .ok r => ∃ ow, df (el g) = some (.ret (enc r) ow) ∧ c.ok (enc r) ow
  | .exc k => df (el g) = some (.exc k)
  | .bad => True
structure FR {γ : Type} (el : γ → List D) (df : DF) (n : γ → R ρ) (c : Oc) : Prop where
  of ::
  h : ∀ g, FRs el df n c g
instance {γ : Type} {el : γ → List D} {df : DF} {n : γ → R ρ} {c : Oc} : CoeFun (FR el df n c) (fun _ => ∀ g, FRs el df n c g) := ⟨FR.h⟩
def stP (ds : List D) (n : Nat) : List Pt := ds.map (Pt.h .o) ++ List.replicate (n - ds.length) .x
theorem Ms.app : ∀ {ps qs : List Pt} {s t : SD}, Ms ps s → Ms qs t → Ms (ps ++ qs) (s ++ t)
  | [], _, [], _, _, h => h
  | [], _, _ :: _, _, h, _ => h.elim
  | _ :: _, _, [], _, h, _ => h.elim
  | _ :: _, _, _ :: _, _, h, q => ⟨h.1, Ms.app h.2 q⟩
theorem Ms.rep : ∀ n, Ms (List.replicate n .x) (List.replicate n none)
  | 0 => trivial
  | n + 1 => ⟨trivial, Ms.rep n⟩
theorem Ms.st (ds : List D) (n : Nat) : Ms (stP ds n) (stD ds n) := by
  refine Ms.app ?_ (Ms.rep _)
  induction ds with
  | nil => trivial
  | cons d ds ih => exact ⟨⟨.no, rfl, .inl rfl⟩, ih⟩
theorem FR.mk {γ : Type} {el : γ → List D} {n : γ → R ρ} {k m : Nat} (hl : ∀ g, (el g).length = k) (h : ∀ g, RSt (stP (el g) m) body (n g) (ΦR c)) (hcf : nt c) : FR el (dFn k m body) n c := by
  refine ⟨fun g => ?_⟩
  have h := h g _ (Ms.st (el g) m)
  have e0 : dFn k m body (el g) = outF (body (stD (el g) m)) := by
    unfold dFn
    rw [if_pos (hl g)]
    rfl
  unfold FRs
  rw [e0]
  cases e : n g with
  | bad => trivial
  | exc q =>
    rw [e] at h
    obtain ⟨s', e1, _⟩ := h
    show outF _ = _
    rw [e1]
    rfl
  | ok r =>
    rw [e] at h
    obtain ⟨o, e1, h2⟩ := h
    show ∃ ow, outF _ = _ ∧ _
    rw [e1]
    rcases h2 with ⟨ow, rfl, q⟩ | ⟨s', rfl, q⟩
    · exact ⟨ow, rfl, q⟩
    · exact ⟨.full, by rw [q]; rfl, by
        cases c with
        | f => rfl
        | o => exact .inr ⟨by rw [q]; rfl, rfl⟩
        | n => trivial
        | t => exact hcf.elim
        | a q => exact hcf.elim⟩
def callF (o : Option Fo) (s : SD) : Option (Er (D × Ow)) := match o with
  | some (.ret d ow) => if imm d || decide (ow = .full) then some (.ok (d, .full) s) else some (.ok (d, ow) (fzAll s))
  | some (.exc c) => some (.exc c s)
  | none => none
theorem rc_call {γ : Type} {el : γ → List D} {df : DF} {n : γ → R ρ} {x : R γ} {dr : DE (List D)} (hf : FR el df n .f) (ha : RA ps dr x el ps1) : RC ps (cCall df dr) (R.bind x n) .f ps1 :=
  RG.bnd ha fun g ds v => by
    subst v
    refine ⟨fun s hs => ?_⟩
    have h := hf g
    unfold FRs at h
    cases e : n g with
    | bad => trivial
    | exc q =>
      rw [e] at h
      exact ⟨s, by show callF (df (el g)) s = _; rw [h]; rfl, rfl⟩
    | ok r =>
      rw [e] at h
      obtain ⟨ow, e1, q⟩ := h
      have q : ow = .full := q
      subst q
      exact ⟨(enc r, .full), s, by show callF (df (el g)) s = _; rw [e1]; simp [callF], ⟨rfl, rfl⟩, hs, rfl⟩
theorem rc_callI [Imm ρ] {γ : Type} {el : γ → List D} {df : DF} {n : γ → R ρ} {x : R γ} {dr : DE (List D)} (hf : FR el df n c) (ha : RA ps dr x el ps1) : RC ps (cCall df dr) (R.bind x n) .f ps1 :=
  RG.bnd ha fun g ds v => by
    subst v
    refine ⟨fun s hs => ?_⟩
    have h := hf g
    unfold FRs at h
    cases e : n g with
    | bad => trivial
    | exc q =>
      rw [e] at h
      exact ⟨s, by show callF (df (el g)) s = _; rw [h]; rfl, rfl⟩
    | ok r =>
      rw [e] at h
      obtain ⟨ow, e1, q⟩ := h
      exact ⟨(enc r, .full), s, by show callF (df (el g)) s = _; rw [e1]; simp [callF, Imm.im], ⟨rfl, rfl⟩, hs, rfl⟩
theorem law_of {n : Sc → R Bool} {df : DF} {c : Oc} (hf : FR (e1 Sc) df (fun g => n g.1) c) (ns : List Int) (h : n ⟨ns⟩ = .ok true) : ∃ ow, df [.sc (ns.map D.int)] = some (.ret (.bl true) ow) := by
  have := hf (⟨ns⟩, ())
  unfold FRs at this
  dsimp only at this
  rw [h] at this
  obtain ⟨ow, e, _⟩ := this
  exact ⟨ow, e⟩
end
end Dv

namespace Dv
open Enc (enc)
open PySem L2

structure Loc (α β : Type) where
  cur : β
  put : β → R α
section
variable {ι σ τ ρ α β γ δ : Type} [Enc ι] [Enc ρ] [Enc α] [Enc β] [Enc γ] [Enc δ] {ps ps1 ps2 ps3 : List Pt} {da db dk : DE D} {ca cb : DE (D × Ow)} {c c1 c2 : Oc} {dt : DE Bool} {a b rest body : DS} {Φ : τ → Out → Prop} {N : σ → List Pt} {v : σ}
def Loc.top (l : α) : Loc α α := ⟨l, .ok⟩
def Loc.at (z : Loc α (List β)) (k : Int) (b : β) : Loc α β := ⟨b, fun b' => R.bind (setR z.cur k b') z.put⟩
def Loc.opt (z : Loc α (Option β)) (b : β) : Loc α β := ⟨b, fun b' => z.put (some b')⟩
def LocE (l : α) (ks : List Int) (z : Loc α β) : Prop := getP ks (enc l) = some (enc z.cur) ∧ ∀ b, Ho (z.put b) fun l' => enc l' = setP ks (enc l) (enc b)
theorem loc_top (l : α) : LocE l [] (Loc.top l) := ⟨rfl, fun b => rfl⟩
theorem getP_snoc : ∀ {ks : List Int} {k : Int} {d e : D}, getP ks d = some e → getP (ks ++ [k]) d = getP [k] e
  | [], k, d, e, h => by cases h; rfl
  | j :: ks, k, d, e, h => by
    cases d with
    | lst ds =>
      rw [List.cons_append, getP_lst]
      rw [getP_lst] at h
      cases e1 : L2.atI ds j with
      | none => rw [e1] at h; cases h
      | some x =>
        rw [e1] at h
        exact getP_snoc h
    | tup ds =>
      rw [List.cons_append, getP_tup]
      rw [getP_tup] at h
      cases e1 : L2.atI ds j with
      | none => rw [e1] at h; cases h
      | some x =>
        rw [e1] at h
        exact getP_snoc h
    | _ => cases h
theorem setP_snoc : ∀ {ks : List Int} {k : Int} {d e n : D}, getP ks d = some e → setP (ks ++ [k]) d n = setP ks d (setP [k] e n)
  | [], k, d, e, n, h => by cases h; rfl
  | j :: ks, k, d, e, n, h => by
    cases d with
    | lst ds =>
      rw [getP_lst] at h
      cases e1 : L2.atI ds j with
      | none => rw [e1] at h; cases h
      | some x =>
        rw [e1] at h
        rw [List.cons_append]
        unfold setP
        rw [e1]
        simp only []
        rw [setP_snoc h]
    | tup ds =>
      rw [getP_tup] at h
      cases e1 : L2.atI ds j with
      | none => rw [e1] at h; cases h
      | some x =>
        rw [e1] at h
        rw [List.cons_append]
        unfold setP
        rw [e1]
        simp only []
        rw [setP_snoc h]
    | _ => cases h
theorem getP_one {l : List D} {k : Int} : getP [k] (.lst l) = L2.atI l k := by
  rw [getP_lst]
  cases L2.atI l k <;> rfl
theorem setP_one {l : List β} {k : Int} {b b' : β} (h : L2.atI l k = some b) : Ho (setR l k b') fun l' => enc l' = setP [k] (enc l) (enc b') := by
  unfold L2.atI at h
  unfold setR
  cases e : L2.ixN l.length k with
  | none => trivial
  | some j =>
    rw [e] at h
    show enc (l.set j b') = setP [k] (.lst (l.map enc)) (enc b')
    unfold setP
    have h2 : L2.atI (l.map (enc : β → D)) k = some (enc b) := by
      rw [atI_map]
      unfold L2.atI
      rw [e, h]
      rfl
    rw [h2]
    simp only [setI, List.length_map, e, setP, enc, List.map_set]
theorem loc_at {l : α} {ks : List Int} {z : Loc α (List β)} {k : Int} {b : β} (h : LocE l ks z) (e : atR z.cur k = .ok b) : LocE l (ks ++ [k]) (z.at k b) := by
  have e : L2.atI z.cur k = some b := by
    unfold atR at e
    cases e2 : L2.atI z.cur k with
    | none => rw [e2] at e; cases e
    | some x => rw [e2] at e; cases e; rfl
  refine ⟨?_, fun b' => ?_⟩
  · rw [getP_snoc h.1]
    show getP [k] (.lst (z.cur.map enc)) = some (enc b)
    rw [getP_one, atI_map, e]
    rfl
  · have h2 := setP_one (b' := b') e
    show Ho (R.bind (setR z.cur k b') z.put) _
    cases e3 : setR z.cur k b' with
    | bad => trivial
    | exc c => rw [e3] at h2; exact h2.elim
    | ok l2 =>
      rw [e3] at h2
      have h2 : enc l2 = setP [k] (enc z.cur) (enc b') := h2
      have h3 := h.2 l2
      show Ho (z.put l2) _
      cases e4 : z.put l2 with
      | bad => trivial
      | exc c => rw [e4] at h3; exact h3.elim
      | ok l3 =>
        rw [e4] at h3
        have h3 : enc l3 = setP ks (enc l) (enc l2) := h3
        show enc l3 = _
        rw [setP_snoc h.1, ← h2, h3]
def RP (ps : List Pt) (i : Nat) (l : α) (z0 : Loc α β) (dks : List (DE D)) (x : R (Loc α γ)) (ps' : List Pt) : Prop := ∀ s acc, Ms ps s → LocE l acc z0 → match x with
  | .ok z => ∃ ks s', dPA i acc dks s = some (.ok ks s') ∧ LocE l ks z ∧ Ms ps' s' ∧ s'.length = s.length
  | .exc c => ∃ s', dPA i acc dks s = some (.exc c s') ∧ s'.length = s.length
  | .bad => True
theorem rp_nil {l : α} {z0 : Loc α β} (i : Nat) : RP ps i l z0 [] (.ok z0) ps := fun s acc hs h => ⟨acc, s, rfl, h, hs, rfl⟩
theorem rp_core {l : α} {z0 : Loc α (List δ)} {z1 : R (Loc α β)} {dr : List (DE D)} {y : R Int} {i : Nat} {F : δ → R (Loc α β)} {x : Loc α β → R (Loc α γ)} (hy : RB ps dk y ps1) (hs : ps1.getD i .x = .h .f (enc l))
    (hF : ∀ acc k o, LocE l (acc ++ [k]) (z0.at k o) → Ho (F o) fun z => LocE l (acc ++ [k]) z ∧ enc z.cur = enc o ∧ imm (enc z.cur) = false) (hz : ∀ k o, R.bind (atR z0.cur k) F = .ok o → True)
    (hr : ∀ z, RP ps1 i l z dr (x z) ps2) (G : Int → δ → R (Loc α β)) (hG : ∀ k o acc, LocE l acc z0 → atR z0.cur k = .ok o → Ho (G k o) fun z => LocE l (acc ++ [k]) z ∧ imm (enc o) = false) :
    RP ps i l z0 (dk :: dr) (R.bind y fun k => R.bind (atR z0.cur k) fun o => R.bind (G k o) x) ps2 := by
  intro s acc h0 hl
  have h := hy s h0
  cases y with
  | bad => trivial
  | exc c =>
    obtain ⟨s1, e, l1⟩ := h
    exact ⟨s1, by unfold dPA; rw [e], l1⟩
  | ok k =>
    obtain ⟨d, s1, e, v, m, l1⟩ := h
    have v : d = .int k := v
    subst v
    obtain ⟨ow, g1, q1⟩ := m.get hs
    have q1 : ow = .full := q1
    subst q1
    show match R.bind (atR z0.cur k) fun o => R.bind (G k o) x with
      | .ok z => _
      | .exc c => _
      | .bad => _
    cases e2 : atR z0.cur k with
    | bad => trivial
    | exc c =>
      unfold atR ofO at e2
      cases e3 : L2.atI z0.cur k <;> rw [e3] at e2 <;> cases e2
    | ok o =>
      have h2 := hG k o acc hl e2
      rw [ok_bind]
      cases e3 : G k o with
      | bad => trivial
      | exc c => rw [e3] at h2; exact h2.elim
      | ok z =>
        rw [e3] at h2
        obtain ⟨h2, h3⟩ := h2
        have h4 := hr z s1 (acc ++ [k]) m h2
        have hgo : getP (acc ++ [k]) (enc l) = some (enc o) := (loc_at hl e2).1
        have e5 : dPA i acc (dk :: dr) s = dPA i (acc ++ [k]) dr s1 := by
          conv => lhs; unfold dPA
          simp only [e, g1, hgo, h3, if_true]
        rw [ok_bind, e5]
        cases e6 : x z with
        | bad => trivial
        | exc c =>
          rw [e6] at h4
          obtain ⟨s2, a1, a2⟩ := h4
          exact ⟨s2, a1, a2.trans l1⟩
        | ok z2 =>
          rw [e6] at h4
          obtain ⟨ks, s2, a1, a2, a3, a4⟩ := h4
          exact ⟨ks, s2, a1, a2, a3, a4.trans l1⟩
theorem rp_ix [NI β] {l : α} {z0 : Loc α (List β)} {dr : List (DE D)} {y : R Int} {i : Nat} {x : Loc α β → R (Loc α γ)} (hy : RB ps dk y ps1) (hs : ps1.getD i .x = .h .f (enc l)) (hr : ∀ z, RP ps1 i l z dr (x z) ps2) :
    RP ps i l z0 (dk :: dr) (R.bind y fun k => R.bind (atR z0.cur k) fun o => x (z0.at k o)) ps2 :=
  rp_core (z1 := .bad) (F := fun _ => .bad) hy hs (fun _ _ _ _ => trivial) (fun _ _ _ => trivial) hr (fun k o => .ok (z0.at k o)) fun k o acc hl e => ⟨loc_at hl e, NI.ni o⟩
theorem rs_setP {x : R β} {y : R Int} {l : α} {pth : R (Loc α (List β))} {dks : List (DE D)} {k : α → R τ} {d0 : D} {c0 : Oc} (i : Nat) (hc : RC ps ca x .f ps1) (h1 : ps1.getD i .x = .h c0 d0) (hp : RP ps1 i l (Loc.top l) dks pth ps2) (hy : RB ps2 dk y ps3) (h3 : ps3.getD i .x = .h .f (enc l)) (hb : ∀ l', RSt (ps3.set i (.h .f (enc l'))) rest (k l') Φ) :
    RSt ps (sSeq (sSetP i dks dk ca) rest) (R.bind x fun a => R.bind pth fun z => R.bind y fun j => R.bind (setR z.cur j a) fun b => R.bind (z.put b) k) Φ := by
  refine ⟨fun s h0 => ?_⟩
  have h := hc s h0
  cases x with
  | bad => trivial
  | exc c =>
    obtain ⟨s1, e, l1⟩ := h
    exact ⟨s1, by unfold sSeq sSetP; rw [e], l1⟩
  | ok u =>
    obtain ⟨⟨d, ow⟩, s1, e, ⟨v1, v2⟩, m, l1⟩ := h
    have v1 : d = enc u := v1
    have v2 : ow = .full := v2
    subst v1 v2
    obtain ⟨ow1, g1, q1⟩ := m.get h1
    have j1 : (s1[i]?).join.isSome = true := by rw [g1]; rfl
    have hp := hp s1 [] m (loc_top l)
    rw [ok_bind]
    cases pth with
    | bad => trivial
    | exc c =>
      obtain ⟨s2, e2, l2⟩ := hp
      exact ⟨s2, by unfold sSeq sSetP; simp only [e, if_pos j1, e2], l2.trans l1⟩
    | ok z =>
      obtain ⟨ks, s2, e2, le, m2, l2⟩ := hp
      have hy := hy s2 m2
      rw [ok_bind]
      cases y with
      | bad => trivial
      | exc c =>
        obtain ⟨s3, e3, l3⟩ := hy
        exact ⟨s3, by unfold sSeq sSetP; simp only [e, if_pos j1, e2, e3], l3.trans (l2.trans l1)⟩
      | ok j =>
        obtain ⟨d3, s3, e3, v3, m3, l3⟩ := hy
        have v3 : d3 = .int j := v3
        subst v3
        obtain ⟨ow3, g3, q3⟩ := m3.get h3
        have q3 : ow3 = .full := q3
        subst q3
        rw [ok_bind]
        unfold setR
        cases e4 : L2.ixN z.cur.length j with
        | none => trivial
        | some n =>
          rw [ok_bind]
          have hput := le.2 (z.cur.set n u)
          cases e5 : z.put (z.cur.set n u) with
          | bad => trivial
          | exc c => rw [e5] at hput; exact hput.elim
          | ok l' =>
            rw [e5] at hput
            have hput : enc l' = setP ks (enc l) (enc (z.cur.set n u)) := hput
            refine (hb l').at (m3.set i ⟨.full, rfl, rfl⟩) (by simp [l3, l2, l1]) ?_
            have hg : getP ks (enc l) = some (.lst (z.cur.map enc)) := le.1
            unfold sSeq sSetP
            simp only [e, if_pos j1, e2, e3, g3, if_true, setD, hg, List.length_map, e4, Option.map_some]
            rw [hput]
            simp only [enc, List.map_set]
theorem rs_appP {x : R β} {l : α} {pth : R (Loc α (List β))} {dks : List (DE D)} {k : α → R τ} {d0 : D} {c0 : Oc} (i : Nat) (h1 : ps.getD i .x = .h c0 d0) (hp : RP ps i l (Loc.top l) dks pth ps1) (h2 : ps1.getD i .x = .h .f (enc l)) (hc : RC ps1 ca x .f ps2) (h3 : ps2.getD i .x = .h .f (enc l)) (hb : ∀ l', RSt (ps2.set i (.h .f (enc l'))) rest (k l') Φ) :
    RSt ps (sSeq (sAppP i dks ca) rest) (R.bind pth fun z => R.bind x fun a => R.bind (appR z.cur a) fun b => R.bind (z.put b) k) Φ := by
  refine ⟨fun s h0 => ?_⟩
  obtain ⟨ow0, g0, q0⟩ := h0.get h1
  have j1 : (s[i]?).join.isSome = true := by rw [g0]; rfl
  have hp := hp s [] h0 (loc_top l)
  cases pth with
  | bad => trivial
  | exc c =>
    obtain ⟨s2, e2, l2⟩ := hp
    exact ⟨s2, by unfold sSeq sAppP; simp only [if_pos j1, e2], l2⟩
  | ok z =>
    obtain ⟨ks, s1, e2, le, m1, l1⟩ := hp
    obtain ⟨ow1, g1, q1⟩ := m1.get h2
    have q1 : ow1 = .full := q1
    subst q1
    have hg : getP ks (enc l) = some (.lst (z.cur.map enc)) := le.1
    have h := hc s1 m1
    rw [ok_bind]
    cases x with
    | bad => trivial
    | exc c =>
      obtain ⟨s3, e3, l3⟩ := h
      exact ⟨s3, by unfold sSeq sAppP; simp only [if_pos j1, e2, g1, hg, e3], l3.trans l1⟩
    | ok u =>
      obtain ⟨⟨d, ow⟩, s3, e3, ⟨v1, v2⟩, m3, l3⟩ := h
      have v1 : d = enc u := v1
      have v2 : ow = .full := v2
      subst v1 v2
      obtain ⟨ow3, g3, q3⟩ := m3.get h3
      have q3 : ow3 = .full := q3
      subst q3
      rw [ok_bind]
      unfold appR okIf
      by_cases hz : z.cur.length < 1000000
      · rw [if_pos hz, ok_bind]
        have hput := le.2 (z.cur ++ [u])
        cases e5 : z.put (z.cur ++ [u]) with
        | bad => trivial
        | exc c => rw [e5] at hput; exact hput.elim
        | ok l' =>
          rw [e5] at hput
          have hput : enc l' = setP ks (enc l) (enc (z.cur ++ [u])) := hput
          refine (hb l').at (m3.set i ⟨.full, rfl, rfl⟩) (by simp [l3, l1]) ?_
          unfold sSeq sAppP
          simp only [if_pos j1, e2, g1, hg, e3, g3, List.length_map, hz, and_self, if_true]
          rw [hput]
          simp only [enc, List.map_append, List.map_cons, List.map_nil]
      · rw [if_neg hz]; trivial
end
end Dv

namespace Dv
open Enc (enc)
open PySem L2

section
variable {ι σ τ ρ α β γ δ : Type} [Enc ι] [Enc ρ] [Enc α] [Enc β] [Enc γ] [Enc δ] {ps ps1 ps2 ps3 : List Pt} {da db dk : DE D} {ca cb : DE (D × Ow)} {c c1 c2 : Oc} {dt : DE Bool} {a b rest body : DS} {Φ : τ → Out → Prop} {N : σ → List Pt} {v : σ}
theorem ex {α β : Type} {V : α → β → Prop} {de : DE β} {x y : R α} (h : RG ps de x V ps1) (e : x = y) : RG ps de y V ps1 := e ▸ h
theorem rs_ifP {b' : Bool} {p q : R τ} (hc : RT ps dt (.ok b') ps1) (h1 : RSt ps1 (sSeq a rest) p Φ) (h2 : RSt ps1 (sSeq b rest) q Φ) : RSt ps (sSeq (sIf dt a b) rest) (if b' = true then p else q) Φ := rs_if hc h1 h2
theorem rs_retP {w : ρ → τ} {x : ρ} (h : AcR Φ c w) (hc : RC ps ca (.ok x) c ps1) : RSt ps (sRet ca) (.ok (w x)) Φ := rs_ret h hc
theorem rs_forCP {n : Nat} {tg : DT} {f : ι → σ → R σ} {M : ι → σ → List Pt} {g : α → List ι} {x : α} {v0 : σ} {k : σ → R τ} (hN : ∀ v, (N v).length = n) (hp : ps.length = n) (hg : ItE g) (hc : RC ps ca (.ok x) c ps1) (hw : Wk ps1 (N v0)) (ht : ∀ a v, TG (N v) tg .o (enc a) (M a v)) (hb : ∀ a v, RSt (M a v) body (f a v) (ΦC N)) (hk : ∀ v, RSt (N v) rest (k v) Φ) :
    RSt ps (sSeq (sForC tg ca body) rest) (R.bind (forR (g x) v0 f) k) Φ := rs_forC hN hp hg hc hw ht hb hk
theorem rs_forCXP {n : Nat} {tg : DT} {f : ι → σ → R (Lp σ τ)} {M : ι → σ → List Pt} {g : α → List ι} {x : α} {v0 : σ} {k : σ → R τ} (hN : ∀ v, (N v).length = n) (hp : ps.length = n) (hg : ItE g) (hc : RC ps ca (.ok x) c ps1) (hw : Wk ps1 (N v0)) (ht : ∀ a v, TG (N v) tg .o (enc a) (M a v)) (hb : ∀ a v, RSt (M a v) body (f a v) (ΦL N Φ)) (hk : ∀ v, RSt (N v) rest (k v) Φ) :
    RSt ps (sSeq (sForC tg ca body) rest) (R.andThen (forX (g x) v0 f) k) Φ := rs_forCX hN hp hg hc hw ht hb hk
theorem rs_forR1P {n : Nat} {tg : DT} {f : Int → σ → R σ} {M : Int → σ → List Pt} {x : Int} {v0 : σ} {k : σ → R τ} (hN : ∀ v, (N v).length = n) (hp : ps.length = n) (hc : RB ps da (.ok x) ps1) (hw : Wk ps1 (N v0)) (ht : ∀ (a : Int) v, TG (N v) tg .o (enc a) (M a v)) (hb : ∀ a v, RSt (M a v) body (f a v) (ΦC N)) (hk : ∀ v, RSt (N v) rest (k v) Φ) :
    RSt ps (sSeq (sForR tg (dCons da dNil) body) rest) (R.bind (R.bind (rng1 x) fun l => forR l v0 f) k) Φ := rs_forR1 hN hp hc hw ht hb hk
theorem rs_appW {x : R α} {k : List α → R τ} {l : List α} {W : R (List α)} (i : Nat) (h0 : ps.getD i .x = .h .f (enc l)) (hc : RC ps ca x .f ps1) (h1 : ps1.getD i .x = .h .f (enc l)) (e : (R.bind x fun a => appR l a) = W) (hb : ∀ l', RSt (ps1.set i (.h .f (enc l'))) rest (k l') Φ) : RSt ps (sSeq (sApp i ca) rest) (R.bind W k) Φ := by
  subst e
  rw [bind_bind]
  exact rs_app i h0 hc h1 hb
theorem rs_setPW {x : R β} {y : R Int} {l : α} {pth : R (Loc α (List β))} {dks : List (DE D)} {k : α → R τ} {d0 : D} {c0 : Oc} {W : R α} (i : Nat) (hc : RC ps ca x .f ps1) (h1 : ps1.getD i .x = .h c0 d0) (hp : RP ps1 i l (Loc.top l) dks pth ps2) (hy : RB ps2 dk y ps3) (h3 : ps3.getD i .x = .h .f (enc l)) (e : (R.bind x fun a => R.bind pth fun z => R.bind y fun j => R.bind (setR z.cur j a) z.put) = W) (hb : ∀ l', RSt (ps3.set i (.h .f (enc l'))) rest (k l') Φ) :
    RSt ps (sSeq (sSetP i dks dk ca) rest) (R.bind W k) Φ := by
  subst e
  have := rs_setP i hc h1 hp hy h3 hb
  simp only [bind_bind]
  exact this
theorem rs_appPW {x : R β} {l : α} {pth : R (Loc α (List β))} {dks : List (DE D)} {k : α → R τ} {d0 : D} {c0 : Oc} {W : R α} (i : Nat) (h1 : ps.getD i .x = .h c0 d0) (hp : RP ps i l (Loc.top l) dks pth ps1) (h2 : ps1.getD i .x = .h .f (enc l)) (hc : RC ps1 ca x .f ps2) (h3 : ps2.getD i .x = .h .f (enc l)) (e : (R.bind pth fun z => R.bind x fun a => R.bind (appR z.cur a) z.put) = W) (hb : ∀ l', RSt (ps2.set i (.h .f (enc l'))) rest (k l') Φ) :
    RSt ps (sSeq (sAppP i dks ca) rest) (R.bind W k) Φ := by
  subst e
  have := rs_appP i h1 hp h2 hc h3 hb
  simp only [bind_bind]
  exact this
noncomputable def set2R {α : Type} (l : List (List α)) (i j : Int) (a : α) : R (List (List α)) := R.bind (atR l i) fun r => R.bind (setR r j a) fun r => setR l i r
noncomputable def app2R {α : Type} (l : List (List α)) (i : Int) (a : α) : R (List (List α)) := R.bind (atR l i) fun r => R.bind (appR r a) fun r => setR l i r
end
end Dv

namespace Dv
open PySem L2 Evl
def lowS (i : Nat) (s : SD) : SD := match s[i]? with
  | some (some (.lst ds, .full)) => s.set i (some (.lst ds, .top))
  | _ => s
def cLow (i : Nat) (c : DE (D × Ow)) : DE (D × Ow) := fun s => c (lowS i s)
section
variable {K : PySem.W.Frag} {W : WW} {B H : Hp} {σ : L2.St} {s : SD} {Fs : List (List Addr)}
def cTopAt (i : Nat) (dk : DE D) : DE (D × Ow) := fun s => match s[i]? with
  | some (some (.lst _, .top)) => match dk s with
    | some (.ok (.int k) s1) => match s1[i]? with
      | some (some (.lst ds, .top)) => (atI ds k).map fun d => .ok (d, .no) s1
      | _ => none
    | some (.exc x s1) => some (.exc x s1)
    | _ => none
  | _ => none
end
section
variable {X : Cx} {K : PySem.W.Frag} {W : WW} {pos : Pos} {a b e : Expr} {te tb : TE} {ca : DE (D × Ow)} {db : DE D}
end
end Dv

namespace Dv
open PySem PySem.Spec PyProof.Rows L2 Evl
theorem units65 {k : Nat} {A : Around} (r : Room k A) : A.units + 65 < cLine := by have := r.un; omega
def isLst : D → Bool
  | .lst _ => true
  | _ => false
def dMet1 (f : D → D → Option D) (da db : DE D) : DE D := bnd da fun x s => if isLst x = true then bnd db (fun y s => (f x y).map fun d => .ok d s) s else none
def RM (K : PySem.W.Frag) (r : V → List V → Hp → VK → Prop) (f : D → D → Option D) : Prop := ∀ G H x y dx dy d, Ex G H → Re K G H x dx → Re K G H y dy → f dx dy = some d → ∀ Q : VK, (∀ v, Re K G H v d → Q v H) → r x [y] H Q
section
variable {K : PySem.W.Frag} {W : WW} {ta tb : TE} {da db : DE D}
def fIndex (x y : D) : Option D := match x with
  | .lst ds => match D.pyL ds, y.py with
    | some ps, some q => if (SeqAt.shaped (.list ps) && SeqAt.shaped q) = true then (ps.findIdx? fun z => PyData.eqv z q).map fun j => .int (j : Nat) else none
    | _, _ => none
  | _ => none
end
section
variable {X : Cx} {K : PySem.W.Frag} {W : WW} {pos apos cpos : Pos} {a e : Expr} {ta te : TE} {da de : DE D}
end
end Dv

namespace Dv
open Enc (enc)
open PySem L2

section
variable {ι σ τ ρ α β γ δ : Type} [Enc ι] [Enc ρ] [Enc α] [Enc β] [Enc γ] [Enc δ] {ps ps1 ps2 ps3 : List Pt} {da db dk : DE D} {ca cb : DE (D × Ow)} {c c1 c2 : Oc} {dt : DE Bool} {a b rest body : DS} {Φ : τ → Out → Prop}
end
end Dv

namespace Dv
open Enc (enc)
open PySem L2
section
variable {α β γ : Type} [Enc α] [Enc β] {ps ps1 ps2 ps3 : List Pt} {da db : DE D}
noncomputable def idxR [DecidableEq α] (l : List α) (a : α) : R Int := ofO ((l.findIdx? fun z => decide (z = a)).map fun j => ((j : Nat) : Int))
end
end Dv

namespace Dv
open PySem PySem.Spec PyProof.Rows L2 Evl
inductive Mu where
  | rev | clr | pop
def Mu.on {α : Type} : Mu → List α → Option (List α)
  | .rev, l => some l.reverse
  | .clr, _ => some []
  | .pop, [] => none
  | .pop, x :: l => some (x :: l).dropLast
def Mu.r : Mu → V → List V → Hp → VK → Prop
  | .rev => rReverse
  | .clr => rClear
  | .pop => rPop
theorem Mu.run {m : Mu} {H : Hp} {p : Addr} {vs vs' : List V} {Q : VK} (h : H p = some (.lst vs)) (e : m.on vs = some vs') (q : ∀ v, Q v (upd H p (.lst vs'))) : m.r (.ref p) [] H Q := by
  cases m with
  | rev => cases e; exact ⟨p, vs, rfl, rfl, h, q _⟩
  | clr => cases e; exact ⟨p, vs, rfl, rfl, h, q _⟩
  | pop =>
    cases vs with
    | nil => cases e
    | cons x l =>
      cases e
      exact ⟨p, x :: l, (x :: l)[(x :: l).length - 1]'(by simp), rfl, rfl, h, List.getElem?_eq_getElem _, q _⟩
section
variable {K : PySem.W.Frag} {G H : Hp}
theorem OwnL.rev : ∀ {vs : List V} {ds : List D} {F : List Addr}, OwnL K H vs ds F → ∃ F', OwnL K H vs.reverse ds.reverse F' ∧ ∀ a, F'.count a ≤ F.count a
  | _, _, _, .nil => ⟨[], .nil, fun _ => Nat.le_refl _⟩
  | _, _, _, .cons (F := F) (G := G) h t => by
    obtain ⟨F', o, c⟩ := OwnL.rev t
    refine ⟨F' ++ (F ++ []), by rw [List.reverse_cons, List.reverse_cons]; exact o.append (.cons h .nil), fun a => ?_⟩
    have := c a
    simp only [List.count_append, List.append_nil]
    omega
theorem OwnL.dl : ∀ {vs : List V} {ds : List D} {F : List Addr}, OwnL K H vs ds F → ∃ F', OwnL K H vs.dropLast ds.dropLast F' ∧ ∀ a, F'.count a ≤ F.count a
  | _, _, _, .nil => ⟨[], .nil, fun _ => Nat.le_refl _⟩
  | _, _, _, .cons (F := F) h .nil => ⟨[], .nil, fun _ => by simp⟩
  | _, _, _, .cons (F := F) h (.cons h2 t) => by
    obtain ⟨F', o, c⟩ := OwnL.dl (OwnL.cons h2 t)
    refine ⟨F ++ F', .cons h o, fun a => ?_⟩
    have := c a
    simp only [List.count_append] at this ⊢
    omega
theorem ReL.rev : ∀ {vs : List V} {ds : List D}, ReL K G H vs ds → ReL K G H vs.reverse ds.reverse
  | _, _, .nil => .nil
  | _, _, .cons h t => by
    rw [List.reverse_cons, List.reverse_cons]
    exact (ReL.rev t).append (.cons h .nil)
theorem ReL.dl : ∀ {vs : List V} {ds : List D}, ReL K G H vs ds → ReL K G H vs.dropLast ds.dropLast
  | _, _, .nil => .nil
  | _, _, .cons h .nil => .nil
  | _, _, .cons h (.cons h2 t) => .cons h (ReL.dl (ReL.cons h2 t))
theorem Mu.own {m : Mu} {vs : List V} {ds ds' : List D} {F : List Addr} (o : OwnL K H vs ds F) (e : m.on ds = some ds') : ∃ vs' F', m.on vs = some vs' ∧ OwnL K H vs' ds' F' ∧ ∀ a, F'.count a ≤ F.count a := by
  cases m with
  | rev => cases e; obtain ⟨F', h, c⟩ := o.rev; exact ⟨_, F', rfl, h, c⟩
  | clr => cases e; exact ⟨[], [], rfl, .nil, fun _ => by simp⟩
  | pop =>
    cases o with
    | nil => cases e
    | cons h t =>
      cases e
      obtain ⟨F', h, c⟩ := (OwnL.cons h t).dl
      exact ⟨_, F', rfl, h, c⟩
theorem Mu.re {m : Mu} {vs : List V} {ds ds' : List D} (o : ReL K G H vs ds) (e : m.on ds = some ds') : ∃ vs', m.on vs = some vs' ∧ ReL K G H vs' ds' := by
  cases m with
  | rev => cases e; exact ⟨_, rfl, o.rev⟩
  | clr => cases e; exact ⟨[], rfl, .nil⟩
  | pop =>
    cases o with
    | nil => cases e
    | cons h t => cases e; exact ⟨_, rfl, (ReL.cons h t).dl⟩
end
def sMut (i : Nat) (m : Mu) : DS := fun s => match s[i]? with
  | some (some (.lst ds, .full)) => (m.on ds).map fun ds' => .next (s.set i (some (.lst ds', .full)))
  | some (some (.lst ds, .top)) => (m.on ds).map fun ds' => .next (s.set i (some (.lst ds', .top)))
  | _ => none
section
variable {K : PySem.W.Frag} {W : WW}
end
section
variable {X : Cx} {K : PySem.W.Frag} {W : WW} {pos cpos apos : Pos} {a : Expr}
end
end Dv

namespace Dv
open Enc (enc)
open PySem L2
section
variable {τ α : Type} [Enc α] {ps : List Pt} {rest : DS} {Φ : τ → Out → Prop} {c : Oc}
def muR (m : Mu) (l : List α) : R (List α) := ofO (m.on l)
theorem Mu.map {β : Type} (f : α → β) (m : Mu) (l : List α) : m.on (l.map f) = (m.on l).map (List.map f) := by
  cases m with
  | rev => show some _ = some _; rw [List.map_reverse]
  | clr => rfl
  | pop =>
    cases l with
    | nil => rfl
    | cons x l => show some _ = some _; rw [List.map_dropLast]; rfl
end
end Dv

namespace Dv
open PySem PySem.Spec PyProof.Rows L2 Evl
mutual
theorem nk_is {P : Program} {w : World} {H : Hp} {h : Heap} (ok : HOk P w H h) : ∀ {k : NestedKey} {v : V} {u : Value}, NkAt H k v → RelV v u → NestedIs h k u
  | _, _, u, .num i, r => by
    obtain ⟨t, rfl⟩ := (show ∃ t, u = Value.int i t from r)
    exact .int _ _
  | _, _, u, .tup (q := q) hq hr, r => by
    obtain rfl : u = Value.ref q := r
    obtain ⟨_, its, r2, o, h1, h2, n, h3⟩ := (show ObjOk P w H h q (.tup _) from ok q _ hq)
    exact .tup h1 h2 h3 (by simpa using nks_is ok hr r2)
theorem nks_is {P : Program} {w : World} {H : Hp} {h : Heap} (ok : HOk P w H h) : ∀ {k : List NestedKey} {v : List V} {u : List Value}, NkAll H k v → Vals v u → NestedAll h k u
  | _, _, _, .nil, .nil => .nil
  | _, _, _, .cons a b, .cons c d => .cons (nk_is ok a c) (nks_is ok b d)
end
mutual
theorem nk_hash {H : Hp} (w w' : World) : ∀ {k : NestedKey} {v : V}, NkAt H k v → k.hash w = k.hash w'
  | _, _, .num i => by simp [NestedKey.hash]
  | _, _, .tup _ r => by rw [NestedKey.hash, NestedKey.hash, nks_hash w w' r]
theorem nks_hash {H : Hp} (w w' : World) : ∀ {k : List NestedKey} {v : List V}, NkAll H k v → NestedKey.hashes w k = NestedKey.hashes w' k
  | _, _, .nil => rfl
  | _, _, .cons a b => by rw [NestedKey.hashes, NestedKey.hashes, nk_hash w w' a, nks_hash w w' b]
end
mutual
theorem nk_inj {H : Hp} : ∀ {k k' : NestedKey} {v : V}, NkAt H k v → NkAt H k' v → k = k'
  | _, _, _, .num i, h => by cases h; rfl
  | _, _, _, .tup hq r, h => by
    cases h with
    | tup hq' r' =>
      rw [hq] at hq'
      cases hq'
      rw [nks_inj r r']
theorem nks_inj {H : Hp} : ∀ {k k' : List NestedKey} {v : List V}, NkAll H k v → NkAll H k' v → k = k'
  | _, _, _, .nil, h => by cases h; rfl
  | _, _, _, .cons a b, h => by
    cases h with
    | cons a' b' => rw [nk_inj a a', nks_inj b b']
end
abbrev KN : List (NestedKey × Addr × V) → List (NestedKey × Addr × Value) → Prop := Paired fun p q => p.1 = q.1 ∧ p.2.1 = q.2.1 ∧ RelV p.2.2 q.2.2
def valN (xs : List (NestedKey × Addr × V)) (k : NestedKey) : Option V := (xs.find? fun x => decide (x.1 = k)).map (·.2.2)
def putN (xs : List (NestedKey × Addr × V)) (k : NestedKey) (b : Addr) (v : V) : List (NestedKey × Addr × V) :=
  if (xs.any fun x => decide (x.1 = k)) = true then xs.map (fun x => if x.1 = k then (x.1, x.2.1, v) else x) else xs ++ [(k, b, v)]
theorem KN.val {xs : List (NestedKey × Addr × V)} {ys : List (NestedKey × Addr × Value)} (r : KN xs ys) (k : NestedKey) : RelO (valN xs k) ((atKey ys k).map (·.2)) := by
  induction r with
  | nil => exact True.intro
  | @cons p q ps qs h t ih =>
    obtain ⟨h1, _, h2⟩ := h
    by_cases e : p.1 = k
    · have e' : q.1 = k := h1.symm.trans e
      simp [valN, atKey, e, e', RelO]
      exact h2
    · have e' : ¬ q.1 = k := fun z => e (h1.trans z)
      have := ih
      simp only [valN, atKey, List.find?_cons, decide_eq_false e, decide_eq_false e'] at this ⊢
      exact this
theorem KN.any {xs : List (NestedKey × Addr × V)} {ys : List (NestedKey × Addr × Value)} (r : KN xs ys) (k : NestedKey) : (xs.any fun x => decide (x.1 = k)) = (atKey ys k).isSome := by
  induction r with
  | nil => rfl
  | @cons p q ps qs h t ih =>
    obtain ⟨h1, _, _⟩ := h
    rw [List.any_cons, ih]
    by_cases e : p.1 = k
    · have e' : q.1 = k := h1.symm.trans e
      simp [atKey, e, e']
    · have e' : ¬ q.1 = k := fun z => e (h1.trans z)
      simp [atKey, e, e']
theorem KN.repl {xs : List (NestedKey × Addr × V)} {ys : List (NestedKey × Addr × Value)} (r : KN xs ys) (k : NestedKey) {v : V} {u : Value} (ry : RelV v u) : KN (xs.map fun x => if x.1 = k then (x.1, x.2.1, v) else x) (ys.map (putAt k u)) := by
  induction r with
  | nil => exact .nil
  | @cons p q ps qs h t ih =>
    rw [List.map_cons, List.map_cons]
    refine .cons ?_ ih
    obtain ⟨h1, h2, h3⟩ := h
    unfold putAt
    by_cases e : p.1 = k
    · have e' : q.1 = k := h1.symm.trans e
      rw [if_pos e, if_pos e']
      exact ⟨h1, h2, ry⟩
    · have e' : ¬ q.1 = k := fun z => e (h1.trans z)
      rw [if_neg e, if_neg e']
      exact ⟨h1, h2, h3⟩
theorem KN.put {xs : List (NestedKey × Addr × V)} {ys : List (NestedKey × Addr × Value)} (r : KN xs ys) (k : NestedKey) {b : Addr} {v : V} {u : Value} (ry : RelV v u) : KN (putN xs k b v) (storedH ys k b u) := by
  unfold putN storedH
  rw [r.any k]
  by_cases q : (atKey ys k).isSome = true
  · rw [if_pos q, if_pos q]; exact r.repl k ry
  · rw [if_neg q, if_neg q]; exact Paired.snoc r ⟨rfl, rfl, ry⟩
theorem NkIs.put {H : Hp} {xs : List (NestedKey × Addr × V)} (h : NkIs H xs) {k : NestedKey} {b : Addr} (hk : NkAt H k (.ref b)) (hd : k.depth ≤ 8) (v : V) : NkIs H (putN xs k b v) := by
  intro x hx
  unfold putN at hx
  split at hx
  · obtain ⟨y, hy, rfl⟩ := List.mem_map.mp hx
    split
    · exact h y hy
    · exact h y hy
  · rcases List.mem_append.mp hx with hx | hx
    · exact h x hx
    · rw [List.mem_singleton.mp hx]; exact ⟨hk, hd⟩
def DGetN (H : Hp) (a : Addr) (y : V) (r : Option V) : Prop := ∃ xs k b, H a = some (dictN a xs) ∧ y = .ref b ∧ NkAt H k (.ref b) ∧ k.depth ≤ 8 ∧ NkIs H xs ∧ r = valN xs k
def DPutN (H : Hp) (a : Addr) (y v : V) (H' : Hp) : Prop := ∃ xs k b, H a = some (dictN a xs) ∧ y = .ref b ∧ NkAt H k (.ref b) ∧ k.depth ≤ 8 ∧ NkIs H xs ∧ xs.length < sizeLine ∧ H' = upd H a (dictN a (putN xs k b v))
def DG (H : Hp) (a : Addr) (y : V) (r : Option V) : Prop := DGet H a y r ∨ DGetN H a y r
def DP (H : Hp) (a : Addr) (y v : V) (H' : Hp) : Prop := DPut H a y v H' ∨ DPutN H a y v H'
section
variable {X : Cx} {pins : List (Addr × Obj)} {σ : L2.St} {H : Hp} {s : Shared} {a : Addr} {y v : V} {u r : Value} {o : Option V} {A : Around} {E : Value → Shared → Prop}
end
section
variable {X : Cx} {o i e value : Expr} {pos pos' tpos : Pos} {td ty tv : TE}
def tDG (td ty : TE) : TE := fun σ H Q => td σ H fun x H1 => ty σ H1 fun y H2 => ∃ a v, x = .ref a ∧ DG H2 a y (some v) ∧ Q v H2
def sDP (td ty tv : TE) : TS := fun D σ H => tv σ H fun v H1 => td σ H1 fun x H2 => ty σ H2 fun y H3 => ∃ a H4, x = .ref a ∧ DP H3 a y v H4 ∧ D.nx σ H4
def tDNewN : TE := fun _ H Q => ∀ p, H p = none → Q (.ref p) (upd H p (dictN p []))
end
end Dv

namespace Dv
open PySem PySem.Spec PyProof.Rows L2 Evl
theorem units9 {k : Nat} {A : Around} (r : Room k A) : A.units + 9 < cLine := by have := r.un; omega
section
variable {κ : Type} [DecidableEq κ] {α β : Type}
def valA (l : List (κ × α)) (k : κ) : Option α := (l.find? fun e => decide (e.1 = k)).map (·.2)
def putA (l : List (κ × α)) (k : κ) (v : α) : List (κ × α) :=
  if (l.any fun e => decide (e.1 = k)) = true then l.map (fun e => if e.1 = k then (e.1, v) else e) else l ++ [(k, v)]
def plA : List κ → κ → Option Nat
  | [], _ => none
  | x :: l, k => if x = k then some 0 else (plA l k).map (· + 1)
theorem valA_cons (e : κ × α) (l : List (κ × α)) (k : κ) : valA (e :: l) k = if e.1 = k then some e.2 else valA l k := by
  unfold valA
  rw [List.find?_cons]
  by_cases h : e.1 = k
  · simp [h]
  · simp [h]
theorem plA_none : ∀ {l : List κ} {k : κ}, plA l k = none ↔ k ∉ l
  | [], _ => by simp [plA]
  | x :: l, k => by
    unfold plA
    by_cases h : x = k
    · simp [h]
    · rw [if_neg h, Option.map_eq_none_iff, plA_none]
      simp [h, Ne.symm h]
theorem anyA (l : List (κ × α)) (k : κ) : (l.any fun e => decide (e.1 = k)) = (plA (l.map (·.1)) k).isSome := by
  induction l with
  | nil => rfl
  | cons e l ih =>
    rw [List.any_cons, ih, List.map_cons]
    have e2 : plA (e.1 :: l.map (·.1)) k = if e.1 = k then some 0 else (plA (l.map (·.1)) k).map (· + 1) := rfl
    rw [e2]
    by_cases h : e.1 = k
    · simp [h]
    · rw [if_neg h]; simp [h]
theorem putA_none {l : List (κ × α)} {k : κ} (v : α) (h : plA (l.map (·.1)) k = none) : putA l k v = l ++ [(k, v)] := by
  unfold putA
  rw [anyA, h]
  rfl
theorem putA_map : ∀ {l : List (κ × α)} {k : κ} {j : Nat} (v : α), (l.map (·.1)).Nodup → plA (l.map (·.1)) k = some j →
    (l.map fun e => if e.1 = k then (e.1, v) else e).map (·.1) = l.map (·.1) ∧ (l.map fun e => if e.1 = k then (e.1, v) else e).map (·.2) = (l.map (·.2)).set j v
  | [], _, _, _, _, h => by cases h
  | e :: l, k, j, v, nd, h => by
    rw [List.map_cons] at nd h
    obtain ⟨n1, n2⟩ := List.nodup_cons.mp nd
    unfold plA at h
    by_cases hk : e.1 = k
    · rw [if_pos hk] at h
      cases h
      have : ∀ e' ∈ l, ¬ e'.1 = k := fun e' he z => n1 (List.mem_map.mpr ⟨e', he, by rw [z, hk]⟩)
      have e2 : (l.map fun e => if e.1 = k then (e.1, v) else e) = l := by
        conv => rhs; rw [← List.map_id l]
        exact List.map_congr_left fun e' he => by rw [if_neg (this e' he)]; rfl
      rw [List.map_cons, e2, if_pos hk]
      exact ⟨rfl, rfl⟩
    · rw [if_neg hk] at h
      obtain ⟨i, hi, rfl⟩ := Option.map_eq_some_iff.mp h
      obtain ⟨h1, h2⟩ := putA_map v n2 hi
      rw [List.map_cons, if_neg hk, List.map_cons, List.map_cons, List.map_cons, List.map_cons, h1, h2]
      exact ⟨rfl, rfl⟩
theorem putA_some {l : List (κ × α)} {k : κ} {j : Nat} (v : α) (nd : (l.map (·.1)).Nodup) (h : plA (l.map (·.1)) k = some j) :
    (putA l k v).map (·.1) = l.map (·.1) ∧ (putA l k v).map (·.2) = (l.map (·.2)).set j v := by
  have : putA l k v = l.map fun e => if e.1 = k then (e.1, v) else e := by
    unfold putA
    rw [anyA, h]
    rfl
  rw [this]
  exact putA_map v nd h
end
def dkey : D → Option Key
  | .int i => some (.inl i)
  | .str x => some (.inr x)
  | _ => none
def dkeys : List D → Option (List Key)
  | [] => some []
  | d :: ds => match dkey d, dkeys ds with
    | some k, some ks => some (k :: ks)
    | _, _ => none
def tkey : D → Option (List Key)
  | .tup ds => dkeys ds
  | _ => none
mutual
def nkey : D → Option NestedKey
  | .int i => some (.num i)
  | .tup ds => (nkeys ds).map .tup
  | _ => none
def nkeys : List D → Option (List NestedKey)
  | [] => some []
  | d :: ds => match nkey d, nkeys ds with
    | some k, some ks => some (k :: ks)
    | _, _ => none
end
def ukey : D → Option NestedKey
  | .tup ds => match nkeys ds with
    | some ks => if (NestedKey.tup ks).depth ≤ 8 then some (.tup ks) else none
    | none => none
  | _ => none
def lookD : D → D → Option (Option D)
  | .dK kd, k => (dkey k).map (valA kd)
  | .dT kd, k => (tkey k).map (valA kd)
  | .dN kd, k => (ukey k).map (valA kd)
  | _, _ => none
def putD : D → D → D → Option D
  | .dK kd, k, v => match dkey k with
    | some kk => if kd.length < 1000000 ∧ (kd.map (·.1)).Nodup then some (.dK (putA kd kk v)) else none
    | none => none
  | .dT kd, k, v => match tkey k with
    | some kk => if kd.length < 1000000 ∧ (kd.map (·.1)).Nodup then some (.dT (putA kd kk v)) else none
    | none => none
  | .dN kd, k, v => match ukey k with
    | some kk => if kd.length < 1000000 ∧ (kd.map (·.1)).Nodup then some (.dN (putA kd kk v)) else none
    | none => none
  | _, _, _ => none
section
variable {K : PySem.W.Frag} {W : WW} {G H B : Hp}
mutual
theorem nkey_v {G H : Hp} : ∀ {y : V} {d : D} {k : NestedKey}, Re K G H y d → nkey d = some k → NkAt H k y
  | _, _, k, .int i, e => by
    have e : some (NestedKey.num i) = some k := by simpa only [nkey] using e
    cases e; exact .num i
  | _, _, k, .tup (ds := ds) hp hr, e => by
    obtain ⟨ks, h1, rfl⟩ := Option.map_eq_some_iff.mp (show (nkeys ds).map NestedKey.tup = some k by simpa only [nkey] using e)
    exact .tup hp (nkeys_v hr h1)
  | _, _, _, .non, e => by simp [nkey] at e
  | _, _, _, .bl _, e => by simp [nkey] at e
  | _, _, _, .str _, e => by simp [nkey] at e
  | _, _, _, .lst _ _, e => by simp [nkey] at e
  | _, _, _, .sc _ _, e => by simp [nkey] at e
  | _, _, _, .dk _ _ _, e => by simp [nkey] at e
  | _, _, _, .dt _ _ _, e => by simp [nkey] at e
  | _, _, _, .dn _ _ _ _, e => by simp [nkey] at e
  | _, _, _, .dtF _ _ _, e => by simp [nkey] at e
  | _, _, _, .dkF _ _ _ _, e => by simp [nkey] at e
  | _, _, _, .xc _ _ _, e => by simp [nkey] at e
  | _, _, _, .ob _ _ _, e => by simp [nkey] at e
theorem nkeys_v {G H : Hp} : ∀ {vs : List V} {ds : List D} {ks : List NestedKey}, ReL K G H vs ds → nkeys ds = some ks → NkAll H ks vs
  | _, _, k, .nil, e => by
    have e : some [] = some k := by simpa only [nkeys] using e
    cases e; exact .nil
  | _, _, kk, .cons (d := d) (ds := ds) a b, e => by
    have e : (match nkey d, nkeys ds with
      | some k, some ks => some (k :: ks)
      | _, _ => none) = some kk := by simpa only [nkeys] using e
    split at e
    · rename_i k ks h1 h2
      cases e
      exact .cons (nkey_v a h1) (nkeys_v b h2)
    · cases e
end
def ORe (K : PySem.W.Frag) (G H : Hp) : Option V → Option D → Prop
  | some v, some d => Re K G H v d
  | none, none => True
  | _, _ => False
abbrev rDGet : R2 := fun x y H Q => ∃ a v, x = .ref a ∧ DG H a y (some v) ∧ Q v H
abbrev rDIn : R2 := fun y x H Q => ∃ a o, x = .ref a ∧ DG H a y o ∧ Q (.bl o.isSome) H
abbrev rDNin : R2 := fun y x H Q => ∃ a o, x = .ref a ∧ DG H a y o ∧ Q (.bl (!o.isSome)) H
def fDGet (d k : D) : Option D := match lookD d k with
  | some (some e) => some e
  | _ => none
def fDIn (k d : D) : Option D := (lookD d k).map fun o => .bl o.isSome
def fDNin (k d : D) : Option D := (lookD d k).map fun o => .bl (!o.isSome)
theorem ORe.isSome {r : Option V} {o : Option D} (h : ORe K G H r o) : r.isSome = o.isSome := by
  cases r <;> cases o <;> first | rfl | exact h.elim
end
section
variable {X : Cx} {K : PySem.W.Frag} {W : WW} {pos : Pos} {a b : Expr} {ta tb : TE} {da db : DE D}
end
end Dv

namespace Dv
open PySem PySem.Spec PyProof.Rows L2 Evl
section
variable {K : PySem.W.Frag} {W : WW} {B H H' : Hp} {σ : L2.St} {s : SD} {Fs : List (List Addr)} {i : Nat} {E : List Addr}
theorem tk_ne {H : Hp} {p : Addr} {o o' : HO} (hp : H p = some o) (h1 : ∀ xs, o ≠ .tup xs) (h2 : ∀ x u, o ≠ .frz x u) : Tk H (upd H p o') :=
  ⟨fun q zs h => by rw [upd_ne (ne_of h hp (fun z => h1 zs z.symm))]; exact h, fun q x u h => by rw [upd_ne (ne_of h hp (fun z => h2 x u z.symm))]; exact h⟩
end
end Dv

namespace Dv
open PySem PySem.Spec PyProof.Rows L2 Evl
def isDct : D → Bool
  | .dK _ => true
  | .dT _ => true
  | _ => false
def sDSet (i : Nat) (dk : DE D) (c : DE (D × Ow)) : DS := fun s => match c s with
  | some (.ok (e, eo) s1) => if (s1[i]?).join.isSome = true then match dk s1 with
      | some (.ok k s2) => match s2[i]? with
        | some (some (d, .full)) => if eo = .full then (putD d k e).map fun d' => .next (s2.set i (some (d', .full))) else none
        | _ => none
      | some (.exc x s2) => some (.exc x s2)
      | none => none
    else none
  | some (.exc x s1) => some (.exc x s1)
  | none => none
section
variable {K : PySem.W.Frag} {W : WW} {tk te td ty tx : TE} {dk dz : DE D} {c cz : DE (D × Ow)} {i : Nat}
def sDApp (i : Nat) (dk : DE D) (c : DE (D × Ow)) : DS := fun s => if (s[i]?).join.isSome = true then match dk s with
  | some (.ok k s1) => match s1[i]? with
    | some (some (d, .full)) => match lookD d k with
      | some (some (.lst _)) => if isDct d = true then match c s1 with
        | some (.ok (e, eo) s2) => match s2[i]? with
          | some (some (d2, .full)) => match lookD d2 k with
            | some (some (.lst ds)) => if (eo = .full ∧ ds.length < 1000000) ∧ isDct d2 = true then (putD d2 k (.lst (ds ++ [e]))).map fun d' => .next (s2.set i (some (d', .full))) else none
            | _ => none
          | _ => none
        | some (.exc x s2) => some (.exc x s2)
        | none => none
        else none
      | _ => none
    | _ => none
  | some (.exc x s1) => some (.exc x s1)
  | none => none
  else none
def bDGet2 (da dk dz : DE D) : DE D := fun s => match da s with
  | some (.ok d s1) => if isDct d = true then match dk s1 with
      | some (.ok k s2) => match dz s2 with
        | some (.ok z s3) => (lookD d k).map fun o => .ok (o.getD z) s3
        | some (.exc x s3) => some (.exc x s3)
        | none => none
      | some (.exc x s2) => some (.exc x s2)
      | none => none
    else none
  | some (.exc x s1) => some (.exc x s1)
  | none => none
def cDGet2 (c : DE (D × Ow)) (dk : DE D) (cz : DE (D × Ow)) : DE (D × Ow) := fun s => match c s with
  | some (.ok (d, .no) s1) => if isDct d = true then match dk s1 with
      | some (.ok k s2) => match cz s2 with
        | some (.ok (z, _) s3) => (lookD d k).map fun o => .ok (o.getD z, .no) s3
        | some (.exc x s3) => some (.exc x s3)
        | none => none
      | some (.exc x s2) => some (.exc x s2)
      | none => none
    else none
  | some (.exc x s1) => some (.exc x s1)
  | _ => none
def keyD : Key → D
  | .inl i => .int i
  | .inr x => .str x
def rListT : List V → Hp → VK → Prop := fun xs H Q => ∃ d kvs, xs = [V.ref d] ∧ Rd H d (.dT kvs) ∧ ∀ p bs, H p = none → IsKeys H kvs bs → Q (.ref p) (upd H p (.lst (bs.map V.ref)))
def cListT (dr : DE (List D)) : DE (D × Ow) := bnd dr fun ds s => match ds with
  | [.dT kd] => some (mkL (kd.map fun e => D.tup (e.1.map keyD)) s)
  | _ => none
end
section
variable {X : Cx} {K : PySem.W.Frag} {W : WW} {pos spos cpos apos p : Pos} {a b e f : Expr} {es : List Expr} {t : TA} {dA : DE (List D)} {ta tb te tk : TE} {da db dk dz : DE D} {ca cz : DE (D × Ow)}
end
end Dv

namespace Dv
open PySem PySem.Spec PyProof.Rows L2 Evl
def tDisp1 (tk tv : TE) : TE := fun σ H Q => ∀ p, H p = none → tk σ (upd H p (.dT [])) fun y H1 => tv σ H1 fun v H2 => H2 p = some (.dT []) ∧ ∃ b k, y = .ref b ∧ H2 b = some (.tup (k.map kV)) ∧ Q (.ref p) (upd H2 p (.dT [(k, v)]))
section
variable {K : PySem.W.Frag} {W : WW} {tk te : TE} {dk : DE D} {c : DE (D × Ow)} {B H : Hp} {σ : L2.St} {s : SD} {Fs : List (List Addr)}
def cDisp1 (dk : DE D) (c : DE (D × Ow)) : DE (D × Ow) := fun s => match dk s with
  | some (.ok k s1) => match tkey k with
    | some kk => match c s1 with
      | some (.ok (e, .full) s2) => some (.ok (.dT [(kk, e)], .full) s2)
      | some (.exc x s2) => some (.exc x s2)
      | _ => none
    | none => none
  | some (.exc x s1) => some (.exc x s1)
  | none => none
end
section
variable {X : Cx} {K : PySem.W.Frag} {W : WW} {pos : Pos} {k e : Expr} {te tk : TE} {dk : DE D} {ca : DE (D × Ow)}
end
end Dv

namespace Dv
open PySem PySem.Spec PyProof.Rows L2 Evl
def cDNewN : DE (D × Ow) := fun s => some (.ok (.dN [], .full) s)
section
variable {K : PySem.W.Frag} {W : WW}
end
section
variable {X : Cx} {K : PySem.W.Frag} {W : WW} {pos : Pos}
end
end Dv

namespace Dv
open PySem PySem.Spec PyProof.Rows L2 Evl
def cLate (i : Nat) (dr : DE (List D × Bool)) : DE (List D × Bool) := fun s => match s[i]? with
  | some (some _) => match dr s with
    | some (.ok (ds, fu) s1) => match s1[i]? with
      | some (some (d, .full)) => if fu = true then some (.ok (d :: ds, true) (s1.set i none)) else none
      | _ => none
    | some (.exc c s1) => some (.exc c s1)
    | none => none
  | _ => none
section
variable {K : PySem.W.Frag} {W : WW} {tr : TA} {dr : DE (List D × Bool)} {i : Nat}
end
section
variable {X : Cx} {K : PySem.W.Frag} {W : WW} {es : List Expr} {x : Str} {p : Pos} {t : TA} {dL : DE (List D × Bool)}
end
end Dv

namespace Dv
open PySem PySem.Spec PyProof.Rows L2 Evl
def tFrz (t : TS) : TS := fun D σ H => ∃ d u, H d = some u ∧ Mut (some u) ∧ ∀ od, t D σ (upd H d (.frz od u))
def kIts (kd : List (List Key × D)) : List (D × Ow) := kd.map fun e => (D.tup (e.1.map keyD), Ow.full)
def sForD (i : Nat) (tg : DT) (body : DS) : DS := fun s => match s[i]? with
  | some (some (.dT kd, .full)) => goFor tg body (kIts kd) (s.set i (some (.dT kd, .no)))
  | _ => none
section
variable {K : PySem.W.Frag} {W : WW} {B H B1 H1 : Hp} {σ : L2.St} {s : SD} {Fs : List (List Addr)} {i : Nat} {L1 : List Addr} {g : L2.TG} {tb : TS} {tg : DT} {own : List Nat} {body : DS} {o : Out} {En : Ends} {items : List (D × Ow)}
end
section
variable {X : Cx} {K : PySem.W.Frag} {W : WW} {tg a : Expr} {g : L2.TG} {tgd : DT} {ow : List Nat} {body : List Stmt} {t1 : TS} {d1 : DS} {pos : Pos}
end
end Dv

namespace Dv
open PySem PySem.Spec PyProof.Rows L2 Evl
def JK (K : PySem.W.Frag) (W : WW) (ts : TS) (ds : DS) (own : List Nat) : Prop :=
  ∀ s s', ds s = some (.next s') → ∀ B H σ Fs, Rel K B H σ s Fs → ∀ En : Ends, (∀ σ' B' H' Fs', Rel K B' H' σ' s' Fs' → SS B H Fs.flatten B' H' Fs'.flatten → (∀ j, j ∉ own → σ'[j]? = σ[j]?) → En.nx σ' H') → ts En σ H
structure MT (K : PySem.W.Frag) (g : L2.TG) (put : D → SD → Option SD) (get : SD → Option (D × SD)) (ys : List Nat) : Prop where
  h : ∀ d s s1, put d s = some s1 → ∀ B H σ Fs v F, Rel K B H σ s Fs → Own K H v d F → (∀ a, w B a + (F ++ Fs.flatten).count a ≤ 1) → ∀ Q : L2.St → Hp → Prop,
    (∀ σ' Fs', Rel K B H σ' s1 Fs' → (∀ a, Fs'.flatten.count a ≤ (F ++ Fs.flatten).count a) → (∀ j, j ∉ ys → σ'[j]? = σ[j]?) →
      (∀ B3 H3 σ3 s2 Fs3 d' s3, Rel K B3 H3 σ3 s2 Fs3 → Tk H H3 → (∀ j, j ∈ ys → σ3[j]? = σ'[j]?) → get s2 = some (d', s3) → ∃ Fs4 F', Rel K B3 H3 σ3 s3 Fs4 ∧ Own K H3 v d' F' ∧ ∀ a, F'.count a + Fs4.flatten.count a ≤ Fs3.flatten.count a) → Q σ' H) → g v σ H Q
def goM (put : D → SD → Option SD) (get : SD → Option (D × SD)) (body : DS) : List D → List D → SD → Option (List D × SD)
  | [], acc, s => some (acc, s)
  | d :: r, acc, s => match put d s with
    | some s1 => match body s1 with
      | some (.next s2) => match get s2 with
        | some (d', s3) => goM put get body r (acc ++ [d']) s3
        | none => none
      | _ => none
    | none => none
def sForM (f : Nat) (put : D → SD → Option SD) (get : SD → Option (D × SD)) (body : DS) : DS := fun s => match s[f]? with
  | some (some (.lst ds, .full)) => match goM put get body ds [] (s.set f none) with
    | some (ds', s') => if f < s'.length then some (.next (s'.set f (some (.lst ds', .full)))) else none
    | none => none
  | _ => none
section
variable {K : PySem.W.Frag} {W : WW} {B H B1 H1 B' H' : Hp} {L L1 L2' : List Addr} {σ : L2.St} {s : SD} {Fs : List (List Addr)} {te : TE} {t u : TS} {a b body : DS} {g : L2.TG} {put : D → SD → Option SD} {get : SD → Option (D × SD)} {ys own own2 : List Nat} {tt : TT} {dt : DE Bool}
theorem SS.pend {P : List Addr} (x : SS B H L B1 H1 L1) : SS B H (P ++ L) B1 H1 (P ++ L1) := by
  refine ⟨x.exB, x.tk, fun a h z => x.keep a h ?_, x.live, fun a h => ?_⟩
  · rw [List.count_append] at z; omega
  · have := x.wt a h
    rw [List.count_append, List.count_append]; omega
def MP (K : PySem.W.Frag) (put : D → SD → Option SD) (get : SD → Option (D × SD)) (body : DS) (own : List Nat) (res : List D × SD) (B1 H1 : Hp) (L1 : List Addr) (p : Addr) (vs : List V) (ds : List D) (σ0 : L2.St) (k : Nat) (σ : L2.St) (H : Hp) : Prop :=
  ∃ B' Fs' s' acc Fd Fr, Rel K B' H σ s' Fs' ∧ H p = some (.lst vs) ∧ OwnL K H (vs.take k) acc Fd ∧ OwnL K H (vs.drop k) (ds.drop k) Fr ∧ (∀ a, w B' a + ((p :: (Fd ++ Fr)) ++ Fs'.flatten).count a ≤ 1) ∧ SS B1 H1 L1 B' H ((p :: (Fd ++ Fr)) ++ Fs'.flatten) ∧
    (∀ j, j ∉ own → σ[j]? = σ0[j]?) ∧ goM put get body (ds.drop k) acc s' = some res
def put1 (y : Nat) (d : D) (s : SD) : Option SD := if y < s.length then some (s.set y (some (d, .full))) else none
def get1 (y : Nat) (s : SD) : Option (D × SD) := match s[y]? with
  | some (some (d, .full)) => some (d, s.set y none)
  | _ => none
def put2 (y z : Nat) (d : D) (s : SD) : Option SD := match d with
  | .tup [a, b] => if y < s.length ∧ z < s.length ∧ y ≠ z then some ((s.set y (some (a, .full))).set z (some (b, .full))) else none
  | _ => none
def get2 (y z : Nat) (s : SD) : Option (D × SD) := match s[y]?, s[z]? with
  | some (some (a, .full)), some (some (b, .full)) => some (.tup [a, b], (s.set y none).set z none)
  | _, _ => none
end
structure QK (X : Cx) (K : PySem.W.Frag) (W : WW) (st : Stmt) (t : TS) (d : DS) (own : List Nat) : Prop where
  hk : X.K = K
  p : PS X st t
  j : JK K W t d own
structure QKs (X : Cx) (K : PySem.W.Frag) (W : WW) (st : List Stmt) (t : TS) (d : DS) (own : List Nat) : Prop where
  hk : X.K = K
  p : PSs X st t
  j : JK K W t d own
structure QM (X : Cx) (K : PySem.W.Frag) (e : Expr) (g : L2.TG) (put : D → SD → Option SD) (get : SD → Option (D × SD)) (ys : List Nat) : Prop where
  hk : X.K = K
  p : PG X e g
  m : MT K g put get ys
section
variable {X : Cx} {K : PySem.W.Frag} {W : WW} {tg a c e : Expr} {es : List Expr} {g : L2.TG} {tgd : DT} {ow own own2 ys : List Nat} {st : Stmt} {body orelse rest : List Stmt} {te : TE} {t1 t2 : TS} {d1 d2 : DS} {pos : Pos} {tt : TT} {dt : DE Bool} {put : D → SD → Option SD} {get : SD → Option (D × SD)}
end
end Dv

namespace Dv
open Enc (enc)
open PySem L2
section
variable {κ κ' α β : Type} [DecidableEq κ] [DecidableEq κ']
theorem valA_map (f : κ → κ') (hf : ∀ a b, f a = f b → a = b) (g : α → β) : ∀ (l : List (κ × α)) (k : κ), valA (l.map fun e => (f e.1, g e.2)) (f k) = (valA l k).map g
  | [], k => rfl
  | e :: l, k => by
    rw [List.map_cons, valA_cons, valA_cons, valA_map f hf g l k]
    by_cases h : e.1 = k
    · rw [if_pos h, if_pos (by rw [h])]; rfl
    · rw [if_neg h, if_neg fun z => h (hf _ _ z)]
theorem putA_mp (f : κ → κ') (hf : ∀ a b, f a = f b → a = b) (g : α → β) (l : List (κ × α)) (k : κ) (v : α) : putA (l.map fun e => (f e.1, g e.2)) (f k) (g v) = (putA l k v).map fun e => (f e.1, g e.2) := by
  have e1 : ((l.map fun e => (f e.1, g e.2)).any fun e => decide (e.1 = f k)) = l.any fun e => decide (e.1 = k) := by
    rw [List.any_map]
    congr 1
    funext e
    show decide (f e.1 = f k) = decide (e.1 = k)
    exact decide_eq_decide.mpr ⟨hf _ _, fun z => by rw [z]⟩
  unfold putA
  rw [e1]
  split
  · rw [List.map_map, List.map_map]
    refine List.map_congr_left fun e _ => ?_
    show (if f e.1 = f k then (f e.1, g v) else (f e.1, g e.2)) = _
    by_cases h : e.1 = k
    · simp [h]
    · have : ¬ f e.1 = f k := fun z => h (hf _ _ z)
      simp [h, this]
  · simp
theorem nodup_map (f : κ → κ') (hf : ∀ a b, f a = f b → a = b) : ∀ {l : List κ}, l.Nodup → (l.map f).Nodup
  | [], _ => List.nodup_nil
  | a :: l, h => by
    obtain ⟨h1, h2⟩ := List.nodup_cons.mp h
    rw [List.map_cons]
    refine List.nodup_cons.mpr ⟨fun m => ?_, nodup_map f hf h2⟩
    obtain ⟨b, hb, e⟩ := List.mem_map.mp m
    exact h1 (hf _ _ e ▸ hb)
theorem putA_nodup {l : List (κ × α)} {k : κ} {v : α} (h : (l.map (·.1)).Nodup) : ((putA l k v).map (·.1)).Nodup := by
  cases e : plA (l.map (·.1)) k with
  | some j => rw [(putA_some v h e).1]; exact h
  | none =>
    rw [putA_none v e, List.map_append]
    refine List.nodup_append.mpr ⟨h, by simp, ?_⟩
    intro a ha b hb z
    simp only [List.map_cons, List.map_nil, List.mem_singleton] at hb
    rw [z, hb] at ha
    exact plA_none.mp e ha
end
theorem dkey_D : ∀ k : Key, dkey (keyD k) = some k
  | .inl _ => rfl
  | .inr _ => rfl
theorem dkeys_D : ∀ ks : List Key, dkeys (ks.map keyD) = some ks
  | [] => rfl
  | k :: ks => by
    rw [List.map_cons]
    unfold dkeys
    rw [dkey_D, dkeys_D ks]
theorem imm_keyD : ∀ k : Key, imm (keyD k) = true
  | .inl _ => rfl
  | .inr _ => rfl
theorem immL_keys : ∀ ks : List Key, immL (ks.map keyD) = true
  | [] => rfl
  | k :: ks => by simp [immL, imm_keyD, immL_keys ks]
class KyT (κ : Type) [Enc κ] where
  kt : κ → List Key
  inj : ∀ a b, kt a = kt b → a = b
  tup : ∀ a : κ, enc a = .tup ((kt a).map keyD)
class KyK (κ : Type) [Enc κ] where
  kk : κ → Key
  inj : ∀ a b, kk a = kk b → a = b
  key : ∀ a : κ, enc a = keyD (kk a)
class Ky (κ : Type) [Enc κ] [DecidableEq κ] where
  dd : List (κ × D) → D
  look : ∀ l k, lookD (dd l) (enc k) = some (valA l k)
  put : ∀ l k v, l.length < 1000000 → (l.map (·.1)).Nodup → putD (dd l) (enc k) v = some (dd (putA l k v))
  ni : ∀ l, imm (dd l) = false
  ky : ∀ k : κ, imm (enc k) = true
theorem map_fst_map {κ κ' α : Type} (f : κ → κ') (l : List (κ × α)) : ((l.map fun e => (f e.1, e.2)).map (·.1)) = (l.map (·.1)).map f := by rw [List.map_map, List.map_map]; rfl
instance {κ : Type} [Enc κ] [DecidableEq κ] [KyT κ] : Ky κ where
  dd l := .dT (l.map fun e => (KyT.kt e.1, e.2))
  look l k := by
    rw [KyT.tup]
    show (dkeys _).map _ = _
    rw [dkeys_D]
    show some _ = some _
    rw [valA_map KyT.kt KyT.inj (fun x : D => x)]
    simp
  put l k v hl nd := by
    rw [KyT.tup]
    show (match dkeys _ with
      | some kk => if _ then some (D.dT (putA _ kk v)) else none
      | none => none) = _
    rw [dkeys_D]
    simp only [List.length_map, hl, true_and]
    rw [map_fst_map, if_pos (nodup_map _ KyT.inj nd), putA_mp KyT.kt KyT.inj (fun x : D => x)]
  ni _ := rfl
  ky k := by rw [KyT.tup]; simp only [imm]; exact immL_keys _
instance {κ : Type} [Enc κ] [DecidableEq κ] [KyK κ] : Ky κ where
  dd l := .dK (l.map fun e => (KyK.kk e.1, e.2))
  look l k := by
    rw [KyK.key]
    show (dkey _).map _ = _
    rw [dkey_D]
    show some _ = some _
    rw [valA_map KyK.kk KyK.inj (fun x : D => x)]
    simp
  put l k v hl nd := by
    rw [KyK.key]
    show (match dkey _ with
      | some kk => if _ then some (D.dK (putA _ kk v)) else none
      | none => none) = _
    rw [dkey_D]
    simp only [List.length_map, hl, true_and]
    rw [map_fst_map, if_pos (nodup_map _ KyK.inj nd), putA_mp KyK.kk KyK.inj (fun x : D => x)]
  ni _ := rfl
  ky k := by rw [KyK.key]; exact imm_keyD _
class KyD (κ : Type) [Enc κ] [DecidableEq κ] [Ky κ] : Prop where
  dct : ∀ l, isDct (Ky.dd (κ := κ) l) = true
instance {κ : Type} [Enc κ] [DecidableEq κ] [KyT κ] : KyD κ := ⟨fun _ => rfl⟩
instance {κ : Type} [Enc κ] [DecidableEq κ] [KyK κ] : KyD κ := ⟨fun _ => rfl⟩
class KnE (κ : Type) [Enc κ] where
  kn : κ → NestedKey
  inj : ∀ a b, kn a = kn b → a = b
  nk : ∀ a : κ, nkey (enc a) = some (kn a)
  im : ∀ a : κ, imm (enc a) = true
class KyN (κ : Type) [Enc κ] where
  kn : κ → List NestedKey
  inj : ∀ a b, kn a = kn b → a = b
  es : κ → List D
  en : ∀ a : κ, enc a = .tup (es a)
  nk : ∀ a : κ, nkeys (es a) = some (kn a)
  dp : ∀ a : κ, (NestedKey.tup (kn a)).depth ≤ 8
  im : ∀ a : κ, imm (enc a) = true
theorem ukey_enc {κ : Type} [Enc κ] [KyN κ] (a : κ) : ukey (enc a) = some (.tup (KyN.kn a)) := by
  rw [KyN.en]
  show (match nkeys (KyN.es a) with
    | some ks => if (NestedKey.tup ks).depth ≤ 8 then some (NestedKey.tup ks) else none
    | none => none) = _
  rw [KyN.nk]
  simp only
  rw [if_pos (KyN.dp a)]
theorem tup_inj {a b : List NestedKey} (h : NestedKey.tup a = NestedKey.tup b) : a = b := by cases h; rfl
instance {κ : Type} [Enc κ] [DecidableEq κ] [KyN κ] : Ky κ where
  dd l := .dN (l.map fun e => (.tup (KyN.kn e.1), e.2))
  look l k := by
    show (ukey _).map _ = _
    rw [ukey_enc]
    show some _ = some _
    rw [valA_map (fun k : κ => NestedKey.tup (KyN.kn k)) (fun a b h => KyN.inj a b (tup_inj h)) (fun x : D => x)]
    simp
  put l k v hl nd := by
    show (match ukey _ with
      | some kk => if _ then some (D.dN (putA _ kk v)) else none
      | none => none) = _
    rw [ukey_enc]
    simp only [List.length_map, hl, true_and]
    rw [map_fst_map (fun k : κ => NestedKey.tup (KyN.kn k)), if_pos (nodup_map _ (fun a b h => KyN.inj a b (tup_inj h)) nd), putA_mp (fun k : κ => NestedKey.tup (KyN.kn k)) (fun a b h => KyN.inj a b (tup_inj h)) (fun x : D => x)]
  ni _ := rfl
  ky k := KyN.im k
instance : KyK Int := ⟨Sum.inl, fun _ _ h => Sum.inl.inj h, fun _ => rfl⟩
instance : KyK Str := ⟨Sum.inr, fun _ _ h => Sum.inr.inj h, fun _ => rfl⟩
instance {α β : Type} [Enc α] [Enc β] [KyK α] [KyK β] : KyT (α × β) where
  kt p := [KyK.kk p.1, KyK.kk p.2]
  inj a b h := by
    simp only [List.cons.injEq, and_true] at h
    exact Prod.ext (KyK.inj _ _ h.1) (KyK.inj _ _ h.2)
  tup a := by
    show D.tup [enc a.1, enc a.2] = _
    rw [KyK.key, KyK.key]; rfl
theorem map_inj {α β : Type} {f : α → β} (hf : ∀ a b, f a = f b → a = b) : ∀ {l m : List α}, l.map f = m.map f → l = m
  | [], [], _ => rfl
  | [], _ :: _, h => by simp at h
  | _ :: _, [], h => by simp at h
  | a :: l, b :: m, h => by
    simp only [List.map_cons, List.cons.injEq] at h
    rw [hf _ _ h.1, map_inj hf h.2]
instance {α : Type} [Enc α] [KyK α] : KyT (Tv α) where
  kt t := t.l.map KyK.kk
  inj a b h := by
    cases a; cases b
    simp only [Tv.mk.injEq]
    exact map_inj KyK.inj h
  tup a := by
    show D.tup (a.l.map enc) = _
    rw [List.map_map]
    congr 1
    exact List.map_congr_left fun x _ => KyK.key x
structure Dc (κ α : Type) where
  l : List (κ × α)
  nd : (l.map (·.1)).Nodup
instance {κ α : Type} [DecidableEq κ] [Enc κ] [Ky κ] [Enc α] : Enc (Dc κ α) := ⟨fun d => Ky.dd (d.l.map fun e => (e.1, enc e.2))⟩
section
variable {κ α β τ σ : Type} [DecidableEq κ] [Enc κ] [Ky κ] [Enc α] [Enc β] {ps ps1 ps2 ps3 : List Pt} {da db dk dz : DE D} {ca cz : DE (D × Ow)} {rest : DS} {Φ : τ → Out → Prop} {c : Oc}
def dgR (d : Dc κ α) (k : κ) : R α := ofO (valA d.l k)
def dhas (d : Dc κ α) (k : κ) : Bool := (valA d.l k).isSome
def dget2 (d : Dc κ α) (k : κ) (z : α) : α := (valA d.l k).getD z
def dput (d : Dc κ α) (k : κ) (v : α) : Dc κ α := ⟨putA d.l k v, putA_nodup d.nd⟩
noncomputable def dputR (d : Dc κ α) (k : κ) (v : α) : R (Dc κ α) := okIf (d.l.length < 1000000) (dput d k v)
noncomputable def dappR (d : Dc κ (List α)) (k : κ) (v : α) : R (Dc κ (List α)) := R.bind (dgR d k) fun l => R.bind (appR l v) fun l' => dputR d k l'
def dkeysL (d : Dc κ α) : List κ := d.l.map (·.1)
def dnew : Dc κ α := ⟨[], List.nodup_nil⟩
def done (k : κ) (v : α) : Dc κ α := ⟨[(k, v)], List.nodup_cons.mpr ⟨by simp, List.nodup_nil⟩⟩
theorem imm_dc (d : Dc κ α) : imm (enc d) = false := Ky.ni _
end
section
variable {κ α : Type} [DecidableEq κ] [Enc κ] [Enc α] {ps ps1 ps2 : List Pt} {dk : DE D} {ca : DE (D × Ow)}
end
section
variable {α β : Type} [Enc α] [Enc β] [KnE α] [KnE β]
instance : KnE Int := ⟨.num, fun _ _ h => by cases h; rfl, fun a => by show nkey (.int a) = _; simp [nkey], fun _ => rfl⟩
theorem nkeys_map (l : List α) : nkeys (l.map enc) = some (l.map KnE.kn) := by
  induction l with
  | nil => simp [nkeys]
  | cons a l ih => simp [nkeys, ih, KnE.nk]
theorem immL_mapN (l : List α) : immL (l.map (enc : α → D)) = true := by
  induction l with
  | nil => rfl
  | cons a l ih => simp [immL, ih, KnE.im]
theorem dep_ints : ∀ l : List Int, NestedKey.depthAll (l.map (KnE.kn : Int → NestedKey)) = 0
  | [] => rfl
  | a :: l => by
    rw [List.map_cons, NestedKey.depthAll, dep_ints l]
    rfl
instance : KyN (Tv Int × Tv Int) where
  kn p := [.tup (p.1.l.map KnE.kn), .tup (p.2.l.map KnE.kn)]
  inj a b h := by
    simp only [List.cons.injEq, NestedKey.tup.injEq, and_true] at h
    obtain ⟨⟨a1⟩, ⟨a2⟩⟩ := a
    obtain ⟨⟨b1⟩, ⟨b2⟩⟩ := b
    have h1 := map_inj (KnE.inj (κ := Int)) h.1
    have h2 := map_inj (KnE.inj (κ := Int)) h.2
    simp only at h1 h2
    rw [h1, h2]
  es p := [.tup (p.1.l.map enc), .tup (p.2.l.map enc)]
  en _ := rfl
  nk p := by simp [nkeys, nkey, nkeys_map]
  dp p := by
    simp only [NestedKey.depth, NestedKey.depthAll, dep_ints]
    decide
  im p := by
    show immL [D.tup (p.1.l.map enc), D.tup (p.2.l.map enc)] = true
    simp [immL, imm, immL_mapN]
instance : KyN (Int × Tv Int) where
  kn p := [.num p.1, .tup (p.2.l.map KnE.kn)]
  inj a b h := by
    simp only [List.cons.injEq, NestedKey.tup.injEq, NestedKey.num.injEq, and_true] at h
    obtain ⟨a1, ⟨a2⟩⟩ := a
    obtain ⟨b1, ⟨b2⟩⟩ := b
    have h2 := map_inj (KnE.inj (κ := Int)) h.2
    simp only at h
    simp only at h2
    rw [h.1, h2]
  es p := [.int p.1, .tup (p.2.l.map enc)]
  en _ := rfl
  nk p := by simp [nkeys, nkey, nkeys_map]
  dp p := by
    simp only [NestedKey.depth, NestedKey.depthAll, dep_ints]
    decide
  im p := by
    show immL [D.int p.1, D.tup (p.2.l.map enc)] = true
    simp [immL, imm, immL_mapN]
end
end Dv

namespace Dv
open PySem PySem.Spec PyProof.Rows L2 Evl
def fInT (b : Bool) (x y : D) : Option D := match x.py, y with
  | some p, .lst ds => match D.pyL ds with
    | some ps => if (SeqAt.shaped p && SeqAt.shaped (.list ps)) = true then some (.bl (b.xor (ps.any fun z => PyData.eqv z p))) else none
    | none => none
  | _, _ => none
section
variable {K : PySem.W.Frag} {W : WW}
def isNo : PyData → Bool
  | .none => true
  | _ => false
def cmpOk (p q : PyData) : Bool := PySem.W.alike p q && !isNo p && decide (p.depth ≤ 60)
def rCmpD (K : PySem.W.Frag) (c : PyData → PyData → Bool) : R2 := fun x y H Q => ∃ p q, Dp K H x p ∧ Dp K H y q ∧ cmpOk p q = true ∧ Q (.bl (c p q)) H
def fCmpD (c : PyData → PyData → Bool) (x y : D) : Option D := match x.py, y.py with
  | some p, some q => if cmpOk p q = true then some (.bl (c p q)) else none
  | _, _ => none
end
section
variable {X : Cx}
end
abbrev cLtD : PyData → PyData → Bool := PySem.W.dataLt
abbrev cGtD : PyData → PyData → Bool := fun a b => PySem.W.dataLt b a
abbrev cLeD : PyData → PyData → Bool := fun a b => !PySem.W.dataLt b a
abbrev cGeD : PyData → PyData → Bool := fun a b => !PySem.W.dataLt a b
section
variable {X : Cx} {K : PySem.W.Frag} {W : WW} {pos : Pos} {a b c e : Expr} {ta tb tc te : TE} {da db dc de : DE D}
end
def tCh : List (R2 × TE) → V → TE
  | [], _ => fun _ H Q => Q (.bl true) H
  | [(r, tb)], x => fun σ H Q => tb σ H fun y H1 => r x y H1 Q
  | (r, tb) :: p :: l, x => fun σ H Q => tb σ H fun y H1 => r x y H1 fun z H2 => ∃ k, z = .bl k ∧ (if k = true then tCh (p :: l) y σ H2 Q else Q (.bl false) H2)
def dCh : List ((D → D → Option D) × DE D) → D → DE D
  | [], _ => fun s => some (.ok (.bl true) s)
  | [(f, db)], x => bnd db fun y s => (f x y).map fun d => .ok d s
  | (f, db) :: p :: l, x => bnd db fun y s => match f x y with
    | some (.bl true) => dCh (p :: l) y s
    | some (.bl false) => some (.ok (.bl false) s)
    | _ => none
inductive JCh (K : PySem.W.Frag) (W : WW) : List (R2 × TE) → List ((D → D → Option D) × DE D) → Prop
  | nil : JCh K W [] []
  | cons {r : R2} {f : D → D → Option D} {t : TE} {d : DE D} {ts : List (R2 × TE)} {ds : List ((D → D → Option D) × DE D)} : RV K r f → JB K W t d → JCh K W ts ds → JCh K W ((r, t) :: ts) ((f, d) :: ds)
section
variable {K : PySem.W.Frag} {W : WW}
end
section
variable {X : Cx} {K : PySem.W.Frag} {W : WW} {pos : Pos} {a b c d : Expr} {ta tb tc td : TE} {da db dc dd : DE D} {op1 op2 op3 : CmpOp} {r1 r2 r3 : R2} {f1 f2 f3 : D → D → Option D}
end
end Dv

namespace Dv
open PySem PySem.Spec PyProof.Rows L2 Evl
def sLow (i : Nat) (d : DS) : DS := fun s => d (lowS i s)
section
variable {K : PySem.W.Frag} {W : WW} {t : TS} {d : DS}
end
section
variable {X : Cx} {K : PySem.W.Frag} {W : WW} {st : Stmt} {t : TS} {d : DS}
end
end Dv

namespace Dv
open Enc (enc)
open PySem L2
section
variable {α β γ δ : Type} [Enc α] [Enc β] [Enc γ] [Enc δ]
def memB {α : Type} [DecidableEq α] (a : α) (l : List α) : Bool := decide (a ∈ l)
end
class Dlt (α : Type) [Enc α] [DecidableEq α] where
  dlt : α → α → Bool
  dd : Nat
  py : α → PyData
  hpy : ∀ a : α, (enc a : D).py = some (py a)
  al : ∀ a b, PySem.W.alike (py a) (py b) = true
  nn : ∀ a, isNo (py a) = false
  dp : ∀ a, (py a).depth ≤ dd
  lt : ∀ a b, PySem.W.dataLt (py a) (py b) = dlt a b
  eq : ∀ a b, PyData.eqv (py a) (py b) = decide (a = b)
open Dlt (dlt)
instance : Dlt Int where
  dlt a b := decide (a < b)
  dd := 0
  py := .int
  hpy _ := rfl
  al _ _ := rfl
  nn _ := rfl
  dp _ := Nat.le_refl _
  lt a b := PySem.W.dataLt_int a b
  eq a b := by
    show (a == b) = _
    rw [Bool.eq_iff_iff]
    simp
section
variable {α β : Type} [Enc α] [Enc β] [DecidableEq α] [DecidableEq β] [Dlt α] [Dlt β]
theorem eqv_pair (a c : PyData) (b d : PyData) : PyData.eqv (.tuple [a, b]) (.tuple [c, d]) = (PyData.eqv a c && PyData.eqv b d) := by
  simp [PyData.eqv, PyData.eqvAll]
instance : Dlt (α × β) where
  dlt p q := if p.1 = q.1 then (if p.2 = q.2 then false else dlt p.2 q.2) else dlt p.1 q.1
  dd := max (Dlt.dd α) (Dlt.dd β) + 1
  py p := .tuple [Dlt.py p.1, Dlt.py p.2]
  hpy p := by
    show (D.pyL [enc p.1, enc p.2]).map PyData.tuple = _
    simp [D.pyL, Dlt.hpy]
  al p q := by simp [PySem.W.alike, PySem.W.alikeAll, Dlt.al]
  nn _ := rfl
  dp p := by
    have h1 := Dlt.dp p.1
    have h2 := Dlt.dp p.2
    simp only [PyData.depth, PyData.depthAll]
    omega
  lt p q := by
    rw [PySem.W.dataLt_pair (Dlt.al _ _) (Dlt.al _ _), Dlt.eq, Dlt.eq, Dlt.lt, Dlt.lt]
    simp
  eq p q := by
    rw [eqv_pair, Dlt.eq, Dlt.eq, Bool.eq_iff_iff]
    simp [Prod.ext_iff]
def lexB (lt : α → α → Bool) : List α → List α → Bool
  | [], [] => false
  | [], _ :: _ => true
  | _ :: _, [] => false
  | x :: xs, y :: ys => if x = y then lexB lt xs ys else lt x y
theorem lex_nil : PyProof.Rows.lexLt PyProof.Rows.itemOrd (PySem.W.keyToksAll []) (PySem.W.keyToksAll []) = false := by
  show PyProof.Rows.lexLt PyProof.Rows.itemOrd [.inl 0] [.inl 0] = false
  rw [PySem.W.lex_one]
  decide
theorem toks_lt : ∀ xs ys : List α, PyProof.Rows.lexLt PyProof.Rows.itemOrd (PySem.W.keyToksAll (xs.map Dlt.py)) (PySem.W.keyToksAll (ys.map Dlt.py)) = lexB dlt xs ys
  | [], [] => lex_nil
  | [], y :: ys => by
    rw [List.map_cons, PySem.W.toks_all_cons]
    show PyProof.Rows.lexLt PyProof.Rows.itemOrd [.inl 0] _ = true
    exact (PySem.W.lex_atom (p := Sum.inl 0) (q := Sum.inl 1) (by simp) [] _).trans (by rw [PySem.W.lex_one]; decide)
  | x :: xs, [] => by
    rw [List.map_cons, PySem.W.toks_all_cons]
    show PyProof.Rows.lexLt PyProof.Rows.itemOrd _ [.inl 0] = false
    exact (PySem.W.lex_atom (p := Sum.inl 1) (q := Sum.inl 0) (by simp) _ []).trans (by rw [PySem.W.lex_one]; decide)
  | x :: xs, y :: ys => by
    rw [List.map_cons, List.map_cons, PySem.W.dataLt_cons (Dlt.al x y), Dlt.eq, Dlt.lt, toks_lt xs ys]
    show _ = if x = y then _ else _
    simp
theorem al_all : ∀ xs ys : List α, PySem.W.alikeAll (xs.map Dlt.py) (ys.map Dlt.py) = true
  | [], _ => by simp [PySem.W.alikeAll]
  | x :: xs, [] => by simp [PySem.W.alikeAll]
  | x :: xs, y :: ys => by simp [PySem.W.alikeAll, Dlt.al, al_all xs ys]
theorem py_all : ∀ xs : List α, D.pyL (xs.map enc) = some (xs.map Dlt.py)
  | [] => rfl
  | x :: xs => by
    rw [List.map_cons, List.map_cons]
    unfold D.pyL
    rw [Dlt.hpy, py_all xs]
theorem dp_all : ∀ xs : List α, PyData.depthAll (xs.map Dlt.py) ≤ Dlt.dd α
  | [] => Nat.zero_le _
  | x :: xs => by
    have h1 := Dlt.dp x
    have h2 := dp_all xs
    rw [List.map_cons, PyData.depthAll]
    omega
theorem eq_all : ∀ xs ys : List α, PyData.eqvAll (xs.map Dlt.py) (ys.map Dlt.py) = decide (xs = ys)
  | [], [] => by simp [PyData.eqvAll]
  | [], y :: ys => by simp [PyData.eqvAll]
  | x :: xs, [] => by simp [PyData.eqvAll]
  | x :: xs, y :: ys => by
    rw [List.map_cons, List.map_cons, PySem.W.eqv_all_cons, Dlt.eq, eq_all xs ys, Bool.eq_iff_iff]
    simp
instance : Dlt (List α) where
  dlt := lexB dlt
  dd := Dlt.dd α + 1
  py l := .list (l.map Dlt.py)
  hpy l := by
    show (D.pyL (l.map enc)).map PyData.list = _
    rw [py_all]; rfl
  al a b := by simp only [PySem.W.alike]; exact al_all a b
  nn _ := rfl
  dp l := by
    have := dp_all l
    simp only [PyData.depth]
    omega
  lt a b := by rw [PySem.W.dataLt_list]; exact toks_lt a b
  eq a b := by rw [PyData.eqv]; exact eq_all a b
instance : Dlt (Tv α) where
  dlt a b := lexB dlt a.l b.l
  dd := Dlt.dd α + 1
  py l := .tuple (l.l.map Dlt.py)
  hpy l := by
    show (D.pyL (l.l.map enc)).map PyData.tuple = _
    rw [py_all]; rfl
  al a b := by simp only [PySem.W.alike]; exact al_all a.l b.l
  nn _ := rfl
  dp l := by
    have := dp_all l.l
    simp only [PyData.depth]
    omega
  lt a b := by rw [PySem.W.dataLt_tuple]; exact toks_lt a.l b.l
  eq a b := by
    rw [PyData.eqv, eq_all]
    cases a; cases b
    simp
end
section
variable {α β γ δ τ : Type} [Enc α] [Enc β] [Enc γ] [Enc δ] {ps ps1 ps2 ps3 : List Pt} {da db dc dd dk : DE D} {ca : DE (D × Ow)} {rest d : DS} {Φ : τ → Out → Prop} {c : Oc}
end
end Dv

namespace Dv
open PySem PySem.Spec PyProof.Rows L2 Evl
def tupC : PyData → Bool
  | .tuple (_ :: _) => true
  | _ => false
def tupN : PyData → Bool
  | .tuple _ => true
  | .none => true
  | _ => false
def srtOk (ps : List PyData) : Bool := (ps.all fun p => ps.all fun q => PySem.W.alike p q) && (decide (ps.length ≤ 1) || ps.all tupC || ps.all fun p => !tupN p) && ps.all fun p => decide (p.depth ≤ 50)
abbrev dle (a b : PyData) : Bool := !PySem.W.dataLt b a
def rSortD (K : PySem.W.Frag) : List V → Hp → VK → Prop := fun vs H Q => ∃ (a : Addr) (zs : List (V × PyData)), vs = [V.ref a] ∧ SqL K H a (zs.map (·.1)) ∧ (∀ z ∈ zs, Dp K H z.1 z.2) ∧ srtOk (zs.map (·.2)) = true ∧
  ∀ p, H p = none → Q (.ref p) (upd H p (.lst ((zs.mergeSort fun x y => dle x.2 y.2).map (·.1))))
def sortD (ds : List D) : Option (List D) := match D.pyL ds with
  | some ps => if srtOk ps = true then some (((ds.zip ps).mergeSort fun x y => dle x.2 y.2).map (·.1)) else none
  | none => none
def cSortD (dr : DE (List D)) : DE (D × Ow) := bnd dr fun ds s => match ds with
  | [.lst xs] => (sortD xs).map fun ys => mkL ys s
  | _ => none
section
variable {K : PySem.W.Frag} {W : WW} {G H : Hp}
end
section
variable {X : Cx} {K : PySem.W.Frag} {W : WW} {p pos : Pos} {e : Expr} {es : List Expr} {t : TA} {dA : DE (List D)}
end
end Dv

namespace Dv
open Enc (enc)
open PySem L2
section
variable {α β : Type} [Enc α] [DecidableEq α] [Dlt α] [Enc β] [DecidableEq β] [Dlt β] {ps ps1 : List Pt} {dr : DE (List D)}
def sortL (l : List α) : List α := l.mergeSort fun a b => !Dlt.dlt b a
noncomputable def sortR (l : List α) : R (List α) := okIf (srtOk (l.map Dlt.py) = true) (sortL l)
class So (α : Type) [Enc α] [DecidableEq α] [Dlt α] : Prop where
  so : (∀ a : α, tupC (Dlt.py a) = true) ∨ ∀ a : α, tupN (Dlt.py a) = false
  d5 : Dlt.dd α ≤ 50
instance : So Int := ⟨.inr fun _ => rfl, Nat.zero_le _⟩
instance : So (Int × Int) := ⟨.inl fun _ => rfl, Nat.le_of_ble_eq_true rfl⟩
instance : So (List Int) := ⟨.inr fun _ => rfl, Nat.le_of_ble_eq_true rfl⟩
instance : So (Int × List Int) := ⟨.inl fun _ => rfl, Nat.le_of_ble_eq_true rfl⟩
end
end Dv

namespace Dv
open PySem PySem.Spec PyProof.Rows L2 Evl
section
variable {P : Program} {w : World} {A : Around} {E : Value → Shared → Prop} {s : Shared}
abbrev set0 (w : World) : Obj := ⟨.type "set", none, .set #[] 0 (.fresh 0 0 (!w.params.followText "set-order")), #[]⟩
abbrev hp0 (w : World) (s : Shared) : Heap := s.heap.push (set0 w)
def AfterSet (w : World) (s : Shared) (ns : List Int) (v : Value) (s' : Shared) : Prop :=
  ∃ (g : Heap) (tk c : Nat), v = .none ∧ s' = { s with heap := g, toks := tk } ∧ SetR w g s.heap.objs.size (fun j => decide (j ∈ ns)) c ∧ c ≤ ns.length ∧ ∀ b o, s.heap.get? b = some o → g.get? b = some o
def rSetI (w : World) (K : PySem.W.Frag) : List V → Hp → VK → Prop := fun vs H Q => ∃ (a : Addr) (ns : List Int), vs = [V.ref a] ∧ SqL K H a (ns.map V.int) ∧ ns.length < 64 ∧
  ∀ p c, H p = none → c ≤ ns.length → Q (.ref p) (upd H p (SetO w p (fun j => decide (j ∈ ns)) c))
def insI (x : Int) : List Int → List Int
  | [] => [x]
  | y :: l => if x < y then x :: y :: l else if x = y then y :: l else y :: insI x l
def srtSet (ns : List Int) : List Int := ns.foldr insI []
def allInt : List D → Option (List Int)
  | [] => some []
  | .int i :: xs => (allInt xs).map (i :: ·)
  | _ => none
def cSortSet (dr : DE (List D)) : DE (D × Ow) := bnd dr fun ds s => match ds with
  | [.lst xs] => match allInt xs with
    | some ns => if ns.length < 64 then some (mkL ((srtSet ns).map D.int) s) else none
    | none => none
  | _ => none
variable {K : PySem.W.Frag} {W : WW}
end
section
variable {X : Cx} {K : PySem.W.Frag} {W : WW} {p pos p2 pos2 : Pos} {e : Expr} {es : List Expr} {t : TA} {dA : DE (List D)}
end
def rgD (n : Int) : List D := (List.range (n - 0).toNat).map fun i => D.int (0 + ((i : Nat) : Int))
def cListRg (da : DE D) : DE (D × Ow) := bnd da fun d s => match d with
  | .int n => if -(2 ^ 62) ≤ n ∧ n < 2 ^ 62 ∧ (n - 0).toNat ≤ 2 ^ 24 then some (mkL (rgD n) s) else none
  | _ => none
section
variable {K : PySem.W.Frag} {W : WW}
end
section
variable {X : Cx} {K : PySem.W.Frag} {W : WW} {p pos p2 pos2 : Pos} {e : Expr} {ta : TE} {da : DE D}
end
end Dv

namespace Dv
open Enc (enc)
open PySem L2
section
variable {ps ps1 : List Pt} {dr : DE (List D)}
noncomputable def sortSetR (l : List Int) : R (List Int) := okIf (l.length < 64) (srtSet l)
noncomputable def listRg (n : Int) : R (List Int) := okIf (-(2 ^ 62) ≤ n ∧ n < 2 ^ 62 ∧ n.toNat ≤ 2 ^ 24) (rngL 0 n.toNat)
end
end Dv

namespace Dv
open PySem PySem.Spec PyProof.Rows L2 Evl
section
variable {K : PySem.W.Frag} {W : WW} {tk te : TE} {dk : DE D} {c : DE (D × Ow)} {B H : Hp} {σ : L2.St} {s : SD} {Fs : List (List Addr)}
def cDispK (dk : DE D) (c : DE (D × Ow)) : DE (D × Ow) := fun s => match dk s with
  | some (.ok k s1) => match dkey k with
    | some kk => match c s1 with
      | some (.ok (e, .full) s2) => some (.ok (.dK [(kk, e)], .full) s2)
      | some (.exc x s2) => some (.exc x s2)
      | _ => none
    | none => none
  | some (.exc x s1) => some (.exc x s1)
  | none => none
end
section
variable {X : Cx} {K : PySem.W.Frag} {W : WW} {pos : Pos} {k e : Expr} {te tk : TE} {dk : DE D} {ca : DE (D × Ow)}
end
end Dv

namespace Dv
open Enc (enc)
open PySem L2
section
variable {ps : List Pt} {α : Type} [Enc α]
end
section
variable {κ α : Type} [DecidableEq κ] [Enc κ] [Enc α] {ps ps1 ps2 : List Pt} {dk : DE D} {ca : DE (D × Ow)}
end
end Dv

namespace Dv
open PySem L2 PySem.Spec PyProof.Rows
section
variable {X : Cx} {pins : List (Addr × Obj)} {σ : L2.St} {H : Hp} {s : Shared} {a : Addr} {oe : Obj}
def wKeep (K : PySem.W.Frag) (c : Value) (C : Value → L2.St → Hp → Prop) : WX := fun cls d σ H => PySem.W.exmOne K cls c = some true ∧ d = none ∧ C cls σ H
end
section
variable {X : Cx} {x n : Str} {c : Value} {i j : Nat} {body suite : List Stmt} {b0 : Stmt} {np pos pos' : Pos} {tb : WX → TS}
def EndK (X : Cx) (pins : List (Addr × Obj)) (i : Nat) (C : Value → L2.St → Hp → Prop) (g : Addr → L2.St → L2.St) (D : Ends) (f : Flow) (s' : Shared) : Prop :=
  SP X pins D f s' ∨ f = .next ∧ ∃ a oe cls σ0 H0, Inv X ((a, oe) :: pins) ((g a (σ0.set i (some (.ref a)))).set i none) H0 s' ∧ Zc cls none oe ∧ (∃ vs, oe.data = .fields vs) ∧ C cls σ0 H0 ∧ σ0.length = X.N.length
end
end Dv

namespace Dv
open PySem L2 PySem.Spec PyProof.Rows Evl
structure QKB (X : Cx) (i : Nat) (a : Addr) (e : Expr) (t : TE) (b : Bool) : Prop where
  p : PE X e t
  j : ∀ (σ : L2.St) (H : Hp) (Q : VK), σ[i]? = some (some (.ref a)) → (∀ H', Ex H H' → Q (.bl b) H') → t σ H Q
structure QKT (X : Cx) (i : Nat) (a : Addr) (e : Expr) (t : TT) (b : Bool) : Prop where
  p : PT X e t
  j : ∀ (σ : L2.St) (H : Hp) (Q : Bool → Hp → Prop), σ[i]? = some (some (.ref a)) → (∀ H', Ex H H' → Q b H') → t σ H Q
structure QKW (X : Cx) (i : Nat) (a : Addr) (e : Expr) (t : TT) (b : Bool) : Prop where
  p : PW X e t
  j : ∀ (σ : L2.St) (H : Hp) (Q : Bool → Hp → Prop), σ[i]? = some (some (.ref a)) → (∀ H', Ex H H' → Q b H') → t σ H Q
def endK (En : Ends) (σ : L2.St) (H : Hp) (o : Option Bool) : Prop := ∀ H', Ex H H' → endH En σ H' o
structure QKS (X : Cx) (i : Nat) (a : Addr) (st : Stmt) (t : TS) (o : Option Bool) : Prop where
  p : PS X st t
  j : ∀ (σ : L2.St) (H : Hp) (En : Ends), σ[i]? = some (some (.ref a)) → endK En σ H o → t En σ H
structure QKSs (X : Cx) (i : Nat) (a : Addr) (st : List Stmt) (t : TS) (o : Option Bool) : Prop where
  p : PSs X st t
  j : ∀ (σ : L2.St) (H : Hp) (En : Ends), σ[i]? = some (some (.ref a)) → endK En σ H o → t En σ H
section
variable {X : Cx} {i : Nat} {a : Addr} {e e1 e2 : Expr} {es : List Expr} {t u : TE} {tt tu : TT} {b c : Bool} {pos p p2 p3 : Pos} {st : Stmt} {sts s1 s2 : List Stmt} {ts us : TS} {o o2 : Option Bool} {x : Str}
end
section
variable {X : Cx} {K : PySem.W.Frag} {oe : Obj} {pn : List (Addr × Obj)} {xs : List Str} {k n x : Str} {i : Nat} {a : Addr} {p p2 p3 p4 : Pos} {es : List Expr} {x1 : Nat}
def rIsT (K : PySem.W.Frag) (C a : Addr) : List V → Hp → VK → Prop := fun us H Q => ∃ (tp : Addr) (cs : List Addr) (b : Bool), us = [.ref a, .ref tp] ∧ H tp = some (.tup (cs.map V.ref)) ∧ PySem.W.kitAny K (.ref C) (cs.map Value.ref) = some b ∧ Q (.bl b) H
structure QCl (X : Cx) (K : PySem.W.Frag) (es : List Expr) (t : TA) (cs : List Str) : Prop where
  p : PA X es t
  j : ∀ (σ : L2.St) (H : Hp) (Q : List V → Hp → Prop), Q (cs.map fun c => V.ref (He.ga K c)) H → t σ H Q
end
def sKeep (xs : List Str) (i j : Nat) (hd : Str → Option Bool) (d dr : DS) : DS := fun s => match d s with
  | some (.exc c s1) => if c ∈ xs ∧ i < s1.length ∧ j < s1.length then (hd c).map fun b => .ret (.bl b) .full else none
  | some (.next s1) => dr s1
  | r => r
section
variable {X : Cx} {K : PySem.W.Frag} {Wx : WX} {xs : List Str} {i j : Nat} {n m : Str} {hd : Str → Option Bool} {body rest : List Stmt} {np p p2 pos pos' pos2 : Pos} {tb : WX → TS} {tr : TS} {d dr : DS} {tk : Addr → Str → TS}
def cKeep (K : PySem.W.Frag) (xs : List Str) (i j : Nat) (tk : Addr → Str → TS) (D : Ends) (cls : Value) (σ : L2.St) (H : Hp) : Prop := ∃ k, k ∈ xs ∧ cls = .ref (He.ga K k) ∧ ∀ a, tk a k D (((σ.set i (some (.ref a))).set j (some (.ref a))).set i none) H
end
end Dv

namespace Dv
open Enc (enc)
open PySem L2
section
variable {β τ : Type} {ps : List Pt} {d dr : DS} {xs : List Str} {i j : Nat} {hd : Str → Option Bool} {x : R β} {y : β → R τ} {w : Bool → τ} {Φ : τ → Out → Prop} {N : β → List Pt}
def keepR (xs : List Str) (hd : Str → Option Bool) (x : R β) (y : β → R τ) (w : Bool → τ) : R τ := match x with
  | .ok v => y v
  | .exc c => if c ∈ xs then match hd c with
    | some b => .ok (w b)
    | none => .bad
    else .bad
  | .bad => .bad
end
section
variable {X : Cx} {K : PySem.W.Frag} {W : WW} {sts : List Stmt}
def sNvr : DS := fun _ => none
end
end Dv

namespace Dv
open PySem L2 PySem.Spec PyProof.Rows Evl
structure QKR (X : Cx) (K : PySem.W.Frag) (i : Nat) (a : Addr) (e : Expr) (t : TE) (d : D) : Prop where
  p : PE X e t
  j : ∀ (σ : L2.St) (H : Hp) (Q : VK), σ[i]? = some (some (.ref a)) → (∀ H' v, Ex H H' → (∀ G, Re K G H' v d) → Q v H') → t σ H Q
structure QKL (X : Cx) (K : PySem.W.Frag) (i : Nat) (a : Addr) (es : List Expr) (t : TA) (ds : List D) : Prop where
  p : PA X es t
  j : ∀ (σ : L2.St) (H : Hp) (Q : List V → Hp → Prop), σ[i]? = some (some (.ref a)) → (∀ H' vs, Ex H H' → (∀ G, ReL K G H' vs ds) → Q vs H') → t σ H Q
def endD (K : PySem.W.Frag) (En : Ends) (σ : L2.St) (H : Hp) : Option D → Prop
  | some d => ∀ H' v, Ex H H' → (∀ G, Re K G H' v d) → En.rt v H'
  | none => ∀ H', Ex H H' → En.nx σ H'
structure QDS (X : Cx) (K : PySem.W.Frag) (i : Nat) (a : Addr) (st : Stmt) (t : TS) (o : Option D) : Prop where
  p : PS X st t
  j : ∀ (σ : L2.St) (H : Hp) (En : Ends), σ[i]? = some (some (.ref a)) → endD K En σ H o → t En σ H
structure QDSs (X : Cx) (K : PySem.W.Frag) (i : Nat) (a : Addr) (st : List Stmt) (t : TS) (o : Option D) : Prop where
  p : PSs X st t
  j : ∀ (σ : L2.St) (H : Hp) (En : Ends), σ[i]? = some (some (.ref a)) → endD K En σ H o → t En σ H
def nxD (o o2 : Option D) : Option D := match o with
  | some b => some b
  | none => o2
section
variable {X : Cx} {K : PySem.W.Frag} {i : Nat} {a : Addr} {e : Expr} {es : List Expr} {t : TE} {tt : TT} {ta : TA} {b : Bool} {d : D} {ds : List D} {pos : Pos} {st : Stmt} {sts s1 s2 : List Stmt} {ts us : TS} {o o2 : Option D} {x : Str}
end
def sKeepD (xs : List Str) (i j : Nat) (hd : Str → Option D) (d dr : DS) : DS := fun s => match d s with
  | some (.exc c s1) => if c ∈ xs ∧ i < s1.length ∧ j < s1.length then match hd c with
      | some b => if imm b = true then some (.ret b .full) else none
      | none => none
    else none
  | some (.next s1) => dr s1
  | r => r
section
variable {X : Cx} {K : PySem.W.Frag} {Wx : WX} {xs : List Str} {i j : Nat} {n m : Str} {hd : Str → Option D} {body rest : List Stmt} {np p p2 pos pos' pos2 : Pos} {tb : WX → TS} {tr : TS} {d dr : DS} {tk : Addr → Str → TS}
end
end Dv
namespace Dv
open PySem L2 PySem.Spec PyProof.Rows Evl
end Dv

namespace Dv
open Enc (enc)
open PySem L2
section
variable {ps ps1 : List Pt} {α : Type} [Enc α] {c : Oc} {da : DE D} {ca : DE (D × Ow)}
def encL (l : List α) : List D := l.map enc
def asLI : D → R (List Int)
  | .lst ds => match allInt ds with
    | some l => .ok l
    | none => .bad
  | _ => .bad
end
section
variable {β τ : Type} {ps : List Pt} {d dr : DS} {xs : List Str} {i j : Nat} {hd : Str → Option D} {x : R β} {y : β → R τ} {w : D → τ} {Φ : τ → Out → Prop} {N : β → List Pt}
def keepRD (xs : List Str) (hd : Str → Option D) (x : R β) (y : β → R τ) (w : D → τ) : R τ := match x with
  | .ok v => y v
  | .exc c => if c ∈ xs then match hd c with
    | some b => if imm b = true then .ok (w b) else .bad
    | none => .bad
    else .bad
  | .bad => .bad
end
end Dv

namespace Dv
open PySem L2 PySem.Spec PyProof.Rows Evl
def Two (i m : Nat) (a : Addr) (v : Bool) (σ : L2.St) : Prop := σ[i]? = some (some (.ref a)) ∧ σ[m]? = some (some (.bl v))
structure QMB (X : Cx) (P : L2.St → Prop) (e : Expr) (t : TE) (b : Bool) : Prop where
  p : PE X e t
  j : ∀ (σ : L2.St) (H : Hp) (Q : VK), P σ → Q (.bl b) H → t σ H Q
structure QMS (X : Cx) (P : L2.St → Prop) (st : Stmt) (t : TS) (o : Option Bool) : Prop where
  p : PS X st t
  j : ∀ (σ : L2.St) (H : Hp) (En : Ends), P σ → endH En σ H o → t En σ H
structure QMSs (X : Cx) (P : L2.St → Prop) (st : List Stmt) (t : TS) (o : Option Bool) : Prop where
  p : PSs X st t
  j : ∀ (σ : L2.St) (H : Hp) (En : Ends), P σ → endH En σ H o → t En σ H
section
variable {X : Cx} {K : PySem.W.Frag} {i m : Nat} {a : Addr} {v : Bool} {P : L2.St → Prop} {e e1 e2 : Expr} {es : List Expr} {t u : TE} {tt : TT} {b c : Bool} {pos p : Pos} {st : Stmt} {sts s1 s2 : List Stmt} {ts us : TS} {o o2 : Option Bool} {n : Str}
end
def sTryM (xs : List Str) (i m : Nat) (hd : Bool → Str → Option Bool) (body : DS) : DS := fun s => match body s with
  | some (.exc c s1) => if c ∈ xs ∧ i < s1.length then match s1[m]? with
      | some (some (.bl v, _)) => (hd v c).map fun b => .ret (.bl b) .full
      | _ => none
    else none
  | r => r
section
variable {X : Cx} {K : PySem.W.Frag} {Wx : WX} {xs : List Str} {i m : Nat} {n : Str} {hd : Bool → Str → Option Bool} {body suite : List Stmt} {b0 : Stmt} {np p pos pos' : Pos} {tb : WX → TS} {d : DS} {tk : Addr → Str → Bool → TS}
def tSuiteM (K : PySem.W.Frag) (xs : List Str) (m : Nat) (tk : Addr → Str → Bool → TS) (a : Addr) (cls : Value) (dd : Option Addr) : TS := fun En σ H => ∃ k v, k ∈ xs ∧ cls = .ref (He.ga K k) ∧ dd = none ∧ tk a k v En σ H
end
end Dv

namespace Dv
open PySem L2 PySem.Spec PyProof.Rows Evl
def cAddO (c : DE (List D × Bool)) : DE (D × Ow) := bnd c fun q s => match q with
  | ([.lst xs, .lst ys], true) => if xs.length + ys.length ≤ 1000000 then some (.ok (.lst (xs ++ ys), .full) s) else none
  | _ => none
section
variable {K : PySem.W.Frag} {W : WW} {ta tb : TE} {ca cb : DE (D × Ow)}
end
section
variable {X : Cx} {K : PySem.W.Frag} {W : WW} {a b : Expr} {pos : Pos} {ta tb : TE} {ca cb : DE (D × Ow)}
end
end Dv

namespace Dv
open Enc (enc)
open PySem L2
def Still {α : Type} (a : DE α) : Prop := ∀ s r, a s = some r → ∃ x, r = .ok x s
def Keeps (d : DS) : Prop := ∀ s c s1, d s = some (.exc c s1) → s1 = s
section
variable {β τ : Type} {ps : List Pt} {d rest : DS} {xs : List Str} {i m : Nat} {hd : Bool → Str → Option Bool} {x : R β} {y : β → R τ} {w : Bool → τ} {Φ : τ → Out → Prop} {N : β → List Pt} {v : Bool} {c0 : Oc}
end
section
variable {ps ps1 : List Pt} {α : Type} [Enc α] {cl : DE (List D × Bool)}
end
end Dv

namespace Dv
open PySem L2 PySem.Spec PyProof.Rows Evl
abbrev rIns : V → List V → Hp → VK → Prop := fun x vs H Q => ∃ (l : Addr) (xs : List V) (i : Int) (y : V), x = .ref l ∧ vs = [.int i, y] ∧ H l = some (.lst xs) ∧ xs.length < sizeLine ∧ 0 ≤ i ∧ i < 2 ^ 63 ∧
    Q .non (upd H l (.lst (xs.take i.toNat ++ [y] ++ xs.drop i.toNat)))
theorem OwnL.cut {K : PySem.W.Frag} {H : Hp} : ∀ {vs : List V} {ds : List D} {F : List Addr} (n : Nat), OwnL K H vs ds F → ∃ F1 F2, OwnL K H (vs.take n) (ds.take n) F1 ∧ OwnL K H (vs.drop n) (ds.drop n) F2 ∧ F = F1 ++ F2
  | _, _, _, _, .nil => ⟨[], [], by simp; exact .nil, by simp; exact .nil, rfl⟩
  | _, _, _, 0, h => ⟨[], _, .nil, h, rfl⟩
  | _, _, _, n + 1, .cons a b => by
    obtain ⟨F1, F2, h1, h2, rfl⟩ := OwnL.cut n b
    exact ⟨_, F2, .cons a h1, h2, by rw [List.append_assoc]⟩
def sIns (i : Nat) (dk : DE D) (c : DE (D × Ow)) : DS := fun s => match s[i]? with
  | some (some (.lst _, ow0)) => if ow0 = .no then none else match dk s with
    | some (.ok (.int j) s1) => match c s1 with
      | some (.ok (e, eo) s2) => match s2[i]? with
        | some (some (.lst ds, .full)) => if eo = .full ∧ 0 ≤ j ∧ j < 2 ^ 62 ∧ ds.length < 1000000 then some (.next (s2.set i (some (.lst (ds.take j.toNat ++ [e] ++ ds.drop j.toNat), .full)))) else none
        | some (some (.lst ds, .top)) => if 0 ≤ j ∧ j < 2 ^ 62 ∧ ds.length < 1000000 then some (.next (s2.set i (some (.lst (ds.take j.toNat ++ [e] ++ ds.drop j.toNat), .top)))) else none
        | _ => none
      | some (.exc x s2) => some (.exc x s2)
      | none => none
    | some (.exc x s1) => some (.exc x s1)
    | _ => none
  | _ => none
section
variable {K : PySem.W.Frag} {W : WW} {tk tc : TE} {dk : DE D} {c : DE (D × Ow)} {i : Nat}
abbrev tIns (K : PySem.W.Frag) (to tk tc : TE) : TS := tDrop (tBM K "list" rIns to (tCons tk (tCons tc tNil)))
end
section
variable {X : Cx} {K : PySem.W.Frag} {W : WW} {a k e : Expr} {pos cpos apos : Pos} {tk te : TE} {dk : DE D} {ca : DE (D × Ow)}
end
end Dv

namespace Dv
open Enc (enc)
open PySem L2
section
variable {τ α β γ δ : Type} [Enc α] [Enc β] [Enc γ] [Enc δ] {ps ps1 ps2 : List Pt} {dk : DE D} {ca : DE (D × Ow)} {rest : DS} {Φ : τ → Out → Prop}
noncomputable def insR (l : List α) (j : Int) (a : α) : R (List α) := okIf (0 ≤ j ∧ j < 2 ^ 62 ∧ l.length < 1000000) (l.take j.toNat ++ [a] ++ l.drop j.toNat)
def Loc.fst (z : Loc α (β × γ)) : Loc α β := ⟨z.cur.1, fun b => z.put (b, z.cur.2)⟩
def Loc.snd (z : Loc α (β × γ)) : Loc α γ := ⟨z.cur.2, fun b => z.put (z.cur.1, b)⟩
def immR (d : D) : R D := if imm d = true then .ok d else .bad
end
end Dv

namespace Dv
open PySem L2 PySem.Spec PyProof.Rows Evl
def ddAdd (acc : List Int) (x : Int) : List Int := if acc.any (· == x) then acc else acc ++ [x]
def ddp (ns : List Int) : List Int := ns.foldl ddAdd []
def tLenSet2 (K : PySem.W.Frag) (ta : TE) : TE := fun σ H Q => ta σ H fun x H1 => ∃ (l : Addr) (ns : List Int), x = .ref l ∧ SqL K H1 l (ns.map V.int) ∧ ns.length < 64 ∧ Q (.int (ddp ns).length) H1
def fLenSet (x : D) : Option D := match x with
  | .lst xs => match allInt xs with
    | some ns => if ns.length < 64 then some (.int (ddp ns).length) else none
    | none => none
  | _ => none
section
variable {K : PySem.W.Frag} {W : WW} {ta : TE} {da : DE D}
end
section
variable {X : Cx} {K : PySem.W.Frag} {W : WW} {p pos p2 q : Pos} {e : Expr} {ta : TE} {da : DE D}
end
end Dv

namespace Dv
open Enc (enc)
open PySem L2
noncomputable def lenSetR (l : List Int) : R Int := okIf (l.length < 64) ((ddp l).length : Int)
end Dv

namespace Dv
open Enc (enc)
open PySem L2
section
variable {ps ps1 ps2 : List Pt} {t u : DE Bool} {da db : DE D}
end
end Dv
namespace Dv
section
variable {τ : Type} {ps ps2 : List Pt} {d : DS} {x : R τ} {Φ : τ → Out → Prop}
theorem rs_at (h : ps = ps2) (r : RSt ps2 d x Φ) : RSt ps d x Φ := h ▸ r
end
end Dv

namespace Dv
open Enc (enc)
open PySem L2
section
variable {α : Type} [Enc α] {ps ps1 ps2 : List Pt}
end
end Dv

namespace Dv
open Enc (enc)
open PySem L2
section
variable {κ α σ τ : Type} [DecidableEq κ] [Enc κ] [KyT κ] [Enc α] {ps : List Pt} {body rest : DS} {N : σ → List Pt} {Φ : τ → Out → Prop}
end
end Dv

namespace Dv
open Enc (enc)
open PySem L2
section
variable {α β τ : Type}
def noX : R α → R α
  | .ok a => .ok a
  | _ => .bad
def mapN (F : α → R α) : List α → R (List α)
  | [] => .ok []
  | a :: l => R.bind (noX (F a)) fun b => R.bind (mapN F l) fun r => .ok (b :: r)
variable [Enc α] [Enc β] {ps qs : List Pt} {body rest : DS} {Φ : τ → Out → Prop} {put : D → SD → Option SD} {get : SD → Option (D × SD)} {M : α → List Pt}
structure MtT (put : D → SD → Option SD) (get : SD → Option (D × SD)) (qs : List Pt) (M : α → List Pt) : Prop where
  p : ∀ (a : α) s, Ms qs s → ∃ s1, put (enc a) s = some s1 ∧ Ms (M a) s1 ∧ s1.length = s.length
  g : ∀ (a : α) s, Ms (M a) s → ∃ s1, get s = some (enc a, s1) ∧ Ms qs s1 ∧ s1.length = s.length
end
end Dv

namespace Dv
open PySem PySem.Spec PyProof.Rows L2 Evl
def rSortDT (K : PySem.W.Frag) : List V → Hp → VK → Prop := fun vs H Q => ∃ (a : Addr) (kvs : List (List Key × V)), vs = [V.ref a] ∧ Rd H a (.dT kvs) ∧ ∀ bs, IsKeys H kvs bs → ∃ zs : List (V × PyData), zs.map (·.1) = bs.map V.ref ∧ (∀ z ∈ zs, Dp K H z.1 z.2) ∧ srtOk (zs.map (·.2)) = true ∧
  ∀ p, H p = none → Q (.ref p) (upd H p (.lst ((zs.mergeSort fun x y => dle x.2 y.2).map (·.1))))
def cSortDT (dr : DE (List D)) : DE (D × Ow) := bnd dr fun ds s => match ds with
  | [.dT kd] => (sortD (kd.map fun e => D.tup (e.1.map keyD))).map fun ys => mkL ys s
  | _ => none
section
variable {K : PySem.W.Frag} {W : WW}
end
section
variable {X : Cx} {K : PySem.W.Frag} {W : WW} {p pos : Pos} {e : Expr} {es : List Expr} {t : TA} {dA : DE (List D)}
end
end Dv

namespace Dv
open Enc (enc)
open PySem L2
section
variable {κ α : Type} [DecidableEq κ] [Enc κ] [KyT κ] [Dlt κ] [Enc α] {ps ps1 : List Pt} {dr : DE (List D)}
end
end Dv

namespace Dv
open PySem PySem.Spec PyProof.Rows L2 Evl
def sForO (tg : DT) (c : DE (D × Ow)) (body : DS) : DS := fun s => match c s with
  | some (.ok (.lst ds, .full) s1) => goFor tg body (ds.map fun d => (d, Ow.full)) s1
  | some (.exc x s1) => some (.exc x s1)
  | _ => none
section
variable {K : PySem.W.Frag} {W : WW} {B H B1 H1 : Hp} {L1 : List Addr} {σ : L2.St} {s : SD} {Fs : List (List Addr)} {te : TE} {tb : TS} {body : DS} {g : L2.TG} {tg : DT} {own : List Nat} {c : DE (D × Ow)} {o : Out} {En : Ends}
def OP (K : PySem.W.Frag) (tg : DT) (body : DS) (o : Out) (B1 H1 : Hp) (L1 : List Addr) (p : Addr) (vs : List V) (ds : List D) (k : Nat) (σ : L2.St) (H : Hp) : Prop :=
  ∃ B' Fs' s' Fr, Rel K B' H σ s' Fs' ∧ H p = some (.lst vs) ∧ OwnL K H (vs.drop k) (ds.drop k) Fr ∧ (∀ a, w B' a + ((p :: Fr) ++ Fs'.flatten).count a ≤ 1) ∧ SS B1 H1 L1 B' H ((p :: Fr) ++ Fs'.flatten) ∧ goFor tg body ((ds.drop k).map fun d => (d, Ow.full)) s' = some o
end
section
variable {X : Cx} {K : PySem.W.Frag} {W : WW} {tg src : Expr} {g : L2.TG} {tgd : DT} {ow : List Nat} {body : List Stmt} {te : TE} {ca : DE (D × Ow)} {t1 : TS} {d1 : DS} {pos : Pos}
end
section
variable {X : Cx} {K : PySem.W.Frag} {W : WW} {p p2 pos pos2 : Pos} {e : Expr} {t : TA} {dA : DE (List D)}
end
end Dv

namespace Dv
open Enc (enc)
open PySem L2
section
variable {ι σ τ ρ α β : Type} [Enc ι] [Enc ρ] [Enc α] [Enc β] {ps ps1 ps2 : List Pt} {ca : DE (D × Ow)} {body rest : DS} {Φ : τ → Out → Prop} {N : σ → List Pt}
noncomputable def lenOk (l : List α) : R Unit := okIf (l.length < 1000000) ()
end
end Dv

namespace Dv
open PySem PySem.Spec PyProof.Rows L2 Evl
def goK (tg : DT) (body : DS) : List (D × Ow) → SD → Option SD
  | [], s => some s
  | (d, ow) :: r, s => match tg d ow s with
    | none => none
    | some s1 => match body s1 with
      | some (.next s2) => goK tg body r s2
      | _ => none
def sForK (f : Nat) (tg : DT) (body : DS) : DS := fun s => match s[f]? with
  | some (some (.lst ds, .full)) => if immL ds = true then match goK tg body (ds.map fun d => (d, Ow.full)) (s.set f none) with
      | some s' => if f < s'.length then some (.next (s'.set f (some (.lst ds, .full)))) else none
      | none => none
    else none
  | _ => none
section
variable {K : PySem.W.Frag} {W : WW} {B H B1 H1 : Hp} {L1 : List Addr} {σ : L2.St} {s : SD} {Fs : List (List Addr)} {t : TS} {te : TE} {body : DS} {g : L2.TG} {tg : DT} {own own2 : List Nat} {c : DE (D × Ow)}
def KP (K : PySem.W.Frag) (tg : DT) (body : DS) (own : List Nat) (res : SD) (B1 H1 : Hp) (L1 : List Addr) (p : Addr) (vs : List V) (items : List (D × Ow)) (σ0 : L2.St) (k : Nat) (σ : L2.St) (H : Hp) : Prop :=
  ∃ B' Fs' s', Rel K B' H σ s' Fs' ∧ H p = some (.lst vs) ∧ (∀ a, w B' a + ([p] ++ Fs'.flatten).count a ≤ 1) ∧ SS B1 H1 L1 B' H ([p] ++ Fs'.flatten) ∧ (∀ j, j ∉ own → σ[j]? = σ0[j]?) ∧ goK tg body (items.drop k) s' = some res
end
section
variable {X : Cx} {K : PySem.W.Frag} {W : WW} {tg a e : Expr} {g : L2.TG} {tgd : DT} {ow own : List Nat} {body : List Stmt} {te : TE} {ca : DE (D × Ow)} {t1 : TS} {d1 : DS} {pos pos2 : Pos} {i : Nat}
end
end Dv

namespace Dv
open Enc (enc)
open PySem

section
variable {ι σ τ ρ α β γ : Type} {Q : α → Prop}
theorem Ok.of {x : R α} {a : α} (h : x = .ok a) (q : Q a) : Ok x Q := ⟨a, h, q⟩
@[simp] theorem Ok_ok {a : α} : Ok (.ok a) Q = Q a := by simp [Ok]
@[simp] theorem Ok_exc {c : Str} : Ok (.exc c) Q = False := by simp [Ok]
@[simp] theorem Ok_bad : Ok .bad Q = False := by simp [Ok]
theorem Ok_bind {x : R β} {k : β → R α} : Ok (R.bind x k) Q = Ok x fun b => Ok (k b) Q := by
  cases x with
  | ok b => rw [ok_bind, Ok_ok]
  | exc c => simp [Ok, R.bind]
  | bad => simp [Ok, R.bind]
def thn (Q : τ → Prop) (k : σ → Prop) : σ ⊕ τ → Prop
  | .inl v => k v
  | .inr t => Q t
@[simp] theorem thn_inl {Q : τ → Prop} {k : σ → Prop} {v : σ} : thn Q k (.inl v) = k v := rfl
@[simp] theorem thn_inr {Q : τ → Prop} {k : σ → Prop} {v : τ} : thn Q k (.inr v) = Q v := rfl
theorem andThen_inl {v : σ} {k : σ → R τ} : R.andThen (.ok (.inl v)) k = k v := rfl
theorem Ok_if {b : Bool} {x y : R α} : Ok (if b = true then x else y) Q = ((b = true → Ok x Q) ∧ (b = false → Ok y Q)) := by
  cases b <;> simp
theorem Ok.mono {x : R α} {Q' : α → Prop} (h : Ok x Q) (k : ∀ a, Q a → Q' a) : Ok x Q' := by
  obtain ⟨a, e, q⟩ := h
  exact ⟨a, e, k a q⟩
theorem Ok.eq {x : R α} {a : α} (h : Ok x fun b => b = a) : x = .ok a := by
  obtain ⟨b, e, rfl⟩ := h
  exact e
theorem okIf_ok {p : Prop} {a : α} (h : p) : okIf p a = .ok a := by
  unfold okIf
  exact if_pos h
theorem atI_nat {l : List α} {i : Nat} : L2.atI l (i : Int) = l[i]? := by
  unfold L2.atI L2.ixN
  rw [if_pos (by omega)]
  by_cases h : i < l.length
  · rw [if_pos (by omega)]; simp
  · rw [if_neg (by omega)]
    simp only [Option.bind_none]
    rw [List.getElem?_eq_none (by omega)]
theorem atR_nat {l : List α} {i : Nat} (h : i < l.length) : atR l (i : Int) = .ok l[i] := by
  unfold atR
  rw [atI_nat, List.getElem?_eq_getElem h]
  rfl
theorem atR_int {l : List α} {i : Int} (h0 : 0 ≤ i) (h : i < (l.length : Int)) : atR l i = .ok (l[i.toNat]'(by omega)) := by
  obtain ⟨k, rfl⟩ := Int.eq_ofNat_of_zero_le h0
  rw [atR_nat (by omega)]
  simp
theorem atR_getD {l : List α} {i : Int} (d : α) (h0 : 0 ≤ i) (h : i < (l.length : Int)) : atR l i = .ok (l.getD i.toNat d) := by
  rw [atR_int h0 h]
  congr 1
  rw [List.getD_eq_getElem?_getD, List.getElem?_eq_getElem (by omega)]
  rfl
theorem setR_nat {l : List α} {i : Nat} {a : α} (h : i < l.length) : setR l (i : Int) a = .ok (l.set i a) := by
  unfold setR L2.ixN
  rw [if_pos (by omega), if_pos (by omega)]
  simp
theorem setR_int {l : List α} {i : Int} {a : α} (h0 : 0 ≤ i) (h : i < (l.length : Int)) : setR l i a = .ok (l.set i.toNat a) := by
  obtain ⟨k, rfl⟩ := Int.eq_ofNat_of_zero_le h0
  rw [setR_nat (by omega)]
  simp
theorem appR_ok {l : List α} {a : α} (h : l.length < 1000000) : appR l a = .ok (l ++ [a]) := okIf_ok h
theorem catR_ok {l m : List α} (h : l.length + m.length ≤ 1000000) : catR l m = .ok (l ++ m) := okIf_ok h
theorem rng1_ok {j : Int} (h0 : -1000000000 ≤ j) (h : j ≤ 1000000000) : rng1 j = .ok (rngL 0 j.toNat) := okIf_ok ⟨by omega, by omega⟩
theorem rngL_len {i : Int} {n : Nat} : (rngL i n).length = n := by simp [rngL]
theorem rngL_get {i : Int} {n k : Nat} {a : Int} (h : (rngL i n)[k]? = some a) : k < n ∧ a = i + (k : Int) := by
  unfold rngL at h
  rw [List.getElem?_map] at h
  by_cases hk : k < n
  · rw [List.getElem?_range hk] at h
    cases h
    exact ⟨hk, rfl⟩
  · rw [List.getElem?_eq_none (by simpa using hk)] at h
    cases h
theorem rngL_mem {i : Int} {n : Nat} {a : Int} : a ∈ rngL i n ↔ i ≤ a ∧ a < i + n := by
  unfold rngL
  rw [List.mem_map]
  constructor
  · rintro ⟨k, hk, rfl⟩
    have := List.mem_range.mp hk
    omega
  · rintro ⟨h1, h2⟩
    exact ⟨(a - i).toNat, List.mem_range.mpr (by omega), by omega⟩
theorem mulR_l {i j : Int} (h : i.natAbs < 2 ^ 64) : mulR i j = .ok (i * j) := okIf_ok (mulOk_l h)
theorem mulR_r {i j : Int} (h : j.natAbs < 2 ^ 64) : mulR i j = .ok (i * j) := okIf_ok (mulOk_r h)
theorem modR_ok {i j : Int} (h : 0 < j) : modR i j = .ok (i % j) := okIf_ok h
theorem repR_ok {l : List α} {k : Int} (h : l.length * k.toNat ≤ 1000000) (h1 : -1000000 ≤ k) (h2 : k ≤ 1000000) : repR l k = .ok (List.replicate k.toNat l).flatten := okIf_ok ⟨by omega, by omega, h⟩
theorem rep_one {a : α} : ∀ n : Nat, (List.replicate n [a]).flatten = List.replicate n a
  | 0 => rfl
  | n + 1 => by rw [List.replicate_succ, List.flatten_cons, rep_one n]; rfl
theorem repR_one {a : α} {k : Int} (h1 : 0 ≤ k) (h2 : k ≤ 1000000) : repR [a] k = .ok (List.replicate k.toNat a) := by
  rw [repR_ok (by simp; omega) (by omega) h2, rep_one]
theorem forR_inv {l : List ι} {v : σ} {f : ι → σ → R σ} {Q : σ → Prop} (P : Nat → σ → Prop) (h0 : P 0 v) (hs : ∀ k a v, l[k]? = some a → P k v → Ok (f a v) (P (k + 1))) (hQ : ∀ v, P l.length v → Q v) : Ok (forR l v f) Q := by
  induction l generalizing v P with
  | nil => exact ⟨v, rfl, hQ v h0⟩
  | cons a l ih =>
    unfold forR
    rw [Ok_bind]
    refine (hs 0 a v rfl h0).mono fun v1 h1 => ?_
    exact ih (fun k => P (k + 1)) h1 (fun k a v hk hp => hs (k + 1) a v (by simpa using hk) hp) fun v hp => hQ v (by simpa using hp)
def lpQ (nx bk : σ → Prop) (out : τ → Prop) : Lp σ τ → Prop
  | .nx v => nx v
  | .bk v => bk v
  | .out t => out t
@[simp] theorem lpQ_nx {nx bk : σ → Prop} {out : τ → Prop} {v : σ} : lpQ nx bk out (.nx v) = nx v := rfl
@[simp] theorem lpQ_bk {nx bk : σ → Prop} {out : τ → Prop} {v : σ} : lpQ nx bk out (.bk v) = bk v := rfl
@[simp] theorem lpQ_out {nx bk : σ → Prop} {out : τ → Prop} {v : τ} : lpQ nx bk out (.out v) = out v := rfl
theorem forX_all {l : List ι} {f : ι → Unit → R (Lp Unit τ)} (h : ∀ a ∈ l, f a () = .ok (.nx ())) : forX l () f = .ok (.inl ()) := by
  induction l with
  | nil => rfl
  | cons a l ih =>
    unfold forX
    rw [h a List.mem_cons_self, ok_bind]
    exact ih fun b hb => h b (List.mem_cons_of_mem _ hb)
theorem whN_idx {c : σ → R Bool} {f : σ → R σ} {Q : σ → Prop} (P : Nat → σ → Prop) (N : Nat) (hs : ∀ k v, P k v → Ok (c v) fun b => (b = true → k < N ∧ Ok (f v) (P (k + 1))) ∧ (b = false → Q v)) : ∀ n k v, P k v → N + 1 ≤ n + k → 0 < n → Ok (whN c f n v) Q
  | 0, _, v, _, _, h => absurd h (Nat.not_lt_zero _)
  | n + 1, k, v, hp, hm, _ => by
    unfold whN
    rw [Ok_bind]
    refine (hs k v hp).mono fun b h => ?_
    rw [Ok_if]
    refine ⟨fun hb => ?_, fun hb => by rw [Ok_ok]; exact h.2 hb⟩
    rw [Ok_bind]
    obtain ⟨h1, h2⟩ := h.1 hb
    exact h2.mono fun v' h' => whN_idx P N hs n (k + 1) v' h' (by omega) (by omega)
theorem whR_idx {v : σ} {c : σ → R Bool} {f : σ → R σ} {Q : σ → Prop} (P : Nat → σ → Prop) (N : Nat) (hN : N < 1000000000) (h0 : P 0 v) (hs : ∀ k v, P k v → Ok (c v) fun b => (b = true → k < N ∧ Ok (f v) (P (k + 1))) ∧ (b = false → Q v)) : Ok (whR v c f) Q :=
  whN_idx P N hs fuel 0 v h0 (by have : (1000000000 : Nat) ≤ fuel := by decide
                                 omega) (by decide)
theorem cmpGo_eq {l : List ι} {f : ι → R (Option α)} {g : ι → Option α} (h : ∀ a ∈ l, f a = .ok (g a)) : ∀ acc : List α, acc.length + l.length ≤ 1000000 → cmpGo f l acc = .ok (acc ++ l.filterMap g) := by
  induction l with
  | nil => intro acc _; simp [cmpGo]
  | cons a l ih =>
    intro acc hl
    simp only [List.length_cons] at hl
    unfold cmpGo
    rw [h a List.mem_cons_self]
    cases e : g a with
    | none =>
      simp only
      rw [ih (fun b hb => h b (List.mem_cons_of_mem _ hb)) acc (by omega)]
      simp [e]
    | some b =>
      simp only
      rw [if_pos (by omega), ih (fun b hb => h b (List.mem_cons_of_mem _ hb)) (acc ++ [b]) (by simp; omega)]
      simp [e]
theorem cmpR_eq {l : List ι} {f : ι → R α} {g : ι → α} (hl : l.length ≤ 1000000) (h : ∀ a ∈ l, f a = .ok (g a)) : cmpR l f = .ok (l.map g) := by
  unfold cmpR
  rw [cmpGo_eq (g := fun a => some (g a)) (fun a ha => by rw [h a ha]; rfl) [] (by simpa using hl)]
  simp
end
end Dv

namespace Dv
open Enc (enc)
open PySem L2
section
variable {ι σ τ α : Type} [Enc ι] {ps : List Pt} {body rest : DS} {Φ : τ → Out → Prop} {N : σ → List Pt}
end
end Dv

namespace Dv
open PySem PySem.Spec PyProof.Rows L2 Evl
mutual
theorem Dp_ex {K : PySem.W.Frag} {H H' : Hp} (e : Ex H H') : ∀ {v : V} {d : PyData}, L2.Dp K H v d → L2.Dp K H' v d
  | _, _, .non => .non
  | _, _, .bl b => .bl b
  | _, _, .int b => .int b
  | _, _, .str b => .str b
  | _, _, .lst h r => .lst (by
      rcases h with (h | ⟨o, h⟩) | h
      · exact .inl (.inl (e _ _ h))
      · exact .inl (.inr ⟨o, e _ _ h⟩)
      · exact .inr h) (DpAll_ex e r)
  | _, _, .tup h r => .tup ((Tk.of_ex e).sq h) (DpAll_ex e r)
theorem DpAll_ex {K : PySem.W.Frag} {H H' : Hp} (e : Ex H H') : ∀ {v : List V} {d : List PyData}, L2.DpAll K H v d → L2.DpAll K H' v d
  | _, _, .nil => .nil
  | _, _, .cons a b => .cons (Dp_ex e a) (DpAll_ex e b)
end
def rSortBy (K : PySem.W.Frag) (df : DF) (f : Addr) : List V → List V → Hp → VK → Prop := fun vs zs H Q => ∃ (a : Addr) (B : Hp) (ts : List ((V × D) × PyData)), vs = [V.ref a] ∧ zs = [V.ref f] ∧ SqL K H a (ts.map (·.1.1)) ∧ Ex B H ∧
  (∀ t ∈ ts, Re K B H t.1.1 t.1.2 ∧ ∃ kd ow, df [t.1.2] = some (.ret kd ow) ∧ D.py kd = some t.2) ∧ srtOk (ts.map (·.2)) = true ∧ (ts.map (·.2)).all tupC = true ∧
  ∀ H' p, Ex H H' → H' p = none → Q (.ref p) (upd H' p (.lst ((ts.mergeSort fun x y => dle x.2 y.2).map (·.1.1))))
section
open PySem.Calls PySem.W
end
end Dv
namespace Dv
open PySem PySem.Spec PyProof.Rows L2 Evl
def keyBy (df : DF) (d : D) : Option PyData := match df [d] with
  | some (.ret k _) => D.py k
  | _ => none
def keysBy (df : DF) : List D → Option (List PyData)
  | [] => some []
  | d :: ds => match keyBy df d, keysBy df ds with
    | some a, some b => some (a :: b)
    | _, _ => none
def sortBy (df : DF) (ds : List D) : Option (List D) := match keysBy df ds with
  | some ps => if (srtOk ps && ps.all tupC) = true then some (((ds.zip ps).mergeSort fun x y => dle x.2 y.2).map (·.1)) else none
  | none => none
def cSortBy (df : DF) (dr : DE D) : DE (D × Ow) := bnd dr fun d s => match d with
  | .lst xs => (sortBy df xs).map fun ys => mkL ys s
  | _ => none
section
variable {K : PySem.W.Frag} {W : WW} {G H : Hp}
def tSortBy (K : PySem.W.Frag) (df : DF) (f : Addr) (ta : TE) : TE := tCKw (rSortBy K df f) (tCons ta tNil) (tCons (tC (.ref f)) tNil)
end
section
variable {X : Cx} {K : PySem.W.Frag} {W : WW} {p p2 pos kp : Pos} {e : Expr} {te : TE} {de : DE D} {x : Str}
end
end Dv

namespace Dv
open Enc (enc)
open PySem L2
section
variable {α κ : Type} [Enc α] [Enc κ] [DecidableEq κ] [Dlt κ] {ps ps1 : List Pt} {da : DE D}
def keysR (f : α → R κ) : List α → R (List κ)
  | [] => .ok []
  | a :: l => R.bind (noX (f a)) fun k => R.bind (keysR f l) fun ks => .ok (k :: ks)
def srtBy (l : List α) (ks : List κ) : List α := ((l.zip ks).mergeSort fun x y => !Dlt.dlt y.2 x.2).map (·.1)
noncomputable def sortByR (f : α → R κ) (l : List α) : R (List α) := R.bind (keysR f l) fun ks => okIf ((srtOk (ks.map Dlt.py) && (ks.map Dlt.py).all tupC) = true) (srtBy l ks)
end
end Dv

namespace Dv
open PySem PySem.Spec PyProof.Rows L2 Evl
def noneS (s : SD) : SD := s.map fun _ => none
def letD (i : Nat) (s : SD) : SD := match s[i]? with
  | some (some (d, _)) => s.set i (some (d, .no))
  | _ => s
def cCompI (tg : DT) (own : List Nat) (i : Nat) (cond : DE Bool) (elt : DE (D × Ow)) : DE (D × Ow) := fun s => match s[i]? with
  | some (some (.lst ds, _)) => match goC false tg cond elt own (noIt ds) [] (wipeD own (noneS s)) with
    | some (.ok es s2) => some (.ok (.lst es, .top) (letD i s))
    | _ => none
  | _ => none
section
variable {K : PySem.W.Frag} {W : WW} {B H : Hp} {σ : L2.St} {s : SD} {Fs : List (List Addr)} {i : Nat} {g : L2.TG} {tg : DT} {tt : TT} {cond : DE Bool} {te : TE} {elt : DE (D × Ow)} {own : List Nat}
theorem Rel.noneS (r : Rel K B H σ s Fs) : Rel K B H σ (Dv.noneS s) (Fs.map fun _ => []) := by
  refine ⟨r.ex, by unfold Dv.noneS; rw [List.length_map]; exact r.l1, by rw [List.length_map]; exact r.l2, fun j d ow e => ?_, fun a => ?_, fun a ha => by rw [flat_nil] at ha; cases ha⟩
  · unfold Dv.noneS at e
    rw [List.getElem?_map] at e
    cases e1 : s[j]? with
    | none => rw [e1] at e; cases e
    | some x => rw [e1] at e; cases e
  · have h1 : tot (Fs.map fun _ => []) a = 0 := by
      rw [← tot_flat, flat_nil]
      rfl
    rw [h1]
    exact w_le
theorem Rel.letI {d : D} {ow : Ow} (R0 : Rel K B H σ s Fs) (h : s[i]? = some (some (d, ow))) : ∃ v, σ[i]? = some (some v) ∧ Re K (frz B H (Fs.getD i [])) H v d ∧ Rel K (frz B H (Fs.getD i [])) H σ (s.set i (some (d, .no))) (Fs.set i []) ∧ ES B H Fs.flatten (frz B H (Fs.getD i [])) H (Fs.set i []).flatten := by
  obtain ⟨v, hv, q⟩ := R0.at_ i d ow h
  have hi := lt_of_get h
  have hF : i < Fs.length := by rw [R0.l2, ← R0.l1]; exact hi
  have cnt : ∀ a, Fs.flatten.count a = (Fs.getD i []).count a + (Fs.set i []).flatten.count a := fun a => by
    have := flat_set (F := []) hF a
    simp at this ⊢
    omega
  have y := (ES.refl B H Fs.flatten).let_go (Fs.getD i []) (Fs.set i []).flatten q.live cnt R0.ex
  have q2 : Re K (frz B H (Fs.getD i [])) H v d := q.fz (frz_ex R0.ex) fun a ha => frz_in ha
  have R1 : Rel K (frz B H (Fs.getD i [])) H σ (s.set i (some (d, .no))) (Fs.set i []) := by
    refine Rel.slot (F := []) (r := (?_ : Rel K (frz B H (Fs.getD i [])) H σ (s.set i none) (Fs.set i []))) (by simpa using hi) (fun d' ow' z => ?_) (fun a => ?_) (fun _ z => nomatch z) |> fun z => by simpa using z
    · refine Rel.know (B := B) (R0.slot (sl := none) (F := []) hi (fun _ _ z => nomatch z) (fun a => ?_) (fun _ z => nomatch z)) fun a => ?_
      · have h1 := cnt a
        have h2 := R0.wf a
        omega
      · rw [List.count_append, ← cnt a]
        exact R0.wf a
    · cases z
      exact ⟨v, hv, q2, rfl⟩
    · have h1 := cnt a
      have h2 := R0.wf a
      have h3 := frz_w B H (Fs.getD i []) a
      rw [List.set_set]
      omega
  exact ⟨v, hv, q2, R1, y⟩
def cSortByC (df : DF) (dc : DE (D × Ow)) : DE (D × Ow) := fun s => match dc s with
  | some (.ok (.lst xs, _) s1) => (sortBy df xs).map fun ys => .ok (.lst ys, .top) s1
  | some (.exc x s1) => some (.exc x s1)
  | _ => none
end
section
variable {X : Cx} {K : PySem.W.Frag} {W : WW} {p p2 pos kp : Pos} {e elt src tg : Expr} {te ta tc : TE} {tt : TT} {x y : Str} {spos : Pos} {ifs : List Expr} {scope : Scope} {own : List (Str × Nat)} {g : L2.TG} {tgd : DT} {dt : DE Bool} {ca : DE (D × Ow)} {i : Nat}
end
end Dv

namespace Dv
open Enc (enc)
open PySem L2
section
variable {α ι : Type} [Enc α] [Enc ι] {ps ps1 : List Pt}
end
end Dv

namespace Dv
open PySem PySem.Spec PyProof.Rows L2 Evl
section
theorem up_ne {p : Addr} {H : Hp} {a : Addr} {o u : HO} (h : H p = some u) (e : H a = some o) (hne : o ≠ u) (x : HO) : upd H p x a = some o := by
  rw [upd_ne (fun z => by rw [z, h] at e; exact hne (Option.some.inj e).symm)]
  exact e
mutual
theorem Re.lock {K : PySem.W.Frag} {p : Addr} {od : Obj} {ks : List (List Key × V)} {G H : Hp} (hG : G p = some (.dT ks)) (hH : H p = some (.dT ks)) : ∀ {v : V} {d : D}, Re K G H v d → Re K (upd G p (.frz od (.dT ks))) (upd H p (.frz od (.dT ks))) v d
  | _, _, .non => .non
  | _, _, .bl b => .bl b
  | _, _, .int i => .int i
  | _, _, .str x => .str x
  | _, _, .tup h r => .tup (up_ne hH h (fun z => nomatch z) _) (ReL.lock hG hH r)
  | _, _, .lst h r => .lst (up_ne hG h (fun z => nomatch z) _) (ReL.lock hG hH r)
  | _, _, .sc h r => .sc (by
      rcases h with ⟨o, h⟩ | h
      · exact .inl ⟨o, up_ne hH h (fun z => nomatch z) _⟩
      · exact .inr h) (ReL.lock hG hH r)
  | _, _, .dk h e r => .dk (up_ne hG h (fun z => nomatch z) _) e (ReL.lock hG hH r)
  | _, _, .dkF h n e r => .dkF (up_ne hH h (fun z => nomatch z) _) n e (ReL.lock hG hH r)
  | _, _, .dt (p := q) (ks := k2) h e r =>
    if c : q = p then
      have e2 : ks = k2 := by rw [c, hG] at h; cases h; rfl
      .dtF (o := od) (by rw [c, upd_same, e2]) e (ReL.lock hG hH r)
    else .dt (by rw [upd_ne c]; exact h) e (ReL.lock hG hH r)
  | _, _, .dtF h e r => .dtF (up_ne hH h (fun z => nomatch z) _) e (ReL.lock hG hH r)
  | _, _, .dn h n e r => .dn (up_ne hG h (fun z => nomatch z) _) (n.mono fun q xs h => up_ne hH h (fun z => nomatch z) _) e (ReL.lock hG hH r)
  | _, _, .xc a c f => .xc a c f
  | _, _, .ob h e r => .ob ⟨h.1, up_ne hG h.2 (fun z => nomatch z) _⟩ e (ReL.lock hG hH r)
theorem ReL.lock {K : PySem.W.Frag} {p : Addr} {od : Obj} {ks : List (List Key × V)} {G H : Hp} (hG : G p = some (.dT ks)) (hH : H p = some (.dT ks)) : ∀ {v : List V} {d : List D}, ReL K G H v d → ReL K (upd G p (.frz od (.dT ks))) (upd H p (.frz od (.dT ks))) v d
  | _, _, .nil => .nil
  | _, _, .cons a b => .cons (Re.lock hG hH a) (ReL.lock hG hH b)
end
mutual
theorem Re.unlock {K : PySem.W.Frag} {p : Addr} {od : Obj} {ks : List (List Key × V)} {G H : Hp} (hG : G p = some (.frz od (.dT ks))) (hH : H p = some (.frz od (.dT ks))) : ∀ {v : V} {d : D}, Re K G H v d → Re K (upd G p (.dT ks)) (upd H p (.dT ks)) v d
  | _, _, .non => .non
  | _, _, .bl b => .bl b
  | _, _, .int i => .int i
  | _, _, .str x => .str x
  | _, _, .tup h r => .tup (up_ne hH h (fun z => nomatch z) _) (ReL.unlock hG hH r)
  | _, _, .lst h r => .lst (up_ne hG h (fun z => nomatch z) _) (ReL.unlock hG hH r)
  | _, _, .sc h r => .sc (by
      rcases h with ⟨o, h⟩ | h
      · exact .inl ⟨o, by rw [upd_ne (fun z => by rw [z, hH] at h; cases h)]; exact h⟩
      · exact .inr h) (ReL.unlock hG hH r)
  | _, _, .dk h e r => .dk (up_ne hG h (fun z => nomatch z) _) e (ReL.unlock hG hH r)
  | _, _, .dkF h n e r => .dkF (up_ne hH h (fun z => nomatch z) _) n e (ReL.unlock hG hH r)
  | _, _, .dt h e r => .dt (up_ne hG h (fun z => nomatch z) _) e (ReL.unlock hG hH r)
  | _, _, .dtF (p := q) (ks := k2) h e r =>
    if c : q = p then
      have e2 : ks = k2 := by rw [c, hH] at h; cases h; rfl
      .dt (by rw [c, upd_same, e2]) e (ReL.unlock hG hH r)
    else .dtF (by rw [upd_ne c]; exact h) e (ReL.unlock hG hH r)
  | _, _, .dn h n e r => .dn (up_ne hG h (fun z => nomatch z) _) (n.mono fun q xs h => up_ne hH h (fun z => nomatch z) _) e (ReL.unlock hG hH r)
  | _, _, .xc a c f => .xc a c f
  | _, _, .ob h e r => .ob ⟨h.1, up_ne hG h.2 (fun z => nomatch z) _⟩ e (ReL.unlock hG hH r)
theorem ReL.unlock {K : PySem.W.Frag} {p : Addr} {od : Obj} {ks : List (List Key × V)} {G H : Hp} (hG : G p = some (.frz od (.dT ks))) (hH : H p = some (.frz od (.dT ks))) : ∀ {v : List V} {d : List D}, ReL K G H v d → ReL K (upd G p (.dT ks)) (upd H p (.dT ks)) v d
  | _, _, .nil => .nil
  | _, _, .cons a b => .cons (Re.unlock hG hH a) (ReL.unlock hG hH b)
end
end
section
variable {K : PySem.W.Frag} {p : Addr} {od : Obj} {ks : List (List Key × V)} {B H B' H' : Hp} {σ : L2.St} {s : SD} {Fs : List (List Addr)} {v : V} {d : D} {ow : Ow} {F : List Addr}
theorem tk_lock (hH : H p = some (.dT ks)) : Tk H (upd H p (.frz od (.dT ks))) := tk_ne hH (fun _ z => nomatch z) (fun _ _ z => nomatch z)
theorem own_unlock_tk (hH : H p = some (.frz od (.dT ks))) : ∀ q xs, H q = some (.tup xs) → upd H p (.dT ks) q = some (.tup xs) := fun q xs h => up_ne hH h (fun z => nomatch z) _
mutual
theorem Own.unlock {K : PySem.W.Frag} {p : Addr} {od : Obj} {ks : List (List Key × V)} {H : Hp} (hH : H p = some (.frz od (.dT ks))) : ∀ {v : V} {d : D} {F : List Addr}, Own K H v d F → p ∉ F → Own K (upd H p (.dT ks)) v d F
  | _, _, _, .im e r, _ => .im e ((Re.unlock hH hH r).any e)
  | _, _, _, .tup h r, n => .tup (own_unlock_tk hH _ _ h) (OwnL.unlock hH r n)
  | _, _, _, .lst h r, n => .lst (by rw [upd_ne (fun z => n (by simp [z]))]; exact h) (OwnL.unlock hH r fun z => n (List.mem_cons_of_mem _ z))
  | _, _, _, .dk h e r, n => .dk (by rw [upd_ne (fun z => n (by simp [z]))]; exact h) e (OwnL.unlock hH r fun z => n (List.mem_cons_of_mem _ z))
  | _, _, _, .dt h e r, n => .dt (by rw [upd_ne (fun z => n (by simp [z]))]; exact h) e (OwnL.unlock hH r fun z => n (List.mem_cons_of_mem _ z))
  | _, _, _, .dn h k e r, n => .dn (by rw [upd_ne (fun z => n (by simp [z]))]; exact h) (k.mono (own_unlock_tk hH)) e (OwnL.unlock hH r fun z => n (List.mem_cons_of_mem _ z))
  | _, _, _, .ob h h2 e r, n => .ob ⟨h.1, by rw [upd_ne (fun z => n (by simp [z]))]; exact h.2⟩ (by rw [upd_ne (fun z => n (by simp [z]))]; exact h2) e (OwnL.unlock hH r fun z => n (List.mem_cons_of_mem _ (List.mem_cons_of_mem _ z)))
theorem OwnL.unlock {K : PySem.W.Frag} {p : Addr} {od : Obj} {ks : List (List Key × V)} {H : Hp} (hH : H p = some (.frz od (.dT ks))) : ∀ {v : List V} {d : List D} {F : List Addr}, OwnL K H v d F → p ∉ F → OwnL K (upd H p (.dT ks)) v d F
  | _, _, _, .nil, _ => .nil
  | _, _, _, .cons a b, n => .cons (Own.unlock hH a fun z => n (List.mem_append_left _ z)) (OwnL.unlock hH b fun z => n (List.mem_append_right _ z))
end
theorem RS.lock (hB : B p = some (.dT ks)) (hH : H p = some (.dT ks)) (r : RS K B H v d ow F) (n : p ∉ F) : RS K (upd B p (.frz od (.dT ks))) (upd H p (.frz od (.dT ks))) v d ow F := by
  cases ow with
  | full => exact Own.mono (tk_lock hH) r fun a ha => upd_ne fun z => n (z ▸ ha)
  | top =>
    obtain ⟨q, vs, ds, e1, e2, e3, e4, e5⟩ := r
    subst e5
    exact ⟨q, vs, ds, e1, e2, by rw [upd_ne (fun z => n (by simp [z]))]; exact e3, ReL.lock hB hH e4, rfl⟩
  | no => exact ⟨Re.lock hB hH r.1, r.2⟩
  | adr a => exact ⟨Own.mono (tk_lock hH) r.1 fun a ha => upd_ne fun z => n (z ▸ ha), r.2⟩
theorem RS.unlock (hB : B p = some (.frz od (.dT ks))) (hH : H p = some (.frz od (.dT ks))) (r : RS K B H v d ow F) (n : p ∉ F) : RS K (upd B p (.dT ks)) (upd H p (.dT ks)) v d ow F := by
  cases ow with
  | full => exact Own.unlock hH r n
  | top =>
    obtain ⟨q, vs, ds, e1, e2, e3, e4, e5⟩ := r
    subst e5
    exact ⟨q, vs, ds, e1, e2, by rw [upd_ne (fun z => n (by simp [z]))]; exact e3, ReL.unlock hB hH e4, rfl⟩
  | no => exact ⟨Re.unlock hB hH r.1, r.2⟩
  | adr a => exact ⟨Own.unlock hH r.1 n, r.2⟩
theorem w_upd {B : Hp} {p : Addr} {o x : HO} (h : B p = some o) (a : Addr) : w (upd B p x) a = w B a := by
  by_cases c : a = p
  · subst c; rw [w_some upd_same, w_some h]
  · unfold w; rw [upd_ne c]
theorem n_of_w {B : Hp} {p : Addr} {o : HO} {L : List Addr} (h : B p = some o) (z : w B p + L.count p ≤ 1) : p ∉ L := fun m => by
  have h1 := w_some h
  have h2 := mem_count m
  omega
theorem n_slot {j : Nat} (n : p ∉ Fs.flatten) : p ∉ Fs.getD j [] := fun z => n (List.mem_flatten.mpr ⟨_, getD_mem z, z⟩)
theorem Rel.lock (R : Rel K B H σ s Fs) (hB : B p = some (.dT ks)) : Rel K (upd B p (.frz od (.dT ks))) (upd H p (.frz od (.dT ks))) σ s Fs := by
  have hH := R.ex _ _ hB
  have n : p ∉ Fs.flatten := n_of_w hB (R.wf p)
  refine ⟨fun a o h => ?_, R.l1, R.l2, fun i d ow e => ?_, fun a => by rw [w_upd hB]; exact R.wt a, fun a ha => live_upd (R.lv a ha)⟩
  · by_cases c : a = p
    · subst c; rw [upd_same] at h ⊢; exact h
    · rw [upd_ne c] at h ⊢; exact R.ex a o h
  · obtain ⟨u, h1, h2⟩ := R.at_ i d ow e
    exact ⟨u, h1, h2.lock hB hH (n_slot n)⟩
theorem Rel.unlock (R : Rel K B H σ s Fs) (hB : B p = some (.frz od (.dT ks))) : Rel K (upd B p (.dT ks)) (upd H p (.dT ks)) σ s Fs := by
  have hH := R.ex _ _ hB
  have n : p ∉ Fs.flatten := n_of_w hB (R.wf p)
  refine ⟨fun a o h => ?_, R.l1, R.l2, fun i d ow e => ?_, fun a => by rw [w_upd hB]; exact R.wt a, fun a ha => live_upd (R.lv a ha)⟩
  · by_cases c : a = p
    · subst c; rw [upd_same] at h ⊢; exact h
    · rw [upd_ne c] at h ⊢; exact R.ex a o h
  · obtain ⟨u, h1, h2⟩ := R.at_ i d ow e
    exact ⟨u, h1, h2.unlock hB hH (n_slot n)⟩
theorem ex_unlock {B B' : Hp} (hB : B p = some (.dT ks)) (e : Ex (upd B p (.frz od (.dT ks))) B') : B' p = some (.frz od (.dT ks)) ∧ Ex B (upd B' p (.dT ks)) := by
  refine ⟨e _ _ upd_same, fun a o h => ?_⟩
  by_cases c : a = p
  · subst c; rw [upd_same]; rw [hB] at h; exact h
  · rw [upd_ne c]; exact e a o (by rw [upd_ne c]; exact h)
theorem live_iff {H : Hp} {o x : HO} (h : H p = some o) (a : Addr) : upd H p x a ≠ none ↔ H a ≠ none := by
  by_cases c : a = p
  · subst c; rw [upd_same, h]; exact ⟨fun _ z => (nomatch z), fun _ z => (nomatch z)⟩
  · rw [upd_ne c]
theorem SS.unlock {L L' : List Addr} (hB : B p = some (.dT ks)) (hH : H p = some (.dT ks)) (hL : p ∉ L) (x : SS (upd B p (.frz od (.dT ks))) (upd H p (.frz od (.dT ks))) L B' H' L') : B' p = some (.frz od (.dT ks)) ∧ H' p = some (.frz od (.dT ks)) ∧ SS B H L (upd B' p (.dT ks)) (upd H' p (.dT ks)) L' := by
  obtain ⟨b1, b2⟩ := ex_unlock hB x.exB
  have h1 : H' p = some (.frz od (.dT ks)) := x.tk.f _ _ _ upd_same
  refine ⟨b1, h1, b2, ⟨fun q xs h => own_unlock_tk h1 q xs (x.tk.t q xs ?_), fun q o u h => ?_⟩, fun a ha z => ?_, fun a ha => (live_iff h1 a).mpr (x.live a ((live_iff hH a).mpr ha)), fun a ha => by rw [w_upd b1, ← w_upd (x := .frz od (.dT ks)) hB]; exact x.wt a ((live_iff hH a).mpr ha)⟩
  · exact up_ne hH h (fun z => nomatch z) _
  · have c : q ≠ p := fun z => by rw [z, hH] at h; cases h
    rw [upd_ne c]
    exact x.tk.f q o u (by rw [upd_ne c]; exact h)
  · by_cases c : a = p
    · subst c; rw [upd_same, hH]
    · rw [upd_ne c, x.keep a ((live_iff hH a).mpr ha) z, upd_ne c]
theorem ES.unlock {L L' : List Addr} (hB : B p = some (.dT ks)) (hH : H p = some (.dT ks)) (hL : p ∉ L) (hL' : p ∉ L') (x : ES (upd B p (.frz od (.dT ks))) (upd H p (.frz od (.dT ks))) L B' H' L') : ES B H L (upd B' p (.dT ks)) (upd H' p (.dT ks)) L' := by
  obtain ⟨b1, b2⟩ := ex_unlock hB x.exB
  obtain ⟨h1, h2⟩ := ex_unlock hH x.exH
  refine ⟨b2, h2, fun a ha => by rw [w_upd b1, ← w_upd (x := .frz od (.dT ks)) hB]; exact x.wt a ((live_iff hH a).mpr ha), fun a o h => ?_⟩
  by_cases c : a = p
  · subst c
    rw [frz_out hL] at h
    rw [frz_out hL', upd_same]
    rw [hB] at h; exact h
  · have e1 : frz (upd B p (.frz od (.dT ks))) (upd H p (.frz od (.dT ks))) L a = frz B H L a := by
      by_cases m : a ∈ L
      · rw [frz_in m, frz_in m, upd_ne c]
      · rw [frz_out m, frz_out m, upd_ne c]
    have e2 : frz (upd B' p (.dT ks)) (upd H' p (.dT ks)) L' a = frz B' H' L' a := by
      by_cases m : a ∈ L'
      · rw [frz_in m, frz_in m, upd_ne c]
      · rw [frz_out m, frz_out m, upd_ne c]
    rw [e2]
    exact x.vw a o (by rw [e1]; exact h)
end
def tOrE (t u : TE) : TE := fun σ H Q => t σ H Q ∨ u σ H Q
def tOrS (t u : TS) : TS := fun D σ H => t D σ H ∨ u D σ H
def noExc : Option Out → Option Out
  | some (.exc _ _) => none
  | o => o
def sForU (i : Nat) (tg : DT) (body : DS) : DS := fun s => match s[i]? with
  | some (some (.dT kd, _)) => noExc (goFor tg body (kIts kd) (letD i s))
  | _ => none
section
variable {K : PySem.W.Frag} {W : WW} {B H : Hp} {σ : L2.St} {s : SD} {Fs : List (List Addr)} {i : Nat} {g : L2.TG} {tb : TS} {tg : DT} {own : List Nat} {body : DS} {En : Ends}
theorem letD_eq {d : D} {ow : Ow} (h : s[i]? = some (some (d, ow))) : letD i s = s.set i (some (d, .no)) := by unfold letD; rw [h]
end
section
variable {X : Cx} {K : PySem.W.Frag} {W : WW} {tg a : Expr} {g : L2.TG} {tgd : DT} {ow : List Nat} {body : List Stmt} {t1 : TS} {d1 : DS} {pos : Pos}
end
def cCompD (tg : DT) (own : List Nat) (i : Nat) (cond : DE Bool) (elt : DE (D × Ow)) : DE (D × Ow) := fun s => match s[i]? with
  | some (some (.dT kd, _)) => match goC true tg cond elt own (kIts kd) [] (wipeD own (fzAll (letD i s))) with
    | some (.ok es _) => some (.ok (.lst es, .full) (letD i s))
    | _ => none
  | _ => none
section
variable {K : PySem.W.Frag} {W : WW} {B H B1 H1 : Hp} {σ : L2.St} {s s1 s2 : SD} {Fs : List (List Addr)} {i : Nat} {g : L2.TG} {tg : DT} {tt : TT} {cond : DE Bool} {te : TE} {elt : DE (D × Ow)} {own : List Nat} {es : List D}
end
section
variable {X : Cx} {K : PySem.W.Frag} {W : WW} {p p2 pos : Pos} {elt src tg : Expr} {ta tc : TE} {tt : TT} {y : Str} {spos : Pos} {ifs : List Expr} {scope : Scope} {own : List (Str × Nat)} {g : L2.TG} {tgd : DT} {dt : DE Bool} {ca : DE (D × Ow)} {i : Nat}
end
def rLenDK : List V → Hp → VK → Prop := fun xs H Q => ∃ (p : Addr) (kvs : List (Key × V)), xs = [.ref p] ∧ Rd H p (.dK kvs) ∧ Q (.int ((kvs.length : Nat) : Int)) H
def rLenDT : List V → Hp → VK → Prop := fun xs H Q => ∃ (p : Addr) (kvs : List (List Key × V)), xs = [.ref p] ∧ Rd H p (.dT kvs) ∧ Q (.int ((kvs.length : Nat) : Int)) H
def rLenDN : List V → Hp → VK → Prop := fun xs H Q => ∃ (p : Addr) (ys : List (NestedKey × Addr × V)), xs = [.ref p] ∧ H p = some (dictN p ys) ∧ NkIs H ys ∧ Q (.int ((ys.length : Nat) : Int)) H
abbrev rLenD := rcOr rLenDK (rcOr rLenDT rLenDN)
def fLenD : List D → Option D
  | [.dK kd] => some (.int kd.length)
  | [.dT kd] => some (.int kd.length)
  | [.dN kd] => some (.int kd.length)
  | _ => none
section
variable {X : Cx} {K : PySem.W.Frag} {W : WW} {p pos : Pos} {e : Expr} {es : List Expr} {t : TA} {dA : DE (List D)}
end
end Dv

namespace Dv
open Enc (enc)
open PySem L2
theorem pair_kn {p q : Int × Int} (h : NestedKey.tup [.num p.1, .num p.2] = NestedKey.tup [.num q.1, .num q.2]) : p = q := by
  simp only [List.cons.injEq, NestedKey.tup.injEq, NestedKey.num.injEq, and_true] at h
  exact Prod.ext h.1 h.2
theorem dep_pairs : ∀ l : List (Int × Int), NestedKey.depthAll (l.map fun p => NestedKey.tup [.num p.1, .num p.2]) ≤ 1
  | [] => by simp [NestedKey.depthAll]
  | a :: l => by
    have := dep_pairs l
    simp only [List.map_cons, NestedKey.depthAll, NestedKey.depth] at this ⊢
    omega
theorem nkeys_pairs (l : List (Int × Int)) : nkeys (l.map enc) = some (l.map fun p => NestedKey.tup [.num p.1, .num p.2]) := by
  induction l with
  | nil => simp [nkeys]
  | cons a l ih =>
    have e : (enc a : D) = .tup [.int a.1, .int a.2] := rfl
    simp [nkeys, ih, e, nkey]
theorem imm_pairs (l : List (Int × Int)) : immL (l.map (enc : Int × Int → D)) = true := by
  induction l with
  | nil => rfl
  | cons a l ih =>
    have e : (enc a : D) = .tup [.int a.1, .int a.2] := rfl
    simp [immL, ih, e, imm]
instance : KyN (Tv (Int × Int)) where
  kn p := p.l.map fun p => .tup [.num p.1, .num p.2]
  inj a b h := by
    obtain ⟨a⟩ := a
    obtain ⟨b⟩ := b
    have := map_inj (f := fun p : Int × Int => NestedKey.tup [.num p.1, .num p.2]) (fun p q h => pair_kn h) h
    simp only at this
    rw [this]
  es p := p.l.map enc
  en _ := rfl
  nk p := nkeys_pairs p.l
  dp p := by
    have := dep_pairs p.l
    rw [NestedKey.depth]
    omega
  im p := imm_pairs p.l
section
variable {κ α : Type} [DecidableEq κ] [Enc κ] [Enc α]
end
section
variable {κ α β σ τ : Type} [DecidableEq κ] [Enc κ] [KyT κ] [Enc α] [Enc β] {ps : List Pt} {body rest : DS} {N : σ → List Pt} {Φ : τ → Out → Prop}
theorem _root_.Dv.Sat.mono {τ : Type} {x : R τ} {o : Option Out} {n : Nat} {Φ Ψ : τ → Out → Prop} (h : Sat x o n Φ) (k : ∀ t o, Φ t o → Ψ t o) : Sat x o n Ψ := by
  cases x with
  | bad => trivial
  | exc c => exact h
  | ok a => obtain ⟨r, e, h⟩ := h; exact ⟨r, e, k a r h⟩
end
end Dv

namespace Dv
open PySem PySem.Spec PyProof.Rows L2 Evl
def cCallL (df : DF) (l : DE (List D × Bool)) : DE (D × Ow) := bnd l fun y s => match df y.1 with
  | some (.ret d ow) => if imm d = true then some (.ok (d, .full) s) else some (.ok (d, ow) s)
  | some (.exc c) => some (.exc c s)
  | none => none
section
variable {K : PySem.W.Frag} {B H B' H' : Hp} {σ : L2.St} {s : SD} {Fs : List (List Addr)} {cl : Str → Value} {X : WX} {F : List Addr}
theorem Rel.past (R : Rel K B H σ s Fs) (x1 : Ex B B') (x2 : Ex B' H') (x3 : Ex H H') (x4 : ∀ a, H a ≠ none → w B' a ≤ w B a) : Rel K B' H' σ s Fs := by
  refine ⟨x2, R.l1, R.l2, fun i d ow h => ?_, fun a => ?_, fun a ha => ex_ne x3 (R.lv a ha)⟩
  · obtain ⟨u, h1, h2⟩ := R.at_ i d ow h
    exact ⟨u, h1, h2.mono x1 (Tk.of_ex x3) (ex_keep x3 h2.live)⟩
  · rw [← tot_flat]
    by_cases ha : H a = none
    · have h1 : Fs.flatten.count a = 0 := List.count_eq_zero.mpr fun m => R.lv a m ha
      have := w_le (B := B') (a := a)
      omega
    · have := x4 a ha
      have := R.wf a
      omega
theorem ES.past (R : Rel K B H σ s Fs) (x1 : Ex B B') (x2 : Ex B' H') (x3 : Ex H H') (x4 : ∀ a, H a ≠ none → w B' a + F.count a ≤ w B a) (hF : ∀ a ∈ F, H' a ≠ none) (x5 : ∀ a, w B' a + F.count a ≤ 1) : ES B H Fs.flatten B' H' (F ++ Fs.flatten) ∧ ∀ a, w B' a + (F ++ Fs.flatten).count a ≤ 1 := by
  refine ⟨⟨x1, x3, fun a ha => ?_, fun a o ho => ?_⟩, fun a => ?_⟩
  · have := x4 a ha
    rw [List.count_append]
    omega
  · by_cases m : a ∈ Fs.flatten
    · rw [frz_in m] at ho
      rw [frz_in (List.mem_append_right _ m)]
      exact x3 _ _ ho
    · rw [frz_out m] at ho
      have hB' := x1 _ _ ho
      by_cases g : a ∈ F
      · rw [frz_in (List.mem_append_left _ g)]
        exact x2 _ _ hB'
      · rw [frz_out fun q => (List.mem_append.mp q).elim g m]
        exact hB'
  · rw [List.count_append]
    by_cases ha : H a = none
    · have h1 : Fs.flatten.count a = 0 := List.count_eq_zero.mpr fun m => R.lv a m ha
      have := x5 a
      omega
    · have := x4 a ha
      have := R.wf a
      omega
theorem jcCallL {n : Nat} {df : DF} {tr : TA} {dr : DE (List D × Bool)} (hn : ∀ ds, df ds ≠ none → ds.length = n) (hr : JCL K (wOf cl X) tr dr) : JC K (wOf cl X) (tCallS (spD K cl n df) (WE X) tr) (cCallL df dr) := by
  refine J.bind (k := fun vs σ H Q => spD K cl n df vs H Q (WE X σ)) hr fun a s1 r e vs B1 H1 σ Fs1 F R1 hv hl q1 Q p => ?_
  obtain ⟨ds, b⟩ := a
  have R2 := R1.know hv
  have y2 : ES B1 H1 (F ++ Fs1.flatten) (frz B1 H1 F) H1 Fs1.flatten := (ES.refl _ _ _).let_go F Fs1.flatten hl (fun a => List.count_append) R1.ex
  have go : ReL K (frz B1 H1 F) H1 vs ds := rCL_go q1 (frz_ex R1.ex) fun a ha => frz_in ha
  generalize frz B1 H1 F = B2 at R2 y2 go
  have p := p.step y2
  have e : (match df ds with
    | some (.ret d ow) => if imm d = true then some (Er.ok (d, Ow.full) s1) else some (.ok (d, ow) s1)
    | some (.exc c) => some (.exc c s1)
    | none => none) = some r := e
  cases ed : df ds with
  | none => rw [ed] at e; cases e
  | some o =>
    rw [ed] at e
    refine ⟨B2, ds, o, R2.ex, go, hn ds (by rw [ed]; exact fun z => nomatch z), ed, ?_⟩
    cases o with
    | exc c =>
      cases e
      intro H' x
      exact p B2 H' Fs1 (R2.ext x) (ES.ext R2.ex x)
    | ret d ow =>
      intro v B' H' F' x1 x2 x3 x4 x5 x6
      have e : (if imm d = true then some (Er.ok (d, Ow.full) s1) else some (.ok (d, ow) s1)) = some r := e
      have R3 : Rel K B' H' σ s1 Fs1 := R2.past x1 x2 x3 fun a ha => by have := x4 a ha; omega
      split at e
      · rename_i hi
        cases e
        obtain ⟨y3, z3⟩ := ES.past (F := []) R2 x1 x2 x3 (fun a ha => by have := x4 a ha; simp; omega) (fun _ z => nomatch z) (fun a => by simpa using w_le)
        exact p v B' H' Fs1 [] R3 y3 z3 (fun _ z => nomatch z) (Own.im hi ((x6.re x2).any hi))
      · cases e
        obtain ⟨y3, z3⟩ := ES.past (F := F') R2 x1 x2 x3 x4 x6.live x5
        exact p v B' H' Fs1 F' R3 y3 z3 x6.live x6
end
def letsD : List Nat → SD → SD
  | [], s => s
  | i :: is, s => letsD is (letD i s)
def onlyNo : Sl → Sl
  | some (d, ow) => if (decide (ow = .no) || imm d) = true then some (d, .no) else none
  | none => none
def keepG {α : Type} (f : α → α) (z : α) (S : List Nat) : Nat → List α → List α
  | _, [] => []
  | k, a :: l => (bif S.any fun i => Nat.beq i k then f a else z) :: keepG f z S (k + 1) l
theorem keepG_get {α : Type} {f : α → α} {z : α} {S : List Nat} : ∀ (l : List α) (k j : Nat), (keepG f z S k l)[j]? = l[j]?.map fun a => bif S.any fun i => Nat.beq i (k + j) then f a else z
  | [], _, _ => by simp [keepG]
  | a :: l, k, 0 => by simp [keepG]
  | a :: l, k, j + 1 => by
    have := keepG_get (f := f) (z := z) (S := S) l (k + 1) j
    simp only [keepG, List.getElem?_cons_succ, this]
    congr 2
    funext b
    rw [show k + 1 + j = k + (j + 1) by omega]
theorem keepG_len {α : Type} {f : α → α} {z : α} {S : List Nat} : ∀ (l : List α) (k : Nat), (keepG f z S k l).length = l.length
  | [], _ => rfl
  | a :: l, k => by simp [keepG, keepG_len l (k + 1)]
def keepD (S : List Nat) (s : SD) : SD := keepG onlyNo none S 0 s
def cCompJ (tg : DT) (own S : List Nat) (i : Nat) (cond : DE Bool) (elt : DE (D × Ow)) : DE (D × Ow) := fun s => match (letsD S s)[i]? with
  | some (some (.lst ds, .no)) => match goC false tg cond elt own (noIt ds) [] (wipeD own (fzAll (keepD S (letsD S s)))) with
    | some (.ok es s2) => some (.ok (.lst es, .top) (letsD S s))
    | _ => none
  | _ => none
def cCompJR (tg : DT) (own S : List Nat) (a : DE (List D)) (cond : DE Bool) (elt : DE (D × Ow)) : DE (D × Ow) := fun s => match a (letsD S s) with
  | some (.ok [.int j] s1) => if -(2 ^ 62) ≤ j ∧ j < 2 ^ 62 then match goC false tg cond elt own (rngD 0 j.toNat) [] (wipeD own (fzAll (keepD S s1))) with
      | some (.ok es s2) => some (.ok (.lst es, .top) s1)
      | _ => none
    else none
  | some (.exc x s1) => some (.exc x s1)
  | _ => none
section
variable {K : PySem.W.Frag} {W : WW} {B H B0 H0 : Hp} {σ : L2.St} {s s1 s2 : SD} {Fs Fs1 : List (List Addr)} {i : Nat} {g : L2.TG} {tg : DT} {tt : TT} {cond : DE Bool} {te : TE} {elt : DE (D × Ow)} {own S : List Nat} {L0 : List Addr} {items : List (D × Ow)} {es : List D} {Dp : Addr}
theorem Rel.lets : ∀ (S : List Nat) {B : Hp} {s : SD} {Fs : List (List Addr)}, Rel K B H σ s Fs → ∃ B1 Fs1, Rel K B1 H σ (letsD S s) Fs1 ∧ ES B H Fs.flatten B1 H Fs1.flatten
  | [], B, s, Fs, R => ⟨B, Fs, R, ES.refl _ _ _⟩
  | i :: is, B, s, Fs, R => by
    unfold letsD
    cases e : s[i]? with
    | none =>
      have : letD i s = s := by unfold letD; rw [e]
      rw [this]
      exact Rel.lets is R
    | some sl =>
      cases sl with
      | none =>
        have : letD i s = s := by unfold letD; rw [e]
        rw [this]
        exact Rel.lets is R
      | some q =>
        obtain ⟨d, ow⟩ := q
        obtain ⟨v, _, _, R1, y1⟩ := R.letI e
        rw [letD_eq e]
        obtain ⟨B1, Fs1, R2, y2⟩ := Rel.lets is R1
        exact ⟨B1, Fs1, R2, y1.trans y2⟩
theorem keepD_len : (keepD S s).length = s.length := keepG_len s 0
theorem Rel.keepD (R : Rel K B H σ s Fs) : Rel K B H σ (Dv.keepD S s) (Fs.map fun _ => []) := by
  refine ⟨R.ex, by rw [keepD_len]; exact R.l1, by rw [List.length_map]; exact R.l2, fun j d ow e => ?_, fun a => ?_, fun a ha => by rw [flat_nil] at ha; cases ha⟩
  · unfold Dv.keepD at e
    rw [keepG_get] at e
    cases e1 : s[j]? with
    | none => rw [e1] at e; cases e
    | some x =>
      rw [e1] at e
      have e : (bif S.any (fun i => Nat.beq i (0 + j)) then onlyNo x else none) = some (d, ow) := Option.some.inj e
      cases c : S.any (fun i => Nat.beq i (0 + j)) with
      | false => rw [c] at e; cases e
      | true =>
        rw [c] at e
        have e : onlyNo x = some (d, ow) := e
        cases x with
        | none => cases e
        | some q =>
          obtain ⟨d1, ow1⟩ := q
          have e : (if (decide (ow1 = .no) || imm d1) = true then some (d1, Ow.no) else none) = some (d, ow) := e
          by_cases hc : (decide (ow1 = .no) || imm d1) = true
          · rw [if_pos hc] at e
            cases e
            obtain ⟨v, h1, h2⟩ := R.at_ j d ow1 e1
            have h3 : Re K B H v d := by
              rcases Bool.or_eq_true_iff.mp hc with h | h
              · have := of_decide_eq_true h
                subst this
                exact h2.1
              · exact (h2.re R.ex).any h
            refine ⟨v, h1, h3, ?_⟩
            rw [List.getD_eq_getElem?_getD, List.getElem?_map]
            cases Fs[j]? <;> rfl
          · rw [if_neg hc] at e
            cases e
  · have h1 : tot (Fs.map fun _ => []) a = 0 := by
      rw [← tot_flat, flat_nil]
      rfl
    rw [h1]
    exact w_le
end
section
variable {X : Cx} {K : PySem.W.Frag} {W : WW} {x : Str} {p p2 pos : Pos} {e a elt src tg : Expr} {es : List Expr} {ta tc : TE} {t : TA} {tt : TT} {y : Str} {spos : Pos} {ifs : List Expr} {scope : Scope} {own : List (Str × Nat)} {g : L2.TG} {tgd : DT} {dt : DE Bool} {ca : DE (D × Ow)} {i : Nat} {dA : DE (List D)} {dL : DE (List D × Bool)}
theorem q_callL {cl : Str → Value} {Wx : WX} {k j n : Nat} {df : DF} (tk : Takes X Wx) (hr : Room j X.A) (C : Cal X.prog X.w X.K X.mg X.base cl x k n df) (hkj : k ≤ j) (hn : ∀ ds, df ds ≠ none → ds.length = n) (hg : Gl X x) (h : QL X K (wOf cl Wx) (e :: es) t dL)
    (hdb : (x == ("__debug__" : Str)) = false := by decide) (he : starEach (e :: es) X.env = (false, eval e X.env) :: starEach es X.env := by rfl) (hpl : (backTo pos (starEach es X.env)).any (·.1) = false := by rfl) :
    QC X K (wOf cl Wx) (.Call (.Name x p) (e :: es) [] pos) (tCallS (spD K cl n df) (WE Wx) t) (cCallL df dL) := by
  obtain ⟨rfl, pa, ja⟩ := h
  obtain ⟨f, fd, ps, F, hm, kp, hb⟩ := C.ex
  exact ⟨rfl, pe_callS F (hr.mono hkj) hg hm kp hb (fun σ => passAt tk σ) pa hdb he hpl, jcCallL hn ja⟩
end
end Dv

namespace Dv
open Enc (enc)
open PySem L2
section
variable {α ρ : Type} [Enc α] [Enc ρ] {ps ps1 : List Pt} {c c2 : Oc}
theorem rc_callLN {γ : Type} {el : γ → List D} {df : DF} {n : γ → R ρ} {x : R γ} {k : Nat} {cl : DE (List D × Bool)} (hf : FR el df n c) (ha : RTu ps cl x el c2 k ps1) : RC ps (cCallL df cl) (R.bind x n) .n ps1 :=
  RG.bnd ha fun g p v => by
    obtain ⟨ds, b⟩ := p
    have v1 : ds = el g := v.1
    subst v1
    refine ⟨fun s hs => ?_⟩
    have h := hf g
    unfold FRs at h
    cases e : n g with
    | bad => trivial
    | exc q =>
      rw [e] at h
      exact ⟨s, by simp only [h], rfl⟩
    | ok r =>
      rw [e] at h
      obtain ⟨ow, e1, q⟩ := h
      by_cases hi : imm (enc r) = true
      · exact ⟨(enc r, .full), s, by simp only [e1, hi, if_true], ⟨rfl, trivial⟩, hs, rfl⟩
      · exact ⟨(enc r, ow), s, by simp only [e1, if_neg hi], ⟨rfl, trivial⟩, hs, rfl⟩
end
def letP (i : Nat) (ps : List Pt) : List Pt := match ps.getD i .x with
  | .h _ d => ps.set i (.h .o d)
  | .x => ps
def letsP : List Nat → List Pt → List Pt
  | [], ps => ps
  | i :: is, ps => letsP is (letP i ps)
def onlyO : Pt → Pt
  | .h .o d => .h .o d
  | _ => .x
def keepP (S : List Nat) (ps : List Pt) : List Pt := keepG onlyO .x S 0 ps
section
variable {α β ι : Type} [Enc α] [Enc β] [Enc ι] {ps ps1 : List Pt}
theorem set_sameL {α : Type} {l : List α} {i : Nat} {x : α} (h : ∀ y, l[i]? = some y → y = x) : l.set i x = l := by
  refine List.ext_getElem? fun j => ?_
  by_cases c : i = j
  · subst c
    by_cases hl : i < l.length
    · rw [List.getElem?_set_self hl, List.getElem?_eq_getElem hl, h _ (List.getElem?_eq_getElem hl)]
    · rw [List.getElem?_eq_none (by rw [List.length_set]; omega), List.getElem?_eq_none (by omega)]
  · rw [List.getElem?_set_ne c]
theorem Ms.let1 {s : SD} (i : Nat) (h : Ms ps s) : Ms (letP i ps) (letD i s) := by
  generalize hp : ps.getD i .x = p
  match p, hp with
  | .h c1 d1, e =>
    obtain ⟨ow, e2, -⟩ := h.get e
    have e3 : letP i ps = ps.set i (.h .o d1) := by unfold letP; rw [e]
    rw [letD_eq e2, e3]
    exact h.set (p := .h .o d1) (sl := some (d1, .no)) i ⟨.no, rfl, .inl rfl⟩
  | .x, e =>
    have e3 : letP i ps = ps := by unfold letP; rw [e]
    rw [e3]
    cases e4 : s[i]? with
    | none =>
      have : letD i s = s := by unfold letD; rw [e4]
      rw [this]; exact h
    | some sl =>
      cases sl with
      | none =>
        have : letD i s = s := by unfold letD; rw [e4]
        rw [this]; exact h
      | some q =>
        obtain ⟨d, ow⟩ := q
        rw [letD_eq e4]
        have := h.set (p := .x) (sl := some (d, .no)) i trivial
        have e5 : ps.set i .x = ps := set_sameL fun y hy => by
          rw [List.getD_eq_getElem?_getD, hy] at e
          exact e
        rw [e5] at this
        exact this
theorem Ms.lets : ∀ (S : List Nat) {ps : List Pt} {s : SD}, Ms ps s → Ms (letsP S ps) (letsD S s)
  | [], _, _, h => h
  | i :: is, _, _, h => Ms.lets is (h.let1 i)
end
end Dv

namespace Dv
open PySem PySem.Spec PyProof.Rows L2 Evl
def sDSetL (i j : Nat) (dk : DE D) : DS := fun s => if (s[j]?).join.isSome = true then if (s[i]?).join.isSome = true then match dk s with
  | some (.ok k s1) => match s1[j]? with
    | some (some (e, .full)) => match (s1.set j none)[i]? with
      | some (some (d, .full)) => (putD d k e).map fun d' => .next ((s1.set j none).set i (some (d', .full)))
      | _ => none
    | _ => none
  | some (.exc x s1) => some (.exc x s1)
  | none => none
  else none
  else none
section
variable {K : PySem.W.Frag} {W : WW} {tk : TE} {dk : DE D} {i j : Nat}
end
section
variable {X : Cx} {K : PySem.W.Frag} {W : WW} {pos spos p : Pos} {a b e : Expr} {tk : TE} {dk : DE D}
end
end Dv

namespace Dv
open Enc (enc)
open PySem L2
section
variable {κ α τ : Type} [DecidableEq κ] [Enc κ] [Ky κ] [Enc α] {ps ps1 : List Pt} {dk : DE D} {rest : DS} {Φ : τ → Out → Prop}
end
end Dv

namespace Dv
open PySem PySem.Spec PyProof.Rows L2 Evl
mutual
def nkD : NestedKey → D
  | .none => .non
  | .num i => .int i
  | .text x => .str x
  | .tup ks => .tup (nkDs ks)
def nkDs : List NestedKey → List D
  | [] => []
  | k :: ks => nkD k :: nkDs ks
end
section
variable {K : PySem.W.Frag} {G H : Hp}
mutual
theorem nkD_re : ∀ {k : NestedKey} {v : V}, NkAt H k v → Re K G H v (nkD k)
  | _, _, .num i => by rw [nkD]; exact .int i
  | _, _, .tup h r => by rw [nkD]; exact .tup h (nkDs_re r)
theorem nkDs_re : ∀ {ks : List NestedKey} {vs : List V}, NkAll H ks vs → ReL K G H vs (nkDs ks)
  | _, _, .nil => by rw [nkDs]; exact .nil
  | _, _, .cons a b => by rw [nkDs]; exact .cons (nkD_re a) (nkDs_re b)
end
end
mutual
theorem nkey_D : ∀ {d : D} {k : NestedKey}, nkey d = some k → nkD k = d
  | .int i, k, e => by
    have e : some (NestedKey.num i) = some k := by simpa only [nkey] using e
    cases e; rw [nkD]
  | .tup ds, k, e => by
    obtain ⟨ks, h1, rfl⟩ := Option.map_eq_some_iff.mp (show (nkeys ds).map NestedKey.tup = some k by simpa only [nkey] using e)
    rw [nkD, nkeys_D h1]
  | .non, _, e => by simp [nkey] at e
  | .bl _, _, e => by simp [nkey] at e
  | .str _, _, e => by simp [nkey] at e
  | .lst _, _, e => by simp [nkey] at e
  | .sc _, _, e => by simp [nkey] at e
  | .dK _, _, e => by simp [nkey] at e
  | .dT _, _, e => by simp [nkey] at e
  | .dN _, _, e => by simp [nkey] at e
theorem nkeys_D : ∀ {ds : List D} {ks : List NestedKey}, nkeys ds = some ks → nkDs ks = ds
  | [], k, e => by
    have e : some [] = some k := by simpa only [nkeys] using e
    cases e; rw [nkDs]
  | d :: ds, kk, e => by
    simp only [nkeys] at e
    split at e
    · rename_i k ks h1 h2
      cases e
      rw [nkDs, nkey_D h1, nkeys_D h2]
    · cases e
end
def rListN : List V → Hp → VK → Prop := fun xs H Q => ∃ d kvs, xs = [V.ref d] ∧ H d = some (dictN d kvs) ∧ NkIs H kvs ∧ ∀ p, H p = none → Q (.ref p) (upd H p (.lst (kvs.map fun x => V.ref x.2.1)))
section
variable {X : Cx}
end
def cListN (dr : DE (List D)) : DE (D × Ow) := bnd dr fun ds s => match ds with
  | [.dN kd] => some (mkL (kd.map fun e => nkD e.1) s)
  | _ => none
section
variable {K : PySem.W.Frag} {W : WW}
end
section
variable {X : Cx} {K : PySem.W.Frag} {W : WW} {pos p : Pos} {e : Expr} {es : List Expr} {t : TA} {dA : DE (List D)}
end
end Dv

namespace Dv
open Enc (enc)
open PySem L2
section
variable {κ α : Type} [DecidableEq κ] [Enc κ] [KyN κ] [Enc α] {ps ps1 : List Pt} {dr : DE (List D)}
end
end Dv

namespace Dv
open PySem PySem.Spec PyProof.Rows L2 Evl
section
variable {X : Cx} {pins : List (Addr × Obj)} {σ : L2.St} {H : Hp} {s : Shared} {a b : Addr} {u r : Value} {d : V} {k : List Key} {A : Around} {E : Value → Shared → Prop}
end
def tDSetT (td ty tx : TE) : TE := fun σ H Q => td σ H fun x H1 => ∃ a, x = .ref a ∧ IsD H1 a ∧ ty σ H1 fun y H2 => tx σ H2 fun z H3 => ∃ (kvs : List (List Key × V)) (k : List Key) (b : Addr), H3 a = some (.dT kvs) ∧ y = .ref b ∧ H3 b = some (.tup (k.map kV)) ∧ kvs.length < sizeLine ∧
  ((∃ v, valV kvs k = some v ∧ Q v H3) ∨ (valV kvs k = none ∧ Q z (upd H3 a (.dT (putK kvs k z)))))
section
variable {X : Cx} {o e f : Expr} {td ty tx : TE} {apos cpos : Pos}
end
def sIfSetd (i : Nat) (dk de dz : DE D) (a b : DS) : DS := fun s => match s[i]? with
  | some (some (.dT kd0, .full)) => match dk s with
    | some (.ok k s1) => match de s1 with
      | some (.ok e s2) => match s2[i]?, tkey k with
        | some (some (.dT kd, .full)), some kk => if imm e = true ∧ kd.length < 1000000 ∧ (kd.map (·.1)).Nodup then match valA kd kk with
            | some v => if imm v = true then match dz s2 with
                | some (.ok z s3) => match fNe v z with
                  | some (.bl true) => a s3
                  | some (.bl false) => b s3
                  | _ => none
                | some (.exc x s3) => some (.exc x s3)
                | none => none
              else none
            | none => match dz (s2.set i (some (.dT (putA kd kk e), .full))) with
                | some (.ok z s3) => match fNe e z with
                  | some (.bl true) => a s3
                  | some (.bl false) => b s3
                  | _ => none
                | some (.exc x s3) => some (.exc x s3)
                | none => none
          else none
        | _, _ => none
      | some (.exc x s2) => some (.exc x s2)
      | none => none
    | some (.exc x s1) => some (.exc x s1)
    | none => none
  | _ => none
section
variable {K : PySem.W.Frag} {W : WW} {tk te tz : TE} {dk de dz : DE D} {a b : DS} {i : Nat} {t u : TS}
end
section
variable {X : Cx} {K : PySem.W.Frag} {W : WW} {a b f z : Expr} {apos cpos pos ipos : Pos} {tk te tz : TE} {dk de dz : DE D} {body orelse : List Stmt} {t1 t2 : TS} {d1 d2 : DS}
end
end Dv

namespace Dv
open Enc (enc)
open PySem L2
noncomputable def setdR {κ α : Type} [DecidableEq κ] (d : Dc κ α) (k : κ) (e : α) : R (α × Dc κ α) := match valA d.l k with
  | some v => okIf (d.l.length < 1000000) (v, d)
  | none => okIf (d.l.length < 1000000) (e, dput d k e)
section
variable {κ α τ : Type} [DecidableEq κ] [Enc κ] [KyT κ] [Enc α] [Imm α] [DecidableEq α] [Eqv α] {ps ps1 ps2 : List Pt} {dk de dz : DE D} {a b rest : DS} {Φ : τ → Out → Prop}
def ifzD (dz : DE D) (a b : DS) (v : D) : DS := fun s3 => match dz s3 with
  | some (.ok z s4) => match fNe v z with
    | some (.bl true) => a s4
    | some (.bl false) => b s4
    | _ => none
  | some (.exc x s4) => some (.exc x s4)
  | none => none
end
end Dv

namespace Dv
open PySem PySem.Spec PyProof.Rows L2 Evl
section
variable {prog : Program} {w : World} {s : Shared} {A : Around} {E : Value → Shared → Prop}
end
def rMaxL (K : PySem.W.Frag) : List V → Hp → VK → Prop := fun vs H Q => ∃ (a : Addr) (ns : List Int), vs = [V.ref a] ∧ SqL K H a (ns.map V.int) ∧ 0 < ns.length ∧ ∀ M, M ∈ ns → (∀ x ∈ ns, x ≤ M) → Q (.int M) H
def maxL : List Int → Int
  | [] => 0
  | [x] => x
  | x :: y :: l => if maxL (y :: l) > x then maxL (y :: l) else x
def fMaxL : List D → Option D
  | [.lst ds] => match allInt ds with
    | some (n :: ns) => some (.int (maxL (n :: ns)))
    | _ => none
  | _ => none
section
variable {X : Cx} {K : PySem.W.Frag} {W : WW} {p pos : Pos} {e : Expr} {es : List Expr} {t : TA} {dA : DE (List D)}
end
def cGetN (i : Nat) (dk : DE D) : DE (D × Ow) := fun s => match s[i]? with
  | some (some (d, .no)) => if isDct d = true then match dk s with
    | some (.ok k s1) => match lookD d k with
      | some (some v) => some (.ok (v, .no) s1)
      | _ => none
    | some (.exc x s1) => some (.exc x s1)
    | none => none
    else none
  | _ => none
section
variable {K : PySem.W.Frag} {W : WW} {tk : TE} {dk : DE D} {i : Nat}
end
section
variable {X : Cx} {K : PySem.W.Frag} {W : WW} {pos : Pos} {a b : Expr} {tk : TE} {dk : DE D}
end
end Dv

namespace Dv
open Enc (enc)
open PySem L2
def maxLR (l : List Int) : R Int := match l with
  | [] => .bad
  | n :: ns => .ok (maxL (n :: ns))
section
variable {κ α : Type} [DecidableEq κ] [Enc κ] [Ky κ] [KyD κ] [Enc α] {ps ps1 : List Pt} {dk : DE D}
end
end Dv

namespace Dv
open PySem PySem.Spec PyProof.Rows L2 Evl
def spF (K : PySem.W.Frag) (cl : Str → Value) (n : Nat) (df : DF) : Sp := fun vs H Q E => ∃ B ds o F, Ex B H ∧ OwnL K H vs ds F ∧ (∀ a, w B a + F.count a ≤ 1) ∧ ds.length = n ∧ df ds = some o ∧ match o with
  | .ret d ow => ∀ v B' H' F', Ex B' H' → SS B H F B' H' F' → (∀ a, w B' a + F'.count a ≤ 1) → RS K B' H' v d ow F' → Q v H'
  | .exc c => ∀ B' H' F', Ex B' H' → SS B H F B' H' F' → (∀ a, w B' a + F'.count a ≤ 1) → E (cl c) none H'
theorem OwnL.len {K : PySem.W.Frag} {H : Hp} : ∀ {vs : List V} {ds : List D} {F : List Addr}, OwnL K H vs ds F → vs.length = ds.length
  | _, _, _, .nil => rfl
  | _, _, _, .cons _ t => by rw [List.length_cons, List.length_cons, OwnL.len t]
theorem spF_len {K : PySem.W.Frag} {cl : Str → Value} {n : Nat} {df : DF} {vs : List V} {H : Hp} {Q : VK} {E : XK} (h : spF K cl n df vs H Q E) : vs.length = n := by
  obtain ⟨B, ds, o, F, _, r, _, e, _⟩ := h
  rw [OwnL.len r, e]
def stF (ds : List D) (n : Nat) : SD := ds.map (fun d => some (d, Ow.full)) ++ List.replicate (n - ds.length) none
def dDefF (n : Nat) (body : DS) : DF := fun ds => outF (body (stF ds n))
def dFnF (n N : Nat) (body : DS) : DF := fun ds => if ds.length = n then dDefF N body ds else none
theorem OwnL.each {K : PySem.W.Frag} {H : Hp} : ∀ {vs : List V} {ds : List D} {F : List Addr}, OwnL K H vs ds F → ∃ Gs : List (List Addr), Gs.length = ds.length ∧ Gs.flatten = F ∧ ∀ (i : Nat) d, ds[i]? = some d → ∃ v, vs[i]? = some v ∧ Own K H v d (Gs.getD i [])
  | _, _, _, .nil => ⟨[], rfl, rfl, fun i d h => by simp at h⟩
  | _, _, _, .cons (F := F) a t => by
    obtain ⟨Gs, h1, h2, h3⟩ := OwnL.each t
    refine ⟨F :: Gs, by simp [h1], by simp [h2], fun i d h => ?_⟩
    cases i with
    | zero => cases h; exact ⟨_, rfl, a⟩
    | succ i => exact h3 i d h
theorem OwnL.lives {K : PySem.W.Frag} {H : Hp} : ∀ {vs : List V} {ds : List D} {F : List Addr}, OwnL K H vs ds F → ∀ a ∈ F, H a ≠ none
  | _, _, _, .nil => fun a h => (nomatch h)
  | _, _, _, .cons x t => fun a h => (List.mem_append.mp h).elim (x.live a) (OwnL.lives t a)
theorem def_okF {K : PySem.W.Frag} {cl : Str → Value} {N : List Str} {n : Nat} {body : DS} {ts : TS} {E : XK} {vs : List V} {H : Hp} {Q : VK} (hn : n ≤ N.length) (h : JS K (fun c _ H' => E (cl c) none H') ts body)
    (sp : spF K cl n (dDefF N.length body) vs H Q E) : ts { nx := fun _ H' => Q .non H', rt := Q } (L2.start N vs) H := by
  obtain ⟨B, ds, o, F, eB, r, wt, el, ed, post⟩ := sp
  have lv : vs.length = n := by rw [OwnL.len r, el]
  obtain ⟨Gs, g1, g2, g3⟩ := OwnL.each r
  unfold dDefF at ed
  cases eb : body (stF ds N.length) with
  | none => rw [eb] at ed; cases ed
  | some out =>
    rw [eb] at ed
    have fl : (Gs ++ List.replicate (N.length - ds.length) []).flatten = F := by
      rw [List.flatten_append, g2]
      have : ∀ m, (List.replicate m ([] : List Addr)).flatten = [] := fun m => by
        induction m with
        | zero => rfl
        | succ m ih => simp [List.replicate_succ] at ih ⊢
      rw [this, List.append_nil]
    have R0 : Rel K B H (L2.start N vs) (stF ds N.length) (Gs ++ List.replicate (N.length - ds.length) []) := by
      refine ⟨eB, ?_, ?_, fun i d ow e => ?_, fun a => by rw [← tot_flat, fl]; exact wt a, fun a ha => by rw [fl] at ha; exact OwnL.lives r a ha⟩
      · rw [start_len (by omega)]
        unfold stF
        simp
        omega
      · rw [start_len (by omega)]
        simp [g1]
        omega
      · unfold stF at e
        by_cases hi : i < ds.length
        · rw [List.getElem?_append_left (by simpa using hi), List.getElem?_map] at e
          cases e1 : ds[i]? with
          | none => rw [e1] at e; cases e
          | some d1 =>
            rw [e1] at e
            cases e
            obtain ⟨v, h1, h2⟩ := g3 i d e1
            refine ⟨v, ?_, ?_⟩
            · unfold L2.start
              have := lt_of_get h1
              rw [List.getElem?_append_left (by simpa using this), List.getElem?_map, h1]
              rfl
            · rw [List.getD_eq_getElem?_getD, List.getElem?_append_left (by rw [g1]; exact hi), ← List.getD_eq_getElem?_getD]
              exact h2
        · rw [List.getElem?_append_right (by simpa using hi), List.getElem?_replicate] at e
          split at e <;> cases e
    refine h _ out eb B H _ _ R0 _ ?_
    rw [fl]
    cases out with
    | next s' =>
      cases ed
      intro σ' B' H' Fs' x y
      exact post .non B' H' [] x.ex (y.le fun a => by simp) (fun a => by simpa using w_le) (Own.im rfl .non)
    | brk s' => cases ed
    | cont s' => cases ed
    | exc c s' =>
      cases ed
      exact fun σ' B' H' Fs' x y => post B' H' _ x.ex y x.wf
    | ret d ow =>
      cases ed
      intro v B' H' F' x y z q
      exact post v B' H' F' x y z q
    | retS d ow s' =>
      cases ed
      intro v σ' B' H' F' Fs' x y z _ q
      exact post v B' H' F' x.ex (y.le fun a => by rw [List.count_append]; omega) (fun a => by have := z a; rw [List.count_append] at this; omega) q
def sSetF (i : Nat) (df : DF) (l : DE (List D × Bool)) : DS := fun s => match l s with
  | some (.ok (ds, true) s1) => match df ds with
    | some (.ret d ow) => if i < s1.length then some (.next (s1.set i (some (d, ow)))) else none
    | some (.exc c) => some (.exc c s1)
    | none => none
  | some (.ok (_, false) _) => none
  | some (.exc c s1) => some (.exc c s1)
  | none => none
section
variable {K : PySem.W.Frag} {B H B' H' : Hp} {σ : L2.St} {s : SD} {Fs : List (List Addr)} {F F' : List Addr} {cl : Str → Value} {X : WX} {i : Nat}
theorem Rel.over (R : Rel K B H σ s Fs) (hv : ∀ a, w B a + (F ++ Fs.flatten).count a ≤ 1) (e : Ex B' H') (x : SS B H F B' H' F') (z : ∀ a, w B' a + F'.count a ≤ 1) : Rel K B' H' σ s Fs ∧ (∀ a, w B' a + (F' ++ Fs.flatten).count a ≤ 1) ∧ SS B H (F ++ Fs.flatten) B' H' (F' ++ Fs.flatten) := by
  have apart : ∀ a ∈ Fs.flatten, F.count a = 0 := fun a ha => by
    have h1 := hv a
    have h2 := mem_count ha
    rw [List.count_append] at h1
    omega
  have cnt : ∀ a, w B' a + (F' ++ Fs.flatten).count a ≤ 1 := fun a => by
    rw [List.count_append]
    by_cases ha : H a = none
    · have h1 : Fs.flatten.count a = 0 := List.count_eq_zero.mpr fun m => R.lv a m ha
      have := z a
      omega
    · have h1 := x.wt a ha
      have h2 := hv a
      rw [List.count_append] at h2
      omega
  have keep : ∀ a ∈ Fs.flatten, H' a = H a := fun a ha => x.keep a (R.lv a ha) (apart a ha)
  refine ⟨⟨e, R.l1, R.l2, fun j d ow h => ?_, fun a => ?_, fun a ha => x.live a (R.lv a ha)⟩, cnt, ⟨x.exB, x.tk, fun a ha hc => x.keep a ha (by rw [List.count_append] at hc; omega), x.live, fun a ha => ?_⟩⟩
  · obtain ⟨u, h1, h2⟩ := R.at_ j d ow h
    refine ⟨u, h1, h2.mono x.exB x.tk fun a ha => keep a ?_⟩
    have hj : j < Fs.length := by rw [R.l2, ← R.l1]; exact lt_of_get h
    refine List.mem_flatten.mpr ⟨Fs.getD j [], ?_, ha⟩
    rw [List.getD_eq_getElem?_getD, List.getElem?_eq_getElem hj]
    exact List.getElem_mem hj
  · rw [← tot_flat]
    have := cnt a
    rw [List.count_append] at this
    omega
  · have := x.wt a ha
    rw [List.count_append, List.count_append]
    omega
end
structure CalF (P : Program) (w : World) (K : PySem.W.Frag) (mg : Str → Option Value) (base : Heap) (cl : Str → Value) (x : Str) (k n : Nat) (df : DF) : Prop where
  ex : ∃ (f : Addr) (fd : FuncData) (ps : List Str), FnOk P w K mg base (L2.CX P w) k f fd ps (spF K cl n df) ∧ mg x = some (.ref f) ∧ PySem.W.keepIn K (.ref f) = true ∧ Binds K fd ps []
section
variable {P : Program} {w : World} {K : PySem.W.Frag} {mg : Str → Option Value} {base : Heap} {f : Addr} {fd : FuncData}
theorem CalF.def_ {cl : Str → Value} {x qual : Str} {pr : Arguments} {st : List Stmt} {scope : Scope} {N ps : List Str} {k : Nat} {d : DS} (F : FunD K x qual pr st scope [] [] f fd) (hm : mg x = some (.ref f)) (S : FnScope N ps scope) (hl : ps.length ≤ N.length)
    (hb : ∀ (kV doc pm : Value) (an : Option Addr) (cdv ct : Value) (us : List Value), us.length = ps.length → bindArgs (PySem.W.fnOf x qual pr st scope .none kV doc pm an cdv ct) ⟨us, []⟩ = pure (ps.zip us))
    (h : ∀ (cdv : Value) (A : Around) (outer : List Env) (s : Shared) (H : Hp) (E : XK) (X : Cx), X = cxOf (L2.CX P w) P w K mg base N qual scope f cdv A outer s H E → Room k X.A → Takes X (fun cls d _ H => E cls d H) → PassesOwn (model X.prog X.w) X.A X.env X.xe → ∃ t, QSs X K (wOf cl fun cls d _ H => E cls d H) st t d) :
    CalF P w K mg base cl x (k + 1) ps.length (dFnF ps.length N.length d) := by
  refine ⟨f, fd, ps, ?_, hm, F.kp, F.bindsN hb⟩
  refine F.ok S (fun vs H Q E h => spF_len h) (fun cdv A outer s H vs Q E hr sp => ?_)
  obtain ⟨t, q⟩ := h cdv A outer s H E _ rfl hr (takes_of rfl rfl rfl rfl) (passes_of rfl)
  refine ⟨t, q.p, def_okF hl q.j ?_⟩
  obtain ⟨B, ds, o, F, eB, r, wt, el, ed, post⟩ := sp
  unfold dFnF at ed
  rw [if_pos el] at ed
  exact ⟨B, ds, o, F, eB, r, wt, el, ed, post⟩
end
section
variable {X : Cx} {K : PySem.W.Frag} {x y : Str} {p p2 pos apos : Pos} {e : Expr} {es : List Expr} {t : TA} {dL : DE (List D × Bool)}
end
end Dv

namespace Dv
open Enc (enc)
open PySem L2
instance : Imm Sc := ⟨fun s => immL_map s.ns⟩
def stPF (ds : List D) (n : Nat) : List Pt := ds.map (Pt.h .f) ++ List.replicate (n - ds.length) .x
theorem Ms.stF (ds : List D) (n : Nat) : Ms (stPF ds n) (Dv.stF ds n) := by
  refine Ms.app ?_ (Ms.rep _)
  induction ds with
  | nil => trivial
  | cons d ds ih => exact ⟨⟨.full, rfl, rfl⟩, ih⟩
section
variable {ρ α τ : Type} [Enc ρ] [Enc α] {body rest : DS} {c : Oc} {ps ps1 : List Pt} {Φ : τ → Out → Prop}
end
end Dv

namespace Dv
open PySem PySem.Spec PyProof.Rows L2 Evl
section
variable {X : Cx} {pins : List (Addr × Obj)} {σ : L2.St} {H : Hp} {s : Shared} {a b : Addr} {u r : Value} {d : V} {k : NestedKey} {A : Around} {E : Value → Shared → Prop} {xs : List (NestedKey × Addr × V)}
end
def tDSetN (td ty tx : TE) : TE := fun σ H Q => td σ H fun x H1 => ∃ a xs, x = .ref a ∧ H1 a = some (dictN a xs) ∧ NkIs H1 xs ∧ ty σ H1 fun y H2 => tx σ H2 fun z H3 => ∃ (xs : List (NestedKey × Addr × V)) (k : NestedKey) (b : Addr), H3 a = some (dictN a xs) ∧ y = .ref b ∧ NkAt H3 k (.ref b) ∧ k.depth ≤ 8 ∧ NkIs H3 xs ∧ xs.length < sizeLine ∧
  ((∃ v, valN xs k = some v ∧ Q v H3) ∨ (valN xs k = none ∧ Q z (upd H3 a (dictN a (putN xs k b z)))))
section
variable {X : Cx} {o e f : Expr} {td ty tx : TE} {apos cpos : Pos}
end
def sSetdN (i : Nat) (dk de : DE D) : DS := fun s => match s[i]? with
  | some (some (.dN _, .full)) => match dk s with
    | some (.ok k s1) => match de s1 with
      | some (.ok e s2) => match s2[i]?, ukey k with
        | some (some (.dN kd, .full)), some kk => if imm e = true ∧ kd.length < 1000000 ∧ (kd.map (·.1)).Nodup then match valA kd kk with
            | some _ => some (.next s2)
            | none => some (.next (s2.set i (some (.dN (putA kd kk e), .full))))
          else none
        | _, _ => none
      | some (.exc x s2) => some (.exc x s2)
      | none => none
    | some (.exc x s1) => some (.exc x s1)
    | none => none
  | _ => none
section
variable {K : PySem.W.Frag} {W : WW} {tk te : TE} {dk de : DE D} {i : Nat}
end
section
variable {X : Cx} {K : PySem.W.Frag} {W : WW} {a b f : Expr} {apos cpos spos : Pos} {tk te : TE} {dk de : DE D}
end
end Dv

namespace Dv
open Enc (enc)
open PySem L2
section
variable {κ α τ : Type} [DecidableEq κ] [Enc κ] [KyN κ] [Enc α] [Imm α] {ps ps1 ps2 : List Pt} {dk de : DE D} {rest : DS} {Φ : τ → Out → Prop}
end
end Dv

namespace Dv
open Enc (enc)
open PySem L2
structure Ht where
  h : Int
  l : List (Int × Int)
  deriving DecidableEq
instance : Enc Ht := ⟨fun t => .tup (.int t.h :: t.l.map enc)⟩
theorem imm_ht (t : Ht) : imm (enc t : D) = true := by
  show immL (.int t.h :: t.l.map enc) = true
  simp [immL, imm, imm_pairs]
instance : Imm Ht := ⟨imm_ht⟩
instance : KyN Ht where
  kn t := .num t.h :: t.l.map fun p => .tup [.num p.1, .num p.2]
  inj a b h := by
    obtain ⟨a1, a2⟩ := a
    obtain ⟨b1, b2⟩ := b
    simp only [List.cons.injEq, NestedKey.num.injEq] at h
    have := map_inj (f := fun p : Int × Int => NestedKey.tup [.num p.1, .num p.2]) (fun p q h => pair_kn h) h.2
    rw [h.1, this]
  es t := .int t.h :: t.l.map enc
  en _ := rfl
  nk t := by simp [nkeys, nkey, nkeys_pairs]
  dp t := by
    have := dep_pairs t.l
    simp only [NestedKey.depth, NestedKey.depthAll]
    omega
  im t := imm_ht t
noncomputable def htR (u : Tv Int) (v : Tv (Int × Int)) : R Ht := match u.l with
  | [h] => okIf (1 + v.l.length ≤ 1000000) ⟨h, v.l⟩
  | _ => .bad
section
variable {ps ps1 ps2 : List Pt} {da db : DE D}
end
end Dv

namespace Dv
open PySem PySem.Spec PyProof.Rows L2 Evl
def tailA (i : Nat) (k : D) (c : DE (D × Ow)) : DS := fun s => match c s with
  | some (.ok (e, eo) s2) => match s2[i]? with
    | some (some (d2, .full)) => match lookD d2 k with
      | some (some (.lst ds)) => if (eo = .full ∧ ds.length < 1000000) ∧ isDct d2 = true then (putD d2 k (.lst (ds ++ [e]))).map fun d' => .next (s2.set i (some (d', .full))) else none
      | _ => none
    | _ => none
  | some (.exc x s2) => some (.exc x s2)
  | none => none
def sSetdA (i : Nat) (dk : DE D) (ce c : DE (D × Ow)) : DS := fun s => match s[i]? with
  | some (some (.dK _, .full)) => match dk s with
    | some (.ok k s1) => match ce s1 with
      | some (.ok (z, .full) s2) => match s2[i]?, dkey k, z with
        | some (some (.dK kd, .full)), some kk, .lst zs => if kd.length < 1000000 ∧ (kd.map (·.1)).Nodup then match valA kd kk with
            | some (.lst _) => tailA i k c s2
            | none => tailA i k c (s2.set i (some (.dK (putA kd kk (.lst zs)), .full)))
            | _ => none
          else none
        | _, _, _ => none
      | some (.exc x s2) => some (.exc x s2)
      | _ => none
    | some (.exc x s1) => some (.exc x s1)
    | none => none
  | _ => none
section
variable {K : PySem.W.Frag} {W : WW} {tk te tz : TE} {dk : DE D} {ce c : DE (D × Ow)} {i : Nat}
end
section
variable {X : Cx} {K : PySem.W.Frag} {W : WW} {a b f e : Expr} {apos cpos apos2 cpos2 spos : Pos} {tk te tz : TE} {dk : DE D} {cz ca : DE (D × Ow)}
end
end Dv

namespace Dv
open PySem PySem.Spec PyProof.Rows L2 Evl
def vIts (kd : List (Key × D)) : List (D × Ow) := kd.map fun e => (e.2, Ow.no)
def sRetV (tg : DT) (own : List Nat) (i : Nat) (cond : DE Bool) (elt : DE (D × Ow)) : DS := fun s => match s[i]? with
  | some (some (.dK kd, .full)) => match goC true tg cond elt own (vIts kd) [] (wipeD own (fzAll (s.set i none))) with
    | some (.ok es _) => some (.ret (.lst es) .full)
    | _ => none
  | _ => none
section
variable {K : PySem.W.Frag} {W : WW} {B H B1 H1 : Hp} {σ : L2.St} {s s1 s2 : SD} {Fs : List (List Addr)} {i : Nat} {g : L2.TG} {tg : DT} {tt : TT} {cond : DE Bool} {te : TE} {elt : DE (D × Ow)} {own : List Nat} {es : List D}
end
section
variable {X : Cx} {K : PySem.W.Frag} {W : WW} {apos cpos pos rpos : Pos} {elt src tg : Expr} {tc : TE} {tt : TT} {ifs : List Expr} {scope : Scope} {own : List (Str × Nat)} {g : L2.TG} {tgd : DT} {dt : DE Bool} {ca : DE (D × Ow)}
end
end Dv

namespace Dv
open Enc (enc)
open PySem L2
noncomputable def addR {κ α : Type} [DecidableEq κ] (d : Dc κ (List α)) (k : κ) (u : α) : R (Dc κ (List α)) := match valA d.l k with
  | some l => okIf (l.length < 1000000) (dput d k (l ++ [u]))
  | none => .ok (dput (dput d k []) k ([] ++ [u]))
def dvalsL {κ α : Type} (d : Dc κ α) : List α := d.l.map (·.2)
section
variable {κ α β τ ρ : Type} [DecidableEq κ] [Enc κ] [KyK κ] [Enc α] [Enc β] {ps ps1 ps2 ps3 : List Pt} {dk : DE D} {ca cz : DE (D × Ow)} {rest : DS} {Φ : τ → Out → Prop}
end
end Dv

namespace Dv
open PySem PySem.Spec PyProof.Rows L2 Evl
def fEqS : D → D → Option D
  | .str a, .str b => some (.bl (decide (a = b)))
  | _, _ => none
def fNeS : D → D → Option D
  | .str a, .str b => some (.bl (!decide (a = b)))
  | _, _ => none
def fInS (x y : D) : Option D := match x, y with
  | .str a, .str z => match a.cps.toList with
    | [c] => some (.bl (decide (c ∈ z.cps.toList)))
    | _ => none
  | _, _ => none
def fNinS (x y : D) : Option D := match x, y with
  | .str a, .str z => match a.cps.toList with
    | [c] => some (.bl (!decide (c ∈ z.cps.toList)))
    | _ => none
  | _, _ => none
abbrev rInS1 : R2 := fun x y H Q => ∃ (c : Nat) (z : Str), x = .str ⟨#[c]⟩ ∧ y = .str z ∧ Q (.bl (decide (c ∈ z.cps.toList))) H
abbrev rNinS1 : R2 := fun x y H Q => ∃ (c : Nat) (z : Str), x = .str ⟨#[c]⟩ ∧ y = .str z ∧ Q (.bl (!decide (c ∈ z.cps.toList))) H
section
variable {K : PySem.W.Frag}
end
section
variable {X : Cx} {K : PySem.W.Frag} {W : WW} {pos : Pos} {a b : Expr} {ta tb : TE} {da db : DE D}
end
abbrev rIntS : List V → Hp → VK → Prop := fun xs H Q => ∃ a n, xs = [.str a] ∧ PySem.intText? a = some n ∧ a.length ≤ 640 ∧ Q (.int n) H
def fIntS : List D → Option D
  | [.str a] => if a.length ≤ 640 then (PySem.intText? a).map .int else none
  | _ => none
section
variable {X : Cx} {K : PySem.W.Frag} {W : WW} {p pos : Pos} {e : Expr} {es : List Expr} {t : TA} {dA : DE (List D)}
end
abbrev rJoin (K : PySem.W.Frag) : V → List V → Hp → VK → Prop := fun x xs H Q => ∃ a p, ∃ ys : List Str, x = .str a ∧ xs = [.ref p] ∧ (SqL K H p (ys.map V.str) ∨ SqT K H p (ys.map V.str)) ∧ (ys.map (·.length)).sum + ys.length * a.length ≤ 16777216 ∧ Q (.str (Txt.join a ys)) H
def allStr : List D → Option (List Str)
  | [] => some []
  | .str x :: ds => (allStr ds).map (x :: ·)
  | _ => none
def fJoin (x y : D) : Option D := match x, y with
  | .str a, .lst ds => match allStr ds with
    | some ys => if (ys.map (·.length)).sum + ys.length * a.length ≤ 16777216 then some (.str (Txt.join a ys)) else none
    | none => none
  | _, _ => none
def isStr : D → Bool
  | .str _ => true
  | _ => false
def dMetS (f : D → D → Option D) (da db : DE D) : DE D := bnd da fun x s => if isStr x = true then bnd db (fun y s => (f x y).map fun d => .ok d s) s else none
abbrev rSplit : V → List V → Hp → VK → Prop := fun x xs H Q => ∃ a b, x = .str a ∧ xs = [.str b] ∧ (b.length == 0) = false ∧ a.length + 2 ≤ sizeLine ∧ rNewStrs (Txt.split a b) H Q
def splitD (x y : D) (s : SD) : Option (Er (D × Ow)) := match x, y with
  | .str a, .str b => if (b.length == 0) = false ∧ a.length ≤ 1000000 then some (mkL ((Txt.split a b).map D.str) s) else none
  | _, _ => none
def cSplit (da db : DE D) : DE (D × Ow) := bnd da fun x s => if isStr x = true then bnd db (fun y s => splitD x y s) s else none
section
variable {K : PySem.W.Frag} {W : WW} {ta tb : TE} {da db : DE D}
end
section
variable {X : Cx} {K : PySem.W.Frag} {W : WW} {pos apos : Pos} {a e : Expr} {ta te : TE} {da de : DE D}
end
def chD (x : Str) : List (D × Ow) := x.cps.toList.map fun c => (D.str ⟨#[c]⟩, Ow.full)
def sForS (tg : DT) (da : DE D) (body : DS) : DS := fun s => match da s with
  | some (.ok (.str x) s1) => goFor tg body (chD x) s1
  | some (.exc c s1) => some (.exc c s1)
  | _ => none
section
variable {K : PySem.W.Frag} {W : WW} {te : TE} {g : L2.TG} {tb : TS} {tg : DT} {own : List Nat} {body : DS} {da : DE D} {B1 H1 : Hp} {o : Out} {En : Ends}
end
section
variable {X : Cx} {K : PySem.W.Frag} {W : WW} {pos : Pos} {src tg : Expr} {body : List Stmt} {te : TE} {da : DE D} {g : L2.TG} {tgd : DT} {ow : List Nat} {t1 : TS} {d1 : DS}
end
section
variable {X : Cx} {K : PySem.W.Frag} {W : WW} {x : Str} {p : Pos}
end
end Dv

namespace Dv
open PySem L2 PySem.Spec PyProof.Rows Evl
noncomputable def sKeepX (xs : List Str) (i j : Nat) (d dr : DS) (dx : Addr → Str → DS) : DS := fun s => match d s with
  | some (.exc c s1) => if c ∈ xs ∧ i < s1.length ∧ j < s1.length then
      @dite _ (∃ o, ∀ a, dx a c ((s1.set j (some (.ins exN (exFs a), .no))).set i none) = some o) (Classical.propDecidable _) (fun h => some (Classical.choose h)) (fun _ => none)
    else none
  | some (.next s1) => dr s1
  | r => r
def dIsX (a : Addr) (b : Bool) (j : Nat) : DE D := fun s => match s[j]? with
  | some (some (.ins c [(n, .int a')], ow)) => if c = exN ∧ n = exN ∧ a' = (a : Int) then some (.ok (.bl b) s) else none
  | _ => none
section
variable {K : PySem.W.Frag} {W : WW}
end
section
variable {X : Cx} {K : PySem.W.Frag} {W : WW} {oe : Obj} {xs : List Str} {k n x : Str} {j : Nat} {a : Addr} {p p2 p3 p4 : Pos} {es : List Expr} {x1 : Nat}
end
section
variable {X : Cx} {K : PySem.W.Frag} {Wx : WX} {xs : List Str} {i j : Nat} {n m : Str} {body rest : List Stmt} {np p p2 pos pos' pos2 : Pos} {tb : WX → TS} {tr : TS} {d dr : DS} {dx : Addr → Str → DS} {tk : Addr → Str → TS}
end
end Dv

namespace Dv
open Enc (enc)
open PySem L2
def chars (x : Str) : List Str := x.cps.toList.map fun c => (⟨#[c]⟩ : Str)
def inSR (u v : Str) : R Bool := match u.cps.toList with
  | [c] => .ok (decide (c ∈ v.cps.toList))
  | _ => .bad
def ninSR (u v : Str) : R Bool := match u.cps.toList with
  | [c] => .ok (!decide (c ∈ v.cps.toList))
  | _ => .bad
noncomputable def intSR (a : Str) : R Int := R.bind (okIf (a.length ≤ 640) ()) fun _ => ofO (PySem.intText? a)
noncomputable def splitR (a b : Str) : R (List Str) := okIf ((b.length == 0) = false ∧ a.length ≤ 1000000) (Txt.split a b)
noncomputable def joinR (a : Str) (ys : List Str) : R Str := okIf ((ys.map (·.length)).sum + ys.length * a.length ≤ 16777216) (Txt.join a ys)
noncomputable def atS (z : Str) (i : Int) : R Str := R.bind (okIf (z.length ≤ 1000000) ()) fun _ => R.bind (atR z.cps.toList i) fun c => .ok (⟨#[c]⟩ : Str)
section
variable {ps ps1 ps2 ps3 : List Pt} {da db : DE D}
end
section
variable {σ τ ρ : Type} {ps ps1 : List Pt} {da : DE D} {body rest : DS} {N : σ → List Pt} {Φ : τ → Out → Prop}
end
structure Xc where
  a : Addr
instance : Enc Xc := ⟨fun x => .ins exN (exFs x.a)⟩
def exP : Nat → Nat → Addr → List Pt
  | 0, _, _ => []
  | n + 1, 0, a => .h .o (enc (Xc.mk a)) :: List.replicate n .x
  | n + 1, j + 1, a => .x :: exP n j a
section
variable {β τ ρ : Type} [Enc ρ] {ps : List Pt} {d dr : DS} {dx : Addr → Str → DS} {xs : List Str} {i j : Nat} {x : R β} {y : β → R τ} {z : Str → R τ} {w : ρ → τ} {Φ : τ → Out → Prop} {N : β → List Pt}
def keepX (xs : List Str) (z : Str → R τ) (x : R β) (y : β → R τ) : R τ := match x with
  | .ok v => y v
  | .exc c => if c ∈ xs then z c else .bad
  | .bad => .bad
def ΦX (w : ρ → τ) (t : τ) (o : Out) : Prop := ∃ b, t = w b ∧ o = .ret (enc b) .full
end
section
variable {ps : List Pt} {a : Addr} {b : Bool} {j : Nat}
end
end Dv

namespace Dv
open PySem L2 PySem.Spec PyProof.Rows Evl
def sThru (d : DS) : DS := fun s => match d s with
  | some (.exc _ _) => none
  | r => r
def wNo : WX := fun _ _ _ _ => False
section
variable {X : Cx} {K : PySem.W.Frag} {Wx : WX} {body : List Stmt} {h0 : ExceptHandler} {hs : List ExceptHandler} {pos : Pos} {tb : WX → TS} {d : DS}
end
def sMutP (i : Nat) (dks : List (DE D)) (m : Mu) : DS := fun s => match (if (s[i]?).join.isSome = true then dPA i [] dks s else none) with
  | some (.ok ks s1) => match s1[i]? with
    | some (some (d, .full)) => match getP ks d with
      | some (.lst ds) => (m.on ds).map fun ds' => .next (s1.set i (some (setP ks d (.lst ds'), .full)))
      | _ => none
    | _ => none
  | some (.exc x s1) => some (.exc x s1)
  | none => none
section
variable {K : PySem.W.Frag} {W : WW} {i : Nat} {tks : List TE} {dks : List (DE D)} {m : Mu}
end
section
variable {X : Cx} {K : PySem.W.Frag} {W : WW} {pos cpos apos : Pos} {a : Expr} {i : Nat} {tks : List TE} {dks : List (DE D)}
end
end Dv

namespace Dv
open Enc (enc)
open PySem L2
section
variable {τ α β : Type} [Enc α] [Enc β] {ps ps1 : List Pt} {rest : DS} {Φ : τ → Out → Prop}
end
end Dv

namespace Dv
open PySem L2 PySem.Spec PyProof.Rows Evl
section
variable {K : PySem.W.Frag} {G H : Hp}
abbrev Zs := List (NestedKey × V × D)
def fndZ (zs : Zs) (k : NestedKey) : Option (NestedKey × V × D) := zs.find? fun e => decide (e.1 = k)
def rmZ (zs : Zs) (k : NestedKey) : Zs := zs.eraseP fun e => decide (e.1 = k)
end
def pickN (kd : List (NestedKey × D)) (ks : List D) : Option (List D) := match ks.mapM ukey with
  | some nks => if nks.Nodup ∧ nks.length = kd.length ∧ nks.length ≤ 1000000 then nks.mapM (valA kd) else none
  | none => none
def cOutN (i k : Nat) (da : DE D) : DE (D × Ow) := fun s => match da s with
  | some (.ok (.lst ks) s1) => match s1[i]? with
    | some (some (.dN kd, .full)) => if k < s1.length ∧ i ≠ k then (pickN kd ks).map fun ds => .ok (.lst ds, .full) (s1.set i none) else none
    | _ => none
  | some (.exc c s1) => some (.exc c s1)
  | _ => none
section
variable {K : PySem.W.Frag} {W : WW} {i k : Nat} {ta : TE} {da : DE D}
end
section
variable {X : Cx} {K : PySem.W.Frag} {W : WW} {scope : Scope} {own : List (Str × Nat)} {src tg elt : Expr} {ta : TE} {da : DE D} {tgd : DT} {pos : Pos} {i k : Nat} {is : List Nat}
end
end Dv

namespace Dv
open Enc (enc)
open PySem L2
section
variable {κ α : Type} [DecidableEq κ] [Enc κ] [KyN κ] [Dlt κ] [Enc α] {ps ps1 : List Pt} {da : DE D}
end
end Dv

namespace Dv
open PySem L2 PySem.Spec PyProof.Rows Evl
def goO (tg : DT) (elt : DE (D × Ow)) (own : List Nat) : List D → List D → DE (List D)
  | [], acc, s => some (.ok acc s)
  | d :: r, acc, s => match tg d .full s with
    | none => none
    | some s1 => match elt s1 with
      | some (.ok (e, .full) s3) => if acc.length < 1000000 then goO tg elt own r (acc ++ [e]) (wipeD own s3) else none
      | _ => none
def cCompO (tg : DT) (own : List Nat) (c elt : DE (D × Ow)) : DE (D × Ow) := fun s => match c s with
  | some (.ok (.lst ds, .full) s1) => match goO tg elt own ds [] (wipeD own (fzAll s1)) with
    | some (.ok es _) => some (.ok (.lst es, .full) s1)
    | _ => none
  | some (.exc x s1) => some (.exc x s1)
  | _ => none
section
variable {K : PySem.W.Frag} {W : WW} {g : L2.TG} {tg : DT} {te : TE} {elt : DE (D × Ow)} {own : List Nat} {B1 H1 : Hp} {σ : L2.St} {L1 : List Addr} {es : List D} {Dp p : Addr} {xs : List V}
def CPO (K : PySem.W.Frag) (tg : DT) (elt : DE (D × Ow)) (own : List Nat) (B1 H1 : Hp) (L1 : List Addr) (σ : L2.St) (es : List D) (p : Addr) (xs : List V) (ds : List D) (Dp : Addr) (k : Nat) (H : Hp) : Prop :=
  ∃ B' Fs' s' vs acc F Fr s2, Rel K B' H (wipe σ own) s' Fs' ∧ H Dp = some (.lst vs) ∧ OwnL K H vs acc F ∧ H p = some (.lst xs) ∧ OwnL K H (xs.drop k) (ds.drop k) Fr ∧ ES B1 H1 L1 B' H ((Dp :: (F ++ (p :: Fr))) ++ Fs'.flatten) ∧
    (∀ a, w B' a + ((Dp :: (F ++ (p :: Fr))) ++ Fs'.flatten).count a ≤ 1) ∧ goO tg elt own (ds.drop k) acc s' = some (.ok es s2)
end
section
variable {X : Cx} {K : PySem.W.Frag} {W : WW} {scope : Scope} {own : List (Str × Nat)} {src tg elt : Expr} {te1 te2 : TE} {c ca : DE (D × Ow)} {g : L2.TG} {tgd : DT} {pos : Pos}
end
end Dv

namespace Dv
open Enc (enc)
open PySem L2
section
variable {ι α : Type} [Enc ι] [Enc α] {ps ps1 : List Pt}
end
end Dv

namespace Dv
open PySem L2 PySem.Spec PyProof.Rows Evl
def bSlice (a : DE D) (lo hi : DO) : DE D := bnd a fun x => bnd (dPair lo hi) fun y s => match x with
  | .lst xs => some (.ok (.lst (cut xs y.1 y.2)) s)
  | _ => none
section
variable {K : PySem.W.Frag} {W : WW} {B H : Hp} {σ : L2.St} {s : SD} {Fs : List (List Addr)} {p : Addr}
end
section
variable {X : Cx} {K : PySem.W.Frag} {W : WW} {a : Expr} {o1 o2 : Option Expr} {ta : TE} {da : DE D} {tl th : TO} {dl dh : DO} {p pos : Pos}
end
end Dv

namespace Dv
open Enc (enc)
open PySem L2
section
variable {α : Type} [Enc α] {ps ps1 ps2 ps3 : List Pt} {da : DE D}
end
instance {α β : Type} [Enc α] [Enc β] [NI α] : NI (α × β) := ⟨fun a => by
  show (imm (enc a.1) && (imm (enc a.2) && true)) = false
  rw [NI.ni a.1]; rfl⟩
end Dv

namespace Dv
open PySem PySem.Spec PyProof.Rows L2 Evl
abbrev tupP (ns : List Int) : PyData := .tuple (ns.map .int)
def rSortTD (K : PySem.W.Frag) (P : Program) (w : World) : List V → Hp → VK → Prop := fun vs H Q => ∃ (a : Addr) (L : List (Addr × List Int)), vs = [V.ref a] ∧ H a = some (SetTO P w a L) ∧ (∀ p ∈ L, SqT K H p.1 (p.2.map V.int)) ∧ (∀ p ∈ L, Dp K H (.ref p.1) (tupP p.2)) ∧
  (∀ L1 : List (Addr × List Int), L1.Perm L → (L1.map (·.2)).Nodup → srtOk (L1.map fun p => tupP p.2) = true) ∧
  ∀ (L' L1 : List (Addr × List Int)) (p : Addr), L1.Perm L → (L1.map (·.2)).Nodup → L' = (L1.mergeSort fun q r => dle (tupP q.2) (tupP r.2)) → H p = none → Q (.ref p) (upd H p (.lst (L'.map fun q => V.ref q.1)))
def ltT : List Int → List Int → Bool := lexB (Dlt.dlt : Int → Int → Bool)
def leT (a b : List Int) : Bool := !ltT b a
def onceT : List (List Int) → List (List Int)
  | [] => []
  | x :: l => if x ∈ onceT l then onceT l else x :: onceT l
def srtT (l : List (List Int)) : List (List Int) := (onceT l).mergeSort leT
def tOk (l : List (List Int)) : Bool := (l.all fun x => !x.isEmpty) || l.all fun x => x.isEmpty
def tupD (ns : List Int) : D := .tup (ns.map D.int)
def allTup : List D → Option (List (List Int))
  | [] => some []
  | .tup ds :: xs => match allInt ds, allTup xs with
    | some ns, some r => some (ns :: r)
    | _, _ => none
  | _ => none
def cSortSetT (dr : DE (List D)) : DE (D × Ow) := bnd dr fun ds s => match ds with
  | [.lst xs] => match allTup xs with
    | some nss => if nss.length < 64 ∧ tOk nss = true then some (mkL ((srtT nss).map tupD) s) else none
    | none => none
  | _ => none
section
variable {K : PySem.W.Frag} {W : WW} {P : Program} {w : World}
end
section
variable {X : Cx} {K : PySem.W.Frag} {W : WW} {p pos p2 pos2 : Pos} {e : Expr} {t : TA} {dA : DE (List D)}
end
end Dv

namespace Dv
open Enc (enc)
open PySem L2
section
variable {ps ps1 : List Pt} {dr : DE (List D)}
noncomputable def sortSetTR (l : List (Tv Int)) : R (List (Tv Int)) := okIf (l.length < 64 ∧ tOk (l.map (·.l)) = true) ((srtT (l.map (·.l))).map Tv.mk)
end
end Dv

namespace Dv
open PySem L2 Evl

inductive Stp where
  | ix (k : Int) | fd (c f : Str)
def putFD (f : Str) (v : D) : List (Str × D) → List (Str × D)
  | [] => [(f, v)]
  | (g, x) :: r => if g = f then (g, v) :: r else (g, x) :: putFD f v r
def getS : List Stp → D → Option D
  | [], d => some d
  | .ix k :: ks, .lst ds => (L2.atI ds k).bind (getS ks)
  | .ix k :: ks, .tup ds => (L2.atI ds k).bind (getS ks)
  | .fd c f :: ks, .ins c' fs => if c' = c ∧ c' ≠ exN then (fs.lookup f).bind (getS ks) else none
  | _, _ => none
def setS : List Stp → D → D → D
  | [], _, n => n
  | .ix k :: ks, .lst ds, n => match L2.atI ds k with
    | some d => .lst (setI ds k (setS ks d n))
    | none => .lst ds
  | .ix k :: ks, .tup ds, n => match L2.atI ds k with
    | some d => .tup (setI ds k (setS ks d n))
    | none => .tup ds
  | .fd _ f :: ks, .ins c fs, n => match fs.lookup f with
    | some d => .ins c (putFD f (setS ks d n) fs)
    | none => .ins c fs
  | _, d, _ => d
inductive WkS (K : PySem.W.Frag) (H : Hp) : List Stp → V → V → Prop
  | nil (v : V) : WkS K H [] v v
  | lst {p : Addr} {vs : List V} {k : Int} {ks : List Stp} {x u : V} : H p = some (.lst vs) → L2.atI vs k = some x → WkS K H ks x u → WkS K H (.ix k :: ks) (.ref p) u
  | tup {p : Addr} {vs : List V} {k : Int} {ks : List Stp} {x u : V} : H p = some (.tup vs) → L2.atI vs k = some x → WkS K H ks x u → WkS K H (.ix k :: ks) (.ref p) u
  | fd {p dx : Addr} {c f : Str} {fs : List (Str × V)} {ks : List Stp} {x u : V} : H p = some (.ins (He.ga K c) dx fs) → fs.lookup f = some x → WkS K H ks x u → WkS K H (.fd c f :: ks) (.ref p) u
theorem WkS.uniq {K : PySem.W.Frag} {H : Hp} : ∀ {ks : List Stp} {v u u' : V}, WkS K H ks v u → WkS K H ks v u' → u = u'
  | _, _, _, _, .nil _, .nil _ => rfl
  | _, _, _, _, .lst a b c, .lst a' b' c' => by
    rw [a] at a'; cases a'
    rw [b] at b'; cases b'
    exact WkS.uniq c c'
  | _, _, _, _, .tup a b c, .tup a' b' c' => by
    rw [a] at a'; cases a'
    rw [b] at b'; cases b'
    exact WkS.uniq c c'
  | _, _, _, _, .lst a b c, .tup a' b' c' => by
    rw [a] at a'; cases a'
  | _, _, _, _, .tup a b c, .lst a' b' c' => by
    rw [a] at a'; cases a'
  | _, _, _, _, .fd a b c, .fd a' b' c' => by
    rw [a] at a'
    injection a' with a'
    injection a' with a1 a2 a3
    subst a3
    rw [b] at b'; cases b'
    exact WkS.uniq c c'
theorem WkS.ex {K : PySem.W.Frag} {H H' : Hp} (e : Ex H H') : ∀ {ks : List Stp} {v u : V}, WkS K H ks v u → WkS K H' ks v u
  | _, _, _, .nil _ => .nil _
  | _, _, _, .lst a b c => .lst (e _ _ a) b (WkS.ex e c)
  | _, _, _, .tup a b c => .tup (e _ _ a) b (WkS.ex e c)
  | _, _, _, .fd a b c => .fd (e _ _ a) b (WkS.ex e c)
theorem lookD_cons {f g : Str} {x : α} {r : List (Str × α)} : List.lookup f ((g, x) :: r) = if f = g then some x else List.lookup f r := by
  by_cases h : f = g
  · have hb : (f == g) = true := beq_iff_eq.mpr h
    simp only [List.lookup, hb, if_pos h]
  · have hb : (f == g) = false := beq_eq_false_iff_ne.mpr h
    simp only [List.lookup, hb, if_neg h]
section
variable {K : PySem.W.Frag} {H : Hp}
theorem OwnL.fld {f : Str} : ∀ {fs : List (Str × V)} {fd : List (Str × D)} {F : List Addr} {d : D}, fs.map (·.1) = fd.map (·.1) → OwnL K H (fs.map (·.2)) (fd.map (·.2)) F → fd.lookup f = some d →
    ∃ (v : V) (Fj R : List Addr), fs.lookup f = some v ∧ Own K H v d Fj ∧ (∀ a, F.count a = Fj.count a + R.count a) ∧
      ∀ (H' : Hp) (d' : D) (F' : List Addr), Tk H H' → (∀ a ∈ R, H' a = H a) → Own K H' v d' F' → ∃ G : List Addr, OwnL K H' (fs.map (·.2)) ((putFD f d' fd).map (·.2)) G ∧ ∀ a, G.count a = F'.count a + R.count a
  | [], [], _, _, _, _, e => by simp at e
  | [], _ :: _, _, _, hk, _, _ => by simp at hk
  | _ :: _, [], _, _, hk, _, _ => by simp at hk
  | (g, x) :: r, (g', y) :: r', F, d, hk, o, e => by
    simp only [List.map_cons, List.cons.injEq] at hk
    obtain ⟨rfl, hk⟩ := hk
    simp only [List.map_cons] at o
    cases o with
    | cons ox orr =>
      rename_i F1 G1
      rw [lookD_cons] at e
      by_cases c : f = g
      · rw [if_pos c] at e
        cases e
        refine ⟨x, F1, G1, by rw [lookD_cons, if_pos c], ox, fun a => List.count_append, fun H' d' F' t k o' => ⟨F' ++ G1, ?_, fun a => List.count_append⟩⟩
        unfold putFD
        rw [if_pos c.symm]
        exact .cons o' (orr.mono t k)
      · rw [if_neg c] at e
        obtain ⟨v, Fj, R, h1, h2, h3, h4⟩ := OwnL.fld hk orr e
        refine ⟨v, Fj, F1 ++ R, by rw [lookD_cons, if_neg c]; exact h1, h2, fun a => ?_, fun H' d' F' t k o' => ?_⟩
        · have := h3 a
          rw [List.count_append, List.count_append]
          omega
        · obtain ⟨G, g1, g2⟩ := h4 H' d' F' t (fun a ha => k a (List.mem_append_right _ ha)) o'
          refine ⟨F1 ++ G, ?_, fun a => ?_⟩
          · unfold putFD
            rw [if_neg (fun z => c z.symm)]
            exact .cons (ox.mono t fun a ha => k a (List.mem_append_left _ ha)) g1
          · have := g2 a
            rw [List.count_append, List.count_append]
            omega
theorem ReL.at_ {G : Hp} {vs : List V} {ds : List D} {k : Int} {d : D} (r : ReL K G H vs ds) (e : L2.atI ds k = some d) : ∃ v, L2.atI vs k = some v ∧ Re K G H v d := by
  obtain ⟨j, e1, e2⟩ := atI_some e
  obtain ⟨v, h1, h2⟩ := r.get e2
  exact ⟨v, atI_mk (by rw [r.length]; exact e1) h1, h2⟩
theorem ReL.fld {G : Hp} {f : Str} : ∀ {fs : List (Str × V)} {fd : List (Str × D)} {d : D}, fs.map (·.1) = fd.map (·.1) → ReL K G H (fs.map (·.2)) (fd.map (·.2)) → fd.lookup f = some d → ∃ v, fs.lookup f = some v ∧ Re K G H v d
  | [], [], _, _, _, e => by simp at e
  | [], _ :: _, _, hk, _, _ => by simp at hk
  | _ :: _, [], _, hk, _, _ => by simp at hk
  | (g, x) :: r, (g', y) :: r', d, hk, o, e => by
    simp only [List.map_cons, List.cons.injEq] at hk
    obtain ⟨rfl, hk⟩ := hk
    simp only [List.map_cons] at o
    cases o with
    | cons ox orr =>
      rw [lookD_cons] at e
      by_cases c : f = g
      · rw [if_pos c] at e
        cases e
        exact ⟨x, by rw [lookD_cons, if_pos c], ox⟩
      · rw [if_neg c] at e
        obtain ⟨v, h1, h2⟩ := ReL.fld hk orr e
        exact ⟨v, by rw [lookD_cons, if_neg c]; exact h1, h2⟩
end
end Dv

namespace Dv
open PySem PySem.Spec PyProof.Rows L2 Evl

inductive Md where
  | r | t | w
  deriving DecidableEq
def nW : List Md → Nat
  | [] => 0
  | .w :: ms => nW ms + 1
  | _ :: ms => nW ms
inductive HM (K : PySem.W.Frag) (B H : Hp) : List Md → List V → List D → List (List Addr) → Prop
  | nil : HM K B H [] [] [] []
  | r {v : V} {d : D} {ms : List Md} {vs : List V} {ds : List D} {Fs : List (List Addr)} : Re K B H v d → HM K B H ms vs ds Fs → HM K B H (.r :: ms) (v :: vs) (d :: ds) ([] :: Fs)
  | t {v : V} {d : D} {F : List Addr} {ms : List Md} {vs : List V} {ds : List D} {Fs : List (List Addr)} : Own K H v d F → HM K B H ms vs ds Fs → HM K B H (.t :: ms) (v :: vs) (d :: ds) (F :: Fs)
  | w {q : Addr} {d : D} {F : List Addr} {ms : List Md} {vs : List V} {ds : List D} {Fs : List (List Addr)} : Own K H (.ref q) d F → HM K B H ms vs ds Fs → HM K B H (.w :: ms) (.ref q :: vs) (d :: ds) (F :: Fs)
inductive WL (K : PySem.W.Frag) (H' : Hp) : List Md → List V → List D → List (List Addr) → Prop
  | nil : WL K H' [] [] [] []
  | r {v : V} {ms : List Md} {vs : List V} {ws : List D} {Fs : List (List Addr)} : WL K H' ms vs ws Fs → WL K H' (.r :: ms) (v :: vs) ws ([] :: Fs)
  | t {v : V} {ms : List Md} {vs : List V} {ws : List D} {Fs : List (List Addr)} : WL K H' ms vs ws Fs → WL K H' (.t :: ms) (v :: vs) ws ([] :: Fs)
  | w {v : V} {d : D} {F : List Addr} {ms : List Md} {vs : List V} {ws : List D} {Fs : List (List Addr)} : Own K H' v d F → WL K H' ms vs ws Fs → WL K H' (.w :: ms) (v :: vs) (d :: ws) (F :: Fs)
abbrev GF := List D → Option (D × Ow × List D)
def spG (K : PySem.W.Frag) (ms : List Md) (gf : GF) : Sp := fun vs H Q _ => ∃ (B : Hp) (ds : List D) (Fs : List (List Addr)) (r : D) (ow : Ow) (ws : List D), Ex B H ∧ HM K B H ms vs ds Fs ∧ (∀ a, w B a + Fs.flatten.count a ≤ 1) ∧ gf ds = some (r, ow, ws) ∧
  ∀ v B' H' F Fs', Ex B' H' → SS B H Fs.flatten B' H' (F ++ Fs'.flatten) → (∀ a, w B' a + (F ++ Fs'.flatten).count a ≤ 1) → RS K B' H' v r ow F → WL K H' ms vs ws Fs' → Q v H'
def spDG (K : PySem.W.Frag) (cl : Str → Value) (ms : List Md) (df : DF) (gf : GF) : Sp := fun vs H Q E => spD K cl ms.length df vs H Q E ∨ spG K ms gf vs H Q E
theorem HM.len {K : PySem.W.Frag} {B H : Hp} : ∀ {ms : List Md} {vs : List V} {ds : List D} {Fs : List (List Addr)}, HM K B H ms vs ds Fs → vs.length = ms.length ∧ ds.length = ms.length ∧ Fs.length = ms.length
  | _, _, _, _, .nil => ⟨rfl, rfl, rfl⟩
  | _, _, _, _, .r _ tl => by obtain ⟨a, b, c⟩ := HM.len tl; simp [a, b, c]
  | _, _, _, _, .t _ tl => by obtain ⟨a, b, c⟩ := HM.len tl; simp [a, b, c]
  | _, _, _, _, .w _ tl => by obtain ⟨a, b, c⟩ := HM.len tl; simp [a, b, c]
def stGo : List Md → List Addr → List D → SD
  | .r :: ms, qs, d :: ds => some (d, .no) :: stGo ms qs ds
  | .t :: ms, qs, d :: ds => some (d, .full) :: stGo ms qs ds
  | .w :: ms, q :: qs, d :: ds => some (d, .adr q) :: stGo ms qs ds
  | _, _, _ => []
def stG (ms : List Md) (qs : List Addr) (ds : List D) (n : Nat) : SD := stGo ms qs ds ++ List.replicate (n - ds.length) none
def wsOf : List Md → List Addr → SD → Option (List D)
  | [], _, _ => some []
  | .r :: ms, qs, _ :: s => wsOf ms qs s
  | .t :: ms, qs, _ :: s => wsOf ms qs s
  | .w :: ms, q :: qs, some (d, .adr q') :: s => if q' = q then (wsOf ms qs s).map (d :: ·) else none
  | _, _, _ => none
def outG (ms : List Md) (qs : List Addr) : Option Out → Option (D × Ow × List D)
  | some (.next s) => (wsOf ms qs s).map fun ws => (.non, .full, ws)
  | some (.retS d ow s) => (wsOf ms qs s).map fun ws => (d, ow, ws)
  | some (.ret d ow) => if nW ms = 0 then some (d, ow, []) else none
  | _ => none
open Classical in
noncomputable def dDefG (n : Nat) (ms : List Md) (body : DS) : GF := fun ds => if h : ∃ o, ∀ qs : List Addr, qs.length = nW ms → outG ms qs (body (stG ms qs ds n)) = some o then some h.choose else none
def adrsOf : List Md → List V → List Addr
  | .w :: ms, .ref q :: vs => q :: adrsOf ms vs
  | .r :: ms, _ :: vs => adrsOf ms vs
  | .t :: ms, _ :: vs => adrsOf ms vs
  | _, _ => []
section
variable {K : PySem.W.Frag} {B H B' H' : Hp}
theorem HM.start : ∀ {ms : List Md} {vs : List V} {ds : List D} {Fs : List (List Addr)}, HM K B H ms vs ds Fs → (stGo ms (adrsOf ms vs) ds).length = ms.length ∧ ∀ (i : Nat) d ow, (stGo ms (adrsOf ms vs) ds)[i]? = some (some (d, ow)) → ∃ v, vs[i]? = some v ∧ RS K B H v d ow (Fs.getD i [])
  | _, _, _, _, .nil => ⟨rfl, fun i d ow h => by simp [stGo] at h⟩
  | _, _, _, _, .r a tl => by
    obtain ⟨h1, h2⟩ := HM.start tl
    refine ⟨by simpa [adrsOf, stGo] using h1, fun i d ow h => ?_⟩
    cases i with
    | zero =>
      simp only [adrsOf, stGo, List.getElem?_cons_zero, Option.some.injEq, Prod.mk.injEq] at h
      obtain ⟨rfl, rfl⟩ := h
      exact ⟨_, rfl, a, rfl⟩
    | succ i => exact h2 i d ow (by simpa [adrsOf, stGo] using h)
  | _, _, _, _, .t a tl => by
    obtain ⟨h1, h2⟩ := HM.start tl
    refine ⟨by simpa [adrsOf, stGo] using h1, fun i d ow h => ?_⟩
    cases i with
    | zero =>
      simp only [adrsOf, stGo, List.getElem?_cons_zero, Option.some.injEq, Prod.mk.injEq] at h
      obtain ⟨rfl, rfl⟩ := h
      exact ⟨_, rfl, a⟩
    | succ i => exact h2 i d ow (by simpa [adrsOf, stGo] using h)
  | _, _, _, _, .w a tl => by
    obtain ⟨h1, h2⟩ := HM.start tl
    refine ⟨by simpa [adrsOf, stGo] using h1, fun i d ow h => ?_⟩
    cases i with
    | zero =>
      simp only [adrsOf, stGo, List.getElem?_cons_zero, Option.some.injEq, Prod.mk.injEq] at h
      obtain ⟨rfl, rfl⟩ := h
      exact ⟨_, rfl, a, rfl⟩
    | succ i => exact h2 i d ow (by simpa [adrsOf, stGo] using h)
theorem HM.lives : ∀ {ms : List Md} {vs : List V} {ds : List D} {Fs : List (List Addr)}, HM K B H ms vs ds Fs → ∀ a ∈ Fs.flatten, H a ≠ none
  | _, _, _, _, .nil => fun a h => by simp at h
  | _, _, _, _, .r _ tl => fun a h => HM.lives tl a (by simpa using h)
  | _, _, _, _, .t o tl => fun a h => by
    rw [List.flatten_cons] at h
    exact (List.mem_append.mp h).elim (o.live a) (HM.lives tl a)
  | _, _, _, _, .w o tl => fun a h => by
    rw [List.flatten_cons] at h
    exact (List.mem_append.mp h).elim (o.live a) (HM.lives tl a)
end
noncomputable def dFnG (ms : List Md) (N : Nat) (body : DS) : GF := fun ds => if ds.length = ms.length then dDefG N ms body ds else none
section
variable {P : Program} {w : World} {K : PySem.W.Frag} {mg : Str → Option Value} {base : Heap} {f : Addr} {fd : FuncData}
structure CalG (P : Program) (w : World) (K : PySem.W.Frag) (mg : Str → Option Value) (base : Heap) (cl : Str → Value) (x : Str) (k : Nat) (ms : List Md) (df : DF) (gf : GF) : Prop where
  ex : ∃ (f : Addr) (fd : FuncData) (ps : List Str), FnOk P w K mg base (L2.CX P w) k f fd ps (spDG K cl ms df gf) ∧ mg x = some (.ref f) ∧ PySem.W.keepIn K (.ref f) = true ∧ Binds K fd ps []
structure CalM (P : Program) (w : World) (K : PySem.W.Frag) (mg : Str → Option Value) (base : Heap) (cl : Str → Value) (c m : Str) (k : Nat) (ms : List Md) (df : DF) (gf : GF) : Prop where
  ex : ∃ (f : Addr) (fd : FuncData) (ps : List Str), FnOk P w K mg base (L2.CX P w) k f fd ps (spDG K cl ms df gf) ∧ Cls K (He.ga K c) ∧ Meth K (He.ga K c) m f ∧ Binds K fd ps []
end
end Dv

namespace Dv
open PySem PySem.Spec PyProof.Rows L2 Evl

def tTgt (C : Addr) (m : Str) (ta : TE) (tr : TA) : TA := fun σ H Q => ta σ H fun x H1 => ∃ a dx fs, x = .ref a ∧ H1 a = some (.ins C dx fs) ∧ fs.lookup m = none ∧ tr σ H1 fun xs H2 => Q (x :: xs) H2
section
variable {X : Cx} {CX : CXT} {k : Nat} {f C : Addr} {fd : FuncData} {ps : List Str} {sp : Sp} {E : L2.St → XK} {x m : Str} {p pos apos : Pos} {e o : Expr} {es : List Expr} {ta : TE} {t : TA}
def tMakeS (C : Addr) (sp : Sp) (E : L2.St → XK) (t : TA) : TE := fun σ H Q => t σ H fun vs H1 => ∀ x dx, H1 x = none → H1 dx = none → dx ≠ x →
  sp (.ref x :: vs) (upd (upd H1 dx (.own x)) x (.ins C dx [])) (fun v H2 => v = .non ∧ Q (.ref x) H2) (E σ)
end

def PostW {R α : Type} (rel : RelT R α) (K : PySem.W.Frag) (W : WW) (B H : Hp) (t : List Addr) (σ : L2.St) (Q : R → Hp → Prop) : Er α → Prop
  | .ok a s' => ∀ v B' H' Fs' F, Rel K B' H' σ s' Fs' → SS B H t B' H' (F ++ Fs'.flatten) → (∀ x, w B' x + (F ++ Fs'.flatten).count x ≤ 1) → (∀ x ∈ F, H' x ≠ none) → rel B' H' Fs' v a F → Q v H'
  | .exc c s' => ∀ B' H' Fs', Rel K B' H' σ s' Fs' → SS B H t B' H' Fs'.flatten → W c σ H'
def JW {R α : Type} (rel : RelT R α) (K : PySem.W.Frag) (W : WW) (te : TX R) (de : DE α) : Prop :=
  ∀ s r, de s = some r → ∀ B H σ Fs, Rel K B H σ s Fs → ∀ Q, PostW rel K W B H Fs.flatten σ Q r → te σ H Q
abbrev rI (K : PySem.W.Frag) : RelT V D := fun _ H _ v d F => imm d = true ∧ Re K H H v d ∧ F = []
section
variable {R α : Type} {rel : RelT R α} {K : PySem.W.Frag} {W : WW} {te : TX R} {de : DE α} {B H B1 H1 : Hp} {L L1 : List Addr} {σ : L2.St}
theorem PostW.step {Q : R → Hp → Prop} {r : Er α} (e : SS B H L B1 H1 L1) (p : PostW rel K W B H L σ Q r) : PostW rel K W B1 H1 L1 σ Q r := by
  cases r with
  | ok a s' => exact fun v B' H' Fs' F x y z l q => p v B' H' Fs' F x (e.trans y) z l q
  | exc c s' => exact fun B' H' Fs' x y => p B' H' Fs' x (e.trans y)
theorem J.w (h : J rel K W te de) : JW rel K W te de := by
  intro s r e B H σ Fs R Q p
  refine h s r e B H σ Fs R Q ?_
  cases r with
  | ok a s' => exact fun v B' H' Fs' F x y z l q => p v B' H' Fs' F x y.ss z l q
  | exc c s' => exact fun B' H' Fs' x y => p B' H' Fs' x y.ss
end
def toI (c : DE (D × Ow)) : DE D := fun s => match c s with
  | some (.ok (d, _) s1) => if imm d then some (.ok d s1) else none
  | some (.exc x s1) => some (.exc x s1)
  | none => none
def dOpI (f : D → D → Option D) (a b : DE D) : DE D := bnd a fun x => bnd b fun y s => match f x y with
  | some d => if imm d then some (.ok d s) else none
  | none => none
def immD (a : DE D) : DE D := fun s => match a s with
  | some (.ok d s1) => if imm d then some (.ok d s1) else none
  | some (.exc x s1) => some (.exc x s1)
  | none => none
section
variable {K : PySem.W.Frag} {W : WW} {ta tb te : TE} {da db de : DE D} {c : DE (D × Ow)} {t u : TT} {dt du : DE Bool}
end
def sRetS (c : DE (D × Ow)) : DS := fun s => match c s with
  | some (.ok (d, ow) s1) => some (.retS d ow s1)
  | some (.exc x s1) => some (.exc x s1)
  | none => none
def sRetNS : DS := fun s => some (.retS .non .full s)
def sDropW (c : DE (D × Ow)) : DS := fun s => match c s with
  | some (.ok _ s1) => some (.next s1)
  | some (.exc x s1) => some (.exc x s1)
  | none => none
section
variable {K : PySem.W.Frag} {W : WW} {te : TE} {c : DE (D × Ow)} {tt : TT} {dt : DE Bool} {t u : TS} {a b : DS} {i : Nat}
end
end Dv

namespace Dv
open PySem PySem.Spec PyProof.Rows L2 Evl

abbrev rPl (K : PySem.W.Frag) (σ0 : L2.St) (i : Nat) : RelT V (List Stp) := fun _ H _ v ks F => (∃ v0, σ0[i]? = some (some v0) ∧ WkS K H ks v0 v) ∧ F = []
def JPl (K : PySem.W.Frag) (W : WW) (te : TE) (i : Nat) (dp : DE (List Stp)) : Prop := ∀ σ0, J (rPl K σ0 i) K W (fun σ H Q => σ = σ0 → te σ H Q) dp
def plN (i : Nat) : DE (List Stp) := fun s => match s[i]? with
  | some (some _) => some (.ok [] s)
  | _ => none
def plI (i : Nat) (dp : DE (List Stp)) (dk : DE D) : DE (List Stp) := bnd dp fun ks => bnd dk fun d s => match d, s[i]? with
  | .int k, some (some (d0, _)) => match getS ks d0 with
    | some (.lst ds) => if (L2.atI ds k).isSome then some (.ok (ks ++ [.ix k]) s) else none
    | some (.tup ds) => if (L2.atI ds k).isSome then some (.ok (ks ++ [.ix k]) s) else none
    | _ => none
  | _, _ => none
def plF (i : Nat) (c f : Str) (dp : DE (List Stp)) : DE (List Stp) := bnd dp fun ks s => match s[i]? with
  | some (some (d0, _)) => match getS ks d0 with
    | some (.ins c' fs) => if c' = c ∧ c' ≠ exN ∧ (fs.lookup f).isSome then some (.ok (ks ++ [.fd c f]) s) else none
    | _ => none
  | _ => none
section
variable {K : PySem.W.Frag} {W : WW} {te tk : TE} {i : Nat} {dp : DE (List Stp)} {dk : DE D} {B H : Hp} {σ : L2.St} {s : SD} {Fs : List (List Addr)}
end

inductive AV where
  | kn (d : D) | tk (d : D) | pl (i : Nat) (ks : List Stp)
def AV.md : AV → Md
  | .kn _ => .r
  | .tk _ => .t
  | .pl _ _ => .w
inductive AVs (K : PySem.W.Frag) (B H : Hp) (σ : L2.St) : List V → List AV → List (List Addr) → Prop
  | nil : AVs K B H σ [] [] []
  | kn {v : V} {d : D} {vs : List V} {as : List AV} {Gs : List (List Addr)} : Re K B H v d → AVs K B H σ vs as Gs → AVs K B H σ (v :: vs) (.kn d :: as) ([] :: Gs)
  | tk {v : V} {d : D} {G : List Addr} {vs : List V} {as : List AV} {Gs : List (List Addr)} : Own K H v d G → AVs K B H σ vs as Gs → AVs K B H σ (v :: vs) (.tk d :: as) (G :: Gs)
  | pl {v : V} {i : Nat} {ks : List Stp} {vs : List V} {as : List AV} {Gs : List (List Addr)} : (∃ v0, σ[i]? = some (some v0) ∧ WkS K H ks v0 v) → AVs K B H σ vs as Gs → AVs K B H σ (v :: vs) (.pl i ks :: as) ([] :: Gs)
abbrev rAW (K : PySem.W.Frag) (σ0 : L2.St) : RelT (List V) (List AV) := fun B H _ vs as F => ∃ Gs, F = Gs.flatten ∧ AVs K B H σ0 vs as Gs
def JAW (K : PySem.W.Frag) (W : WW) (ta : TA) (da : DE (List AV)) : Prop := ∀ σ0, J (rAW K σ0) K W (fun σ H Q => σ = σ0 → ta σ H Q) da
def aNil : DE (List AV) := fun s => some (.ok [] s)
def aKn (c : DE (D × Ow)) (l : DE (List AV)) : DE (List AV) := bnd c fun x => bnd l fun as s => some (.ok (.kn x.1 :: as) s)
def aTk (c : DE (D × Ow)) (l : DE (List AV)) : DE (List AV) := bnd c fun x => bnd l fun as s => if x.2 = .full then some (.ok (.tk x.1 :: as) s) else none
def aPl (i : Nat) (dp : DE (List Stp)) (l : DE (List AV)) : DE (List AV) := bnd dp fun ks => bnd l fun as s => some (.ok (.pl i ks :: as) s)
def aSelf (c m : Str) (i : Nat) (dp : DE (List Stp)) (l : DE (List AV)) : DE (List AV) := bnd dp fun ks => bnd (fun s => match s[i]? with
  | some (some (d0, _)) => match getS ks d0 with
    | some (.ins c' fs) => if c' = c ∧ c' ≠ exN ∧ fs.lookup m = none then some (.ok () s) else none
    | _ => none
  | _ => none) fun _ => bnd l fun as s => some (.ok (.pl i ks :: as) s)
section
variable {K : PySem.W.Frag} {W : WW} {ta : TE} {tr : TA} {da : DE D} {ca : DE (D × Ow)} {dr : DE (List AV)} {i : Nat} {dp : DE (List Stp)} {B B' H H' : Hp} {σ : L2.St} {s : SD} {Fs : List (List Addr)}
theorem AVs.mono (b : Ex B B') (e : Ex H H') : ∀ {vs : List V} {as : List AV} {Gs : List (List Addr)}, AVs K B H σ vs as Gs → AVs K B' H' σ vs as Gs
  | _, _, _, .nil => .nil
  | _, _, _, .kn r t => .kn (r.mono b (Tk.of_ex e)) (AVs.mono b e t)
  | _, _, _, .tk o t => .tk (Own.mono (Tk.of_ex e) o fun a ha => by
      cases q : H a with
      | none => exact absurd q (o.live a ha)
      | some x => exact e _ _ q) (AVs.mono b e t)
  | _, _, _, .pl ⟨v0, h1, h2⟩ t => .pl ⟨v0, h1, h2.ex e⟩ (AVs.mono b e t)
end
end Dv

namespace Dv
open PySem PySem.Spec PyProof.Rows L2 Evl

def Ow.own : Ow → Bool
  | .full => true
  | .adr _ => true
  | _ => false
def opn : SD → List AV → Option (List D)
  | _, [] => some []
  | s, .kn d :: as => (opn s as).map (d :: ·)
  | s, .tk d :: as => (opn s as).map (d :: ·)
  | s, .pl i ks :: as => match s[i]? with
    | some (some (d0, ow)) => if ow.own = true then match getS ks d0 with
        | some e => if imm e = true then none else (opn (s.set i none) as).map (e :: ·)
        | none => none
      else none
    | _ => none
def cls : SD → List AV → List D → SD
  | s, [], _ => s
  | s, .kn _ :: as, ws => cls s as ws
  | s, .tk _ :: as, ws => cls s as ws
  | s, .pl i ks :: as, w :: ws => match s[i]? with
    | some (some (d0, ow)) => (cls (s.set i none) as ws).set i (some (setS ks d0 w, ow))
    | _ => s
  | s, .pl _ _ :: _, [] => s
section
variable {K : PySem.W.Frag} {W : WW} {B B' H H' : Hp} {σ : L2.St} {s : SD} {Fs : List (List Addr)} {i : Nat}
theorem Rel.out (R : Rel K B H σ s Fs) (hi : i < s.length) : Rel K B H σ (s.set i none) (Fs.set i []) ∧ ∀ a, Fs.flatten.count a = (Fs.getD i []).count a + (Fs.set i []).flatten.count a := by
  have hF : i < Fs.length := by rw [R.l2, ← R.l1]; exact hi
  have cnt : ∀ a, Fs.flatten.count a = (Fs.getD i []).count a + (Fs.set i []).flatten.count a := fun a => by
    have := flat_set (F := []) hF a
    rw [List.count_nil] at this
    omega
  refine ⟨R.slot (sl := none) (F := []) hi (fun _ _ z => nomatch z) (fun a => ?_) (fun _ z => nomatch z), cnt⟩
  have h1 := cnt a
  have h2 := R.wf a
  omega
theorem HM.mono (b : Ex B B') : ∀ {ms : List Md} {vs : List V} {ds : List D} {Fs : List (List Addr)}, HM K B H ms vs ds Fs → HM K B' H ms vs ds Fs
  | _, _, _, _, .nil => .nil
  | _, _, _, _, .r a tl => .r (a.mono b (Tk.refl _)) (HM.mono b tl)
  | _, _, _, _, .t a tl => .t a (HM.mono b tl)
  | _, _, _, _, .w a tl => .w a (HM.mono b tl)
end
section
variable {K : PySem.W.Frag} {cl : Str → Value} {X : WX} {ms : List Md} {df : DF} {gf : GF} {ta : TA} {da : DE (List AV)}
end
def wCallG (ms : List Md) (gf : GF) (da : DE (List AV)) : DE (D × Ow) := bnd da fun as s => if as.map AV.md = ms then match opn s as with
  | some ds => match gf ds with
    | some (r, ow, ws) => if imm r || decide (ow = .full) then some (.ok (r, .full) (cls s as ws)) else none
    | none => none
  | none => none
  else none
section
variable {K : PySem.W.Frag} {cl : Str → Value} {X : WX} {ms : List Md} {df : DF} {gf : GF} {ta : TA} {da : DE (List AV)}
end
end Dv

namespace Dv
open PySem PySem.Spec PyProof.Rows L2 Evl

def fFld (c f : Str) : D → Option D
  | .ins c' fs => if c' = c ∧ c' ≠ exN then fs.lookup f else none
  | _ => none
def fTgt (c m : Str) : D → Option D
  | .ins c' fs => if c' = c ∧ c' ≠ exN ∧ fs.lookup m = none then some (.ins c' fs) else none
  | _ => none
section
variable {K : PySem.W.Frag} {W : WW} {ta : TE} {tr : TA} {da : DE D} {dr : DE (List D)} {c f m : Str}
end

section
variable {K : PySem.W.Frag} {W : WW} {B H : Hp} {σ : L2.St} {s : SD} {Fs : List (List Addr)} {i : Nat} {E : List Addr}
end
def sFSet (i : Nat) (c f : Str) (dp : DE (List Stp)) (cv : DE (D × Ow)) : DS := fun s => match cv s with
  | some (.ok (e, eo) s1) => match dp s1 with
    | some (.ok ks s2) => match s2[i]? with
      | some (some (d0, ow)) => match getS ks d0 with
        | some (.ins c' fs) => if c' = c ∧ c' ≠ exN ∧ fs.length < 900 ∧ ow.own = true ∧ eo = .full then some (.next (s2.set i (some (setS ks d0 (.ins c' (putFD f e fs)), ow)))) else none
        | _ => none
      | _ => none
    | some (.exc x s2) => some (.exc x s2)
    | none => none
  | some (.exc x s1) => some (.exc x s1)
  | none => none
def sPApp (i : Nat) (dp : DE (List Stp)) (cv : DE (D × Ow)) : DS := fun s => match dp s with
  | some (.ok ks s1) => match s1[i]? with
    | some (some (d1, _)) => match getS ks d1 with
      | some (.lst _) => match cv s1 with
        | some (.ok (e, eo) s2) => match s2[i]? with
          | some (some (d0, ow)) => match getS ks d0 with
            | some (.lst ds) => if ds.length < 1000000 ∧ ow.own = true ∧ eo = .full then some (.next (s2.set i (some (setS ks d0 (.lst (ds ++ [e])), ow)))) else none
            | _ => none
          | _ => none
        | some (.exc x s2) => some (.exc x s2)
        | none => none
      | _ => none
    | _ => none
  | some (.exc x s1) => some (.exc x s1)
  | none => none
def sPDSet (i : Nat) (dp : DE (List Stp)) (dk : DE D) (cv : DE (D × Ow)) : DS := fun s => match cv s with
  | some (.ok (e, eo) s1) => match dp s1 with
    | some (.ok ks s2) => match dk s2 with
      | some (.ok k s3) => match s3[i]? with
        | some (some (d0, ow)) => match getS ks d0 with
          | some dd => if imm dd = false ∧ ow.own = true ∧ eo = .full then (putD dd k e).map fun d' => .next (s3.set i (some (setS ks d0 d', ow))) else none
          | none => none
        | _ => none
      | some (.exc x s3) => some (.exc x s3)
      | none => none
    | some (.exc x s2) => some (.exc x s2)
    | none => none
  | some (.exc x s1) => some (.exc x s1)
  | none => none
def dropA {κ α : Type} [DecidableEq κ] (l : List (κ × α)) (k : κ) : List (κ × α) := l.filter fun kv => decide (kv.1 ≠ k)
def sPDPop (i : Nat) (dp : DE (List Stp)) (dk : DE D) : DS := fun s => match dp s with
  | some (.ok ks s1) => match s1[i]? with
    | some (some (d1, _)) => match getS ks d1 with
      | some (.dK _) => match dk s1 with
        | some (.ok k s2) => match s2[i]? with
          | some (some (d0, ow)) => match getS ks d0, dkey k with
            | some (.dK kd), some kk => if ow.own = true ∧ (valA kd kk).isSome then some (.next (s2.set i (some (setS ks d0 (.dK (dropA kd kk)), ow)))) else none
            | _, _ => none
          | _ => none
        | some (.exc x s2) => some (.exc x s2)
        | none => none
      | _ => none
    | _ => none
  | some (.exc x s1) => some (.exc x s1)
  | none => none
def sPPop0 (i : Nat) (dp : DE (List Stp)) : DS := fun s => match dp s with
  | some (.ok ks s1) => match s1[i]? with
    | some (some (d0, ow)) => match getS ks d0 with
      | some (.lst (_ :: ds)) => if ow.own = true then some (.next (s1.set i (some (setS ks d0 (.lst ds), ow)))) else none
      | _ => none
    | _ => none
  | some (.exc x s1) => some (.exc x s1)
  | none => none
section
variable {K : PySem.W.Frag} {W : WW} {te tk to : TE} {i : Nat} {dp : DE (List Stp)} {dk : DE D} {cv : DE (D × Ow)} {c f : Str}
end
end Dv

namespace Dv
open PySem PySem.Spec PyProof.Rows L2 Evl

def cMake (c : Str) (df : DF) (gf : GF) (da : DE (List D)) : DE (D × Ow) := bnd da fun ds s => match df (.ins c [] :: ds) with
  | some (.exc x) => some (.exc x s)
  | some (.ret _ _) => none
  | none => match gf (.ins c [] :: ds) with
    | some (.non, _, [d']) => some (.ok (d', .full) s)
    | _ => none
def dGet1 (da dk : DE D) : DE D := fun s => match da s with
  | some (.ok d s1) => if isDct d = true then match dk s1 with
      | some (.ok k s2) => (lookD d k).map fun o => .ok (o.getD .non) s2
      | some (.exc x s2) => some (.exc x s2)
      | none => none
    else none
  | some (.exc x s1) => some (.exc x s1)
  | none => none
section
variable {K : PySem.W.Frag} {W : WW} {cl : Str → Value} {X : WX} {c : Str} {df : DF} {gf : GF} {ta : TA} {da : DE (List D)} {td tk : TE} {dd dk : DE D} {B H : Hp}
theorem ReL.repl {G H : Hp} : ∀ {vs : List V} {ds : List D}, ReL K G H vs ds → HM K G H (List.replicate ds.length .r) vs ds (List.replicate ds.length [])
  | _, _, .nil => .nil
  | _, _, .cons a b => .r a (ReL.repl b)
end

structure QPl (X : Cx) (K : PySem.W.Frag) (W : WW) (e : Expr) (t : TE) (i : Nat) (d : DE (List Stp)) : Prop where
  hk : X.K = K
  p : PE X e t
  j : JPl K W t i d
structure QAW (X : Cx) (K : PySem.W.Frag) (W : WW) (es : List Expr) (t : TA) (d : DE (List AV)) : Prop where
  hk : X.K = K
  p : PA X es t
  j : JAW K W t d
structure QCW (X : Cx) (K : PySem.W.Frag) (W : WW) (e : Expr) (t : TE) (d : DE (D × Ow)) : Prop where
  hk : X.K = K
  p : PE X e t
  j : JW (rC K) K W t d
structure QIW (X : Cx) (K : PySem.W.Frag) (W : WW) (e : Expr) (t : TE) (d : DE D) : Prop where
  hk : X.K = K
  p : PE X e t
  j : JW (rI K) K W t d
structure QTW (X : Cx) (K : PySem.W.Frag) (W : WW) (e : Expr) (t : TT) (d : DE Bool) : Prop where
  hk : X.K = K
  p : PT X e t
  j : JW rT K W t d
structure QWW (X : Cx) (K : PySem.W.Frag) (W : WW) (e : Expr) (t : TT) (d : DE Bool) : Prop where
  hk : X.K = K
  p : PW X e t
  j : JW rT K W t d
section
variable {X : Cx} {K : PySem.W.Frag} {W : WW} {x m c f : Str} {i : Nat} {p p2 pos cpos apos spos : Pos} {a b e o : Expr} {es : List Expr} {ta tb te tk to : TE} {da db de dk : DE D} {ca : DE (D × Ow)} {dp : DE (List Stp)} {tr : TA} {dr : DE (List AV)} {dA : DE (List D)} {tt tu : TT} {dt du : DE Bool}
structure CalN (P : Program) (w : World) (K : PySem.W.Frag) (mg : Str → Option Value) (base : Heap) (cl : Str → Value) (c : Str) (k : Nat) (ms : List Md) (df : DF) (gf : GF) : Prop where
  ex : ∃ (f : Addr) (fd : FuncData) (ps : List Str), FnOk P w K mg base (L2.CX P w) k f fd ps (spDG K cl ms df gf) ∧ Mk K (He.ga K c) f ∧ Binds K fd ps [] ∧ mg c = some (.ref (He.ga K c))
variable {st : Stmt} {body orelse : List Stmt} {t1 t2 : TS} {d1 d2 : DS}
end
end Dv

namespace Dv
open Enc (enc)
open PySem L2

def RGWs {α β : Type} (de : DE β) (x : R α) (V : α → β → Prop) (ps' : α → List Pt) (s : SD) : Prop := match x with
  | .ok a => ∃ b s', de s = some (.ok b s') ∧ V a b ∧ Ms (ps' a) s' ∧ s'.length = s.length
  | .exc c => ∃ s', de s = some (.exc c s') ∧ s'.length = s.length
  | .bad => True
structure RGW {α β : Type} (ps : List Pt) (de : DE β) (x : R α) (V : α → β → Prop) (ps' : α → List Pt) : Prop where
  h : ∀ s, Ms ps s → RGWs de x V ps' s
section
variable {α β γ δ τ ρ S α' β' : Type} {ps ps1 ps2 : List Pt} {V : α → β → Prop} {V' : α' → β' → Prop}
theorem RGW.cv {de : DE β} {x y : R α} {P : α → List Pt} (h : RGW ps de x V P) (e : x = y) : RGW ps de y V P := e ▸ h
theorem RGW.at {de : DE β} {x : R α} {P : α → List Pt} (e : ps = ps2) (h : RGW ps2 de x V P) : RGW ps de x V P := e ▸ h
end
section
variable {α β γ δ τ ρ S ω : Type} [Enc α] [Enc β] [Enc γ] [Enc ρ] {ps ps1 ps2 : List Pt} {P : S → List Pt} {da db de : DE D} {ca : DE (D × Ow)} {dt du : DE Bool} {c : Oc} {a b rest : DS} {Φ : τ → Out → Prop}
def ifW (t : Bool × S) (p q : S → R τ) : R τ := if t.1 = true then p t.2 else q t.2
def andW (x : R (Bool × S)) (y : S → R (Bool × S)) : R (Bool × S) := R.bind x fun p => if p.1 = true then y p.2 else .ok (false, p.2)
def orW (x : R (Bool × S)) (y : S → R (Bool × S)) : R (Bool × S) := R.bind x fun p => if p.1 = true then .ok (true, p.2) else y p.2
def opW (g : α → β → R γ) (x : R (α × S)) (y : S → R (β × S)) : R (γ × S) := R.bind x fun p => R.bind (y p.2) fun r => R.bind (g p.1 r.1) fun w => .ok (w, r.2)
abbrev RIw [Enc α] (ps : List Pt) (de : DE D) (x : R (α × S)) (P : S → List Pt) : Prop := RGW ps de x (fun p d => d = enc p.1) fun p => P p.2
abbrev RTw (ps : List Pt) (de : DE Bool) (x : R (Bool × S)) (P : S → List Pt) : Prop := RGW ps de x (fun p b => b = p.1) fun p => P p.2
abbrev RCw [Enc α] (ps : List Pt) (de : DE (D × Ow)) (x : R (α × S)) (c : Oc) (P : S → List Pt) : Prop := RGW ps de x (fun p q => q.1 = enc p.1 ∧ c.ok (enc p.1) q.2) fun p => P p.2
def AcS [Enc ρ] (Φ : τ → Out → Prop) (P : S → List Pt) (w : ρ × S → τ) : Prop := ∀ (p : ρ × S) s', Ms (P p.2) s' → Φ (w p) (.retS (enc p.1) .full s')
def AcS1 [Enc ρ] (Φ : τ → Out → Prop) (ps : List Pt) (w : ρ → τ) : Prop := ∀ (r : ρ) s', Ms ps s' → Φ (w r) (.retS (enc r) .full s')
end
def stGPo : List Md → List Addr → List D → List Pt
  | .r :: ms, qs, d :: ds => .h .o d :: stGPo ms qs ds
  | .t :: ms, qs, d :: ds => .h .f d :: stGPo ms qs ds
  | .w :: ms, q :: qs, d :: ds => .h (.a q) d :: stGPo ms qs ds
  | _, _, _ => []
def stGP (ms : List Md) (qs : List Addr) (ds : List D) (n : Nat) : List Pt := stGPo ms qs ds ++ List.replicate (n - ds.length) .x
inductive EndsP : List Md → List Addr → List Pt → List D → Prop
  | nil {qs : List Addr} {ps : List Pt} : EndsP [] qs ps []
  | r {ms : List Md} {qs : List Addr} {p : Pt} {ps : List Pt} {ws : List D} : EndsP ms qs ps ws → EndsP (.r :: ms) qs (p :: ps) ws
  | t {ms : List Md} {qs : List Addr} {p : Pt} {ps : List Pt} {ws : List D} : EndsP ms qs ps ws → EndsP (.t :: ms) qs (p :: ps) ws
  | w {ms : List Md} {q : Addr} {qs : List Addr} {d : D} {ps : List Pt} {ws : List D} : EndsP ms qs ps ws → EndsP (.w :: ms) (q :: qs) (.h (.a q) d :: ps) (d :: ws)
section
variable {α β γ τ ρ S ω σ : Type} [Enc α] [Enc ρ] {ps : List Pt} {P : S → List Pt} {Φ : τ → Out → Prop} {N : σ → List Pt} {body : DS} {ms : List Md} {qs : List Addr} {wl : ω → List D}
def ΦW (ms : List Md) (qs : List Addr) (wl : ω → List D) : ρ × ω → Out → Prop := fun p o => (∃ s', o = .retS (enc p.1) .full s' ∧ wsOf ms qs s' = some (wl p.2)) ∨ ∃ s', o = .next s' ∧ enc p.1 = .non ∧ wsOf ms qs s' = some (wl p.2)
structure FRG {γ : Type} (el : γ → List D) (gf : GF) (n : γ → R (ρ × ω)) (wl : ω → List D) : Prop where
  h : ∀ g r w, n g = .ok (r, w) → gf (el g) = some (enc r, .full, wl w)
theorem FRG.on {γ γ' : Type} {el : γ → List D} {gf : GF} {n : γ → R (ρ × ω)} (h : FRG el gf n wl) (f : γ' → γ) : FRG (fun a => el (f a)) gf (fun a => n (f a)) wl := ⟨fun g r w e => h.h (f g) r w e⟩
end
section
variable {α β γ δ τ ρ S ω : Type} [Enc α] [Enc β] [Enc γ] [Enc δ] [Enc ρ] {ps ps1 ps2 ps3 : List Pt} {dk : DE D} {dp : DE (List Stp)} {ca : DE (D × Ow)} {c0 : Oc} {rest : DS} {Φ : τ → Out → Prop}
def LocSE (l : α) (ks : List Stp) (z : Loc α β) : Prop := getS ks (enc l) = some (enc z.cur) ∧ ∀ b, Ho (z.put b) fun l' => enc l' = setS ks (enc l) (enc b)
def RPS (ps : List Pt) (i : Nat) (l : α) (dp : DE (List Stp)) (x : R (Loc α β)) (ps' : List Pt) : Prop := RG ps dp x (fun z ks => LocSE l ks z) ps'
structure Fld (c f : Str) (get : α → β) (put : α → β → α) : Prop where
  ex : ∀ o : α, ∃ fs, enc o = .ins c fs ∧ fs.lookup f = some (enc (get o)) ∧ fs.length < 900
  ne : c ≠ exN
  pt : ∀ (o : α) (b : β), ∃ fs, enc o = .ins c fs ∧ enc (put o b) = .ins c (putFD f (enc b) fs)
theorem Fld.fld {c f : Str} {get : α → β} {put : α → β → α} (F : Fld c f get put) (o : α) : fFld c f (enc o) = some (enc (get o)) := by
  obtain ⟨fs, e1, e2, _⟩ := F.ex o
  rw [e1]
  show (if c = c ∧ c ≠ exN then fs.lookup f else none) = _
  rw [if_pos ⟨rfl, F.ne⟩, e2]
theorem Fld.get1 {c f : Str} {get : α → β} {put : α → β → α} (F : Fld c f get put) (o : α) : getS [.fd c f] (enc o) = some (enc (get o)) := by
  obtain ⟨fs, e1, e2, _⟩ := F.ex o
  rw [e1]
  show (if c = c ∧ c ≠ exN then (fs.lookup f).bind (getS []) else none) = _
  rw [if_pos ⟨rfl, F.ne⟩, e2]
  rfl
theorem Fld.put1 {c f : Str} {get : α → β} {put : α → β → α} (F : Fld c f get put) (o : α) (b : β) : enc (put o b) = setS [.fd c f] (enc o) (enc b) := by
  obtain ⟨fs, e1, e2, _⟩ := F.ex o
  obtain ⟨fs', e3, e4⟩ := F.pt o b
  rw [e1] at e3
  cases e3
  rw [e4, e1]
  simp only [setS, e2]
def Loc.fld (z : Loc α γ) (get : γ → β) (put : γ → β → γ) : Loc α β := ⟨get z.cur, fun b => z.put (put z.cur b)⟩
def Oc.owd : Oc → Prop
  | .f => True
  | .a _ => True
  | _ => False
class Ob (α : Type) [Enc α] where
  cls : Str
  names : List Str
  flds : α → List (Str × D)
  e : ∀ a : α, enc a = .ins cls (flds a)
  hn : ∀ a : α, (flds a).map (·.1) = names
  ne : cls ≠ exN
theorem lookup_none {m : Str} : ∀ {fs : List (Str × D)}, m ∉ fs.map (·.1) → fs.lookup m = none
  | [], _ => rfl
  | (g, x) :: r, h => by
    simp only [List.map_cons, List.mem_cons, not_or] at h
    rw [lookD_cons, if_neg h.1]
    exact lookup_none h.2
theorem Ob.no [Ob α] {m : Str} (hm : m ∉ Ob.names α) (a : α) : (Ob.flds a).lookup m = none := lookup_none (by rw [Ob.hn]; exact hm)
def AWn {γ : Type} (ms : List Md) (V : γ → List AV → Prop) (el : γ → List D) : Prop := ∀ a as, V a as → as.map AV.md = ms ∧ (∀ s, opn s as = some (el a)) ∧ ∀ s, cls s as [] = s
def AW {γ : Type} (ps : List Pt) (ms : List Md) (V : γ → List AV → Prop) (el : γ → List D) (wl : ω → List D) (put : γ → ω → R S) (P : S → List Pt) : Prop :=
  ∀ a as, V a as → as.map AV.md = ms ∧ (∀ s, Ms ps s → opn s as = some (el a)) ∧ ∀ w, Ho (put a w) fun z => ∀ s, Ms ps s → Ms (P z) (cls s as (wl w)) ∧ (cls s as (wl w)).length = s.length
end
end Dv

namespace Dv
open Enc (enc)
open PySem L2

section
variable {α β γ δ τ ρ S ω κ : Type} [Enc α] [Enc β] [Enc γ] [Enc δ] [Enc ρ] [Enc ω] {ps ps1 ps2 ps3 : List Pt} {da dk : DE D} {dp : DE (List Stp)} {ca : DE (D × Ow)} {c0 : Oc} {rest : DS} {Φ : τ → Out → Prop}
def ddrop [DecidableEq κ] (d : Dc κ β) (k : κ) : Dc κ β := ⟨dropA d.l k, by
  have := d.nd
  unfold dropA
  exact (List.filter_sublist.map _).nodup this⟩
def dpopR [DecidableEq κ] [Enc κ] [Ky κ] (d : Dc κ β) (k : κ) : R (Dc κ β) := if dhas d k = true then .ok (ddrop d k) else .bad
def tailR : List β → R (List β)
  | [] => .bad
  | _ :: l => .ok l
def onlyX (x : R ρ) : R ω := match x with
  | .exc k => .exc k
  | _ => .bad
end
instance {κ α : Type} [DecidableEq κ] [Enc κ] [Ky κ] [Enc α] : NI (Dc κ α) := ⟨imm_dc⟩
structure NotesT where
  lines : List (List Int × List Int)
  last : Dc (Tv Int) Int
structure DeskT where
  machines : Dc Str (List (List (Int × Int)))
structure LearnerT where
  asks : Int
  most : Int
  kept : NotesT
  rows : List (List Int)
  tails : List (List Int)
  due : List (List Int)
  found : Option (Str × Option (List (List (Int × Int))))
instance : Enc NotesT := ⟨fun o => .ins "Notes" [("lines", enc o.lines), ("last", enc o.last)]⟩
instance : Enc DeskT := ⟨fun o => .ins "Desk" [("machines", enc o.machines)]⟩
instance : Enc LearnerT := ⟨fun o => .ins "Learner" [("asks", enc o.asks), ("most", enc o.most), ("kept", enc o.kept), ("rows", enc o.rows), ("tails", enc o.tails), ("due", enc o.due), ("found", enc o.found)]⟩
instance : NI NotesT := ⟨fun _ => rfl⟩
instance : NI DeskT := ⟨fun _ => rfl⟩
instance : NI LearnerT := ⟨fun _ => rfl⟩
instance : Ob NotesT := ⟨"Notes", ["lines", "last"], fun o => [("lines", enc o.lines), ("last", enc o.last)], fun _ => rfl, fun _ => rfl, by decide +kernel⟩
instance : Ob DeskT := ⟨"Desk", ["machines"], fun o => [("machines", enc o.machines)], fun _ => rfl, fun _ => rfl, by decide +kernel⟩
instance : Ob LearnerT := ⟨"Learner", ["asks", "most", "kept", "rows", "tails", "due", "found"], fun o => [("asks", enc o.asks), ("most", enc o.most), ("kept", enc o.kept), ("rows", enc o.rows), ("tails", enc o.tails), ("due", enc o.due), ("found", enc o.found)], fun _ => rfl, fun _ => rfl, by decide +kernel⟩
end Dv

namespace Dv
open PySem L2 PySem.Spec PyProof.Rows Evl
noncomputable def sTryS (xs : List Str) (i : Nat) (d : DS) (dx : Addr → Str → DS) : DS := fun s => match d s with
  | some (.exc c s1) => if c ∈ xs ∧ i < s1.length then
      @dite _ (∃ (v : D) (ow : Ow), ∀ a, dx a c (s1.set i (some (.ins exN (exFs a), .no))) = some (.ret v ow)) (Classical.propDecidable _) (fun h => some (.ret (Classical.choose h) (Classical.choose (Classical.choose_spec h)))) (fun _ => none)
    else none
  | r => r
section
variable {X : Cx} {K : PySem.W.Frag} {W : WW} {oe : Obj} {pn : List (Addr × Obj)} {xs : List Str} {k n x : Str} {i : Nat} {a : Addr} {p p2 p3 p4 : Pos}
end
section
variable {X : Cx} {K : PySem.W.Frag} {Wx : WX} {xs : List Str} {i : Nat} {n : Str} {body suite : List Stmt} {b0 : Stmt} {np p pos pos' : Pos} {tb : WX → TS} {d : DS} {dx : Addr → Str → DS} {tk : Addr → Str → TS}
end
end Dv

namespace Dv
open Enc (enc)
open PySem L2
section
variable {β τ ρ : Type} [Enc ρ] {ps : List Pt} {d rest : DS} {xs : List Str} {i : Nat} {dx : Addr → Str → DS} {x : R β} {y : β → R τ} {z : Str → R τ} {w : ρ → τ} {Φ : τ → Out → Prop} {N : β → List Pt}
end
section
variable {ps ps1 : List Pt} {α β : Type} [Enc α] [Enc β] {ca : DE (D × Ow)}
instance [NI α] : NI (α × β) := ⟨fun p => by
  show immL [enc p.1, enc p.2] = false
  simp only [immL, NI.ni p.1, Bool.false_and]⟩
end
end Dv

namespace Dv
open PySem L2 PySem.Spec PyProof.Rows Evl
def lkT : List (Str × Int) → Str → Option Int
  | [], _ => none
  | (k, v) :: r, z => if k = z then some v else lkT r z
def fInTab (neg : Bool) (kvs : List (Str × Int)) : D → Option D
  | .str z => some (.bl (if neg then !(lkT kvs z).isSome else (lkT kvs z).isSome))
  | _ => none
def fIxTab (kvs : List (Str × Int)) : D → Option D
  | .str z => (lkT kvs z).map .int
  | _ => none
def fInC (neg : Bool) (ss : List Str) : D → Option D
  | .str z => some (.bl (if neg then !ss.any (· == z) else ss.any (· == z)))
  | _ => none
structure TabN (K : PySem.W.Frag) (w : World) (mg : Str → Option Value) (x : Str) (kvs : List (Str × Int)) : Prop where
  g : mg x = some (.ref (He.ga K x))
  kd : ∃ es n, KDict K w (He.ga K x) es n
  has : ∀ z i, lkT kvs z = some i → ∃ u, PySem.W.nsIn K (He.ga K x) z = some (some u) ∧ RelV (.int i) u
  no : ∀ z, lkT kvs z = none → PySem.W.nsIn K (He.ga K x) z = some none
structure TupS (K : PySem.W.Frag) (mg : Str → Option Value) (x : Str) (ss : List Str) : Prop where
  g : mg x = some (.ref (He.ga K x))
  sq : ∀ H, SqT K H (He.ga K x) (ss.map V.str)
section
variable {X : Cx} {K : PySem.W.Frag} {W : WW} {x : Str} {p pos : Pos} {a b : Expr} {ta : TE} {da : DE D}
abbrev rTabIn (d : Addr) (neg : Bool) (K : PySem.W.Frag) : R2 := fun x y H Q => ∃ (z : Str) (r : Option Value), x = .str z ∧ y = .ref d ∧ PySem.W.nsIn K d z = some r ∧ Q (.bl (if neg then !r.isSome else r.isSome)) H
end
section
variable {K : PySem.W.Frag} {w : World} {mg : Str → Option Value}
end
end Dv

namespace Dv
open PySem L2 PySem.Spec PyProof.Rows Evl
def dCallR (df : DF) (a : DE (List D)) : DE D := bnd a fun ds s => match df ds with
  | some (.ret d _) => some (.ok d s)
  | some (.exc c) => some (.exc c s)
  | none => none
section
variable {K : PySem.W.Frag} {B H B' H' : Hp} {σ : L2.St} {s : SD} {Fs : List (List Addr)} {cl : Str → Value} {X : WX}
end
section
variable {X : Cx} {K : PySem.W.Frag} {W : WW} {x m c : Str} {p pos apos : Pos} {e o : Expr} {es : List Expr} {to : TE} {tr t : TA} {da : DE D} {dA : DE (List D)}
end
section
variable {P : Program} {w : World} {K : PySem.W.Frag} {mg : Str → Option Value} {base : Heap} {f : Addr} {fd : FuncData}
end
end Dv

namespace Dv
open Enc (enc)
open PySem L2
def ptO {α : Type} [Enc α] (c : Oc) : Option α → Pt
  | none => .x
  | some a => .h c (enc a)
section
variable {ps ps1 : List Pt} {da : DE D} {dr : DE (List D)} {ρ : Type} [Enc ρ]
def inTb (neg : Bool) (kvs : List (Str × Int)) (z : Str) : Bool := if neg then !(lkT kvs z).isSome else (lkT kvs z).isSome
def ixTb (kvs : List (Str × Int)) (z : Str) : R Int := ofO (lkT kvs z)
def inCs (neg : Bool) (ss : List Str) (z : Str) : Bool := if neg then !ss.any (· == z) else ss.any (· == z)
end
end Dv

namespace Dv
open PySem L2 PySem.Spec PyProof.Rows Evl
def sPSet (i : Nat) (dp : DE (List Stp)) (dk : DE D) (cv : DE (D × Ow)) : DS := fun s => match cv s with
  | some (.ok (e, eo) s1) => match dp s1 with
    | some (.ok ks s2) => match dk s2 with
      | some (.ok k s3) => match s3[i]? with
        | some (some (d0, ow)) => match k, getS ks d0 with
          | .int n, some (.lst ds) => match ixN ds.length n with
            | some j => if ow.own = true ∧ eo = .full then some (.next (s3.set i (some (setS ks d0 (.lst (ds.set j e)), ow)))) else none
            | none => none
          | _, _ => none
        | _ => none
      | some (.exc x s3) => some (.exc x s3)
      | none => none
    | some (.exc x s2) => some (.exc x s2)
    | none => none
  | some (.exc x s1) => some (.exc x s1)
  | none => none
section
variable {K : PySem.W.Frag} {W : WW} {te tk to : TE} {i : Nat} {dp : DE (List Stp)} {dk : DE D} {cv : DE (D × Ow)}
end
section
variable {X : Cx} {K : PySem.W.Frag} {W : WW} {i : Nat} {a b e : Expr} {pos spos : Pos} {ta tk te : TE} {dp : DE (List Stp)} {dk : DE D} {ca : DE (D × Ow)}
end
end Dv

namespace Dv
open Enc (enc)
open PySem L2
section
variable {α β τ : Type} [Enc α] [Enc β] {ps ps1 ps2 ps3 : List Pt} {dk : DE D} {dp : DE (List Stp)} {ca : DE (D × Ow)} {c0 : Oc} {rest : DS} {Φ : τ → Out → Prop}
end
end Dv

namespace Dv
open Enc (enc)
open PySem L2
section
variable {ps ps1 ps2 : List Pt} {da db : DE D}
def idxSR (l : List Str) (a : Str) : R Int := if (nice 10 (enc l) && nice 9 (enc a)) = true then ofO ((l.findIdx? fun z => decide (z = a)).map fun j => ((j : Nat) : Int)) else .bad
end
end Dv

namespace Dv
open PySem
noncomputable section
def obsY (as : List Addr) (fa : List He.Fa) (fn : List He.DefD) (ts : List He.Tab) (ex : PySem.W.Frag → Bool) (g : Addr → Option Obj) : He.AlX := (He.obsT fa fn ts (He.frT g as), ex (He.frT g as) && He.tabsB g [] (He.frT g as))
theorem saysY_of {as : List Addr} {fa : List He.Fa} {fn : List He.DefD} {ts : List He.Tab} {ex : PySem.W.Frag → Bool} {w : World} {h : Heap} (e : obsY as fa fn ts ex h.get? = He.valX fn ts w) : He.SaysX fa fn ts [] ex w h (He.frT h.get? as) := by
  have e1 : He.obsT fa fn ts (He.frT h.get? as) = He.valT fn ts w := congrArg (fun z : He.AlX => z.1) e
  have e2 : (ex (He.frT h.get? as) && He.tabsB h.get? [] (He.frT h.get? as)) = true := congrArg (fun z : He.AlX => z.2) e
  obtain ⟨h1, h2⟩ := He.ba e2
  exact ⟨e1, h1, fun p hp => (List.not_mem_nil hp).elim, fun p hp => (List.not_mem_nil hp).elim, fun p hp => (List.not_mem_nil hp).elim⟩
def hookY (as : List Addr) (fa : List He.Fa) (fn : List He.DefD) (ts : List He.Tab) (ex : PySem.W.Frag → Bool) : PySem.W.Hook where
  α := He.AlX
  obs := fun s => obsY as fa fn ts ex s.heap.get?
  val := fun w => He.valX fn ts w
  says := fun w h => ∃ K : PySem.W.Frag, K.In h ∧ He.SaysX fa fn ts [] ex w h K
  of := fun _ _ e => ⟨_, He.frT_in, saysY_of e⟩
  keeps := fun _ _ _ ⟨K, hK, c⟩ k => ⟨K, PySem.W.Frag.In.keeps hK k, ⟨c.t, c.more, c.hd, c.out, fun p hp => k _ _ (c.empty p hp)⟩⟩
end
end Dv

namespace Dv
open Enc (enc)
open PySem L2
section
end
end Dv

namespace Dv
open PySem L2 Evl
abbrev rPart : V → List V → Hp → VK → Prop := fun x xs H Q => ∃ a b, x = .str a ∧ xs = [.str b] ∧ (b.length == 0) = false ∧ a.length ≤ sizeLine ∧ ∀ p, H p = none → Q (.ref p) (upd H p (.tup [.str (Txt.partition a b).1, .str (Txt.partition a b).2.1, .str (Txt.partition a b).2.2]))
def partD (x y : D) (s : SD) : Option (Er (D × Ow)) := match x, y with
  | .str a, .str b => if (b.length == 0) = false ∧ a.length ≤ 1000000 then mkT [.str (Txt.partition a b).1, .str (Txt.partition a b).2.1, .str (Txt.partition a b).2.2] s else none
  | _, _ => none
def cPart (da db : DE D) : DE (D × Ow) := bnd da fun x s => if isStr x = true then bnd db (fun y s => partD x y s) s else none
section
variable {K : PySem.W.Frag} {W : WW} {ta tb : TE} {da db : DE D}
end
section
variable {X : Cx} {K : PySem.W.Frag} {W : WW} {pos apos : Pos} {a e : Expr} {ta te : TE} {da de : DE D}
end
end Dv

namespace Dv
open Enc (enc)
open PySem L2
noncomputable def partR (a b : Str) : R (T3 Str Str Str) := okIf ((b.length == 0) = false ∧ a.length ≤ 1000000) (T3.mk (Txt.partition a b).1 (Txt.partition a b).2.1 (Txt.partition a b).2.2)
section
variable {ps ps1 ps2 : List Pt} {da db : DE D}
end
end Dv

namespace Dv
open Enc (enc)
open PySem L2
def allPair : List D → Option (List (Int × Int))
  | [] => some []
  | .tup [.int i, .int j] :: ds => (allPair ds).map ((i, j) :: ·)
  | _ => none
def asLP : D → R (List (Int × Int))
  | .lst ds => match allPair ds with
    | some l => .ok l
    | none => .bad
  | _ => .bad
end Dv

namespace Dv
open PySem L2 Evl
abbrev rCatF (K : PySem.W.Frag) : R2 := fun x y H Q => ∃ l b xs zs, x = .ref l ∧ y = .ref b ∧ SqL K H l xs ∧ H b = some (.lst zs) ∧ xs.length + zs.length ≤ sizeLine ∧ ∀ p, H p = none → Q (.ref p) (upd H p (.lst (xs ++ zs)))
def cAddS (a b : DE D) : DE (D × Ow) := bnd a fun x => bnd b fun y s => match x, y with
  | .sc xs, .lst ys => if xs.length + ys.length ≤ 1000000 then some (mkL (xs ++ ys) s) else none
  | _, _ => none
section
variable {K : PySem.W.Frag} {W : WW} {ta tb : TE} {da db : DE D}
end
section
variable {X : Cx} {K : PySem.W.Frag} {W : WW} {a b : Expr} {ta tb : TE} {da db : DE D} {pos : Pos}
end
end Dv

namespace Dv
open Enc (enc)
open PySem L2
section
variable {ps ps1 ps2 : List Pt} {da db : DE D}
end
end Dv

namespace Dv
open PySem L2 PySem.Spec PyProof.Rows Evl
def sPair (j k : Nat) (da : DE D) (dc : DE (D × Ow)) : DS := fun s => match da s with
  | some (.ok d s0) => if j < s0.length ∧ k < s0.length then (match dc ((fzAll s0).set j (some (d, .no))) with
    | some (.ok (d2, .full) _) => some (.next ((s0.set j none).set k (some (d2, .full))))
    | some (.exc c _) => some (.exc c (s0.set j none))
    | _ => none) else none
  | some (.exc c s0) => some (.exc c s0)
  | none => none
section
variable {K : PySem.W.Frag} {W : WW} {B H B' H' : Hp} {σ : L2.St} {s : SD} {Fs : List (List Addr)} {F : List Addr}
end
section
variable {X : Cx} {K : PySem.W.Frag} {W : WW} {x y : Str} {p p2 pos pos2 : Pos} {e1 e2 : Expr} {te tc : TE} {da : DE D} {dc : DE (D × Ow)} {rest : List Stmt} {t : TS} {d : DS}
end
end Dv

namespace Dv
open Enc (enc)
open PySem L2
section
variable {α β τ : Type} [Enc α] [Enc β] {ps ps1 : List Pt} {rest : DS} {Φ : τ → Out → Prop} {da : DE D} {dc : DE (D × Ow)}
end
end Dv

namespace Dv
open PySem L2 PySem.Spec PyProof.Rows Evl
def cFldN (i : Nat) (c f : Str) : DE (D × Ow) := fun s => match s[i]? with
  | some (some (d, .no)) => (fFld c f d).map fun e => .ok (e, if imm e = true then .full else .no) s
  | _ => none
def cListU (a : DE (List D)) : DE (D × Ow) := bnd a fun xs s => match xs with
  | [.lst ds] => some (.ok (.lst ds, .top) (fzAll s))
  | _ => none
section
variable {K : PySem.W.Frag} {W : WW} {B H : Hp} {σ : L2.St} {s : SD} {Fs : List (List Addr)} {c f : Str}
end
section
variable {X : Cx} {K : PySem.W.Frag} {W : WW} {c f m : Str} {p pos apos : Pos} {e o : Expr} {es : List Expr} {i : Nat} {t : TA} {dA : DE (List D)} {to : TE} {da : DE D}
end
end Dv

namespace Dv
open PySem L2 PySem.Spec PyProof.Rows Evl
section
variable {K : PySem.W.Frag} {H : Hp}
end
def wCallH (gf : GF) (da : DE (List AV)) : DE (D × Ow) := bnd da fun as s => match as with
  | [.pl i [.fd c f], .pl i2 (.fd c2 f2 :: ks2), .kn d3] => if i2 = i ∧ c2 = c ∧ f ≠ f2 then (match s[i]? with
    | some (some (d0, ow)) => if ow.own = true then (match getS [.fd c f] d0, getS (.fd c f2 :: ks2) d0 with
      | some e, some x => if imm e = false ∧ imm x = false then (match gf [e, x, d3] with
        | some (r, ow', [w]) => if (imm r || decide (ow' = .full)) = true then some (.ok (r, .full) (s.set i (some (setS [.fd c f] d0 w, ow)))) else none
        | _ => none) else none
      | _, _ => none) else none
    | _ => none) else none
  | _ => none
section
variable {K : PySem.W.Frag} {cl : Str → Value} {X : WX} {df : DF} {gf : GF} {ta : TA} {da : DE (List AV)}
end
section
variable {X : Cx} {K : PySem.W.Frag} {W : WW} {x m c f : Str} {i : Nat} {p p2 pos cpos apos spos : Pos} {a b e o : Expr} {es : List Expr} {ta tb te tk to : TE} {da db de dk : DE D} {ca : DE (D × Ow)} {dp : DE (List Stp)} {tr : TA} {dr : DE (List AV)} {dA : DE (List D)} {tt tu : TT} {dt du : DE Bool}
end
end Dv

namespace Dv
open Enc (enc)
open PySem L2
section
variable {α β γ δ ρ τ : Type} [Enc α] [Enc β] [Enc γ] [Enc δ] [Enc ρ] {ps ps1 : List Pt} {dr : DE (List D)}
end
end Dv

namespace Dv
open PySem PySem.Spec PyProof.Rows L2 Evl
section
variable {K : PySem.W.Frag} {W : WW} {te tk to : TE} {i : Nat} {dp : DE (List Stp)} {dk : DE D} {cv : DE (D × Ow)} {c f : Str}
end
def wCallT (c m : Str) (i : Nat) (gf : GF) (cb : DE (D × Ow)) : DE (D × Ow) := fun s => match s[i]? with
  | some (some (d0, _)) => (match fTgt c m d0 with
    | some _ => (match cb s with
      | some (.ok (x, ow) s2) => if ow = .full then (match s2[i]? with
        | some (some (d1, _)) => (match gf [d1, x] with
          | some (r, ow', []) => if (imm r || decide (ow' = .full)) = true then some (.ok (r, .full) s2) else none
          | _ => none)
        | _ => none) else none
      | some (.exc c s2) => some (.exc c s2)
      | none => none)
    | none => none)
  | _ => none
section
variable {K : PySem.W.Frag} {cl : Str → Value} {X : WX} {df : DF} {gf : GF} {tb : TE} {cb : DE (D × Ow)} {c m : Str} {i : Nat}
end
section
variable {K : PySem.W.Frag} {W : WW} {te tk to : TE} {i : Nat} {dp : DE (List Stp)} {dk : DE D} {cv : DE (D × Ow)} {c f : Str}
end
end Dv

namespace Dv
open Enc (enc)
open PySem L2
section
variable {α β ρ τ : Type} [Enc α] [Enc β] [Enc ρ] {ps ps1 : List Pt}
end
end Dv

namespace Dv
open PySem L2 PySem.Spec PyProof.Rows Evl
def goOI (tg : DT) (cond : DE Bool) (elt : DE (D × Ow)) (own : List Nat) : List D → List D → DE (List D)
  | [], acc, s => some (.ok acc s)
  | d :: r, acc, s => match tg d .full s with
    | none => none
    | some s1 => match cond s1 with
      | some (.ok true s2) => (match elt s2 with
        | some (.ok (e, .full) s3) => if acc.length < 1000000 then goOI tg cond elt own r (acc ++ [e]) (wipeD own s3) else none
        | _ => none)
      | some (.ok false s2) => goOI tg cond elt own r acc (wipeD own s2)
      | _ => none
def cCompOI (tg : DT) (cond : DE Bool) (own : List Nat) (c elt : DE (D × Ow)) : DE (D × Ow) := fun s => match c s with
  | some (.ok (.lst ds, .full) s1) => match goOI tg cond elt own ds [] (wipeD own (fzAll s1)) with
    | some (.ok es _) => some (.ok (.lst es, .full) s1)
    | _ => none
  | some (.exc x s1) => some (.exc x s1)
  | _ => none
section
variable {K : PySem.W.Frag} {W : WW} {g : L2.TG} {tg : DT} {te : TE} {elt : DE (D × Ow)} {tt : TT} {cond : DE Bool} {own : List Nat} {B1 H1 : Hp} {σ : L2.St} {L1 : List Addr} {es : List D} {Dp p : Addr} {xs : List V}
def CPI (K : PySem.W.Frag) (tg : DT) (cond : DE Bool) (elt : DE (D × Ow)) (own : List Nat) (B1 H1 : Hp) (L1 : List Addr) (σ : L2.St) (es : List D) (p : Addr) (xs : List V) (ds : List D) (Dp : Addr) (k : Nat) (H : Hp) : Prop :=
  ∃ B' Fs' s' vs acc F Fr s2, Rel K B' H (wipe σ own) s' Fs' ∧ H Dp = some (.lst vs) ∧ OwnL K H vs acc F ∧ H p = some (.lst xs) ∧ OwnL K H (xs.drop k) (ds.drop k) Fr ∧ ES B1 H1 L1 B' H ((Dp :: (F ++ (p :: Fr))) ++ Fs'.flatten) ∧
    (∀ a, w B' a + ((Dp :: (F ++ (p :: Fr))) ++ Fs'.flatten).count a ≤ 1) ∧ goOI tg cond elt own (ds.drop k) acc s' = some (.ok es s2)
end
section
variable {X : Cx} {K : PySem.W.Frag} {W : WW} {scope : Scope} {own : List (Str × Nat)} {src tg elt : Expr} {te1 te2 : TE} {c ca : DE (D × Ow)} {g : L2.TG} {tgd : DT} {pos : Pos} {ci : Expr} {tt : TT} {cond : DE Bool}
end
end Dv

namespace Dv
open Enc (enc)
open PySem L2
section
variable {ι α : Type} [Enc ι] [Enc α] {ps ps1 : List Pt}
end
end Dv

namespace Dv
open Enc (enc)
open PySem L2
section
end
end Dv

namespace Dv
open Enc (enc)
open PySem L2
end Dv

namespace Dv
open Enc (enc)
open PySem L2
section
variable {τ α β γ : Type} [Enc α] [Enc β] [Enc γ] {ps : List Pt} {d : DS} {Φ : τ → Out → Prop}
def mapAs {α : Type} (f : D → R α) : List D → R (List α)
  | [] => .ok []
  | x :: xs => R.bind (f x) fun a => R.bind (mapAs f xs) fun l => .ok (a :: l)
def asLs {α : Type} (f : D → R α) : D → R (List α)
  | .lst xs => mapAs f xs
  | _ => .bad
def asP2 {α β : Type} (f : D → R α) (g : D → R β) : D → R (α × β)
  | .tup [x, y] => R.bind (f x) fun a => R.bind (g y) fun b => .ok (a, b)
  | _ => .bad
def asP3 {α β γ : Type} (f : D → R α) (g : D → R β) (h : D → R γ) : D → R (T3 α β γ)
  | .tup [x, y, z] => R.bind (f x) fun a => R.bind (g y) fun b => R.bind (h z) fun c => .ok (T3.mk a b c)
  | _ => .bad
end
end Dv

namespace Dv
open PySem L2 PySem.Spec PyProof.Rows Evl
def intKs : List Key → Option (List Int)
  | [] => some []
  | .inl i :: r => (intKs r).map (i :: ·)
  | .inr _ :: _ => none
def srtI (l : List Int) : List Int := l.mergeSort fun a b => decide (a ≤ b)
def rSortDI : List V → Hp → VK → Prop := fun xs H Q => ∃ (a : Addr) (kvs : List (Key × V)) (ks : List Int), xs = [.ref a] ∧ Rd H a (.dK kvs) ∧ kvs.map (·.1) = ks.map Sum.inl ∧ ks.length < 64 ∧
    ∀ (ys : List Int) (p : Addr), ys.Perm ks → ys.Pairwise (· ≤ ·) → H p = none → Q (.ref p) (upd H p (.lst (ys.map V.int)))
def cSortDI (dr : DE (List D)) : DE (D × Ow) := bnd dr fun ds s => match ds with
  | [.dK kd] => match intKs (kd.map (·.1)) with
    | some ks => if ks.length < 64 then some (mkL ((srtI ks).map D.int) s) else none
    | none => none
  | _ => none
section
variable {K : PySem.W.Frag} {W : WW}
end
section
variable {X : Cx} {K : PySem.W.Frag} {W : WW} {p pos : Pos} {e : Expr} {es : List Expr} {t : TA} {dA : DE (List D)}
end
end Dv

namespace Dv
open Enc (enc)
open PySem L2
section
variable {α : Type} [Enc α] {ps ps1 : List Pt} {dr : DE (List D)}
noncomputable def sortDIR (l : List Int) : R (List Int) := okIf (l.length < 64) (srtI l)
end
end Dv

namespace Dv
open PySem L2 PySem.Spec PyProof.Rows Evl
def cTupRg (da : DE D) : DE (D × Ow) := bnd da fun d s => match d with
  | .int n => if -(2 ^ 62) ≤ n ∧ n < 2 ^ 62 ∧ (n - 0).toNat ≤ 2 ^ 24 then mkT (rgD n) s else none
  | _ => none
section
variable {K : PySem.W.Frag} {W : WW}
end
section
variable {X : Cx} {K : PySem.W.Frag} {W : WW} {p pos p2 pos2 : Pos} {e : Expr} {ta : TE} {da : DE D}
end
end Dv

namespace Dv
open Enc (enc)
open PySem L2
section
variable {ps ps1 : List Pt}
end
end Dv

namespace Dv
open PySem L2 PySem.Spec PyProof.Rows Evl
theorem no_sp {K : PySem.W.Frag} {cl : Str → Value} {n : Nat} {vs : List V} {H : Hp} {Q : VK} {E : XK} (h : spD K cl n (fun _ => none) vs H Q E) : False := by
  obtain ⟨_, _, _, _, _, _, e, _⟩ := h
  cases e
theorem Cal.zero {P : Program} {w : World} {K : PySem.W.Frag} {mg : Str → Option Value} {base : Heap} {f : Addr} {fd : FuncData} {cl : Str → Value} {x qual : Str} {pr : Arguments} {st : List Stmt} {scope : Scope} {ps : List Str} {k : Nat} (F : FunD K x qual pr st scope [] [] f fd) (hm : mg x = some (.ref f))
    (hb : ∀ (kV doc pm : Value) (an : Option Addr) (cdv ct : Value) (us : List Value), us.length = ps.length → bindArgs (PySem.W.fnOf x qual pr st scope .none kV doc pm an cdv ct) ⟨us, []⟩ = pure (ps.zip us)) :
    Cal P w K mg base cl x k ps.length (fun _ => none) :=
  ⟨f, fd, ps, ⟨fun _ _ _ _ h => (no_sp h).elim, fun _ _ _ _ _ _ _ _ _ _ _ _ _ h => (no_sp h).elim⟩, hm, F.kp, F.bindsN hb⟩
theorem Cal.up {P : Program} {w : World} {K : PySem.W.Frag} {mg : Str → Option Value} {base : Heap} {cl : Str → Value} {x : Str} {j k n : Nat} {df : DF} (h : Cal P w K mg base cl x j n df) (hjk : j ≤ k) : Cal P w K mg base cl x k n df := by
  obtain ⟨f, fd, ps, a, b, c, d⟩ := h
  exact ⟨f, fd, ps, a.mono hjk, b, c, d⟩
end Dv
namespace Dv
open Enc (enc)
open PySem L2
theorem FR.zero {ρ γ : Type} [Enc ρ] {el : γ → List D} {c : Oc} : FR el (fun _ => none) (fun _ => (.bad : R ρ)) c := ⟨fun _ => trivial⟩
inductive Tr where
  | lf (i : Int)
  | nd (ask : Int) (bs : List (Int × Tr))
mutual
def Tr.encT : Tr → D
  | .lf i => .int i
  | .nd a bs => .tup [.int a, .lst (Tr.encB bs)]
def Tr.encB : List (Int × Tr) → List D
  | [] => []
  | (i, t) :: r => .tup [.int i, Tr.encT t] :: Tr.encB r
end
instance : Enc Tr := ⟨Tr.encT⟩
instance : NN Tr := ⟨fun t => by cases t <;> rfl⟩
def unN : Tr → R (Int × List (Int × Tr))
  | .nd a bs => .ok (a, bs)
  | .lf _ => .bad
def unLf : Tr → R Int
  | .lf i => .ok i
  | .nd _ _ => .bad
end Dv

namespace Dv
open PySem PySem.Spec PyProof.Rows L2 Evl
def sForMP (f j : Nat) (put : D → SD → Option SD) (get : SD → Option (D × SD)) (body : DS) : DS := fun s => match s[f]? with
  | some (some (.tup cs, .full)) => match cs[j]? with
    | some (.lst ds) => match goM put get body ds [] (s.set f none) with
      | some (ds', s') => if f < s'.length then some (.next (s'.set f (some (.tup (cs.set j (.lst ds')), .full)))) else none
      | none => none
    | _ => none
  | _ => none
section
variable {K : PySem.W.Frag} {W : WW} {B H B1 H1 B' H' : Hp} {L L1 L2' : List Addr} {σ : L2.St} {s : SD} {Fs : List (List Addr)} {te : TE} {t u : TS} {a b body : DS} {g : L2.TG} {put : D → SD → Option SD} {get : SD → Option (D × SD)} {ys own own2 : List Nat} {tt : TT} {dt : DE Bool}
def MP2 (K : PySem.W.Frag) (put : D → SD → Option SD) (get : SD → Option (D × SD)) (body : DS) (own : List Nat) (res : List D × SD) (B1 H1 : Hp) (L1 : List Addr) (Fx : List Addr) (p : Addr) (vs : List V) (ds : List D) (σ0 : L2.St) (k : Nat) (σ : L2.St) (H : Hp) : Prop :=
  ∃ B' Fs' s' acc Fd Fr, Rel K B' H σ s' Fs' ∧ H p = some (.lst vs) ∧ OwnL K H (vs.take k) acc Fd ∧ OwnL K H (vs.drop k) (ds.drop k) Fr ∧ (∀ a, w B' a + ((p :: (Fd ++ Fr)) ++ (Fx ++ Fs'.flatten)).count a ≤ 1) ∧ SS B1 H1 L1 B' H ((p :: (Fd ++ Fr)) ++ (Fx ++ Fs'.flatten)) ∧
    (∀ j, j ∉ own → σ[j]? = σ0[j]?) ∧ goM put get body (ds.drop k) acc s' = some res ∧ (∀ a ∈ Fx, H a ≠ none) ∧ (∀ a ∈ Fx, H a = H1 a)
end
section
variable {X : Cx} {K : PySem.W.Frag} {W : WW} {a tg : Expr} {g : L2.TG} {put : D → SD → Option SD} {get : SD → Option (D × SD)} {ys own : List Nat} {body : List Stmt} {t1 : TS} {d1 : DS} {pos : Pos}
end
end Dv

namespace Dv
open Enc (enc)
open PySem L2
section
variable {α β γ δ τ : Type} [Enc α] [Enc β] [Enc γ] [Enc δ] {ps ps1 ps2 qs : List Pt} {body rest : DS} {dk : DE D} {Φ : τ → Out → Prop} {put : D → SD → Option SD} {get : SD → Option (D × SD)} {M : β → List Pt}
def Loc.thd (z : Loc α (T3 β γ δ)) : Loc α δ := ⟨z.cur.c, fun b => z.put ⟨z.cur.a, z.cur.b, b⟩⟩
end
end Dv

namespace Dv
open PySem PySem.Spec PyProof.Rows L2 Evl
section
mutual
theorem Re.lockK {K : PySem.W.Frag} {p : Addr} {od : Obj} {ks : List (Key × V)} (hne : ks ≠ []) {G H : Hp} (hG : G p = some (.dK ks)) (hH : H p = some (.dK ks)) : ∀ {v : V} {d : D}, Re K G H v d → Re K (upd G p (.frz od (.dK ks))) (upd H p (.frz od (.dK ks))) v d
  | _, _, .non => .non
  | _, _, .bl b => .bl b
  | _, _, .int i => .int i
  | _, _, .str x => .str x
  | _, _, .tup h r => .tup (up_ne hH h (fun z => nomatch z) _) (ReL.lockK hne hG hH r)
  | _, _, .lst h r => .lst (up_ne hG h (fun z => nomatch z) _) (ReL.lockK hne hG hH r)
  | _, _, .sc h r => .sc (by
      rcases h with ⟨o, h⟩ | h
      · exact .inl ⟨o, up_ne hH h (fun z => nomatch z) _⟩
      · exact .inr h) (ReL.lockK hne hG hH r)
  | _, _, .dk (p := q) (ks := k2) h e r =>
    if c : q = p then
      have e2 : ks = k2 := by rw [c, hG] at h; cases h; rfl
      .dkF (o := od) (by rw [c, upd_same, e2]) (e2 ▸ hne) e (ReL.lockK hne hG hH r)
    else .dk (by rw [upd_ne c]; exact h) e (ReL.lockK hne hG hH r)
  | _, _, .dkF h n e r => .dkF (up_ne hH h (fun z => nomatch z) _) n e (ReL.lockK hne hG hH r)
  | _, _, .dt h e r => .dt (up_ne hG h (fun z => nomatch z) _) e (ReL.lockK hne hG hH r)
  | _, _, .dtF h e r => .dtF (up_ne hH h (fun z => nomatch z) _) e (ReL.lockK hne hG hH r)
  | _, _, .dn h n e r => .dn (up_ne hG h (fun z => nomatch z) _) (n.mono fun q xs h => up_ne hH h (fun z => nomatch z) _) e (ReL.lockK hne hG hH r)
  | _, _, .xc a c f => .xc a c f
  | _, _, .ob h e r => .ob ⟨h.1, up_ne hG h.2 (fun z => nomatch z) _⟩ e (ReL.lockK hne hG hH r)
theorem ReL.lockK {K : PySem.W.Frag} {p : Addr} {od : Obj} {ks : List (Key × V)} (hne : ks ≠ []) {G H : Hp} (hG : G p = some (.dK ks)) (hH : H p = some (.dK ks)) : ∀ {v : List V} {d : List D}, ReL K G H v d → ReL K (upd G p (.frz od (.dK ks))) (upd H p (.frz od (.dK ks))) v d
  | _, _, .nil => .nil
  | _, _, .cons a b => .cons (Re.lockK hne hG hH a) (ReL.lockK hne hG hH b)
end
mutual
theorem Re.unlockK {K : PySem.W.Frag} {p : Addr} {od : Obj} {ks : List (Key × V)} {G H : Hp} (hG : G p = some (.frz od (.dK ks))) (hH : H p = some (.frz od (.dK ks))) : ∀ {v : V} {d : D}, Re K G H v d → Re K (upd G p (.dK ks)) (upd H p (.dK ks)) v d
  | _, _, .non => .non
  | _, _, .bl b => .bl b
  | _, _, .int i => .int i
  | _, _, .str x => .str x
  | _, _, .tup h r => .tup (up_ne hH h (fun z => nomatch z) _) (ReL.unlockK hG hH r)
  | _, _, .lst h r => .lst (up_ne hG h (fun z => nomatch z) _) (ReL.unlockK hG hH r)
  | _, _, .sc h r => .sc (by
      rcases h with ⟨o, h⟩ | h
      · exact .inl ⟨o, by rw [upd_ne (fun z => by rw [z, hH] at h; cases h)]; exact h⟩
      · exact .inr h) (ReL.unlockK hG hH r)
  | _, _, .dk h e r => .dk (up_ne hG h (fun z => nomatch z) _) e (ReL.unlockK hG hH r)
  | _, _, .dkF (p := q) (ks := k2) h n e r =>
    if c : q = p then
      have e2 : ks = k2 := by rw [c, hH] at h; cases h; rfl
      .dk (by rw [c, upd_same, e2]) e (ReL.unlockK hG hH r)
    else .dkF (by rw [upd_ne c]; exact h) n e (ReL.unlockK hG hH r)
  | _, _, .dt h e r => .dt (up_ne hG h (fun z => nomatch z) _) e (ReL.unlockK hG hH r)
  | _, _, .dtF h e r => .dtF (by rw [upd_ne (fun z => by rw [z, hH] at h; cases h)]; exact h) e (ReL.unlockK hG hH r)
  | _, _, .dn h n e r => .dn (up_ne hG h (fun z => nomatch z) _) (n.mono fun q xs h => up_ne hH h (fun z => nomatch z) _) e (ReL.unlockK hG hH r)
  | _, _, .xc a c f => .xc a c f
  | _, _, .ob h e r => .ob ⟨h.1, up_ne hG h.2 (fun z => nomatch z) _⟩ e (ReL.unlockK hG hH r)
theorem ReL.unlockK {K : PySem.W.Frag} {p : Addr} {od : Obj} {ks : List (Key × V)} {G H : Hp} (hG : G p = some (.frz od (.dK ks))) (hH : H p = some (.frz od (.dK ks))) : ∀ {v : List V} {d : List D}, ReL K G H v d → ReL K (upd G p (.dK ks)) (upd H p (.dK ks)) v d
  | _, _, .nil => .nil
  | _, _, .cons a b => .cons (Re.unlockK hG hH a) (ReL.unlockK hG hH b)
end
end
section
variable {K : PySem.W.Frag} {p : Addr} {od : Obj} {ks : List (Key × V)} {B H B' H' : Hp} {σ : L2.St} {s : SD} {Fs : List (List Addr)} {v : V} {d : D} {ow : Ow} {F : List Addr}
theorem tk_lockK (hH : H p = some (.dK ks)) : Tk H (upd H p (.frz od (.dK ks))) := tk_ne hH (fun _ z => nomatch z) (fun _ _ z => nomatch z)
theorem own_unlock_tkK (hH : H p = some (.frz od (.dK ks))) : ∀ q xs, H q = some (.tup xs) → upd H p (.dK ks) q = some (.tup xs) := fun q xs h => up_ne hH h (fun z => nomatch z) _
mutual
theorem Own.unlockK {K : PySem.W.Frag} {p : Addr} {od : Obj} {ks : List (Key × V)} {H : Hp} (hH : H p = some (.frz od (.dK ks))) : ∀ {v : V} {d : D} {F : List Addr}, Own K H v d F → p ∉ F → Own K (upd H p (.dK ks)) v d F
  | _, _, _, .im e r, _ => .im e ((Re.unlockK hH hH r).any e)
  | _, _, _, .tup h r, n => .tup (own_unlock_tkK hH _ _ h) (OwnL.unlockK hH r n)
  | _, _, _, .lst h r, n => .lst (by rw [upd_ne (fun z => n (by simp [z]))]; exact h) (OwnL.unlockK hH r fun z => n (List.mem_cons_of_mem _ z))
  | _, _, _, .dk h e r, n => .dk (by rw [upd_ne (fun z => n (by simp [z]))]; exact h) e (OwnL.unlockK hH r fun z => n (List.mem_cons_of_mem _ z))
  | _, _, _, .dt h e r, n => .dt (by rw [upd_ne (fun z => n (by simp [z]))]; exact h) e (OwnL.unlockK hH r fun z => n (List.mem_cons_of_mem _ z))
  | _, _, _, .dn h k e r, n => .dn (by rw [upd_ne (fun z => n (by simp [z]))]; exact h) (k.mono (own_unlock_tkK hH)) e (OwnL.unlockK hH r fun z => n (List.mem_cons_of_mem _ z))
  | _, _, _, .ob h h2 e r, n => .ob ⟨h.1, by rw [upd_ne (fun z => n (by simp [z]))]; exact h.2⟩ (by rw [upd_ne (fun z => n (by simp [z]))]; exact h2) e (OwnL.unlockK hH r fun z => n (List.mem_cons_of_mem _ (List.mem_cons_of_mem _ z)))
theorem OwnL.unlockK {K : PySem.W.Frag} {p : Addr} {od : Obj} {ks : List (Key × V)} {H : Hp} (hH : H p = some (.frz od (.dK ks))) : ∀ {v : List V} {d : List D} {F : List Addr}, OwnL K H v d F → p ∉ F → OwnL K (upd H p (.dK ks)) v d F
  | _, _, _, .nil, _ => .nil
  | _, _, _, .cons a b, n => .cons (Own.unlockK hH a fun z => n (List.mem_append_left _ z)) (OwnL.unlockK hH b fun z => n (List.mem_append_right _ z))
end
theorem RS.lockK (hne : ks ≠ []) (hB : B p = some (.dK ks)) (hH : H p = some (.dK ks)) (r : RS K B H v d ow F) (n : p ∉ F) : RS K (upd B p (.frz od (.dK ks))) (upd H p (.frz od (.dK ks))) v d ow F := by
  cases ow with
  | full => exact Own.mono (tk_lockK hH) r fun a ha => upd_ne fun z => n (z ▸ ha)
  | top =>
    obtain ⟨q, vs, ds, e1, e2, e3, e4, e5⟩ := r
    subst e5
    exact ⟨q, vs, ds, e1, e2, by rw [upd_ne (fun z => n (by simp [z]))]; exact e3, ReL.lockK hne hB hH e4, rfl⟩
  | no => exact ⟨Re.lockK hne hB hH r.1, r.2⟩
  | adr a => exact ⟨Own.mono (tk_lockK hH) r.1 fun a ha => upd_ne fun z => n (z ▸ ha), r.2⟩
theorem RS.unlockK (hB : B p = some (.frz od (.dK ks))) (hH : H p = some (.frz od (.dK ks))) (r : RS K B H v d ow F) (n : p ∉ F) : RS K (upd B p (.dK ks)) (upd H p (.dK ks)) v d ow F := by
  cases ow with
  | full => exact Own.unlockK hH r n
  | top =>
    obtain ⟨q, vs, ds, e1, e2, e3, e4, e5⟩ := r
    subst e5
    exact ⟨q, vs, ds, e1, e2, by rw [upd_ne (fun z => n (by simp [z]))]; exact e3, ReL.unlockK hB hH e4, rfl⟩
  | no => exact ⟨Re.unlockK hB hH r.1, r.2⟩
  | adr a => exact ⟨Own.unlockK hH r.1 n, r.2⟩



theorem Rel.lockK (hne : ks ≠ []) (R : Rel K B H σ s Fs) (hB : B p = some (.dK ks)) : Rel K (upd B p (.frz od (.dK ks))) (upd H p (.frz od (.dK ks))) σ s Fs := by
  have hH := R.ex _ _ hB
  have n : p ∉ Fs.flatten := n_of_w hB (R.wf p)
  refine ⟨fun a o h => ?_, R.l1, R.l2, fun i d ow e => ?_, fun a => by rw [w_upd hB]; exact R.wt a, fun a ha => live_upd (R.lv a ha)⟩
  · by_cases c : a = p
    · subst c; rw [upd_same] at h ⊢; exact h
    · rw [upd_ne c] at h ⊢; exact R.ex a o h
  · obtain ⟨u, h1, h2⟩ := R.at_ i d ow e
    exact ⟨u, h1, h2.lockK hne hB hH (n_slot n)⟩
theorem Rel.unlockK (R : Rel K B H σ s Fs) (hB : B p = some (.frz od (.dK ks))) : Rel K (upd B p (.dK ks)) (upd H p (.dK ks)) σ s Fs := by
  have hH := R.ex _ _ hB
  have n : p ∉ Fs.flatten := n_of_w hB (R.wf p)
  refine ⟨fun a o h => ?_, R.l1, R.l2, fun i d ow e => ?_, fun a => by rw [w_upd hB]; exact R.wt a, fun a ha => live_upd (R.lv a ha)⟩
  · by_cases c : a = p
    · subst c; rw [upd_same] at h ⊢; exact h
    · rw [upd_ne c] at h ⊢; exact R.ex a o h
  · obtain ⟨u, h1, h2⟩ := R.at_ i d ow e
    exact ⟨u, h1, h2.unlockK hB hH (n_slot n)⟩
theorem ex_unlockK {B B' : Hp} (hB : B p = some (.dK ks)) (e : Ex (upd B p (.frz od (.dK ks))) B') : B' p = some (.frz od (.dK ks)) ∧ Ex B (upd B' p (.dK ks)) := by
  refine ⟨e _ _ upd_same, fun a o h => ?_⟩
  by_cases c : a = p
  · subst c; rw [upd_same]; rw [hB] at h; exact h
  · rw [upd_ne c]; exact e a o (by rw [upd_ne c]; exact h)

theorem SS.unlockK {L L' : List Addr} (hB : B p = some (.dK ks)) (hH : H p = some (.dK ks)) (hL : p ∉ L) (x : SS (upd B p (.frz od (.dK ks))) (upd H p (.frz od (.dK ks))) L B' H' L') : B' p = some (.frz od (.dK ks)) ∧ H' p = some (.frz od (.dK ks)) ∧ SS B H L (upd B' p (.dK ks)) (upd H' p (.dK ks)) L' := by
  obtain ⟨b1, b2⟩ := ex_unlockK hB x.exB
  have h1 : H' p = some (.frz od (.dK ks)) := x.tk.f _ _ _ upd_same
  refine ⟨b1, h1, b2, ⟨fun q xs h => own_unlock_tkK h1 q xs (x.tk.t q xs ?_), fun q o u h => ?_⟩, fun a ha z => ?_, fun a ha => (live_iff h1 a).mpr (x.live a ((live_iff hH a).mpr ha)), fun a ha => by rw [w_upd b1, ← w_upd (x := .frz od (.dK ks)) hB]; exact x.wt a ((live_iff hH a).mpr ha)⟩
  · exact up_ne hH h (fun z => nomatch z) _
  · have c : q ≠ p := fun z => by rw [z, hH] at h; cases h
    rw [upd_ne c]
    exact x.tk.f q o u (by rw [upd_ne c]; exact h)
  · by_cases c : a = p
    · subst c; rw [upd_same, hH]
    · rw [upd_ne c, x.keep a ((live_iff hH a).mpr ha) z, upd_ne c]
theorem ES.unlockK {L L' : List Addr} (hB : B p = some (.dK ks)) (hH : H p = some (.dK ks)) (hL : p ∉ L) (hL' : p ∉ L') (x : ES (upd B p (.frz od (.dK ks))) (upd H p (.frz od (.dK ks))) L B' H' L') : ES B H L (upd B' p (.dK ks)) (upd H' p (.dK ks)) L' := by
  obtain ⟨b1, b2⟩ := ex_unlockK hB x.exB
  obtain ⟨h1, h2⟩ := ex_unlockK hH x.exH
  refine ⟨b2, h2, fun a ha => by rw [w_upd b1, ← w_upd (x := .frz od (.dK ks)) hB]; exact x.wt a ((live_iff hH a).mpr ha), fun a o h => ?_⟩
  by_cases c : a = p
  · subst c
    rw [frz_out hL] at h
    rw [frz_out hL', upd_same]
    rw [hB] at h; exact h
  · have e1 : frz (upd B p (.frz od (.dK ks))) (upd H p (.frz od (.dK ks))) L a = frz B H L a := by
      by_cases m : a ∈ L
      · rw [frz_in m, frz_in m, upd_ne c]
      · rw [frz_out m, frz_out m, upd_ne c]
    have e2 : frz (upd B' p (.dK ks)) (upd H' p (.dK ks)) L' a = frz B' H' L' a := by
      by_cases m : a ∈ L'
      · rw [frz_in m, frz_in m, upd_ne c]
      · rw [frz_out m, frz_out m, upd_ne c]
    rw [e2]
    exact x.vw a o (by rw [e1]; exact h)
end

def kItsK (kd : List (Key × D)) : List (D × Ow) := kd.map fun e => (keyD e.1, Ow.full)
def sForUK (i : Nat) (tg : DT) (body : DS) : DS := fun s => match s[i]? with
  | some (some (.dK kd, _)) => noExc (goFor tg body (kItsK kd) (letD i s))
  | _ => none
section
variable {K : PySem.W.Frag} {W : WW} {B H B1 H1 : Hp} {σ : L2.St} {s : SD} {Fs : List (List Addr)} {i : Nat} {g : L2.TG} {tb : TS} {tg : DT} {own : List Nat} {body : DS} {o : Out} {En : Ends}
end
section
variable {X : Cx} {K : PySem.W.Frag} {W : WW} {tg a : Expr} {g : L2.TG} {tgd : DT} {ow : List Nat} {body : List Stmt} {t1 : TS} {d1 : DS} {pos : Pos}
end
end Dv

namespace Dv
open Enc (enc)
open PySem L2
section
variable {κ α β σ τ : Type} [DecidableEq κ] [Enc κ] [KyK κ] [Enc α] [Enc β] {ps : List Pt} {body rest : DS} {N : σ → List Pt} {Φ : τ → Out → Prop}
end
end Dv

namespace Dv
open Enc (enc)
open PySem L2
section
variable {α β : Type} [Enc α] [Enc β] {ps ps1 ps2 : List Pt} {ca cb : DE (D × Ow)}
end
def immX {ρ : Type} [Enc ρ] : R ρ → R ρ
  | .ok t => if imm (enc t) = true then .ok t else .bad
  | _ => .bad
section
variable {β ρ : Type} [Enc ρ] {ps : List Pt} {d dr : DS} {dx : Addr → Str → DS} {xs : List Str} {i j : Nat} {x : R β} {y : β → R ρ} {z : Str → R ρ} {Φ : ρ → Out → Prop} {N : β → List Pt}
end
instance : NN Xc := ⟨fun _ => rfl⟩
end Dv

namespace Dv
open PySem PySem.Spec PyProof.Rows L2 Evl
def cSortO (dc : DE (D × Ow)) : DE (D × Ow) := fun s => match dc s with
  | some (.ok (.lst xs, .full) s1) => (sortD xs).map fun ys => .ok (.lst ys, .full) s1
  | some (.exc x s1) => some (.exc x s1)
  | _ => none
section
variable {K : PySem.W.Frag} {W : WW}
end
section
variable {X : Cx} {K : PySem.W.Frag} {W : WW} {p pos : Pos} {e : Expr} {te : TE} {ca : DE (D × Ow)}
end
end Dv

namespace Dv
open Enc (enc)
open PySem L2
section
variable {α : Type} [Enc α] [DecidableEq α] [Dlt α] {ps ps1 : List Pt} {ca : DE (D × Ow)}
end
end Dv

namespace Dv
open PySem PySem.Spec PyProof.Rows L2 Evl
section
variable {K : PySem.W.Frag} {W : WW} {td tk te : TE} {ds : DS}
end
section
variable {X : Cx} {K : PySem.W.Frag} {W : WW} {st : Stmt} {td tk te : TE} {ds : DS}
end
end Dv

namespace Dv
open Enc (enc)
open PySem L2
section
variable {α σ τ : Type} [Enc α] {ps : List Pt} {body rest : DS} {Φ : τ → Out → Prop} {put : D → SD → Option SD} {get : SD → Option (D × SD)} {N : σ → List Pt} {M : α → σ → List Pt}
end
end Dv

namespace Dv
open Enc (enc)
open PySem L2
def shpN (N : Nat) (d e : PyData) : Bool := d.canLay0 && e.canLay0 && decide (min d.depth e.depth ≤ N)
def rEqN (N : Nat) (K : PySem.W.Frag) : R2 := fun x y H Q => ∃ d e, L2.Dp K H x d ∧ L2.Dp K H y e ∧ shpN N d e = true ∧ Q (.bl (PyData.eqv d e)) H
def rNeN (N : Nat) (K : PySem.W.Frag) : R2 := fun x y H Q => ∃ d e, L2.Dp K H x d ∧ L2.Dp K H y e ∧ shpN N d e = true ∧ Q (.bl (!PyData.eqv d e)) H
section
variable {X : Cx} {K : PySem.W.Frag} {N : Nat}
def fEqBN (N : Nat) (x y : D) : Option Bool := match x.py, y.py with
  | some a, some b => if shpN N a b = true then some (PyData.eqv a b) else none
  | _, _ => none
def fEqN (N : Nat) (x y : D) : Option D := (fEqBN N x y).map .bl
def fNeN (N : Nat) (x y : D) : Option D := (fEqBN N x y).map fun b => .bl (!b)
variable {W : WW} {pos : Pos} {a b : Expr} {ta tb : TE} {da db : DE D}
end
def eqRN (N : Nat) (u v : D) : R Bool := ofO (fEqBN N u v)
def neRN (N : Nat) (u v : D) : R Bool := R.bind (eqRN N u v) fun b => .ok (!b)
mutual
theorem eqD_refl : ∀ {n : Nat} {d : D}, nice n d = true → eqD d d = true
  | _, .non, _ => by simp [eqD]
  | _, .bl _, _ => by simp [eqD]
  | _, .int _, _ => by simp [eqD]
  | _, .str _, h => by simp [eqD]
  | 0, .tup _, h => by simp [nice] at h
  | 0, .lst _, h => by simp [nice] at h
  | 0, .sc _, h => by simp [nice] at h
  | n + 1, .tup xs, h => by
    have := eqDL_refl (n := n) (xs := xs) (by simpa [nice] using h)
    simpa [eqD] using this
  | n + 1, .lst xs, h => by
    have := eqDL_refl (n := n) (xs := xs) (by simpa [nice] using h)
    simpa [eqD] using this
  | n + 1, .sc xs, h => by
    have := eqDL_refl (n := n) (xs := xs) (by simpa [nice] using h)
    simpa [eqD] using this
  | _, .dK _, h => by simp [nice] at h
  | _, .dT _, h => by simp [nice] at h
  | _, .dN _, h => by simp [nice] at h
  | _, .ins _ _, h => by simp [nice] at h
theorem eqDL_refl : ∀ {n : Nat} {xs : List D}, niceL n xs = true → eqDL xs xs = true
  | _, [], _ => by simp [eqDL]
  | n, x :: xs, h => by
    simp only [niceL, Bool.and_eq_true] at h
    simp only [eqDL, Bool.and_eq_true]
    exact ⟨eqD_refl h.1, eqDL_refl h.2⟩
end
end Dv

namespace Dv
open PySem PySem.Spec PyProof.Rows L2 Evl
def rLenTD (K : PySem.W.Frag) (P : Program) (w : World) : List V → Hp → VK → Prop := fun vs H Q => ∃ (a : Addr) (L : List (Addr × List Int)), vs = [V.ref a] ∧ H a = some (SetTO P w a L) ∧ (∀ p ∈ L, SqT K H p.1 (p.2.map V.int)) ∧ ((L.map (·.2)).Nodup → Q (.int L.length) H)
def dLenSetT (dr : DE (List D)) : DE D := bnd dr fun ds s => match ds with
  | [.lst xs] => match allTup xs with
    | some nss => if nss.length < 64 then some (.ok (.int (onceT nss).length) s) else none
    | none => none
  | _ => none
section
variable {K : PySem.W.Frag} {W : WW} {P : Program} {w : World}
end
section
variable {X : Cx} {K : PySem.W.Frag} {W : WW} {p pos p2 pos2 : Pos} {e : Expr} {t : TA} {dA : DE (List D)}
end
end Dv

namespace Dv
open Enc (enc)
open PySem L2
section
variable {ps ps1 : List Pt} {dr : DE (List D)}
noncomputable def lenSetTR (l : List (Tv Int)) : R Int := okIf (l.length < 64) ((onceT (l.map (·.l))).length : Int)
end
end Dv

namespace Dv
open PySem PySem.Spec PyProof.Rows L2 Evl
def cAddT (a b : DE D) : DE (D × Ow) := bnd a fun x => bnd b fun y s => match x, y with
  | .lst xs, .lst ys => if xs.length + ys.length ≤ 1000000 then some (.ok (.lst (xs ++ ys), .top) (fzAll s)) else none
  | _, _ => none
section
variable {K : PySem.W.Frag} {W : WW} {ta tb : TE} {da db : DE D}
variable {X : Cx} {pos : Pos} {a b : Expr}
end
end Dv

namespace Dv
open Enc (enc)
open PySem L2
section
variable {α : Type} [Enc α] {ps ps1 ps2 : List Pt} {da db : DE D}
end
end Dv

namespace Dv
open PySem PySem.Spec PyProof.Rows L2 Evl
def goT (y : Nat) (dt : DE Bool) : List D → SD → Option SD
  | [], s => some s
  | .int i :: r, s => if y < s.length then match dt (s.set y (some (.int i, .full))) with
    | some (.ok false s2) => goT y dt r s2
    | _ => none
    else none
  | _ :: _, _ => none
def sForT (y : Nat) (de : DE D) (dt : DE Bool) : DS := fun s => match de s with
  | some (.ok (.lst ds) s1) => (goT y dt ds s1).map .next
  | _ => none
section
variable {K : PySem.W.Frag} {W : WW} {te : TE} {de : DE D} {tt : TT} {dt : DE Bool}
def TP (K : PySem.W.Frag) (y : Nat) (dt : DE Bool) (s' : SD) (B1 H1 : Hp) (L1 : List Addr) (p : Addr) (vs : List V) (ds : List D) (σ0 : L2.St) (k : Nat) (σ : L2.St) (H : Hp) : Prop :=
  ∃ B' Fs' s2, Rel K B' H σ s2 Fs' ∧ H p = some (.lst vs) ∧ SS B1 H1 L1 B' H Fs'.flatten ∧ (∀ j, j ∉ [y] → σ[j]? = σ0[j]?) ∧ goT y dt (ds.drop k) s2 = some s'
variable {X : Cx} {a c : Expr} {st : Stmt} {es : List Stmt} {tg : Expr} {pos pos2 : Pos} {y : Nat} {td : DT}
end
end Dv

namespace Dv
open Enc (enc)
open PySem L2
section
variable {τ ρ : Type} [Enc ρ] {ps ps1 qs : List Pt} {de : DE D} {dt : DE Bool} {rest : DS} {Φ : τ → Out → Prop}
def noneT (t : Int → R Bool) : List Int → R Unit
  | [] => .ok ()
  | i :: l => match t i with
    | .ok false => noneT t l
    | _ => .bad
end
end Dv

namespace Dv
open PySem PySem.Spec PyProof.Rows L2 Evl
def cListTop (i : Nat) : DE (D × Ow) := fun s => match s[i]? with
  | some (some (.lst ds, .top)) => some (.ok (.lst ds, .top) s)
  | _ => none
section
variable {K : PySem.W.Frag} {W : WW}
variable {X : Cx} {p pos : Pos} {e : Expr} {dA : DE (List D)}
end
end Dv

namespace Dv
open Enc (enc)
open PySem L2
section
variable {α : Type} [Enc α] {ps : List Pt}
end
end Dv

namespace Dv
open PySem PySem.Spec PyProof.Rows L2 Evl
def wCallTR (i : Nat) (gf : GF) (cb : DE (D × Ow)) : DE (D × Ow) := fun s => match cb s with
  | some (.ok (x, ow) s2) => if ow = .full then (match s2[i]? with
    | some (some (d1, _)) => (match gf [x, d1] with
      | some (r, ow', []) => if (imm r || decide (ow' = .full)) = true then some (.ok (r, .full) s2) else none
      | _ => none)
    | _ => none) else none
  | some (.exc c s2) => some (.exc c s2)
  | none => none
section
variable {K : PySem.W.Frag} {cl : Str → Value} {X : WX} {df : DF} {gf : GF} {tb : TE} {cb : DE (D × Ow)} {i : Nat}
variable {X2 : Cx} {x : Str} {p pos : Pos} {e e2 : Expr}
end
end Dv

namespace Dv
open Enc (enc)
open PySem L2
section
variable {α β ρ τ : Type} [Enc α] [Enc β] [Enc ρ] {ps ps1 : List Pt}
end
end Dv

namespace Dv
open PySem PySem.Spec PyProof.Rows L2 Evl
def wCallWS (c m : Str) (i j : Nat) (gf : GF) : DE (D × Ow) := fun s => match s[i]?, s[j]? with
  | some (some (d0, .full)), some (some (d1, _)) => if i ≠ j then (match fTgt c m d0 with
    | some _ => (match gf [d0, d1] with
      | some (r, _, [d']) => if imm r = true then some (.ok (r, .full) (s.set i (some (d', .full)))) else none
      | _ => none)
    | none => none) else none
  | _, _ => none
section
variable {K : PySem.W.Frag} {cl : Str → Value} {X : WX} {df : DF} {gf : GF} {c m : Str} {i j : Nat}
variable {X2 : Cx} {p pos apos : Pos} {o e : Expr}
end
end Dv

namespace Dv
open Enc (enc)
open PySem L2
section
variable {α β ρ τ : Type} [Enc α] [Enc β] [Enc ρ] {ps ps1 : List Pt}
end
end Dv

namespace Dv
open PySem PySem.Spec PyProof.Rows L2 Evl
def goTR (put : D → SD → Option SD) (dt : DE Bool) : List D → SD → Option (Bool × SD)
  | [], s => some (false, s)
  | d :: r, s => if imm d = true then match put d s with
    | some s1 => match dt s1 with
      | some (.ok true s2) => some (true, s2)
      | some (.ok false s2) => goTR put dt r s2
      | _ => none
    | none => none
    else none
def sForTR (put : D → SD → Option SD) (de : DE D) (dt : DE Bool) (dr : DS) : DS := fun s => match de s with
  | some (.ok (.lst ds) s1) => match goTR put dt ds s1 with
    | some (false, s') => some (.next s')
    | some (true, s') => match dr s' with
      | some (.ret d ow) => some (.ret d ow)
      | _ => none
    | none => none
  | _ => none
section
variable {K : PySem.W.Frag} {W : WW} {te : TE} {de : DE D} {tt : TT} {dt : DE Bool} {tr : TS} {dr : DS} {put : D → SD → Option SD} {get : SD → Option (D × SD)} {g : L2.TG} {ys : List Nat}
def TPR (K : PySem.W.Frag) (put : D → SD → Option SD) (dt : DE Bool) (res : Bool × SD) (B1 H1 Hi : Hp) (L1 : List Addr) (p : Addr) (vs : List V) (ds : List D) (k : Nat) (σ : L2.St) (H : Hp) : Prop :=
  ∃ B' Fs' s2, Rel K B' H σ s2 Fs' ∧ Ex Hi H ∧ SS B1 H1 L1 B' H Fs'.flatten ∧ goTR put dt (ds.drop k) s2 = some res
variable {X : Cx} {a c tg : Expr} {es : List Stmt} {pos pos2 : Pos}
end
end Dv

namespace Dv
open Enc (enc)
open PySem L2
section
variable {τ α : Type} [Enc α] {ps ps1 qs : List Pt} {de : DE D} {dt : DE Bool} {dr rest : DS} {Φ : τ → Out → Prop} {put : D → SD → Option SD} {M : α → List Pt}
def findT (t : α → R Bool) : List α → R Bool
  | [] => .ok false
  | a :: l => R.bind (t a) fun b => if b = true then .ok true else findT t l
end
end Dv

namespace Dv
open PySem PySem.Spec PyProof.Rows L2 Evl
def sPopV (i : Nat) (tg : DT) : DS := fun s => match s[i]? with
  | some (some (.lst ds, .top)) => match ds.getLast? with
    | some d => (tg d .no (s.set i (some (.lst ds.dropLast, .top)))).map Out.next
    | none => none
  | _ => none
section
variable {K : PySem.W.Frag} {W : WW} {g : L2.TG} {tg : DT} {own : List Nat}
variable {X : Cx} {pos cpos apos : Pos} {a te : Expr}
end
end Dv

namespace Dv
open Enc (enc)
open PySem L2
instance {α β : Type} [Enc α] [Enc β] [NI β] : NI (α × β) := ⟨fun p => by
  show imm (.tup [enc p.1, enc p.2]) = false
  simp [imm, immL, NI.ni p.2]⟩
section
variable {τ α β : Type} [Enc α] [Enc β] {ps : List Pt} {d rest : DS} {Φ : τ → Out → Prop}
def unOT (o : Option Tr) : R (Int × List (Int × Tr)) := match o with
  | some (.nd a bs) => .ok (a, bs)
  | _ => .bad
end
end Dv

namespace Dv
open PySem PySem.Spec PyProof.Rows L2 Evl
def letS (i : Nat) (s : SD) : SD := match s[i]? with
  | some (some (d, _)) => s.set i (some (d, .no))
  | _ => s
def sLet (i : Nat) (d : DS) : DS := fun s => d (letS i s)
section
variable {K : PySem.W.Frag} {W : WW} {B H : Hp} {σ : L2.St} {s : SD} {Fs : List (List Addr)} {t : TS} {d : DS}
theorem Rel.let1 (R0 : Rel K B H σ s Fs) (i : Nat) : ∃ B' Fs', Rel K B' H σ (letS i s) Fs' ∧ ES B H Fs.flatten B' H Fs'.flatten := by
  unfold letS
  split
  · rename_i d ow h
    obtain ⟨v, hv, q⟩ := R0.at_ i d ow h
    have hi := lt_of_get h
    have hF : i < Fs.length := by rw [R0.l2, ← R0.l1]; exact hi
    have cnt : ∀ a, Fs.flatten.count a = (Fs.getD i []).count a + (Fs.set i []).flatten.count a := fun a => by
      have := flat_set (F := []) hF a
      simp at this ⊢
      omega
    have y := (ES.refl B H Fs.flatten).let_go (Fs.getD i []) (Fs.set i []).flatten q.live cnt R0.ex
    have q2 : Re K (frz B H (Fs.getD i [])) H v d := q.fz (frz_ex R0.ex) fun a ha => frz_in ha
    have R1 : Rel K (frz B H (Fs.getD i [])) H σ (s.set i (some (d, .no))) (Fs.set i []) := by
      refine Rel.slot (F := []) (r := (?_ : Rel K (frz B H (Fs.getD i [])) H σ (s.set i none) (Fs.set i []))) (by simpa using hi) (fun d' ow' z => ?_) (fun a => ?_) (fun _ z => nomatch z) |> fun z => by simpa using z
      · refine Rel.know (B := B) (R0.slot (sl := none) (F := []) hi (fun _ _ z => nomatch z) (fun a => ?_) (fun _ z => nomatch z)) fun a => ?_
        · have h1 := cnt a
          have h2 := R0.wf a
          omega
        · rw [List.count_append, ← cnt a]
          exact R0.wf a
      · cases z
        exact ⟨v, hv, q2, rfl⟩
      · have h1 := cnt a
        have h2 := R0.wf a
        have h3 := frz_w B H (Fs.getD i []) a
        rw [List.set_set]
        omega
    exact ⟨_, _, R1, y⟩
  · exact ⟨B, Fs, R0, ES.refl _ _ _⟩
end
section
variable {X : Cx} {K : PySem.W.Frag} {W : WW} {st : Stmt} {t : TS} {d : DS}
end
end Dv

namespace Dv
open Enc (enc)
open PySem L2
instance {κ α : Type} [Enc κ] [Enc α] [DecidableEq κ] [Ky κ] [KyD κ] : NN (Dc κ α) := ⟨fun d => by
  have h : imm (enc d : D) = false := Ky.ni _
  cases e : (enc d : D) <;> rw [e] at h <;> first | rfl | (simp [imm] at h)⟩
section
variable {τ α : Type} [Enc α] {ps : List Pt} {d rest : DS} {Φ : τ → Out → Prop}
end
end Dv

namespace Dv
open PySem PySem.Spec PyProof.Rows L2 Evl
def sDSet2 (i : Nat) (dk dj de : DE D) : DS := fun s => match de s with
  | some (.ok ev s1) => if (s1[i]?).join.isSome = true then match dk s1 with
    | some (.ok k s2) => match s2[i]? with
      | some (some (d, .full)) => match lookD d k with
        | some (some d1) => if (isDct d = true ∧ isDct d1 = true) ∧ imm ev = true then match dj s2 with
          | some (.ok j s3) => match s3[i]? with
            | some (some (d2, .full)) => match lookD d2 k with
              | some (some d3) => if isDct d2 = true then match putD d3 j ev with
                | some d4 => (putD d2 k d4).map fun d' => .next (s3.set i (some (d', .full)))
                | none => none
                else none
              | _ => none
            | _ => none
          | some (.exc x s3) => some (.exc x s3)
          | none => none
          else none
        | _ => none
      | _ => none
    | some (.exc x s2) => some (.exc x s2)
    | none => none
    else none
  | some (.exc x s1) => some (.exc x s1)
  | none => none
section
variable {K : PySem.W.Frag} {W : WW} {tk tj te : TE} {dk dj de : DE D} {i : Nat}
end
section
variable {X : Cx} {K : PySem.W.Frag} {W : WW} {pos pos2 spos : Pos} {a b c e : Expr} {tk tj te : TE} {dk dj de : DE D}
end
end Dv

namespace Dv
open PySem PySem.Spec PyProof.Rows L2 Evl
section
variable {prog : Program} {w : World} {s : Shared} {A : Around} {E : Value → Shared → Prop}
end
def rMinL (K : PySem.W.Frag) : List V → Hp → VK → Prop := fun vs H Q => ∃ (a : Addr) (ns : List Int), vs = [V.ref a] ∧ SqL K H a (ns.map V.int) ∧ 0 < ns.length ∧ ∀ M, M ∈ ns → (∀ x ∈ ns, M ≤ x) → Q (.int M) H
def minL : List Int → Int
  | [] => 0
  | [x] => x
  | x :: y :: l => if x > minL (y :: l) then minL (y :: l) else x
def fMinL : List D → Option D
  | [.lst ds] => match allInt ds with
    | some (n :: ns) => some (.int (minL (n :: ns)))
    | _ => none
  | _ => none
section
variable {X : Cx} {K : PySem.W.Frag} {W : WW} {p pos : Pos} {e : Expr} {es : List Expr} {t : TA} {dA : DE (List D)}
end
end Dv

namespace Dv
open Enc (enc)
open PySem L2
def minLR (l : List Int) : R Int := match l with
  | [] => .bad
  | n :: ns => .ok (minL (n :: ns))
section
variable {τ κ κ2 α : Type} [DecidableEq κ] [Enc κ] [Ky κ] [KyD κ] [DecidableEq κ2] [Enc κ2] [Ky κ2] [KyD κ2] [Enc α] [Imm α] {ps ps1 ps2 ps3 : List Pt} {de dk dj : DE D} {rest : DS} {Φ : τ → Out → Prop}
end
end Dv

namespace Dv
open PySem PySem.Spec PyProof.Rows L2 Evl
def sExt (i : Nat) (c : DE (D × Ow)) : DS := fun s => match s[i]? with
  | some (some (.lst _, .full)) => match c s with
    | some (.ok (.lst es, .full) s1) => match s1[i]? with
      | some (some (.lst ds, .full)) => if ds.length + es.length < 1000000 then some (.next (s1.set i (some (.lst (ds ++ es), .full)))) else none
      | _ => none
    | some (.exc x s1) => some (.exc x s1)
    | _ => none
  | _ => none
abbrev tExt (K : PySem.W.Frag) (to tc : TE) : TS := tDrop (tBM K "list" rExtend to (tCons tc tNil))
section
variable {K : PySem.W.Frag} {W : WW} {tc : TE} {c : DE (D × Ow)} {i : Nat}
def sExtT (i : Nat) (c : DE (D × Ow)) : DS := fun s => match s[i]? with
  | some (some (.lst _, .top)) => match c s with
    | some (.ok (.lst es, .full) s1) => match s1[i]? with
      | some (some (.lst ds, .top)) => if ds.length + es.length < 1000000 then some (.next (s1.set i (some (.lst (ds ++ es), .top)))) else none
      | _ => none
    | some (.exc x s1) => some (.exc x s1)
    | _ => none
  | _ => none
end
section
variable {X : Cx} {K : PySem.W.Frag} {W : WW} {pos cpos apos : Pos} {a e : Expr} {te : TE} {ca : DE (D × Ow)}
end
end Dv

namespace Dv
open PySem PySem.Spec PyProof.Rows L2 Evl
def sForMD (f : Nat) (dk : DE D) (put : D → SD → Option SD) (get : SD → Option (D × SD)) (body : DS) : DS := fun s => if (s[f]?).join.isSome = true then match dk s with
  | some (.ok k s1) => match s1[f]? with
    | some (some (d, .full)) => match lookD d k with
      | some (some (.lst ds)) => match goM put get body ds [] (s1.set f none) with
        | some (ds', s') => if f < s'.length then (putD d k (.lst ds')).map fun d' => .next (s'.set f (some (d', .full))) else none
        | none => none
      | _ => none
    | _ => none
  | _ => none
  else none
section
variable {K : PySem.W.Frag} {W : WW} {tk : TE} {t : TS} {body : DS} {g : L2.TG} {put : D → SD → Option SD} {get : SD → Option (D × SD)} {ys own : List Nat} {dk : DE D}
end
section
variable {X : Cx} {K : PySem.W.Frag} {W : WW} {a tg : Expr} {g : L2.TG} {put : D → SD → Option SD} {get : SD → Option (D × SD)} {ys own : List Nat} {body : List Stmt} {t1 : TS} {d1 : DS} {pos : Pos} {tk : TE} {dk : DE D} {b : Expr} {pos2 : Pos}
end
end Dv

namespace Dv
open Enc (enc)
open PySem L2
noncomputable def extR {α : Type} (l x : List α) : R (List α) := okIf (l.length + x.length < 1000000) (l ++ x)
section
variable {τ α : Type} [Enc α] {ps ps1 : List Pt} {ca : DE (D × Ow)} {rest : DS} {Φ : τ → Out → Prop}
end
section
variable {κ α σ τ : Type} [DecidableEq κ] [Enc κ] [Ky κ] [KyD κ] [Enc α] {ps ps1 : List Pt} {body rest : DS} {dk : DE D} {Φ : τ → Out → Prop} {put : D → SD → Option SD} {get : SD → Option (D × SD)} {N : σ → List Pt} {M : α → σ → List Pt}
end
end Dv

namespace Dv
open Enc (enc)
open PySem L2
def unOL : List (Option Int) → R (List Int)
  | [] => .ok []
  | o :: r => R.bind (unO o) fun a => R.bind (unOL r) fun l => .ok (a :: l)
end Dv

namespace Dv
open PySem PySem.Spec PyProof.Rows L2 Evl
def rMulS : R2 := fun x y H Q => ∃ a n, x = .str a ∧ y = .int n ∧ MulOk a n ∧ Q (.str (Txt.mul a n)) H
def fMulS (x y : D) : Option D := match x, y with
  | .str a, .int n => if 0 ≤ n ∧ n ≤ 1000 ∧ a.length ≤ 1000 then some (.str (Txt.mul a n)) else none
  | _, _ => none
section
variable {X : Cx} {K : PySem.W.Frag} {W : WW} {a b : Expr} {ta tb : TE} {da db : DE D} {pos : Pos}
end
end Dv

namespace Dv
open Enc (enc)
open PySem L2
noncomputable def mulSR (a : Str) (n : Int) : R Str := okIf (0 ≤ n ∧ n ≤ 1000 ∧ a.length ≤ 1000) (Txt.mul a n)
end Dv

namespace Dv
open Enc (enc)
open PySem L2
def allRow : List D → Option (List (List (Int × Int)))
  | [] => some []
  | .lst r :: ds => match allPair r, allRow ds with
    | some x, some l => some (x :: l)
    | _, _ => none
  | _ => none
def asMM : D → R (List (List (Int × Int)))
  | .lst ds => match allRow ds with
    | some l => .ok l
    | none => .bad
  | _ => .bad
end Dv

namespace Dv
open Enc (enc)
open PySem L2
def itD (d : D) (k : Int) : R D := match lsOf d with
  | some ds => ofO (L2.atI ds k)
  | none => .bad
section
variable {ps ps1 : List Pt} {ca : DE (D × Ow)} {c : Oc}
end
end Dv

namespace Dv
open PySem L2 Evl
def PostS0 (K : PySem.W.Frag) (W : WW) (B H : Hp) (L : List Addr) (σ : L2.St) (En : Ends) : Out → Prop
  | .next s' => ∀ B' H' Fs', Rel K B' H' σ s' Fs' → SS B H L B' H' Fs'.flatten → En.nx σ H'
  | .exc c s' => ∀ σ' B' H' Fs', Rel K B' H' σ' s' Fs' → SS B H L B' H' Fs'.flatten → W c σ' H'
  | _ => False
def JS0 (K : PySem.W.Frag) (W : WW) (ts : TS) (ds : DS) : Prop :=
  ∀ s o, ds s = some o → ∀ B H σ Fs, Rel K B H σ s Fs → ∀ En : Ends, PostS0 K W B H Fs.flatten σ En o → ts En σ H
def sAdr (i : Nat) (st : DS) : DS := fun s => match s[i]? with
  | some (some (d, .adr q)) => match st (s.set i (some (d, .full))) with
    | some (.next s') => match s'[i]? with
      | some (some (d', .full)) => some (.next (s'.set i (some (d', .adr q))))
      | _ => none
    | _ => none
  | _ => none
section
variable {K : PySem.W.Frag} {W : WW} {B H : Hp} {σ : L2.St} {s : SD} {Fs : List (List Addr)} {i : Nat} {d : D} {q : Addr} {ts : TS} {ds : DS}
theorem JS0.js (h : JS0 K W ts ds) (hn : ∀ s o, ds s = some o → (∃ s', o = .next s') ∨ ∃ c s', o = .exc c s') : JS K W ts ds := by
  intro s o e B H σ Fs R En p
  refine h s o e B H σ Fs R En ?_
  rcases hn s o e with ⟨s', rfl⟩ | ⟨c, s', rfl⟩
  · exact fun B' H' Fs' x y => p σ B' H' Fs' x y
  · exact p
end
section
variable {K : PySem.W.Frag} {W : WW} {i : Nat} {tks : List TE} {dks : List (DE D)} {tk tc : TE} {dk : DE D} {c : DE (D × Ow)}
end
section
variable {K : PySem.W.Frag} {W : WW} {i : Nat} {tks : List TE} {dks : List (DE D)} {tc : TE} {c : DE (D × Ow)} {m : Mu}
end
end Dv

namespace Dv
open PySem PySem.Spec PyProof.Rows L2 Evl
def opq (a : Addr) : D := .ins exN (exFs a)
def keepO (s : SD) : SD := s.map fun sl => match sl with
  | some (d, ow) => if ow = .no ∨ imm d = true then some (d, .no) else none
  | none => none
def isL : D → Bool
  | .lst _ => true
  | _ => false
def aliS (f j : Nat) (as : List Addr) (d : D) (s : SD) : SD := ((keepO s).set f (some (.lst (as.map opq), .top))).set j (some (d, .full))
def AliP (f j : Nat) (n : Nat) (d : D) (body : DS) (s : SD) (d' : D) : Prop :=
  ∀ as : List Addr, as.length = n → ∃ s', body (aliS f j as d s) = some (.next s') ∧ s'.length = s.length ∧ s'[j]? = some (some (d', .full)) ∧ s'[f]? = some (some (.lst (as.map opq), .top))
noncomputable def sAli (f j : Nat) (own : List Nat) (dk : DE D) (body : DS) : DS := fun s => match (if (s[f]?).join.isSome = true then dk s else none) with
  | some (.ok (.int k) s1) => match s1[f]? with
    | some (some (.lst ds, .full)) => match atI ds k with
      | some d => if ds.all isL = true ∧ j < s1.length then
          @dite _ (∃ d', AliP f j ds.length d body s1 d') (Classical.propDecidable _) (fun h => (ixN ds.length k).map fun m => .next (((wipeD own s1).set f (some (.lst (ds.set m (Classical.choose h)), .full))).set j none)) (fun _ => none)
        else none
      | none => none
    | _ => none
  | _ => none
section
variable {K : PySem.W.Frag} {W : WW} {B H B1 H1 B' H' : Hp} {σ : L2.St} {s : SD} {Fs : List (List Addr)} {t : TS} {body : DS} {own : List Nat} {tk : TE} {dk : DE D}
theorem JK.le {own2 : List Nat} (h : JK K W t body own) (ho : ∀ i, i ∈ own → i ∈ own2) : JK K W t body own2 := fun s s' e B H σ Fs R En p => h s s' e B H σ Fs R En fun σ' B' H' Fs' a b k => p σ' B' H' Fs' a b fun j hj => k j fun z => hj (ho j z)
end
section
variable {X : Cx} {K : PySem.W.Frag} {W : WW} {tg a b e : Expr} {g : L2.TG} {tgd : DT} {ow own own1 : List Nat} {rest : List Stmt} {te tk : TE} {ca : DE (D × Ow)} {db dk : DE D} {t1 : TS} {d1 : DS} {pos pos2 spos : Pos}
end
end Dv

namespace Dv
open Enc (enc)
open PySem L2
structure Opq where
  a : Addr
instance : Enc Opq := ⟨fun x => opq x.a⟩
def psO (ps : List Pt) : List Pt := ps.map fun p => match p with
  | .h .o d => .h .o d
  | _ => .x
def wipPt : List Nat → List Pt → List Pt
  | [], ps => ps
  | i :: is, ps => (wipPt is ps).set i .x
section
variable {β τ : Type} [Enc β] {ps ps1 : List Pt} {body rest : DS} {dk : DE D} {Φ : τ → Out → Prop}
end
end Dv

namespace Dv
open PySem L2 PySem.Spec PyProof.Rows Evl
def dNo {α : Type} (c : DE α) : DE α := fun s => match c s with
  | some (.exc _ _) => none
  | r => r
section
variable {K : PySem.W.Frag} {W W' : WW}
theorem J.noX {R α : Type} {rel : RelT R α} {te : TX R} {de : DE α} (h : J rel K W te de) : J rel K W' te (dNo de) := by
  intro s r e B H σ Fs R0 Q p
  unfold dNo at e
  cases e1 : de s with
  | none => rw [e1] at e; cases e
  | some r1 =>
    rw [e1] at e
    cases r1 with
    | exc c s1 => cases e
    | ok a s1 =>
      cases e
      exact h s _ e1 B H σ Fs R0 Q p
end
section
variable {X : Cx} {K : PySem.W.Frag} {W W' : WW} {e : Expr} {tt : TT} {dt : DE Bool}
end
structure CalX (P : Program) (w : World) (K : PySem.W.Frag) (mg : Str → Option Value) (base : Heap) (cl : Str → Value) (x : Str) (k n : Nat) (df : DF) : Prop where
  ex : ∃ (f : Addr) (fd : FuncData) (ps : List Str), FnOk P w K mg base (L2N.CX P w) k f fd ps (spD K cl n df) ∧ mg x = some (.ref f) ∧ PySem.W.keepIn K (.ref f) = true ∧ Binds K fd ps []
section
variable {P : Program} {w : World} {K : PySem.W.Frag} {mg : Str → Option Value} {base : Heap} {f : Addr} {fd : FuncData}
theorem CalX.def_ {cl : Str → Value} {x qual : Str} {pr : Arguments} {st : List Stmt} {scope : Scope} {N ps : List Str} {k : Nat} {d : DS} (F : FunD K x qual pr st scope [] [] f fd) (hm : mg x = some (.ref f)) (S : FnScope N ps scope) (hl : ps.length ≤ N.length)
    (hb : ∀ (kV doc pm : Value) (an : Option Addr) (cdv ct : Value) (us : List Value), us.length = ps.length → bindArgs (PySem.W.fnOf x qual pr st scope .none kV doc pm an cdv ct) ⟨us, []⟩ = pure (ps.zip us))
    (h : ∀ (cdv : Value) (A : Around) (outer : List Env) (s : Shared) (H : Hp) (E : XK) (X : Cx), X = cxOf (L2N.CX P w) P w K mg base N qual scope f cdv A outer s H E → Room k X.A → L2N.Takes X (fun cls d _ H => E cls d H) → ∃ t, QSs X K (wOf cl fun cls d _ H => E cls d H) st t d) :
    CalX P w K mg base cl x (k + 1) ps.length (dFn ps.length N.length d) := by
  refine ⟨f, fd, ps, ?_, hm, F.kp, F.bindsN hb⟩
  refine F.ok S (fun vs H Q E h => spD_len h) (fun cdv A outer s H vs Q E hr sp => ?_)
  obtain ⟨t, q⟩ := h cdv A outer s H E _ rfl hr (L2N.takes_of rfl rfl rfl rfl)
  refine ⟨t, q.p, def_ok hl q.j ?_⟩
  obtain ⟨B, ds, o, eB, r, el, ed, post⟩ := sp
  unfold dFn at ed
  rw [if_pos el] at ed
  exact ⟨B, ds, o, eB, r, el, ed, post⟩
end
section
variable {X : Cx} {K : PySem.W.Frag} {Wx : WX} {c : Str} {xs : List Str} {m x : Str} {j : Nat} {p p2 p3 pos : Pos} {e : Expr} {es : List Expr} {t : TA} {dA : DE (List D)}
end
def sRe (c1 c2 : Str) (d dN : DS) : DS := fun s => match d s with
  | some (.exc _ _) => match dN s with
    | some (.exc c s1) => if c = c1 then some (.exc c2 s1) else none
    | _ => none
  | r => r
section
variable {X : Cx} {K : PySem.W.Frag} {Wx : WX} {xs : List Str} {c1 c2 m : Str} {jj : Nat} {body : List Stmt} {np p p2 p3 pos pos' pos2 : Pos} {tb tbN : WX → TS} {d dN : DS}
end
end Dv

namespace Dv
open Enc (enc)
open PySem L2
def reX {α : Type} (c1 c2 : Str) (x xN : R α) : R α := match x with
  | .exc _ => match xN with
    | .exc c => if c = c1 then .exc c2 else .bad
    | _ => .bad
  | r => r
end Dv

namespace Dv
open PySem PySem.Spec PyProof.Rows L2 Evl
def cTupN (a : DE (List D)) : DE (D × Ow) := bnd a fun xs s => match xs with
  | [.lst ds] => some (.ok (.tup ds, .no) (fzAll s))
  | _ => none
section
variable {K : PySem.W.Frag} {W : WW} {B H : Hp} {σ : L2.St} {s : SD} {Fs : List (List Addr)} {p : Addr} {tr : TA} {dr : DE (List D)}
end
section
variable {X : Cx} {K : PySem.W.Frag} {W : WW} {e : Expr} {es : List Expr} {t : TA} {dA : DE (List D)} {p pos : Pos}
end
end Dv

namespace Dv
open Enc (enc)
open PySem L2
section
variable {α β τ : Type} [Enc α] [Enc β] {ps ps1 ps2 ps3 : List Pt} {rest : DS} {dk dk1 dk2 : DE D} {ca : DE (D × Ow)} {dr : DE (List D)} {Φ : τ → Out → Prop} {c : Oc}
def oddL (l : List β) : List D := l.map enc
def odd2 (l : List (List β)) : List (List D) := l.map fun r => r.map enc
end
end Dv

namespace Dv
open PySem PySem.Spec PyProof.Rows L2 Evl
def cItemM (i : Nat) (dk : DE D) : DE (D × Ow) := fun s => match (if (s[i]?).join.isSome = true then dk s else none) with
  | some (.ok (.int k) s1) => match s1[i]? with
    | some (some (.lst ds, .full)) => (atI ds k).map fun d => .ok (d, .full) (s1.set i none)
    | _ => none
  | some (.exc x s1) => some (.exc x s1)
  | _ => none
section
variable {K : PySem.W.Frag} {W : WW} {tk : TE} {dk : DE D} {i : Nat}
end
section
variable {X : Cx} {K : PySem.W.Frag} {W : WW} {pos : Pos} {a b : Expr} {tk : TE} {dk db : DE D}
end
end Dv

namespace Dv
open Enc (enc)
open PySem L2
section
variable {α : Type} [Enc α] {ps ps1 : List Pt} {dk : DE D}
end
end Dv

namespace Dv
open PySem PySem.Spec PyProof.Rows L2 Evl
def sSpoil (i : Nat) (c : DE (D × Ow)) : DS := fun s => match s[i]? with
  | some (some (.lst (.lst cs :: ds), .full)) => if cs.length < 1000000 ∧ ds.length + 1 < 1000000 then match c (s.set i none) with
      | some (.ok (d, _) s1) => if imm d = true then some (.next s1) else none
      | _ => none
    else none
  | _ => none
section
variable {K : PySem.W.Frag} {W : WW} {B H : Hp} {σ : L2.St} {s : SD} {Fs : List (List Addr)} {i : Nat} {tc : TE} {c : DE (D × Ow)}
end
section
variable {X : Cx} {K : PySem.W.Frag} {W : WW} {st1 : Stmt} {rest : List Stmt} {te : TE} {ca : DE (D × Ow)} {d1 dr : DS} {tr : TS} {e a : Expr} {tks : List TE} {dks : List (DE D)} {pos apos cpos : Pos}
end
end Dv

namespace Dv
open Enc (enc)
open PySem L2
noncomputable def spoilR {α : Type} : List (List α) → R Unit
  | [] => .bad
  | r :: t => okIf (r.length < 1000000 ∧ t.length + 1 < 1000000) ()
section
variable {α β τ : Type} [Enc α] [Enc β] [Imm β] {ps ps2 : List Pt} {rest : DS} {ca : DE (D × Ow)} {Φ : τ → Out → Prop}
end
end Dv

namespace Dv
open PySem PySem.Spec PyProof.Rows L2 Evl
def rowsD (L : List (List Int)) : D := .lst (L.map fun r => .lst (r.map D.int))
noncomputable def cFresh (df : DF) (a : DE (List D)) : DE (D × Ow) := bnd a fun ds s => if immL ds = true then match df ds with
    | some (.ret d ow) => @ite _ (∃ L : List (List Int), d = rowsD L ∧ L.Nodup ∧ L ≠ []) (Classical.propDecidable _) (some (.ok (d, .full) s)) none
    | some (.exc c) => some (.exc c s)
    | none => none
  else none
section
variable {K : PySem.W.Frag} {B G H H' : Hp} {σ : L2.St} {s : SD} {Fs : List (List Addr)} {cl : Str → Value} {X : WX}
theorem re_ints : ∀ {vs : List V} {r : List Int}, ReL K G H vs (r.map D.int) → vs = r.map V.int
  | _, [], .nil => rfl
  | _, i :: r, .cons (v := v) h t => by
    rw [re_ints t]
    cases h
    rfl
theorem re_rows : ∀ {vs : List V} {L : List (List Int)}, ReL K G H vs (L.map fun r => D.lst (r.map D.int)) → ∃ as : List Addr, vs = as.map V.ref ∧ as.length = L.length ∧ ∀ (k : Nat) (a : Addr) (r : List Int), as[k]? = some a → L[k]? = some r → G a = some (.lst (r.map V.int))
  | _, [], .nil => ⟨[], rfl, rfl, fun k a r h => by simp at h⟩
  | _, r :: L, .cons h t => by
    obtain ⟨as, rfl, e, g⟩ := re_rows t
    cases h with
    | lst hp q =>
      rename_i p ws
      obtain rfl := re_ints q
      refine ⟨p :: as, rfl, by simp [e], fun k a r' h1 h2 => ?_⟩
      cases k with
      | zero =>
        cases h1
        cases h2
        exact hp
      | succ k => exact g k a r' h1 h2
theorem ints_inj : ∀ {r q : List Int}, r.map V.int = q.map V.int → r = q
  | [], [], _ => rfl
  | [], _ :: _, h => by cases h
  | _ :: _, [], h => by cases h
  | i :: r, j :: q, h => by
    rw [List.map_cons, List.map_cons] at h
    injection h with h1 h2
    injection h1 with h1
    rw [h1, ints_inj h2]
theorem own_rows : ∀ {as : List Addr} {L : List (List Int)}, as.length = L.length → (∀ (k : Nat) (a : Addr) (r : List Int), as[k]? = some a → L[k]? = some r → H a = some (.lst (r.map V.int))) → OwnL K H (as.map V.ref) (L.map fun r => D.lst (r.map D.int)) as
  | [], [], _, _ => .nil
  | a :: as, r :: L, e, g => by
    have h := g 0 a r rfl rfl
    have hi : ∀ r : List Int, ReL K H H (r.map V.int) (r.map D.int) := fun r => by
      induction r with
      | nil => exact .nil
      | cons i r ih => exact .cons (.int i) ih
    have hm : ∀ r : List Int, immL (r.map D.int) = true := fun r => by
      induction r with
      | nil => rfl
      | cons i r ih => simp [immL, imm, ih]
    have o : Own K H (.ref a) (.lst (r.map D.int)) [a] := .lst h (OwnL.imms (hi r) (hm r))
    exact OwnL.cons o (own_rows (by simpa using e) fun k a r h1 h2 => g (k + 1) a r h1 h2)
theorem jcFresh {n : Nat} {df : DF} {tr : TA} {dr : DE (List D)} (hn : ∀ ds, df ds ≠ none → ds.length = n) (hr : JA K (wOf cl X) tr dr) : JC K (wOf cl X) (tCallS (spD K cl n df) (WE X) tr) (cFresh df dr) := by
  refine J.one (k := fun vs σ H Q => spD K cl n df vs H Q (WE X σ)) hr zL fun ds s r e vs B H σ Fs R0 q Q p => ?_
  obtain ⟨q, -⟩ := q
  by_cases him : immL ds = true
  case neg =>
    rw [if_neg him] at e
    cases e
  rw [if_pos him] at e
  cases ed : df ds with
  | none => rw [ed] at e; cases e
  | some o =>
    rw [ed] at e
    refine ⟨fun _ => none, ds, o, (fun a x z => (nomatch z)), q.any him, hn ds (by rw [ed]; exact fun z => nomatch z), ed, ?_⟩
    cases o with
    | exc c =>
      cases e
      intro H' x
      exact p B H' Fs (R0.ext x) (ES.ext R0.ex x)
    | ret d ow =>
      intro v B' H' F x1 x2 x3 x4 x5 x6
      dsimp only at e
      split at e
      · rename_i hc
        cases e
        obtain ⟨L, rfl, nd, ne⟩ := hc
        -- all within the fresh part
        have rg : Re K (frz B' H' F) H' v (rowsD L) := x6.fz (frz_ex x2) fun a ha => frz_in ha
        have fresh : ∀ a o, frz B' H' F a = some o → H a = none := fun a o h => by
          refine Classical.byContradiction fun hh => ?_
          have h1 := x4 a hh
          have h2 := frz_w B' H' F a
          have h3 : w (frz B' H' F) a = 1 := w_some h
          have h4 : w (fun _ => none : Hp) a = 0 := w_none rfl
          omega
        have le := frz_le (F := F) x2
        unfold rowsD at rg
        cases rg with
        | lst hp rl =>
          rename_i p0 vs'
          obtain ⟨as, rfl, la, ga⟩ := re_rows rl
          have mem : ∀ a ∈ as, ∃ (k : Nat) (r : List Int), as[k]? = some a ∧ L[k]? = some r ∧ frz B' H' F a = some (.lst (r.map V.int)) := fun a ha => by
            obtain ⟨k, hk, rfl⟩ := List.getElem_of_mem ha
            have hL : k < L.length := by rw [← la]; exact hk
            exact ⟨k, L[k], List.getElem?_eq_getElem hk, List.getElem?_eq_getElem hL, ga k _ _ (List.getElem?_eq_getElem hk) (List.getElem?_eq_getElem hL)⟩
          have asn : as.Nodup := by
            refine List.pairwise_iff_getElem.mpr fun i j hi hj hij e => ?_
            have iL : i < L.length := by rw [← la]; exact hi
            have jL : j < L.length := by rw [← la]; exact hj
            have g1 := ga i _ _ (List.getElem?_eq_getElem hi) (List.getElem?_eq_getElem iL)
            have g2 := ga j _ _ (List.getElem?_eq_getElem hj) (List.getElem?_eq_getElem jL)
            rw [e, g2] at g1
            have g3 : L[j].map V.int = L[i].map V.int := by
              injection g1 with g1
              injection g1
            have g4 := ints_inj g3
            exact (List.pairwise_iff_getElem.mp nd) i j iL jL hij g4.symm
          have p0n : p0 ∉ as := fun hm => by
            obtain ⟨k, r, _, _, h⟩ := mem p0 hm
            rw [hp] at h
            have h : as.map V.ref = r.map V.int := by
              injection h with h
              injection h
            cases as with
            | nil => cases hm
            | cons b as =>
              cases r with
              | nil => cases h
              | cons i r =>
                rw [List.map_cons, List.map_cons] at h
                injection h with h1 _
                cases h1
          have new : ∀ a ∈ p0 :: as, H a = none := fun a ha => by
            rcases List.mem_cons.mp ha with rfl | ha
            · exact fresh _ _ hp
            · obtain ⟨_, _, _, _, h⟩ := mem a ha
              exact fresh _ _ h
          have own : Own K H' (.ref p0) (rowsD L) (p0 :: as) := .lst (le _ _ hp) (own_rows la fun k a r h1 h2 => le _ _ (ga k a r h1 h2))
          have ndp : (p0 :: as).Nodup := List.nodup_cons.mpr ⟨p0n, asn⟩
          refine p (.ref p0) B H' Fs (p0 :: as) (R0.ext x3) (ES.more R0.ex x3 new) (fun a => ?_) own.live own
          rw [List.count_append]
          have h0 := R0.wf a
          by_cases ha : a ∈ p0 :: as
          · have h1 : (p0 :: as).count a ≤ 1 := List.nodup_iff_count.mp ndp a
            have h2 := new a ha
            have h3 : w B a = 0 := by
              cases q : B a with
              | none => exact w_none q
              | some o =>
                have := R0.ex _ _ q
                rw [h2] at this
                cases this
            have h4 : Fs.flatten.count a = 0 := List.count_eq_zero.mpr fun z => R0.lv a z h2
            omega
          · have h1 : (p0 :: as).count a = 0 := List.count_eq_zero.mpr ha
            omega
      · cases e
end
section
variable {X : Cx} {K : PySem.W.Frag} {x : Str} {p pos : Pos} {e : Expr} {es : List Expr} {t : TA} {dA : DE (List D)}
theorem q_fresh {cl : Str → Value} {Wx : WX} {k j n : Nat} {df : DF} (tk : Takes X Wx) (hr : Room j X.A) (C : Cal X.prog X.w X.K X.mg X.base cl x k n df) (hkj : k ≤ j) (hn : ∀ ds, df ds ≠ none → ds.length = n) (hg : Gl X x) (h : QA X K (wOf cl Wx) (e :: es) t dA)
    (hdb : (x == ("__debug__" : Str)) = false := by decide) (he : starEach (e :: es) X.env = (false, eval e X.env) :: starEach es X.env := by rfl) (hpl : (backTo pos (starEach es X.env)).any (·.1) = false := by rfl) :
    QC X K (wOf cl Wx) (.Call (.Name x p) (e :: es) [] pos) (tCallS (spD K cl n df) (WE Wx) t) (cFresh df dA) := by
  have q := q_callC (p := p) tk hr C hkj hn hg h hdb he hpl
  exact ⟨q.hk, q.p, jcFresh hn h.j⟩
end
end Dv

namespace Dv
open Enc (enc)
open PySem L2
noncomputable def freshR (l : List (List Int)) : R (List (List Int)) := okIf (l.Nodup ∧ l ≠ []) l
section
variable {γ : Type} {ps ps1 : List Pt} {el : γ → List D} {df : DF} {n : γ → R (List (List Int))} {x : R γ} {dr : DE (List D)} {c : Oc}
theorem rc_fresh (hf : FR el df n c) (hi : ∀ g, immL (el g) = true) (ha : RA ps dr x el ps1) : RC ps (cFresh df dr) (R.bind x fun g => R.bind (n g) freshR) .f ps1 :=
  RG.bnd ha fun g ds v => by
    subst v
    refine ⟨fun s hs => ?_⟩
    have h := hf g
    unfold FRs at h
    cases e : n g with
    | bad => trivial
    | exc q =>
      rw [e] at h
      refine ⟨s, ?_, rfl⟩
      show (if immL (el g) = true then _ else none) = _
      rw [if_pos (hi g), h]
    | ok l =>
      rw [e] at h
      obtain ⟨ow, h1, h2⟩ := h
      rw [ok_bind]
      unfold freshR okIf
      by_cases hc : l.Nodup ∧ l ≠ []
      · rw [if_pos hc]
        refine ⟨(enc l, .full), s, ?_, ⟨rfl, rfl⟩, hs, rfl⟩
        show (if immL (el g) = true then _ else none) = _
        rw [if_pos (hi g), h1]
        exact if_pos ⟨l, rfl, hc.1, hc.2⟩
      · rw [if_neg hc]
        trivial
end
end Dv

namespace Dv
open Enc (enc)
open PySem

abbrev Mach := List (List (Int × Int))
structure Wf (M : Mach) (n a : Nat) : Prop where
  len : M.length = n
  rows : ∀ r ∈ M, r.length = a ∧ ∀ p ∈ r, 0 ≤ p.2 ∧ p.2 < (n : Int)
def Nm (n : Nat) (s : Int) : Prop := 0 ≤ s ∧ s < (n : Int)
def look (M : Mach) (s x : Int) : Int × Int := (M.getD s.toNat []).getD x.toNat (0, 0)
def outs (M : Mach) : Int → List Int → List Int
  | _, [] => []
  | s, x :: p => (look M s x).1 :: outs M (look M s x).2 p
def ends (M : Mach) : Int → List Int → Int
  | s, [] => s
  | s, x :: p => ends M (look M s x).2 p
def Pr (a : Nat) (w : List Int) : Prop := ∀ x ∈ w, Nm a x
section
variable {M : Mach} {n a : Nat} {s t x : Int} {w : List Int}
theorem ends_app : ∀ (p q : List Int) (s : Int), ends M s (p ++ q) = ends M (ends M s p) q
  | [], _, _ => rfl
  | x :: p, q, s => by simp [ends, ends_app p q]
theorem Pr.nil : Pr a [] := by simp [Pr]
theorem Pr.cons (h : Nm a x) (hw : Pr a w) : Pr a (x :: w) := by
  intro y hy
  rcases List.mem_cons.mp hy with rfl | hy
  · exact h
  · exact hw y hy
theorem Pr.head (h : Pr a (x :: w)) : Nm a x := h x List.mem_cons_self
theorem Pr.tail (h : Pr a (x :: w)) : Pr a w := fun y hy => h y (List.mem_cons_of_mem _ hy)
theorem Pr.app {v : List Int} (h : Pr a w) (h2 : Pr a v) : Pr a (w ++ v) := fun y hy => (List.mem_append.mp hy).elim (h y) (h2 y)
theorem Wf.row (h : Wf M n a) (hs : Nm n s) : atR M s = .ok (M.getD s.toNat []) ∧ (M.getD s.toNat []).length = a ∧ ∀ p ∈ M.getD s.toNat [], 0 ≤ p.2 ∧ p.2 < (n : Int) := by
  obtain ⟨h0, h1⟩ := hs
  have hl : s.toNat < M.length := by rw [h.len]; omega
  have e : M.getD s.toNat [] = M[s.toNat] := by rw [List.getD_eq_getElem?_getD, List.getElem?_eq_getElem hl]; rfl
  refine ⟨atR_getD [] h0 (by rw [h.len]; exact h1), ?_⟩
  rw [e]
  exact h.rows _ (List.getElem_mem hl)
theorem Wf.nxt (h : Wf M n a) (hs : Nm n s) (hx : Nm a x) : Nm n (look M s x).2 := by
  obtain ⟨_, hr, hp⟩ := h.row hs
  have hl : x.toNat < (M.getD s.toNat []).length := by rw [hr]; have := hx.1; have := hx.2; omega
  have e : look M s x = (M.getD s.toNat [])[x.toNat] := by
    unfold look
    rw [List.getD_eq_getElem?_getD (l := M.getD s.toNat []), List.getElem?_eq_getElem hl]
    rfl
  rw [e]
  exact hp _ (List.getElem_mem hl)
theorem Wf.ends (h : Wf M n a) : ∀ (p : List Int) {s : Int}, Nm n s → Pr a p → Nm n (ends M s p)
  | [], _, hs, _ => hs
  | x :: p, s, hs, hp => h.ends p (h.nxt hs hp.head) hp.tail
end
def stepD (M : Mach) (T : Int → Int → Option (List Int)) (s t : Int) : List Int → Option (List Int)
  | [] => none
  | x :: xs => if (look M s x).1 = (look M t x).1 then match T (look M s x).2 (look M t x).2 with
      | some q => some (x :: q)
      | none => stepD M T s t xs
    else some [x]
def fst (M : Mach) (a : Nat) : Nat → Int → Int → Option (List Int)
  | 0, _, _ => none
  | k + 1, s, t => match fst M a k s t with
    | some p => some p
    | none => stepD M (fst M a k) s t (rngL 0 a)
theorem rngL_zero {i : Int} : rngL i 0 = [] := rfl
theorem rngL_succ {i : Int} {n : Nat} : rngL i (n + 1) = i :: rngL (i + 1) n := by
  unfold rngL
  rw [List.range_succ_eq_map, List.map_cons, List.map_map]
  simp only [Int.natCast_zero, Int.add_zero, List.cons.injEq, true_and]
  congr 1
  funext k
  simp only [Function.comp, Nat.succ_eq_add_one]
  omega
def SL (p q : List Int) : Prop := p.length < q.length ∨ (p.length = q.length ∧ ltL p q = true)
theorem ltL_irr : ∀ p, ltL p p = false
  | [] => rfl
  | x :: p => by simp [ltL, ltL_irr p]
theorem ltL_tri : ∀ p q, ltL p q = true ∨ p = q ∨ ltL q p = true
  | [], [] => .inr (.inl rfl)
  | [], _ :: _ => .inl rfl
  | _ :: _, [] => .inr (.inr rfl)
  | x :: p, y :: q => by
    rcases Int.lt_trichotomy x y with h | h | h
    · left; simp [ltL, h]
    · subst h
      rcases ltL_tri p q with h | h | h
      · left; simp [ltL, h]
      · right; left; rw [h]
      · right; right; simp [ltL, h]
    · right; right; simp [ltL, h]
section
variable {M : Mach} {n a : Nat} {T : Int → Int → Option (List Int)} {s t : Int}
def heads (M : Mach) (a n k : Nat) : List Nat := (List.range n).filter fun s => decide (∀ t : Nat, t < s → fst M a k (t : Int) (s : Int) ≠ none)
def tell (M : Mach) (a n : Nat) (s t : Int) : Option (List Int) := fst M a n s t
end
end Dv

namespace Dv
open Enc (enc)
open PySem

theorem ltL_app : ∀ {w w' : List Int} (u v : List Int), w.length = w'.length → ltL w w' = true → ltL (w ++ u) (w' ++ v) = true
  | [], [], _, _, _, h => by simp [ltL] at h
  | [], _ :: _, _, _, h, _ => by simp at h
  | _ :: _, [], _, _, h, _ => by simp at h
  | x :: p, y :: q, u, v, hl, h => by
    simp only [ltL, Bool.or_eq_true, Bool.and_eq_true, decide_eq_true_eq, List.cons_append] at h ⊢
    rcases h with h | ⟨h1, h2⟩
    · exact .inl h
    · exact .inr ⟨h1, ltL_app u v (by simpa using hl) h2⟩
theorem ltL_snoc {x y : Int} (h : y < x) : ∀ w : List Int, ltL (w ++ [y]) (w ++ [x]) = true
  | [] => by simp [ltL, h]
  | z :: w => by simp [ltL, ltL_snoc h w]
theorem SL.app {w w' : List Int} (h : SL w w') (x y : Int) : SL (w ++ [y]) (w' ++ [x]) := by
  rcases h with h | ⟨h1, h2⟩
  · left; simp; exact h
  · right; exact ⟨by simp [h1], ltL_app _ _ h1 h2⟩
theorem SL.snoc {w : List Int} {x y : Int} (h : y < x) : SL (w ++ [y]) (w ++ [x]) := .inr ⟨by simp, ltL_snoc h w⟩
theorem SL.irr {w : List Int} : ¬ SL w w := by
  rintro (h | ⟨_, h⟩)
  · omega
  · rw [ltL_irr] at h; cases h
theorem ltL_trans : ∀ {p q r : List Int}, ltL p q = true → ltL q r = true → ltL p r = true
  | [], [], _, h, _ => by simp [ltL] at h
  | [], _ :: _, [], _, h => by simp [ltL] at h
  | [], _ :: _, _ :: _, _, _ => rfl
  | _ :: _, [], _, h, _ => by simp [ltL] at h
  | _ :: _, _ :: _, [], _, h => by simp [ltL] at h
  | x :: p, y :: q, z :: r, h1, h2 => by
    simp only [ltL, Bool.or_eq_true, Bool.and_eq_true, decide_eq_true_eq] at h1 h2 ⊢
    rcases h1 with h1 | ⟨rfl, h1⟩
    · rcases h2 with h2 | ⟨rfl, h2⟩
      · left; omega
      · left; exact h1
    · rcases h2 with h2 | ⟨rfl, h2⟩
      · left; exact h2
      · right; exact ⟨rfl, ltL_trans h1 h2⟩
theorem SL.trans {p q r : List Int} (h1 : SL p q) (h2 : SL q r) : SL p r := by
  rcases h1 with h1 | ⟨e1, h1⟩
  · rcases h2 with h2 | ⟨e2, h2⟩
    · left; omega
    · left; omega
  · rcases h2 with h2 | ⟨e2, h2⟩
    · left; omega
    · right; exact ⟨by omega, ltL_trans h1 h2⟩
theorem SL.tri (p q : List Int) : SL p q ∨ p = q ∨ SL q p := by
  rcases Nat.lt_trichotomy p.length q.length with h | h | h
  · exact .inl (.inl h)
  · rcases ltL_tri p q with g | g | g
    · exact .inl (.inr ⟨h, g⟩)
    · exact .inr (.inl g)
    · exact .inr (.inr (.inr ⟨h.symm, g⟩))
  · exact .inr (.inr (.inl h))
theorem nodup_le : ∀ (n : Nat) (l : List Int), l.Nodup → (∀ x ∈ l, Nm n x) → l.length ≤ n
  | 0, l, _, h => by
    cases l with
    | nil => simp
    | cons x l => have g := h x List.mem_cons_self; have g1 := g.1; have g2 := g.2; omega
  | n + 1, l, hd, h => by
    by_cases c : (n : Int) ∈ l
    · have := nodup_le n (l.erase (n : Int)) (hd.erase _) fun x hx => by
        have hx := (List.Nodup.mem_erase_iff hd).mp hx
        have g := h x hx.2
        have g1 := g.1
        have g2 := g.2
        have g3 := hx.1
        exact ⟨g1, by omega⟩
      rw [List.length_erase_of_mem c] at this
      omega
    · have := nodup_le n l hd fun x hx => by
        have g := h x hx
        refine ⟨g.1, ?_⟩
        have h2 := g.2
        by_cases e : x = (n : Int)
        · subst e; exact absurd hx c
        · omega
      omega
structure Bfs (M : Mach) (n a : Nat) (L : List (Int × List Int)) (i : Nat) (x : Int) : Prop where
  h0 : L[0]? = some (0, [])
  st : ∀ p ∈ L, Nm n p.1 ∧ Pr a p.2 ∧ ends M 0 p.2 = p.1
  ln : ∀ (j : Nat) p, L[j]? = some p → p.2.length ≤ j
  nd : (L.map (·.1)).Nodup
  sl : ∀ (j k : Nat) p q, j < k → L[j]? = some p → L[k]? = some q → SL p.2 q.2
  fr : ∀ (j : Nat) p, 0 < j → L[j]? = some p → ∃ (k : Nat) (q : Int × List Int) (y : Int), L[k]? = some q ∧ (k < i ∨ (k = i ∧ y < x)) ∧ p.2 = q.2 ++ [y]
  on : ∀ (k : Nat) (q : Int × List Int) (y : Int), L[k]? = some q → Nm a y → (k < i ∨ (k = i ∧ y < x)) → ∃ p ∈ L, p.1 = (look M q.1 y).2 ∧ ¬ SL (q.2 ++ [y]) p.2
section
variable {M : Mach} {n a : Nat} {L : List (Int × List Int)} {i : Nat} {x : Int}
theorem Bfs.start (hn : 0 < n) : Bfs M n a [(0, [])] 0 0 := by
  have one : ∀ (j : Nat) (p : Int × List Int), [((0 : Int), ([] : List Int))][j]? = some p → j = 0 ∧ p = (0, []) := by
    intro j p h
    cases j with
    | zero => cases h; exact ⟨rfl, rfl⟩
    | succ j => simp at h
  refine ⟨rfl, ?_, ?_, by simp, ?_, ?_, ?_⟩
  · intro p hp
    rw [List.mem_singleton.mp hp]
    exact ⟨⟨by simp, by simp; omega⟩, Pr.nil, rfl⟩
  · intro j p h
    obtain ⟨_, rfl⟩ := one j p h
    simp
  · intro j k p q hjk h1 h2
    have := (one k q h2).1
    omega
  · intro j p hj h
    have := (one j p h).1
    omega
  · intro k q y h1 h2 h3
    have := (one k q h1).1
    have := h2.1
    omega
theorem Bfs.small (h : Bfs M n a L i x) : L.length ≤ n := by
  have := nodup_le n (L.map (·.1)) h.nd fun y hy => by
    obtain ⟨p, hp, rfl⟩ := List.mem_map.mp hy
    exact (h.st p hp).1
  simpa using this
theorem Bfs.turn (h : Bfs M n a L i (a : Int)) (hi : i < L.length) : Bfs M n a L (i + 1) 0 := by
  refine ⟨h.h0, h.st, h.ln, h.nd, h.sl, fun j r h1 h2 => ?_, fun k r y h1 h2 h3 => ?_⟩
  · obtain ⟨k, s, y, g1, g2, g3⟩ := h.fr j r h1 h2
    exact ⟨k, s, y, g1, by omega, g3⟩
  · refine h.on k r y h1 h2 ?_
    have := h2.1
    have := h2.2
    omega
def wayOf (L : List (Int × List Int)) (s : Int) : Option (List Int) := (L.find? fun p => decide (p.1 = s)).map (·.2)
def Reach (M : Mach) (n a : Nat) (L : List (Int × List Int)) : Prop := ∃ i, L.length ≤ i ∧ Bfs M n a L i 0
theorem Reach.le (wf : Wf M n a) (h : Reach M n a L) : ∀ w, Pr a w → ∃ p ∈ L, p.1 = ends M 0 w ∧ ¬ SL w p.2 := by
  obtain ⟨i, hi, h⟩ := h
  have key : ∀ k (w : List Int), w.length = k → Pr a w → ∃ p ∈ L, p.1 = ends M 0 w ∧ ¬ SL w p.2 := by
    intro k
    induction k with
    | zero =>
      intro w hw _
      have : w = [] := List.length_eq_zero_iff.mp hw
      subst this
      exact ⟨(0, []), List.mem_of_getElem? h.h0, rfl, SL.irr⟩
    | succ k ih =>
      intro w hw hp
      have hne : w ≠ [] := by intro z; subst z; simp at hw
      obtain ⟨v, y, rfl⟩ : ∃ v y, w = v ++ [y] := ⟨w.dropLast, w.getLast hne, (List.dropLast_concat_getLast hne).symm⟩
      have hv : Pr a v := fun z hz => hp z (List.mem_append_left _ hz)
      have hy : Nm a y := hp y (List.mem_append_right _ (List.mem_singleton.mpr rfl))
      obtain ⟨p, p1, p2, p3⟩ := ih v (by simpa using hw) hv
      obtain ⟨j, hj, rfl⟩ := List.getElem_of_mem p1
      obtain ⟨q, q1, q2, q3⟩ := h.on j _ y (List.getElem?_eq_getElem hj) hy (.inl (by omega))
      refine ⟨q, q1, ?_, fun z => ?_⟩
      · rw [q2, ends_app, ← p2]; rfl
      · rcases SL.tri (L[j]).2 v with c | c | c
        · exact q3 ((c.app y y).trans z)
        · rw [c] at q3; exact q3 z
        · exact p3 c
  exact fun w hw => key _ w rfl hw
end
end Dv

namespace Dv
open Enc (enc)
open PySem

section
variable {κ α : Type} [DecidableEq κ] {d : Dc κ α} {k j : κ} {v z : α}
end

def srt (s t : Int) : Int × Int := (minI s t, maxI s t)
theorem srt_lt {s t : Int} : srt s t = if t < s then (t, s) else (s, t) := by
  unfold srt minI maxI
  by_cases h : t < s
  · have : ¬ t > s := by omega
    simp [h, this]
  · by_cases h2 : t > s
    · simp [h, h2]
    · have : t = s := by omega
      subst this; simp
def Vp (n : Nat) (q : Int × Int) : Prop := Nm n q.1 ∧ Nm n q.2 ∧ q.1 ≤ q.2
theorem srt_vp {n : Nat} {s t : Int} (hs : Nm n s) (ht : Nm n t) : Vp n (srt s t) := by
  rw [srt_lt]
  split
  · exact ⟨ht, hs, by simp; omega⟩
  · exact ⟨hs, ht, by simp; omega⟩
def nx (M : Mach) (q : Int × Int) (x : Int) : Int × Int := srt (look M q.1 x).2 (look M q.2 x).2
def nxs (M : Mach) : Int × Int → List Int → Int × Int
  | q, [] => q
  | q, x :: p => nxs M (nx M q x) p
section
variable {M : Mach} {n a : Nat} {s t x : Int} {q : Int × Int} {w : List Int}
theorem Wf.nx (wf : Wf M n a) (h : Vp n q) (hx : Nm a x) : Vp n (nx M q x) := srt_vp (wf.nxt h.1 hx) (wf.nxt h.2.1 hx)
end
structure Kn (M : Mach) (n a : Nat) (F : Int × Int → Option Int) : Prop where
  ok : ∀ q v, F q = some v → Vp n q ∧ 0 ≤ v
  dg : ∀ s, Nm n s → F (s, s) = some 0
  z : ∀ q, F q = some 0 → q.1 = q.2
  st : ∀ q v, F q = some v → 0 < v → ∃ x, Nm a x ∧ F (nx M q x) = some (v - 1)
  sh : ∀ q x u, Vp n q → Nm a x → F (nx M q x) = some u → ∃ v, F q = some v ∧ v ≤ u + 1
section
variable {M : Mach} {n a : Nat} {F : Int × Int → Option Int}
def fAsk (M : Mach) (a : Nat) (F : Int × Int → Option Int) (q : Int × Int) (u : Int) : Int := ((rngL 0 a).find? fun x => decide (F (nx M q x) = some u)).getD 0
def fJn (M : Mach) (a : Nat) (F : Int × Int → Option Int) : Nat → Int × Int → List Int
  | 0, _ => []
  | v + 1, q => fAsk M a F q (v : Int) :: fJn M a F v (nx M q (fAsk M a F q (v : Int)))
end
end Dv

namespace Dv
open Enc (enc)
open PySem

def gon {σ : Type} (step : σ → Int → σ) : σ → List Int → σ
  | s, [] => s
  | s, x :: p => gon step (step s x) p
theorem gon_app {σ : Type} {step : σ → Int → σ} : ∀ (p q : List Int) (s : σ), gon step s (p ++ q) = gon step (gon step s p) q
  | [], _, _ => rfl
  | x :: p, q, s => by simp [gon, gon_app p q]
structure Bfg {σ : Type} (V : σ → Prop) (step : σ → Int → σ) (s0 : σ) (a : Nat) (L : List (σ × List Int)) (i : Nat) (x : Int) : Prop where
  h0 : L[0]? = some (s0, [])
  st : ∀ p ∈ L, V p.1 ∧ Pr a p.2 ∧ gon step s0 p.2 = p.1
  ln : ∀ (j : Nat) p, L[j]? = some p → p.2.length ≤ j
  nd : (L.map (·.1)).Nodup
  sl : ∀ (j k : Nat) p q, j < k → L[j]? = some p → L[k]? = some q → SL p.2 q.2
  fr : ∀ (j : Nat) p, 0 < j → L[j]? = some p → ∃ (k : Nat) (q : σ × List Int) (y : Int), L[k]? = some q ∧ (k < i ∨ (k = i ∧ y < x)) ∧ p.2 = q.2 ++ [y]
  on : ∀ (k : Nat) (q : σ × List Int) (y : Int), L[k]? = some q → Nm a y → (k < i ∨ (k = i ∧ y < x)) → ∃ p ∈ L, p.1 = step q.1 y ∧ ¬ SL (q.2 ++ [y]) p.2
section
variable {σ : Type} {V : σ → Prop} {step : σ → Int → σ} {s0 : σ} {a : Nat} {L : List (σ × List Int)} {i : Nat} {x : Int}
theorem Bfg.start (hn : V s0) : Bfg V step s0 a [(s0, [])] 0 0 := by
  have one : ∀ (j : Nat) (p : σ × List Int), [(s0, ([] : List Int))][j]? = some p → j = 0 ∧ p = (s0, []) := by
    intro j p h
    cases j with
    | zero => cases h; exact ⟨rfl, rfl⟩
    | succ j => simp at h
  refine ⟨rfl, ?_, ?_, by simp, ?_, ?_, ?_⟩
  · intro p hp
    rw [List.mem_singleton.mp hp]
    exact ⟨hn, Pr.nil, rfl⟩
  · intro j p h
    obtain ⟨_, rfl⟩ := one j p h
    simp
  · intro j k p q hjk h1 h2
    have := (one k q h2).1
    omega
  · intro j p hj h
    have := (one j p h).1
    omega
  · intro k q y h1 h2 h3
    have := (one k q h1).1
    have := h2.1
    omega
theorem Bfg.turn (h : Bfg V step s0 a L i (a : Int)) (hi : i < L.length) : Bfg V step s0 a L (i + 1) 0 := by
  refine ⟨h.h0, h.st, h.ln, h.nd, h.sl, fun j r h1 h2 => ?_, fun k r y h1 h2 h3 => ?_⟩
  · obtain ⟨k, s, y, g1, g2, g3⟩ := h.fr j r h1 h2
    exact ⟨k, s, y, g1, by omega, g3⟩
  · refine h.on k r y h1 h2 ?_
    have := h2.1
    have := h2.2
    omega
def Rch {σ : Type} (V : σ → Prop) (step : σ → Int → σ) (s0 : σ) (a : Nat) (L : List (σ × List Int)) : Prop := ∃ i, L.length ≤ i ∧ Bfg V step s0 a L i 0
theorem Rch.le (h : Rch V step s0 a L) : ∀ w, Pr a w → ∃ p ∈ L, p.1 = gon step s0 w ∧ ¬ SL w p.2 := by
  obtain ⟨i, hi, h⟩ := h
  have key : ∀ k (w : List Int), w.length = k → Pr a w → ∃ p ∈ L, p.1 = gon step s0 w ∧ ¬ SL w p.2 := by
    intro k
    induction k with
    | zero =>
      intro w hw _
      have : w = [] := List.length_eq_zero_iff.mp hw
      subst this
      exact ⟨(s0, []), List.mem_of_getElem? h.h0, rfl, SL.irr⟩
    | succ k ih =>
      intro w hw hp
      have hne : w ≠ [] := by intro z; subst z; simp at hw
      obtain ⟨v, y, rfl⟩ : ∃ v y, w = v ++ [y] := ⟨w.dropLast, w.getLast hne, (List.dropLast_concat_getLast hne).symm⟩
      have hv : Pr a v := fun z hz => hp z (List.mem_append_left _ hz)
      have hy : Nm a y := hp y (List.mem_append_right _ (List.mem_singleton.mpr rfl))
      obtain ⟨p, p1, p2, p3⟩ := ih v (by simpa using hw) hv
      obtain ⟨j, hj, rfl⟩ := List.getElem_of_mem p1
      obtain ⟨q, q1, q2, q3⟩ := h.on j _ y (List.getElem?_eq_getElem hj) hy (.inl (by omega))
      refine ⟨q, q1, ?_, fun z => ?_⟩
      · rw [q2, gon_app, ← p2]; rfl
      · rcases SL.tri (L[j]).2 v with c | c | c
        · exact q3 ((c.app y y).trans z)
        · rw [c] at q3; exact q3 z
        · exact p3 c
  exact fun w hw => key _ w rfl hw
theorem Bfg.ahead (h : Bfg V step s0 a L i 0) {p : σ × List Int} (hi : L[i]? = some p) : ∀ w, Pr a w → SL w p.2 → ∃ (j : Nat) (q : σ × List Int), j < i ∧ L[j]? = some q ∧ q.1 = gon step s0 w ∧ ¬ SL w q.2 := by
  have at_ : ∀ (w : List Int) (r : σ × List Int), SL w p.2 → r ∈ L → ¬ SL w r.2 → ∃ j, j < i ∧ L[j]? = some r := by
    intro w r hw hr hn
    obtain ⟨j, hj, rfl⟩ := List.getElem_of_mem hr
    have e := List.getElem?_eq_getElem hj
    refine ⟨j, ?_, e⟩
    rcases Nat.lt_trichotomy j i with c | c | c
    · exact c
    · subst c
      rw [e] at hi
      cases hi
      exact absurd hw hn
    · exact absurd (hw.trans (h.sl i j p _ c hi e)) hn
  have key : ∀ k (w : List Int), w.length = k → Pr a w → SL w p.2 → ∃ (j : Nat) (q : σ × List Int), j < i ∧ L[j]? = some q ∧ q.1 = gon step s0 w ∧ ¬ SL w q.2 := by
    intro k
    induction k with
    | zero =>
      intro w hw _ hs
      have : w = [] := List.length_eq_zero_iff.mp hw
      subst this
      obtain ⟨j, hj, e⟩ := at_ [] (s0, []) hs (List.mem_of_getElem? h.h0) SL.irr
      exact ⟨j, _, hj, e, rfl, SL.irr⟩
    | succ k ih =>
      intro w hw hp hs
      have hne : w ≠ [] := by intro z; subst z; simp at hw
      obtain ⟨v, y, rfl⟩ : ∃ v y, w = v ++ [y] := ⟨w.dropLast, w.getLast hne, (List.dropLast_concat_getLast hne).symm⟩
      have hv : Pr a v := fun z hz => hp z (List.mem_append_left _ hz)
      have hy : Nm a y := hp y (List.mem_append_right _ (List.mem_singleton.mpr rfl))
      have vw : SL v (v ++ [y]) := .inl (by simp)
      obtain ⟨j, r, hj, e, p2, p3⟩ := ih v (by simpa using hw) hv (vw.trans hs)
      obtain ⟨q, q1, q2, q3⟩ := h.on j r y e hy (.inl hj)
      have hn : ¬ SL (v ++ [y]) q.2 := fun z => by
        rcases SL.tri r.2 v with c | c | c
        · exact q3 ((c.app y y).trans z)
        · rw [c] at q3; exact q3 z
        · exact p3 c
      obtain ⟨j2, hj2, e2⟩ := at_ _ q hs q1 hn
      exact ⟨j2, q, hj2, e2, by rw [q2, gon_app, ← p2]; rfl, hn⟩
  exact fun w hw hs => key _ w rfl hw hs
end
end Dv

namespace Dv
open PySem L2 Evl
noncomputable def bd_rows_of : DS := (sSeq (sSet 2 (cLst (cCons (cLst cNil) cNil)))
 (sSeq (sSet 3 (cLst (cCons (cLst cNil) cNil)))
 (sSeq (sForR (tgN 4) (dCons (dVar 1) dNil)
 (sSeq (sSet 5 (cLst cNil))
 (sSeq (sForC (tgN 6) (cMove 3)
 (sForR (tgN 7) (dCons (dVar 0) dNil)
 (sApp 5 (cAdd (dVar 6) (toB (cLst (cCons (cMove 7) cNil)))))))
 (sSeq (sSet 2 (cAdd (dVar 2) (dVar 5)))
 (sSet 3 (cMove 5))))))
 (sRet (cMove 2)))))
noncomputable def d_rows_of : DF := dFn 2 8 bd_rows_of
noncomputable def bd_law_mixed : DS := (sSeq (sSet 2 (toC (dC (.int 3))))
 (sSeq (sIf (dTest (dOp fGt (dCB fLen (dCons (dVar 0) dNil)) (dC (.int 0))))
 (sSet 2 (cShare (dOp fIx (dVar 0) (dOp fMod (dVar 1) (dCB fLen (dCons (dVar 0) dNil))))))
 sNext)
 (sSeq (sSet 2 (toC (dOp fMod (toB (cMul (toB (cAdd (toB (cAdd (dOp fMod (dVar 2) (dC (.int 2147483629))) (toB (cMul (dC (.int 7919)) (dVar 1))))) (dC (.int 1)))) (dC (.int 48271)))) (dC (.int 2147483647)))))
 (sRet (toC (dOp fMod (toB (cMul (dVar 2) (toB (cAdd (toB (cAdd (dOp fMod (dVar 2) (dC (.int 65521))) (dVar 1))) (dC (.int 2)))))) (dC (.int 2147483629))))))))
noncomputable def d_law_mixed : DF := dFn 2 3 bd_law_mixed
noncomputable def bd_law_next : DS := (sSeq (sSet 0 (cListOf (dCons (dVar 0) dNil)))
 (sSeq (sSet 2 (toC (dOp fSub (dCB fLen (dCons (dVar 0) dNil)) (dC (.int 1)))))
 (sSeq (sWhile (dAnd (dTest (dOp fGe (dVar 2) (dC (.int 0)))) (dTest (dOp fEq (dOp fIx (dVar 0) (dVar 2)) (dOp fSub (dVar 1) (dC (.int 1))))))
 (sSeq (sSetP 0 [] (dVar 2) (toC (dC (.int 0))))
 (sSet 2 (toC (dOp fSub (dVar 2) (dC (.int 1)))))))
 (sSeq (sIf (dTest (dOp fLt (dVar 2) (dC (.int 0))))
 (sRet (cAdd (dVar 0) (toB (cLst (cCons (toC (dC (.int 0))) cNil)))))
 sNext)
 (sSeq (sSetP 0 [] (dVar 2) (cAdd (dOp fIx (dVar 0) (dVar 2)) (dC (.int 1))))
 (sRet (cMove 0)))))))
noncomputable def d_law_next : DF := dFn 2 3 bd_law_next
noncomputable def bd_law_wholes : DS := (sSeq (sIf (dNot (dTest (dIsi "list" (dVar 0))))
 (sRet (toC (dC (.bl false))))
 sNext)
 (sSeq (sForC (tgN 1) (cMove 0)
 (sIf (dOr (dNot (dTest (dIsi "int" (dVar 1)))) (dTest (dIsi "bool" (dVar 1))))
 (sRet (toC (dC (.bl false))))
 sNext))
 (sRet (toC (dC (.bl true))))))
noncomputable def d_law_wholes : DF := dFn 1 2 bd_law_wholes
noncomputable def bd_law_counted : DS := (sSeq (sIf (dNot (dTest (dIsi "list" (dVar 0))))
 (sRet (toC (dC (.bl false))))
 sNext)
 (sSeq (sSet 3 (cLst cNil))
 (sSeq (sForC (tgN 4) (cMove 0)
 (sSeq (sIf (dOr (dNot (dTest (toB (cCall d_law_wholes (dCons (dVar 4) dNil))))) (dTest (dOp fNe (dVar 4) (dVar 3))))
 (sRet (toC (dC (.bl false))))
 sNext)
 (sSet 3 (cCall d_law_next (dCons (dVar 3) (dCons (dVar 1) dNil))))))
 (sRet (toC (dOp fEq (dVar 3) (toB (cMul (toB (cLst (cCons (toC (dC (.int 0))) cNil))) (toB (cAdd (dVar 2) (dC (.int 1))))))))))))
noncomputable def d_law_counted : DF := dFn 3 5 bd_law_counted
noncomputable def bd_law : DS := (sSeq (sSet 1 (cAdd (dC (.int 1)) (dOp fMod (toB (cCall d_law_mixed (dCons (dVar 0) (dCons (dC (.int 0)) dNil)))) (dC (.int 5)))))
 (sSeq (sSet 2 (toC (dOp fMod (toB (cCall d_law_mixed (dCons (dVar 0) (dCons (dC (.int 1)) dNil)))) (dOp fIx (toB (cLst (cCons (toC (dC (.int 12))) (cCons (toC (dC (.int 7))) (cCons (toC (dC (.int 5))) (cCons (toC (dC (.int 4))) (cCons (toC (dC (.int 4))) cNil))))))) (dOp fSub (dVar 1) (dC (.int 1)))))))
 (sSeq (sIf (dTest (dOp fEq (dOp fMod (toB (cCall d_law_mixed (dCons (dVar 0) (dCons (dC (.int 2)) dNil)))) (dC (.int 8))) (dC (.int 3))))
 (sSet 2 (toC (dOp fMod (toB (cCall d_law_mixed (dCons (dVar 0) (dCons (dC (.int 1)) dNil)))) (dOp fIx (toB (cLst (cCons (toC (dC (.int 32))) (cCons (toC (dC (.int 11))) (cCons (toC (dC (.int 8))) (cCons (toC (dC (.int 6))) (cCons (toC (dC (.int 6))) cNil))))))) (dOp fSub (dVar 1) (dC (.int 1)))))))
 sNext)
 (sSeq (sSet 3 (cFresh d_rows_of (dCons (dVar 1) (dCons (dVar 2) dNil))))
 (sSeq (sIf (dNot (dTest (toB (cCall d_law_counted (dCons (dVar 3) (dCons (dVar 1) (dCons (dVar 2) dNil)))))))
 (sRet (toC (dC (.bl false))))
 sNext)
 (sSeq (sSet 4 (cComp true (tgN 9) [9] (dVar 3) (fun s => some (.ok true s)) (cListOf (dCons (dVar 9) dNil))))
 (sSeq (sAppP 3 [(dOp fMod (toB (cCall d_law_mixed (dCons (dVar 0) (dCons (dC (.int 3)) dNil)))) (dCB fLen (dCons (dVar 3) dNil)))] (toC (dC (.int 7))))
 (sSeq (sApp 3 (cLst (cCons (toC (dC (.int 0))) cNil)))
 (sSeq (sSet 5 (cAdd (dC (.int 1)) (dOp fMod (toB (cCall d_law_mixed (dCons (dVar 0) (dCons (dC (.int 4)) dNil)))) (dC (.int 5)))))
 (sSeq (sSet 6 (toC (dOp fMod (toB (cCall d_law_mixed (dCons (dVar 0) (dCons (dC (.int 5)) dNil)))) (dC (.int 4)))))
 (sSeq (sSet 7 (cCallL d_rows_of (cCons (cAlias 5) (cCons (cAlias 6) cNil))))
 (sSeq (sSet 8 (cCallL d_rows_of (cCons (cAlias 1) (cCons (cAlias 2) cNil))))
 (sRet (toC (dAndV (toB (cCall d_law_counted (dCons (dVar 7) (dCons (dVar 5) (dCons (dVar 6) dNil))))) (dAndV (toB (cCall d_law_counted (dCons (dVar 8) (dCons (dVar 1) (dCons (dVar 2) dNil))))) (dOp fEq (dVar 8) (dVar 4))))))))))))))))))
noncomputable def d_law : DF := dFn 1 10 bd_law
end Dv

namespace Dv
open Enc (enc)
open PySem
noncomputable def n__law_mixed (script_ : Sc) (k_ : Int) : R Int :=
  (R.bind (.ok (3 : Int)) fun cell_ =>
  (R.bind ((if (decide ((ilen script_.ns) > (0 : Int))) = true then
  (R.bind (R.bind (modR k_ (ilen script_.ns)) fun t3 => (atR script_.ns t3)) fun cell_ =>
  (.ok (cell_))) else
  (.ok (cell_)))) fun j2 : (Int) =>
  (R.bind (R.bind (R.bind (R.bind (R.bind (modR j2 (2147483629 : Int)) fun t4 => (R.bind (mulR (7919 : Int) k_) fun t5 => .ok (t4 + t5))) fun t6 => .ok (t6 + (1 : Int))) fun t7 => (mulR t7 (48271 : Int))) fun t8 => (modR t8 (2147483647 : Int))) fun cell_ =>
  (R.bind (R.bind (R.bind (R.bind (R.bind (modR cell_ (65521 : Int)) fun t9 => .ok (t9 + k_)) fun t10 => .ok (t10 + (2 : Int))) fun t11 => (mulR cell_ t11)) fun t12 => (modR t12 (2147483629 : Int))) fun t13 => .ok t13))))
noncomputable def n_rows_of (asks_ : Int) (most_ : Int) : R (List (List Int)) :=
  (R.bind (.ok ([([] : List Int)] : List (List Int))) fun rows_ =>
  (R.bind (.ok ([([] : List Int)] : List (List Int))) fun last_ =>
  (R.bind (R.bind (rng1 most_) fun l39 => forR l39 (rows_, last_) fun (a2 : Int) (v1 : ((List (List Int)) × (List (List Int)))) =>
  (R.bind (.ok ([] : List (List Int))) fun longer_ =>
  (R.bind (forR v1.2 (longer_) fun (a28 : (List Int)) (v27 : ((List (List Int)))) =>
  (R.bind (R.bind (rng1 asks_) fun l38 => forR l38 (v27) fun (a35 : Int) (v34 : ((List (List Int)))) =>
  (R.bind (R.bind (catR a28 ([a35] : List Int)) fun t37 => (appR v34 t37)) fun longer_ =>
  (.ok (longer_)))) fun v34 : ((List (List Int))) =>
  (.ok (v34)))) fun v27 : ((List (List Int))) =>
  (R.bind (catR v1.1 v27) fun rows_ =>
  (R.bind (.ok v27) fun last_ =>
  (.ok (rows_, last_))))))) fun v1 : ((List (List Int)) × (List (List Int))) =>
  (.ok v1.1))))
noncomputable def n__law_wholes (found_ : (List Int)) : R Bool :=
  (if (!true) = true then
  (.ok false) else
  (R.andThen (forX found_ () fun (a2 : Int) (v1 : Unit) =>
  (if ((!true) || false) = true then
  (.ok (Lp.out false)) else
  (.ok (Lp.nx ())))) fun v1 : Unit =>
  (.ok true)))
noncomputable def n__law_next (row_ : (List Int)) (asks_ : Int) : R (List Int) :=
  (R.bind (.ok row_) fun row_ =>
  (R.bind (.ok ((ilen row_) - (1 : Int))) fun at_ =>
  (R.bind (whR (row_, at_) (fun v1 : ((List Int) × Int) => (if (decide (v1.2 ≥ (0 : Int))) = true then (R.bind (atR v1.1 v1.2) fun t4 => .ok (decide (t4 = (asks_ - (1 : Int))))) else .ok false)) fun v1 : ((List Int) × Int) =>
  (R.bind (setR v1.1 v1.2 (0 : Int)) fun row_ =>
  (R.bind (.ok (v1.2 - (1 : Int))) fun at_ =>
  (.ok (row_, at_))))) fun v1 : ((List Int) × Int) =>
  (if (decide (v1.2 < (0 : Int))) = true then
  (R.bind (catR v1.1 ([(0 : Int)] : List Int)) fun t5 => .ok t5) else
  (R.bind (R.bind (R.bind (atR v1.1 v1.2) fun t6 => .ok (t6 + (1 : Int))) fun t7 => (setR v1.1 v1.2 t7)) fun row_ =>
  (.ok row_))))))
noncomputable def n__law_counted (found_ : (List (List Int))) (asks_ : Int) (most_ : Int) : R Bool :=
  (if (!true) = true then
  (.ok false) else
  (R.bind (.ok ([] : List Int)) fun due_ =>
  (R.andThen (forX found_ (due_) fun (a2 : (List Int)) (v1 : ((List Int))) =>
  (R.bind (R.bind (R.bind (n__law_wholes a2) fun t6 => .ok (!t6)) fun t7 => .ok (t7 || (!decide (a2 = v1)))) fun t8 => (if t8 = true then
  (.ok (Lp.out false)) else
  (R.bind (n__law_next v1 asks_) fun due_ =>
  (.ok (Lp.nx (due_))))))) fun v1 : ((List Int)) =>
  (R.bind (R.bind (repR ([(0 : Int)] : List Int) (most_ + (1 : Int))) fun t9 => .ok (decide (v1 = t9))) fun t10 => .ok t10))))
noncomputable def n_law (script_ : Sc) : R Bool :=
  (R.bind (R.bind (R.bind (n__law_mixed script_ (0 : Int)) fun t1 => (modR t1 (5 : Int))) fun t2 => .ok ((1 : Int) + t2)) fun asks_ =>
  (R.bind (R.bind (n__law_mixed script_ (1 : Int)) fun t3 => (R.bind (atR ([(12 : Int), (7 : Int), (5 : Int), (4 : Int), (4 : Int)] : List Int) (asks_ - (1 : Int))) fun t4 => (modR t3 t4))) fun most_ =>
  (R.bind ((R.bind (R.bind (R.bind (n__law_mixed script_ (2 : Int)) fun t11 => (modR t11 (8 : Int))) fun t12 => .ok (decide (t12 = (3 : Int)))) fun t15 => (if t15 = true then
  (R.bind (R.bind (n__law_mixed script_ (1 : Int)) fun t13 => (R.bind (atR ([(32 : Int), (11 : Int), (8 : Int), (6 : Int), (6 : Int)] : List Int) (asks_ - (1 : Int))) fun t14 => (modR t13 t14))) fun most_ =>
  (.ok (most_))) else
  (.ok (most_))))) fun j10 : (Int) =>
  (R.bind (R.bind (n_rows_of asks_ j10) freshR) fun found_ =>
  (R.bind (R.bind (n__law_counted found_ asks_ j10) fun t16 => .ok (!t16)) fun t29 => (if t29 = true then
  (.ok false) else
  (R.bind (cmpR found_ (fun a18 => (.ok a18))) fun held_ =>
  (R.bind (R.bind (R.bind (n__law_mixed script_ (3 : Int)) fun t19 => (modR t19 (ilen found_))) fun t20 => (R.bind (atR found_ t20) fun o21 => (R.bind (appR o21 (7 : Int)) fun b22 => (setR found_ t20 b22)))) fun found_ =>
  (R.bind (appR found_ ([(0 : Int)] : List Int)) fun found_ =>
  (R.bind (R.bind (R.bind (n__law_mixed script_ (4 : Int)) fun t23 => (modR t23 (5 : Int))) fun t24 => .ok ((1 : Int) + t24)) fun other_ =>
  (R.bind (R.bind (n__law_mixed script_ (5 : Int)) fun t25 => (modR t25 (4 : Int))) fun far_ =>
  (R.bind (n_rows_of other_ far_) fun between_ =>
  (R.bind (n_rows_of asks_ j10) fun again_ =>
  (R.bind (R.bind (n__law_counted between_ other_ far_) fun t27 => (if t27 = true then (R.bind (n__law_counted again_ asks_ j10) fun t26 => .ok (t26 && (decide (again_ = held_)))) else .ok false)) fun t28 => .ok t28))))))))))))))
end Dv

namespace Dv
open Enc (enc)
open PySem L2
theorem r__law_mixed : FR (eC (α := Sc) (eC (α := Int) eN)) d_law_mixed (fun g => n__law_mixed g.1 g.2.1) .f :=
  FR.mk (fun _ => rfl) (fun g => by
  unfold n__law_mixed
  exact (rs_setI 2 (ex (rc_toC (rb_int 3)) rfl) (Nat.le_of_ble_eq_true rfl) fun cell_ =>
  (rs_join (N := fun j2 : (Int) => [.h .o (enc g.1), .h .o (enc g.2.1), .h .o (enc j2)]) (rs_end (rs_ifP (ex (rt_test (rb_op oe_gt (rb_cb cb_lenS (ra_cons (rb_var (a := g.1) 0 rfl) ra_nil)) (rb_int 0))) rfl)
  (rs_setI 2 (ex (rc_shI (rb_op oe_ixS (rb_var (a := g.1) 0 rfl) (rb_op oe_mod (rb_var (a := g.2.1) 1 rfl) (rb_cb cb_lenS (ra_cons (rb_var (a := g.1) 0 rfl) ra_nil))))) (by simp -implicitDefEqProofs only [ok_bind, bind_bind, bind_ok, cmpI_true])) (Nat.le_of_ble_eq_true rfl) fun cell_ =>
  (rs_next (an_N (v := (cell_)) (.e (.e (.e .nil))))))
  (rs_nx (rs_next (an_N (v := (cell_)) (.e (.e (.e .nil)))))))) (fun j2 =>
  (rs_setI 2 (ex (rc_toC (rb_op oe_mod (rb_toB (rc_mulI (rb_toB (rc_addI (rb_toB (rc_addI (rb_op oe_mod (rb_var (a := j2) 2 rfl) (rb_int 2147483629)) (rb_toB (rc_mulI (rb_int 7919) (rb_var (a := g.2.1) 1 rfl))))) (rb_int 1))) (rb_int 48271))) (rb_int 2147483647))) (by simp -implicitDefEqProofs only [ok_bind, bind_bind, bind_ok, cmpI_true])) (Nat.le_of_ble_eq_true rfl) fun cell_ =>
  (rs_ret (w := fun r => r) ar_R (ex (rc_toC (rb_op oe_mod (rb_toB (rc_mulI (rb_var (a := cell_) 2 rfl) (rb_toB (rc_addI (rb_toB (rc_addI (rb_op oe_mod (rb_var (a := cell_) 2 rfl) (rb_int 65521)) (rb_var (a := g.2.1) 1 rfl))) (rb_int 2))))) (rb_int 2147483629))) (by simp -implicitDefEqProofs only [ok_bind, bind_bind, bind_ok, cmpI_true]))))) (fun _ => rfl)))) trivial
theorem r_rows_of : FR (eC (α := Int) (eC (α := Int) eN)) d_rows_of (fun g => n_rows_of g.1 g.2.1) .n :=
  FR.mk (fun _ => rfl) (fun g => by
  unfold n_rows_of
  exact (rs_set 2 (ex (rc_lst (c := .f) (rl_cons (rc_lst (c := .f) (rl_nil (α := Int)) (Nat.le_of_ble_eq_true rfl) trivial) (rl_nil (α := (List Int)))) (Nat.le_of_ble_eq_true rfl) trivial) rfl) (Nat.le_of_ble_eq_true rfl) fun rows_ =>
  (rs_at (ps2 := [.h .o (enc g.1), .h .o (enc g.2.1), .h .f (enc rows_), .x, .x, .x, .x, .x]) rfl (rs_set 3 (ex (rc_lst (c := .f) (rl_cons (rc_lst (c := .f) (rl_nil (α := Int)) (Nat.le_of_ble_eq_true rfl) trivial) (rl_nil (α := (List Int)))) (Nat.le_of_ble_eq_true rfl) trivial) rfl) (Nat.le_of_ble_eq_true rfl) fun last_ =>
  (rs_at (ps2 := [.h .o (enc g.1), .h .o (enc g.2.1), .h .f (enc rows_), .h .f (enc last_), .x, .x, .x, .x]) rfl (rs_forR1P (n := 8) (N := fun v1 : ((List (List Int)) × (List (List Int))) => [.h .o (enc g.1), .x, .h .n (enc v1.1), .h .n (enc v1.2), .x, .x, .x, .x]) (v0 := (rows_, last_)) (fun _ => rfl) rfl (ex (rb_var (a := g.2.1) 1 rfl) rfl) (.e (.x (.n (.n (.x (.x (.x (.x .nil)))))))) (fun a2 v1 => (tg_n 4 (Nat.le_of_ble_eq_true rfl))) (fun a2 v1 =>
  (rs_set 5 (ex (rc_lst (c := .f) (rl_nil (α := (List Int))) (Nat.le_of_ble_eq_true rfl) trivial) rfl) (Nat.le_of_ble_eq_true rfl) fun longer_ =>
  (rs_at (ps2 := [.h .o (enc g.1), .x, .h .n (enc v1.1), .h .n (enc v1.2), .h .o (enc a2), .h .f (enc longer_), .x, .x]) rfl (rs_forCP (g := fun l => l) (x := v1.2) (n := 8) (N := fun v27 : ((List (List Int))) => [.h .o (enc g.1), .x, .h .n (enc v1.1), .x, .x, .h .f (enc v27), .x, .x]) (v0 := (longer_)) (fun _ => rfl) rfl it_L (ex (rc_mv (c := .n) (a := v1.2) 3 rfl) rfl) (.e (.x (.e (.x (.x (.e (.x (.x .nil)))))))) (fun a28 v27 => (tg_n 6 (Nat.le_of_ble_eq_true rfl))) (fun a28 v27 =>
  (rs_end (rs_forR1P (n := 8) (N := fun v34 : ((List (List Int))) => [.h .o (enc g.1), .x, .h .n (enc v1.1), .x, .x, .h .f (enc v34), .h .o (enc a28), .x]) (v0 := (v27)) (fun _ => rfl) rfl (ex (rb_var (a := g.1) 0 rfl) rfl) (.e (.x (.e (.x (.x (.e (.e (.x .nil)))))))) (fun a35 v34 => (tg_n 7 (Nat.le_of_ble_eq_true rfl))) (fun a35 v34 =>
  (rs_end (rs_appW 5 rfl (rc_addL (rb_var (a := a28) 6 rfl) (rb_toB (rc_lst (c := .f) (rl_cons (rc_mvI (a := a35) 7 rfl) (rl_nil (α := Int))) (Nat.le_of_ble_eq_true rfl) trivial))) rfl (by simp -implicitDefEqProofs only [ok_bind, bind_bind, bind_ok, cmpI_true]) fun longer_ =>
  (rs_next (an_C (v := (longer_)) (.e (.x (.e (.x (.x (.e (.e (.x .nil))))))))))))) (fun v34 =>
  (rs_next (an_C (v := (v34)) (.e (.x (.e (.x (.x (.e (.x (.x .nil)))))))))))))) (fun v27 =>
  (rs_set 2 (ex (rc_addLn (rb_var (a := v1.1) 2 rfl) (rb_var (a := v27) 5 rfl)) (by simp -implicitDefEqProofs only [ok_bind, bind_bind, bind_ok, cmpI_true])) (Nat.le_of_ble_eq_true rfl) fun rows_ =>
  (rs_at (ps2 := [.h .o (enc g.1), .x, .h .n (enc rows_), .x, .x, .h .n (enc v27), .x, .x]) rfl (rs_end (rs_set 3 (ex (rc_mv (c := .n) (a := v27) 5 rfl) rfl) (Nat.le_of_ble_eq_true rfl) fun last_ =>
  (rs_at (ps2 := [.h .o (enc g.1), .x, .h .n (enc rows_), .h .n (enc last_), .x, .x, .x, .x]) rfl (rs_next (an_C (v := (rows_, last_)) (.e (.x (.e (.e (.x (.x (.x (.x .nil)))))))))))))))))))) (fun v1 =>
  (rs_retP (w := fun r => r) ar_Rn (ex (rc_mv (c := .n) (a := v1.1) 2 rfl) rfl))))))))) trivial
theorem r__law_wholes : FR (eC (α := (List Int)) eN) d_law_wholes (fun g => n__law_wholes g.1) .f :=
  FR.mk (fun _ => rfl) (fun g => by
  unfold n__law_wholes
  exact (rs_ifP (ex (rt_not (rt_test (rb_isi ty_list_list (rb_var (a := g.1) 0 rfl)))) rfl)
  (rs_deadRet (rs_retP (w := fun r => r) ar_R (ex (rc_toC (rb_bl false)) rfl)))
  (rs_nx (rs_forCXP (g := fun l => l) (x := g.1) (n := 2) (N := fun v1 : Unit => [.x, .x]) (v0 := ()) (fun _ => rfl) rfl it_L (ex (rc_mv (c := .o) (a := g.1) 0 rfl) rfl) (.x (.x .nil)) (fun a2 v1 => (tg_n 1 (Nat.le_of_ble_eq_true rfl))) (fun a2 v1 =>
  (rs_end (rs_ifP (ex (rt_orP (rt_not (rt_test (rb_isi ty_int_int (rb_var (a := a2) 1 rfl)))) (rt_test (rb_isi ty_int_bool (rb_var (a := a2) 1 rfl)))) rfl)
  (rs_deadRet (rs_retP (w := fun r => (Lp.out r)) (ar_L ar_R) (ex (rc_toC (rb_bl false)) rfl)))
  (rs_nx (rs_next (an_L (v := ()) (.x (.x .nil)))))))) (fun v1 =>
  (rs_retP (w := fun r => r) ar_R (ex (rc_toC (rb_bl true)) rfl))))))) trivial
theorem r__law_next : FR (eC (α := (List Int)) (eC (α := Int) eN)) d_law_next (fun g => n__law_next g.1 g.2.1) .f :=
  FR.mk (fun _ => rfl) (fun g => by
  unfold n__law_next
  exact (rs_set 0 (ex (rc_listL (ra_cons (rb_var (a := g.1) 0 rfl) ra_nil)) rfl) (Nat.le_of_ble_eq_true rfl) fun row_ =>
  (rs_setI 2 (ex (rc_toC (rb_op oe_sub (rb_cb cb_lenL (ra_cons (rb_var (a := row_) 0 rfl) ra_nil)) (rb_int 1))) rfl) (Nat.le_of_ble_eq_true rfl) fun at_ =>
  (rs_wh (n := 3) (N := fun v1 : ((List Int) × Int) => [.h .f (enc v1.1), .h .o (enc g.2.1), .h .o (enc v1.2)]) (v0 := (row_, at_)) (fun _ => rfl) rfl (.e (.e (.e .nil))) (fun v1 => (ex (rt_and (rt_test (rb_op oe_ge (rb_var (a := v1.2) 2 rfl) (rb_int 0))) (rt_test (rb_op (oe_eq (α := Int) (Nat.le_of_ble_eq_true rfl)) (rb_op oe_ixL (rb_var (a := v1.1) 0 rfl) (rb_var (a := v1.2) 2 rfl)) (rb_op oe_sub (rb_var (a := g.2.1) 1 rfl) (rb_int 1))))) (by simp -implicitDefEqProofs only [ok_bind, bind_bind, bind_ok, cmpI_true]))) (fun v1 =>
  (rs_setPW (l := v1.1) 0 (rc_toC (rb_int 0)) rfl (rp_nil 0) (rb_var (a := v1.2) 2 rfl) rfl (by simp -implicitDefEqProofs only [ok_bind, bind_bind, bind_ok, cmpI_true, Loc.top, Loc.at, Loc.opt, Loc.fst, Loc.snd, Loc.thd, set2R, app2R]) fun row_ =>
  (rs_end (rs_setI 2 (ex (rc_toC (rb_op oe_sub (rb_var (a := v1.2) 2 rfl) (rb_int 1))) rfl) (Nat.le_of_ble_eq_true rfl) fun at_ =>
  (rs_next (an_C (v := (row_, at_)) (.e (.e (.e .nil))))))))) (fun v1 =>
  (rs_ifP (ex (rt_test (rb_op oe_lt (rb_var (a := v1.2) 2 rfl) (rb_int 0))) rfl)
  (rs_deadRet (rs_ret (w := fun r => r) ar_R (ex (rc_addL (rb_var (a := v1.1) 0 rfl) (rb_toB (rc_lst (c := .f) (rl_cons (rc_toC (rb_int 0)) (rl_nil (α := Int))) (Nat.le_of_ble_eq_true rfl) trivial))) (by simp -implicitDefEqProofs only [ok_bind, bind_bind, bind_ok, cmpI_true]))))
  (rs_nx (rs_setPW (l := v1.1) 0 (rc_addI (rb_op oe_ixL (rb_var (a := v1.1) 0 rfl) (rb_var (a := v1.2) 2 rfl)) (rb_int 1)) rfl (rp_nil 0) (rb_var (a := v1.2) 2 rfl) rfl (by simp -implicitDefEqProofs only [ok_bind, bind_bind, bind_ok, cmpI_true, Loc.top, Loc.at, Loc.opt, Loc.fst, Loc.snd, Loc.thd, set2R, app2R]) fun row_ =>
  (rs_retP (w := fun r => r) ar_R (ex (rc_mv (c := .f) (a := row_) 0 rfl) rfl)))))))))) trivial
theorem r__law_counted : FR (eC (α := (List (List Int))) (eC (α := Int) (eC (α := Int) eN))) d_law_counted (fun g => n__law_counted g.1 g.2.1 g.2.2.1) .f :=
  FR.mk (fun _ => rfl) (fun g => by
  unfold n__law_counted
  exact (rs_ifP (ex (rt_not (rt_test (rb_isi ty_list_list (rb_var (a := g.1) 0 rfl)))) rfl)
  (rs_deadRet (rs_retP (w := fun r => r) ar_R (ex (rc_toC (rb_bl false)) rfl)))
  (rs_nx (rs_set 3 (ex (rc_lst (c := .f) (rl_nil (α := Int)) (Nat.le_of_ble_eq_true rfl) trivial) rfl) (Nat.le_of_ble_eq_true rfl) fun due_ =>
  (rs_forCXP (g := fun l => l) (x := g.1) (n := 5) (N := fun v1 : ((List Int)) => [.x, .h .o (enc g.2.1), .h .o (enc g.2.2.1), .h .f (enc v1), .x]) (v0 := (due_)) (fun _ => rfl) rfl it_L (ex (rc_mv (c := .o) (a := g.1) 0 rfl) rfl) (.x (.e (.e (.e (.x .nil))))) (fun a2 v1 => (tg_n 4 (Nat.le_of_ble_eq_true rfl))) (fun a2 v1 =>
  (rs_if (ex (rt_orP (rt_not (rt_test (rb_toB (rc_callI r__law_wholes (ra_cons (rb_var (a := a2) 4 rfl) ra_nil))))) (rt_test (rb_op (oe_ne (α := (List Int)) (Nat.le_of_ble_eq_true rfl)) (rb_var (a := a2) 4 rfl) (rb_var (a := v1) 3 rfl)))) (by simp -implicitDefEqProofs only [ok_bind, bind_bind, bind_ok, cmpI_true]))
  (rs_deadRet (rs_retP (w := fun r => (Lp.out r)) (ar_L ar_R) (ex (rc_toC (rb_bl false)) rfl)))
  (rs_nx (rs_end (rs_set 3 (ex (rc_call r__law_next (ra_cons (rb_var (a := v1) 3 rfl) (ra_cons (rb_var (a := g.2.1) 1 rfl) ra_nil))) (by simp -implicitDefEqProofs only [ok_bind, bind_bind, bind_ok, cmpI_true])) (Nat.le_of_ble_eq_true rfl) fun due_ =>
  (rs_next (an_L (v := (due_)) (.x (.e (.e (.e (.x .nil)))))))))))) (fun v1 =>
  (rs_ret (w := fun r => r) ar_R (ex (rc_toC (rb_op (oe_eq (α := (List Int)) (Nat.le_of_ble_eq_true rfl)) (rb_var (a := v1) 3 rfl) (rb_toB (rc_mulL (rb_toB (rc_lst (c := .f) (rl_cons (rc_toC (rb_int 0)) (rl_nil (α := Int))) (Nat.le_of_ble_eq_true rfl) trivial)) (rb_toB (rc_addI (rb_var (a := g.2.2.1) 2 rfl) (rb_int 1))))))) (by simp -implicitDefEqProofs only [ok_bind, bind_bind, bind_ok, cmpI_true]))))))))) trivial
theorem r_law : FR (eC (α := Sc) eN) d_law (fun g => n_law g.1) .f :=
  FR.mk (fun _ => rfl) (fun g => by
  unfold n_law
  exact (rs_setI 1 (ex (rc_addI (rb_int 1) (rb_op oe_mod (rb_toB (rc_callI r__law_mixed (ra_cons (rb_var (a := g.1) 0 rfl) (ra_cons (rb_int 0) ra_nil)))) (rb_int 5))) (by simp -implicitDefEqProofs only [ok_bind, bind_bind, bind_ok, cmpI_true])) (Nat.le_of_ble_eq_true rfl) fun asks_ =>
  (rs_at (ps2 := [.h .o (enc g.1), .h .o (enc asks_), .x, .x, .x, .x, .x, .x, .x, .x]) rfl (rs_setI 2 (ex (rc_toC (rb_op oe_mod (rb_toB (rc_callI r__law_mixed (ra_cons (rb_var (a := g.1) 0 rfl) (ra_cons (rb_int 1) ra_nil)))) (rb_op oe_ixL (rb_toB (rc_lst (c := .f) (rl_cons (rc_toC (rb_int 12)) (rl_cons (rc_toC (rb_int 7)) (rl_cons (rc_toC (rb_int 5)) (rl_cons (rc_toC (rb_int 4)) (rl_cons (rc_toC (rb_int 4)) (rl_nil (α := Int))))))) (Nat.le_of_ble_eq_true rfl) trivial)) (rb_op oe_sub (rb_var (a := asks_) 1 rfl) (rb_int 1))))) (by simp -implicitDefEqProofs only [ok_bind, bind_bind, bind_ok, cmpI_true])) (Nat.le_of_ble_eq_true rfl) fun most_ =>
  (rs_at (ps2 := [.h .o (enc g.1), .h .o (enc asks_), .h .o (enc most_), .x, .x, .x, .x, .x, .x, .x]) rfl (rs_join (N := fun j10 : (Int) => [.h .o (enc g.1), .h .o (enc asks_), .h .o (enc j10), .x, .x, .x, .x, .x, .x, .x]) (rs_end (rs_if (ex (rt_test (rb_op (oe_eq (α := Int) (Nat.le_of_ble_eq_true rfl)) (rb_op oe_mod (rb_toB (rc_callI r__law_mixed (ra_cons (rb_var (a := g.1) 0 rfl) (ra_cons (rb_int 2) ra_nil)))) (rb_int 8)) (rb_int 3))) (by simp -implicitDefEqProofs only [ok_bind, bind_bind, bind_ok, cmpI_true]))
  (rs_setI 2 (ex (rc_toC (rb_op oe_mod (rb_toB (rc_callI r__law_mixed (ra_cons (rb_var (a := g.1) 0 rfl) (ra_cons (rb_int 1) ra_nil)))) (rb_op oe_ixL (rb_toB (rc_lst (c := .f) (rl_cons (rc_toC (rb_int 32)) (rl_cons (rc_toC (rb_int 11)) (rl_cons (rc_toC (rb_int 8)) (rl_cons (rc_toC (rb_int 6)) (rl_cons (rc_toC (rb_int 6)) (rl_nil (α := Int))))))) (Nat.le_of_ble_eq_true rfl) trivial)) (rb_op oe_sub (rb_var (a := asks_) 1 rfl) (rb_int 1))))) (by simp -implicitDefEqProofs only [ok_bind, bind_bind, bind_ok, cmpI_true])) (Nat.le_of_ble_eq_true rfl) fun most_ =>
  (rs_at (ps2 := [.h .o (enc g.1), .h .o (enc asks_), .h .o (enc most_), .x, .x, .x, .x, .x, .x, .x]) rfl (rs_next (an_N (v := (most_)) (.e (.e (.e (.x (.x (.x (.x (.x (.x (.x .nil))))))))))))))
  (rs_nx (rs_next (an_N (v := (most_)) (.e (.e (.e (.x (.x (.x (.x (.x (.x (.x .nil))))))))))))))) (fun j10 =>
  (rs_set 3 (ex (rc_fresh r_rows_of (fun _ => rfl) (ra_cons (rb_var (a := asks_) 1 rfl) (ra_cons (rb_var (a := j10) 2 rfl) ra_nil))) (by simp -implicitDefEqProofs only [ok_bind, bind_bind, bind_ok, cmpI_true])) (Nat.le_of_ble_eq_true rfl) fun found_ =>
  (rs_at (ps2 := [.h .o (enc g.1), .h .o (enc asks_), .h .o (enc j10), .h .f (enc found_), .x, .x, .x, .x, .x, .x]) rfl (rs_if (ex (rt_not (rt_test (rb_toB (rc_callI r__law_counted (ra_cons (rb_var (a := found_) 3 rfl) (ra_cons (rb_var (a := asks_) 1 rfl) (ra_cons (rb_var (a := j10) 2 rfl) ra_nil))))))) (by simp -implicitDefEqProofs only [ok_bind, bind_bind, bind_ok, cmpI_true]))
  (rs_deadRet (rs_retP (w := fun r => r) ar_R (ex (rc_toC (rb_bl false)) rfl)))
  (rs_nx (rs_set 4 (ex (rc_cmp (t := fun a18 => (.ok true)) (f := fun a18 => (.ok a18)) it_L (rb_var (a := found_) 3 rfl) (fun a18 => (tg_n 9 (Nat.le_of_ble_eq_true rfl))) (fun a18 => rt_yes) (fun a18 => (ex (rc_listL (ra_cons (rb_var (a := a18) 9 rfl) ra_nil)) rfl)) (fun a18 => (.e (.e (.e (.e (.x (.x (.x (.x (.x (.x .nil))))))))))) (fun a18 => (.e (.e (.e (.e (.x (.x (.x (.x (.x (.x .nil)))))))))))) (by simp -implicitDefEqProofs only [ok_bind, bind_bind, bind_ok, cmpI_true])) (Nat.le_of_ble_eq_true rfl) fun held_ =>
  (rs_at (ps2 := [.h .o (enc g.1), .h .o (enc asks_), .h .o (enc j10), .h .f (enc found_), .h .f (enc held_), .x, .x, .x, .x, .x]) rfl (rs_appPW (l := found_) 3 rfl (rp_ix (rb_op oe_mod (rb_toB (rc_callI r__law_mixed (ra_cons (rb_var (a := g.1) 0 rfl) (ra_cons (rb_int 3) ra_nil)))) (rb_cb cb_lenL (ra_cons (rb_var (a := found_) 3 rfl) ra_nil))) rfl fun _ => (rp_nil 3)) rfl (rc_toC (rb_int 7)) rfl (by simp -implicitDefEqProofs only [ok_bind, bind_bind, bind_ok, cmpI_true, Loc.top, Loc.at, Loc.opt, Loc.fst, Loc.snd, Loc.thd, set2R, app2R]) fun found_ =>
  (rs_appW 3 rfl (rc_lst (c := .f) (rl_cons (rc_toC (rb_int 0)) (rl_nil (α := Int))) (Nat.le_of_ble_eq_true rfl) trivial) rfl rfl fun found_ =>
  (rs_setI 5 (ex (rc_addI (rb_int 1) (rb_op oe_mod (rb_toB (rc_callI r__law_mixed (ra_cons (rb_var (a := g.1) 0 rfl) (ra_cons (rb_int 4) ra_nil)))) (rb_int 5))) (by simp -implicitDefEqProofs only [ok_bind, bind_bind, bind_ok, cmpI_true])) (Nat.le_of_ble_eq_true rfl) fun other_ =>
  (rs_at (ps2 := [.h .o (enc g.1), .h .o (enc asks_), .h .o (enc j10), .h .f (enc found_), .h .f (enc held_), .h .o (enc other_), .x, .x, .x, .x]) rfl (rs_setI 6 (ex (rc_toC (rb_op oe_mod (rb_toB (rc_callI r__law_mixed (ra_cons (rb_var (a := g.1) 0 rfl) (ra_cons (rb_int 5) ra_nil)))) (rb_int 4))) (by simp -implicitDefEqProofs only [ok_bind, bind_bind, bind_ok, cmpI_true])) (Nat.le_of_ble_eq_true rfl) fun far_ =>
  (rs_at (ps2 := [.h .o (enc g.1), .h .o (enc asks_), .h .o (enc j10), .h .f (enc found_), .h .f (enc held_), .h .o (enc other_), .h .o (enc far_), .x, .x, .x]) rfl (rs_set 7 (ex (rc_callLN r_rows_of (ru_consN (rc_alI (a := other_) 5 rfl) (ru_consN (rc_alI (a := far_) 6 rfl) ru_nil))) (by simp -implicitDefEqProofs only [ok_bind, bind_bind, bind_ok, cmpI_true])) (Nat.le_of_ble_eq_true rfl) fun between_ =>
  (rs_at (ps2 := [.h .o (enc g.1), .h .o (enc asks_), .h .o (enc j10), .h .f (enc found_), .h .f (enc held_), .h .o (enc other_), .h .o (enc far_), .h .n (enc between_), .x, .x]) rfl (rs_set 8 (ex (rc_callLN r_rows_of (ru_consN (rc_alI (a := asks_) 1 rfl) (ru_consN (rc_alI (a := j10) 2 rfl) ru_nil))) (by simp -implicitDefEqProofs only [ok_bind, bind_bind, bind_ok, cmpI_true])) (Nat.le_of_ble_eq_true rfl) fun again_ =>
  (rs_at (ps2 := [.h .o (enc g.1), .h .o (enc asks_), .h .o (enc j10), .h .f (enc found_), .h .f (enc held_), .h .o (enc other_), .h .o (enc far_), .h .n (enc between_), .h .n (enc again_), .x]) rfl (rs_ret (w := fun r => r) ar_R (ex (rc_toC (rb_and (rb_toB (rc_callI r__law_counted (ra_cons (rb_var (a := between_) 7 rfl) (ra_cons (rb_var (a := other_) 5 rfl) (ra_cons (rb_var (a := far_) 6 rfl) ra_nil))))) (rb_andP (rb_toB (rc_callI r__law_counted (ra_cons (rb_var (a := again_) 8 rfl) (ra_cons (rb_var (a := asks_) 1 rfl) (ra_cons (rb_var (a := j10) 2 rfl) ra_nil))))) (rb_op (oe_eq (α := (List (List Int))) (Nat.le_of_ble_eq_true rfl)) (rb_var (a := again_) 8 rfl) (rb_var (a := held_) 4 rfl))))) (by simp -implicitDefEqProofs only [ok_bind, bind_bind, bind_ok, cmpI_true])))))))))))))))))))) (fun _ => rfl))))))) trivial
end Dv

namespace Dv
open Enc (enc)
open PySem
theorem emod_pos (v : Int) {m : Int} (h : 0 < m) : 0 ≤ v % m ∧ v % m < m := ⟨Int.emod_nonneg _ (by omega), Int.emod_lt_of_pos _ h⟩
theorem mix_ok (ns : List Int) {k : Int} (h0 : 0 ≤ k) (h1 : k < 1000000000) : Ok (n__law_mixed ⟨ns⟩ k) fun v => 0 ≤ v ∧ v < 2147483629 := by
  unfold n__law_mixed
  rw [ok_bind, Ok_bind]
  refine Ok.mono (Q := fun _ => True) ?_ fun c _ => ?_
  · rw [Ok_if]
    refine ⟨fun h => ?_, fun h => by rw [Ok_ok]; trivial⟩
    rw [decide_eq_true_eq] at h
    have h : (0 : Int) < ilen ns := h
    rw [modR_ok h, ok_bind, atR_int (Int.emod_nonneg _ (by omega)) (show k % ilen ns < (ns.length : Int) from Int.emod_lt_of_pos _ h), ok_bind, Ok_ok]
    trivial
  · rw [modR_ok (by decide), ok_bind, mulR_l (by decide), ok_bind, ok_bind, ok_bind, mulR_r (by decide), ok_bind, modR_ok (by decide), ok_bind]
    have b := emod_pos ((c % 2147483629 + 7919 * k + 1) * 48271) (show (0 : Int) < 2147483647 by decide)
    generalize (c % 2147483629 + 7919 * k + 1) * 48271 % 2147483647 = d at b
    rw [modR_ok (by decide), ok_bind, ok_bind, ok_bind, mulR_l (by omega), ok_bind, modR_ok (by decide), ok_bind, Ok_ok]
    exact emod_pos _ (by decide)
noncomputable def lmix (ns : List Int) (k : Int) : Int := match n__law_mixed ⟨ns⟩ k with
  | .ok v => v
  | _ => 0
theorem mix_eq (ns : List Int) {k : Int} (h0 : 0 ≤ k) (h1 : k < 1000000000) : n__law_mixed ⟨ns⟩ k = .ok (lmix ns k) := by
  obtain ⟨v, e, _⟩ := mix_ok ns h0 h1
  unfold lmix
  rw [e]
def layA (a : Nat) : Nat → List (List Int)
  | 0 => [[]]
  | k + 1 => (layA a k).flatMap fun r => (rngL 0 a).map fun x => r ++ [x]
def rowsA (a : Nat) : Nat → List (List Int)
  | 0 => [[]]
  | k + 1 => rowsA a k ++ layA a (k + 1)
theorem layA_len {a : Nat} : ∀ k, (layA a k).length = a ^ k
  | 0 => rfl
  | k + 1 => by
    have : ∀ l : List (List Int), (l.flatMap fun r => (rngL 0 a).map fun x => r ++ [x]).length = l.length * a := by
      intro l
      induction l with
      | nil => simp
      | cons r l ih => rw [List.flatMap_cons, List.length_append, ih, List.length_map, rngL_len, List.length_cons, Nat.add_mul]; omega
    show ((layA a k).flatMap _).length = _
    rw [this, layA_len k, Nat.pow_succ]
theorem layA_mem {a : Nat} : ∀ (k : Nat) {r : List Int}, r ∈ layA a k ↔ Pr a r ∧ r.length = k
  | 0, r => by
    simp only [layA, List.mem_singleton, List.length_eq_zero_iff]
    exact ⟨fun h => by subst h; exact ⟨Pr.nil, rfl⟩, fun h => h.2⟩
  | k + 1, r => by
    simp only [layA, List.mem_flatMap, List.mem_map]
    constructor
    · rintro ⟨q, hq, x, hx, rfl⟩
      obtain ⟨h1, h2⟩ := (layA_mem k).mp hq
      have hx := rngL_mem.mp hx
      exact ⟨h1.app (Pr.nil.cons ⟨hx.1, by omega⟩), by simp [h2]⟩
    · rintro ⟨h1, h2⟩
      have hne : r ≠ [] := by intro z; subst z; simp at h2
      obtain ⟨v, y, rfl⟩ : ∃ v y, r = v ++ [y] := ⟨r.dropLast, r.getLast hne, (List.dropLast_concat_getLast hne).symm⟩
      have hy : Nm a y := h1 y (List.mem_append_right _ (by simp))
      exact ⟨v, (layA_mem k).mpr ⟨fun z hz => h1 z (List.mem_append_left _ hz), by simpa using h2⟩, y, rngL_mem.mpr ⟨hy.1, by have := hy.2; omega⟩, rfl⟩
theorem rowsA_mem {a : Nat} : ∀ (k : Nat) {r : List Int}, r ∈ rowsA a k ↔ Pr a r ∧ r.length ≤ k
  | 0, r => by
    simp only [rowsA, List.mem_singleton, Nat.le_zero, List.length_eq_zero_iff]
    exact ⟨fun h => by subst h; exact ⟨Pr.nil, rfl⟩, fun h => h.2⟩
  | k + 1, r => by
    simp only [rowsA, List.mem_append, rowsA_mem k, layA_mem (k + 1)]
    constructor
    · rintro (⟨h1, h2⟩ | ⟨h1, h2⟩)
      · exact ⟨h1, by omega⟩
      · exact ⟨h1, by omega⟩
    · rintro ⟨h1, h2⟩
      by_cases c : r.length ≤ k
      · exact .inl ⟨h1, c⟩
      · exact .inr ⟨h1, by omega⟩
theorem rowsA_le {a : Nat} {k m : Nat} (h : k ≤ m) : (rowsA a k).length ≤ (rowsA a m).length := by
  induction m with
  | zero => have : k = 0 := by omega
            subst this; exact Nat.le_refl _
  | succ m ih =>
    by_cases c : k = m + 1
    · subst c; exact Nat.le_refl _
    · have := ih (by omega)
      simp only [rowsA, List.length_append]
      omega
theorem rowsA_pos {a k : Nat} : 0 < (rowsA a k).length := List.length_pos_of_mem ((rowsA_mem k).mpr ⟨Pr.nil, by simp⟩)
theorem rows_of_ok {a m : Nat} (ha : a ≤ 1000) (hm : m ≤ 1000) (hl : (rowsA a m).length ≤ 100000) : n_rows_of (a : Int) (m : Int) = .ok (rowsA a m) := by
  refine Ok.eq ?_
  unfold n_rows_of
  rw [ok_bind, ok_bind, rng1_ok (by omega) (by omega), ok_bind, Ok_bind, show ((m : Int)).toNat = m by omega]
  refine (forR_inv (fun k (v : List (List Int) × List (List Int)) => k ≤ m ∧ v = (rowsA a k, layA a k)) (Q := fun v => v = (rowsA a m, layA a m)) ⟨by omega, rfl⟩ ?_ ?_).mono fun v h => by rw [Ok_ok, h]
  · rintro k x v hk ⟨_, rfl⟩
    obtain ⟨hkm, _⟩ := rngL_get hk
    have tot : (rowsA a k).length + (layA a (k + 1)).length ≤ 100000 := by
      have := rowsA_le (a := a) (show k + 1 ≤ m by omega)
      simp only [rowsA, List.length_append] at this
      omega
    have inner : forR (layA a k) ([] : List (List Int)) (fun (a28 : (List Int)) (v27 : ((List (List Int)))) =>
  (R.bind (R.bind (rng1 (a : Int)) fun l38 => forR l38 (v27) fun (a35 : Int) (v34 : ((List (List Int)))) =>
  (R.bind (R.bind (catR a28 ([a35] : List Int)) fun t37 => (appR v34 t37)) fun longer_ =>
  (.ok (longer_)))) fun v34 : ((List (List Int))) =>
  (.ok (v34)))) = .ok (layA a (k + 1)) := by
      have llen := layA_len (a := a) (k + 1)
      have lk := layA_len (a := a) k
      have rl : ∀ r ∈ layA a k, r.length ≤ 1000 := fun r hr => by have := ((layA_mem k).mp hr).2; omega
      have e : layA a (k + 1) = (layA a k).flatMap fun r => (rngL 0 a).map fun x => r ++ [x] := rfl
      have bound : (layA a k).length * a ≤ 100000 := by rw [lk, ← Nat.pow_succ, ← llen]; omega
      rw [e]
      generalize layA a k = l at rl bound
      have key : ∀ (l : List (List Int)) (acc : List (List Int)), (∀ r ∈ l, r.length ≤ 1000) → acc.length + l.length * a ≤ 100000 → forR l acc (fun (a28 : (List Int)) (v27 : ((List (List Int)))) =>
  (R.bind (R.bind (rng1 (a : Int)) fun l38 => forR l38 (v27) fun (a35 : Int) (v34 : ((List (List Int)))) =>
  (R.bind (R.bind (catR a28 ([a35] : List Int)) fun t37 => (appR v34 t37)) fun longer_ =>
  (.ok (longer_)))) fun v34 : ((List (List Int))) =>
  (.ok (v34)))) = .ok (acc ++ l.flatMap fun r => (rngL 0 a).map fun x => r ++ [x]) := by
        intro l
        induction l with
        | nil => intro acc _ _; simp [forR]
        | cons r l ih =>
          intro acc hr hb
          have hr0 := hr r (by simp)
          rw [List.length_cons, Nat.add_mul, Nat.one_mul] at hb
          have one : ∀ (ys : List Int) (acc : List (List Int)), acc.length + ys.length ≤ 100000 → forR ys acc (fun (a35 : Int) (v34 : ((List (List Int)))) =>
  (R.bind (R.bind (catR r ([a35] : List Int)) fun t37 => (appR v34 t37)) fun longer_ =>
  (.ok (longer_)))) = .ok (acc ++ ys.map fun x => r ++ [x]) := by
            intro ys
            induction ys with
            | nil => intro acc _; simp [forR]
            | cons y ys ih =>
              intro acc hb
              simp only [List.length_cons] at hb
              unfold forR
              dsimp only
              rw [catR_ok (by simp; omega), ok_bind, appR_ok (by omega), ok_bind, ok_bind, ih _ (by simp; omega)]
              simp
          unfold forR
          dsimp only
          have ih2 := ih (acc ++ (rngL 0 a).map fun x => r ++ [x]) (fun x hx => hr x (List.mem_cons_of_mem _ hx)) (by rw [List.length_append, List.length_map, rngL_len]; omega)
          rw [rng1_ok (by omega) (by omega), show ((a : Int)).toNat = a by omega] at ih2 ⊢
          rw [ok_bind, one _ _ (by rw [rngL_len]; omega), ok_bind, ok_bind, ih2]
          rw [List.flatMap_cons, List.append_assoc]
      rw [key l [] rl (by simpa using bound)]
      simp
    rw [ok_bind, inner, ok_bind, catR_ok (show (rowsA a k).length + _ ≤ 1000000 by omega), ok_bind, ok_bind, Ok_ok]
    exact ⟨by omega, rfl⟩
  · rintro v ⟨_, rfl⟩
    rw [rngL_len]
theorem rngL_pw (i : Int) : ∀ m : Nat, (rngL i m).Pairwise (· < ·)
  | 0 => by rw [rngL_zero]; exact List.Pairwise.nil
  | m + 1 => by
    have key : ∀ (m : Nat) (i : Int), (rngL i m).Pairwise (· < ·) := by
      intro m
      induction m with
      | zero => intro i; rw [rngL_zero]; exact List.Pairwise.nil
      | succ m ih =>
        intro i
        rw [rngL_succ]
        refine List.pairwise_cons.mpr ⟨fun y hy => ?_, ih (i + 1)⟩
        have := (rngL_mem.mp hy).1
        omega
    exact key (m + 1) i
theorem layA_nodup {a : Nat} : ∀ k, (layA a k).Nodup
  | 0 => by simp [layA]
  | k + 1 => by
    show ((layA a k).flatMap fun r => (rngL 0 a).map fun x => r ++ [x]).Pairwise (· ≠ ·)
    rw [List.pairwise_flatMap]
    refine ⟨fun r _ => ?_, (layA_nodup k).imp fun {r q} hne => ?_⟩
    · rw [List.pairwise_map]
      exact (rngL_pw 0 a).imp fun {x y} hxy e => by
        have := (List.append_inj' e rfl).2
        simp at this
        omega
    · intro x hx y hy e
      obtain ⟨u, _, rfl⟩ := List.mem_map.mp hx
      obtain ⟨v, _, rfl⟩ := List.mem_map.mp hy
      exact hne (List.append_inj' e rfl).1
theorem rowsA_nodup {a : Nat} : ∀ k, (rowsA a k).Nodup
  | 0 => by simp [rowsA]
  | k + 1 => by
    show (rowsA a k ++ layA a (k + 1)).Nodup
    rw [List.nodup_append]
    refine ⟨rowsA_nodup k, layA_nodup (k + 1), fun x hx y hy e => ?_⟩
    subst e
    have h1 := ((rowsA_mem k).mp hx).2
    have h2 := ((layA_mem (k + 1)).mp hy).2
    omega
def nxv (a : Int) : List Int → List Int
  | [] => [0]
  | x :: r => if x = a - 1 then 0 :: nxv a r else (x + 1) :: r
def nxt (a : Int) (r : List Int) : List Int := (nxv a r.reverse).reverse
theorem nxt_nil {a : Int} : nxt a [] = [0] := rfl
theorem nxt_snoc {a x : Int} {r : List Int} : nxt a (r ++ [x]) = if x = a - 1 then nxt a r ++ [0] else r ++ [x + 1] := by
  unfold nxt
  rw [List.reverse_append]
  show (if x = a - 1 then 0 :: nxv a r.reverse else (x + 1) :: r.reverse).reverse = _
  by_cases c : x = a - 1
  · rw [if_pos c, if_pos c, List.reverse_cons]
  · rw [if_neg c, if_neg c, List.reverse_cons, List.reverse_reverse]
theorem next_ok {a : Int} {row : List Int} (hl : row.length ≤ 1000) : n__law_next row a = .ok (nxt a row) := by
  refine Ok.eq ?_
  unfold n__law_next
  rw [ok_bind, ok_bind, Ok_bind]
  refine (whR_idx (Q := fun v => ∃ (u : List Int) (k : Nat), v = (u ++ List.replicate k 0, (u.length : Int) - 1) ∧ k + u.length = row.length ∧ nxt a row = nxt a u ++ List.replicate k 0 ∧ ∀ (w : List Int) (y : Int), u = w ++ [y] → y ≠ a - 1)
    (fun k v => ∃ (u : List Int), v = (u ++ List.replicate k 0, (u.length : Int) - 1) ∧ k + u.length = row.length ∧ nxt a row = nxt a u ++ List.replicate k 0) row.length (by omega) ⟨row, by simp [ilen], by omega, by simp⟩ ?_).mono ?_
  · rintro k v ⟨u, rfl, h1, h2⟩
    rcases List.eq_nil_or_concat u with rfl | ⟨w, y, rfl⟩
    · rw [show decide ((([] : List Int).length : Int) - 1 ≥ 0) = false from by simp, if_neg (by simp), Ok_ok]
      refine ⟨fun h => (by cases h), fun _ => ⟨[], k, rfl, h1, h2, fun w y h => by simp at h⟩⟩
    · rw [List.concat_eq_append] at h1 h2 ⊢
      have hat : atR (w ++ [y] ++ List.replicate k (0 : Int)) (((w ++ [y]).length : Int) - 1) = .ok y := by
        rw [show ((w ++ [y]).length : Int) - 1 = (w.length : Int) by simp, atR_nat (by simp)]
        simp
      rw [show decide (((w ++ [y]).length : Int) - 1 ≥ 0) = true from by simp, if_pos rfl, hat, ok_bind, Ok_ok]
      simp only [List.length_append, List.length_singleton] at h1
      constructor
      · intro hy
        rw [decide_eq_true_eq] at hy
        refine ⟨by omega, ?_⟩
        rw [show ((w ++ [y]).length : Int) - 1 = (w.length : Int) by simp, setR_nat (by simp), ok_bind, ok_bind, Ok_ok]
        refine ⟨w, ?_, by omega, ?_⟩
        · refine Prod.ext ?_ rfl
          simp [List.replicate_succ]
        · rw [h2, nxt_snoc, if_pos hy, List.replicate_succ]
          simp
      · intro hy
        rw [decide_eq_false_iff_not] at hy
        refine ⟨w ++ [y], k, rfl, by simp; omega, h2, fun w' y' e => ?_⟩
        have := (List.append_inj' e rfl).2
        simp at this
        subst this
        exact hy
  · rintro v ⟨u, k, rfl, h1, h2, h3⟩
    rcases List.eq_nil_or_concat u with rfl | ⟨w, y, rfl⟩
    · rw [show decide ((([] : List Int).length : Int) - 1 < 0) = true from by simp, if_pos rfl, catR_ok (by simp at h1 ⊢; omega), ok_bind, Ok_ok, h2, nxt_nil]
      show List.replicate k (0 : Int) ++ [0] = [0] ++ List.replicate k 0
      rw [← List.replicate_succ', List.replicate_succ]
      rfl
    · rw [List.concat_eq_append] at h1 h2 h3 ⊢
      have hat : atR (w ++ [y] ++ List.replicate k (0 : Int)) (((w ++ [y]).length : Int) - 1) = .ok y := by
        rw [show ((w ++ [y]).length : Int) - 1 = (w.length : Int) by simp, atR_nat (by simp)]
        simp
      rw [show decide (((w ++ [y]).length : Int) - 1 < 0) = false from by simp, if_neg (by simp), hat, ok_bind, ok_bind, show ((w ++ [y]).length : Int) - 1 = (w.length : Int) by simp, setR_nat (by simp), ok_bind, Ok_ok, h2, nxt_snoc, if_neg (h3 w y rfl)]
      simp
def Chn (a : Int) : List (List Int) → List Int → List Int → Prop
  | [], d, e => d = e
  | r :: l, d, e => r = d ∧ Chn a l (nxt a r) e
theorem Chn.app {a : Int} {m : List (List Int)} {g e : List Int} (h2 : Chn a m g e) : ∀ {l : List (List Int)} {d : List Int}, Chn a l d g → Chn a (l ++ m) d e
  | [], d, h => by have : d = g := h
                   subst this; exact h2
  | r :: l, d, h => ⟨h.1, Chn.app h2 (l := l) h.2⟩
theorem chn_row {a : Nat} {d : List Int} : ∀ (n : Nat) (j : Int), j + (n : Int) + 1 = (a : Int) → Chn a ((rngL j (n + 1)).map fun x => d ++ [x]) (d ++ [j]) (nxt a d ++ [0])
  | 0, j, h => by
    rw [rngL_succ, rngL_zero]
    refine ⟨rfl, ?_⟩
    show nxt a (d ++ [j]) = _
    rw [nxt_snoc, if_pos (by omega)]
  | n + 1, j, h => by
    rw [rngL_succ]
    refine ⟨rfl, ?_⟩
    show Chn a ((rngL (j + 1) (n + 1)).map fun x => d ++ [x]) (nxt a (d ++ [j])) _
    rw [nxt_snoc, if_neg (by omega)]
    exact chn_row n (j + 1) (by omega)
theorem chn_flat {a : Nat} (ha : 0 < a) {e : List Int} : ∀ {l : List (List Int)} {d : List Int}, Chn a l d e → Chn a (l.flatMap fun r => (rngL 0 a).map fun x => r ++ [x]) (d ++ [0]) (e ++ [0])
  | [], d, h => by have : d = e := h
                   subst this; exact rfl
  | r :: l, d, h => by
    obtain ⟨rfl, h⟩ := h
    rw [List.flatMap_cons]
    refine Chn.app (chn_flat ha h) ?_
    have := chn_row (a := a) (d := r) (a - 1) 0 (by omega)
    rw [show a - 1 + 1 = a by omega] at this
    exact this
theorem chn_lay {a : Nat} (ha : 0 < a) : ∀ k, Chn a (layA a k) (List.replicate k 0) (List.replicate (k + 1) 0)
  | 0 => ⟨rfl, rfl⟩
  | k + 1 => by
    have := chn_flat ha (chn_lay ha k)
    rw [← List.replicate_succ', ← List.replicate_succ'] at this
    exact this
theorem chn_rows {a : Nat} (ha : 0 < a) : ∀ k, Chn a (rowsA a k) [] (List.replicate (k + 1) 0)
  | 0 => ⟨rfl, rfl⟩
  | k + 1 => Chn.app (chn_lay ha (k + 1)) (chn_rows ha k)
theorem wholes_ok (l : List Int) : n__law_wholes l = .ok true := by
  unfold n__law_wholes
  rw [if_neg (by simp), forX_all fun a _ => by simp]
  rfl
theorem chn_run {a : Int} {e : List Int} : ∀ {l : List (List Int)} {d : List Int}, (∀ r ∈ l, r.length ≤ 1000) → Chn a l d e → forX l d (fun (a2 : (List Int)) (v1 : ((List Int))) =>
  (R.bind (R.bind (R.bind (n__law_wholes a2) fun t6 => .ok (!t6)) fun t7 => .ok (t7 || (!decide (a2 = v1)))) fun t8 => (if t8 = true then
  (.ok (Lp.out false)) else
  (R.bind (n__law_next v1 a) fun due_ =>
  (.ok (Lp.nx (due_))))))) = .ok (.inl e)
  | [], d, _, h => by have : d = e := h
                      subst this; rfl
  | r :: l, d, hl, h => by
    obtain ⟨rfl, h⟩ := h
    unfold forX
    dsimp only
    rw [wholes_ok, ok_bind, ok_bind, ok_bind, if_neg (by simp), next_ok (hl r (by simp)), ok_bind, ok_bind]
    exact chn_run (fun q hq => hl q (List.mem_cons_of_mem _ hq)) h
theorem counted_ok {a m : Nat} (ha : 0 < a) (hm : m ≤ 900) : n__law_counted (rowsA a m) (a : Int) (m : Int) = .ok true := by
  unfold n__law_counted
  rw [if_neg (by simp), ok_bind, chn_run (fun r hr => by have := ((rowsA_mem m).mp hr).2; omega) (chn_rows ha m), andThen_inl, repR_one (by omega) (by omega), ok_bind, ok_bind, show ((m : Int) + 1).toNat = m + 1 by omega, decide_eq_true rfl]
def cnt (a : Nat) : Nat → Nat
  | 0 => 1
  | k + 1 => cnt a k + a ^ (k + 1)
theorem rowsA_len {a : Nat} : ∀ k, (rowsA a k).length = cnt a k
  | 0 => rfl
  | k + 1 => by
    show (rowsA a k ++ layA a (k + 1)).length = _
    rw [List.length_append, rowsA_len k, layA_len]
    rfl
theorem rest_ok (ns : List Int) {a m : Nat} (ha : 0 < a) (ha2 : a ≤ 5) (hm : m ≤ 31) (hl : (rowsA a m).length ≤ 5000) : (R.bind (R.bind (n_rows_of (a : Int) (m : Int)) freshR) fun found_ =>
  (R.bind (R.bind (n__law_counted found_ (a : Int) (m : Int)) fun t16 => .ok (!t16)) fun t29 => (if t29 = true then
  (.ok false) else
  (R.bind (cmpR found_ (fun a18 => (.ok a18))) fun held_ =>
  (R.bind (R.bind (R.bind (n__law_mixed ⟨ns⟩ (3 : Int)) fun t19 => (modR t19 (ilen found_))) fun t20 => (R.bind (atR found_ t20) fun o21 => (R.bind (appR o21 (7 : Int)) fun b22 => (setR found_ t20 b22)))) fun found_ =>
  (R.bind (appR found_ ([(0 : Int)] : List Int)) fun found_ =>
  (R.bind (R.bind (R.bind (n__law_mixed ⟨ns⟩ (4 : Int)) fun t23 => (modR t23 (5 : Int))) fun t24 => .ok ((1 : Int) + t24)) fun other_ =>
  (R.bind (R.bind (n__law_mixed ⟨ns⟩ (5 : Int)) fun t25 => (modR t25 (4 : Int))) fun far_ =>
  (R.bind (n_rows_of other_ far_) fun between_ =>
  (R.bind (n_rows_of (a : Int) (m : Int)) fun again_ =>
  (R.bind (R.bind (n__law_counted between_ other_ far_) fun t27 => (if t27 = true then (R.bind (n__law_counted again_ (a : Int) (m : Int)) fun t26 => .ok (t26 && (decide (again_ = held_)))) else .ok false)) fun t28 => .ok t28)))))))))) ) = .ok true := by
  have hp := rowsA_pos (a := a) (k := m)
  have rr := rows_of_ok (a := a) (m := m) (by omega) (by omega) (by omega)
  have cc := counted_ok (a := a) (m := m) ha (by omega)
  rw [rr, ok_bind]
  have fr : freshR (rowsA a m) = .ok (rowsA a m) := okIf_ok ⟨rowsA_nodup m, List.ne_nil_of_length_pos hp⟩
  rw [fr, ok_bind, cc, ok_bind, ok_bind, if_neg (by simp), cmpR_eq (g := fun x => x) (by omega) (fun _ _ => rfl), ok_bind, List.map_id', mix_eq ns (by decide) (by decide), ok_bind]
  have hil : (0 : Int) < ilen (rowsA a m) := by show (0 : Int) < ((rowsA a m).length : Int); omega
  have b3 := emod_pos (lmix ns 3) hil
  rw [modR_ok hil, ok_bind]
  generalize lmix ns 3 % ilen (rowsA a m) = j at b3
  have b3b : j < ((rowsA a m).length : Int) := b3.2
  rw [atR_int b3.1 b3b, ok_bind]
  have rl : ((rowsA a m)[j.toNat]'(by omega)).length ≤ m := ((rowsA_mem m).mp (List.getElem_mem _)).2
  rw [appR_ok (by omega), ok_bind, setR_int b3.1 b3b, ok_bind, appR_ok (by rw [List.length_set]; omega), ok_bind, mix_eq ns (by decide) (by decide), ok_bind, modR_ok (by decide), ok_bind, ok_bind, mix_eq ns (by decide) (by decide), ok_bind, modR_ok (by decide), ok_bind]
  have b4 := emod_pos (lmix ns 4) (show (0 : Int) < 5 by decide)
  have b5 := emod_pos (lmix ns 5) (show (0 : Int) < 4 by decide)
  generalize lmix ns 4 % 5 = o at b4
  generalize lmix ns 5 % 4 = f at b5
  obtain ⟨o, rfl⟩ := Int.eq_ofNat_of_zero_le b4.1
  obtain ⟨f, rfl⟩ := Int.eq_ofNat_of_zero_le b5.1
  rw [show (1 : Int) + (o : Int) = ((1 + o : Nat) : Int) by omega]
  have sz : (rowsA (1 + o) f).length ≤ 100000 := by
    rw [rowsA_len]
    have : ∀ o < 5, ∀ f < 4, cnt (1 + o) f ≤ 100000 := by decide
    exact this o (by omega) f (by omega)
  rw [rows_of_ok (by omega) (by omega) sz, ok_bind, ok_bind, counted_ok (by omega) (by omega), ok_bind, if_pos rfl, cc, ok_bind, ok_bind, decide_eq_true rfl]
  rfl
def capA (a : Nat) : Nat := [12, 7, 5, 4, 4].getD (a - 1) 0
def capB (a : Nat) : Nat := [32, 11, 8, 6, 6].getD (a - 1) 0
theorem cap_sz : ∀ a, 0 < a → a ≤ 5 → capA a ≤ capB a ∧ 0 < capA a ∧ capB a ≤ 32 ∧ cnt a (capB a - 1) ≤ 5000 := by
  intro a h1 h2
  have : ∀ a < 6, 0 < a → capA a ≤ capB a ∧ 0 < capA a ∧ capB a ≤ 32 ∧ cnt a (capB a - 1) ≤ 5000 := by decide
  exact this a (by omega) h1
theorem capA_at {a : Nat} (h1 : 0 < a) (h2 : a ≤ 5) : atR ([(12 : Int), (7 : Int), (5 : Int), (4 : Int), (4 : Int)] : List Int) ((a : Int) - 1) = .ok (capA a : Int) := by
  obtain rfl | rfl | rfl | rfl | rfl : a = 1 ∨ a = 2 ∨ a = 3 ∨ a = 4 ∨ a = 5 := by omega
  all_goals rfl
theorem capB_at {a : Nat} (h1 : 0 < a) (h2 : a ≤ 5) : atR ([(32 : Int), (11 : Int), (8 : Int), (6 : Int), (6 : Int)] : List Int) ((a : Int) - 1) = .ok (capB a : Int) := by
  obtain rfl | rfl | rfl | rfl | rfl : a = 1 ∨ a = 2 ∨ a = 3 ∨ a = 4 ∨ a = 5 := by omega
  all_goals rfl
theorem n_true (ns : List Int) (hl : ns.length ≤ 63) : n_law ⟨ns⟩ = .ok true := by
  refine Ok.eq ?_
  unfold n_law
  rw [mix_eq ns (by decide) (by decide), ok_bind, modR_ok (by decide), ok_bind, ok_bind]
  have b0 := emod_pos (lmix ns 0) (show (0 : Int) < 5 by decide)
  generalize lmix ns 0 % 5 = o at b0
  obtain ⟨o, rfl⟩ := Int.eq_ofNat_of_zero_le b0.1
  rw [show (1 : Int) + (o : Int) = ((1 + o : Nat) : Int) by omega]
  have ha : 0 < 1 + o := by omega
  have ha2 : 1 + o ≤ 5 := by omega
  generalize 1 + o = a at ha ha2
  obtain ⟨c1, c2, c3, c4⟩ := cap_sz a ha ha2
  rw [mix_eq ns (show (0 : Int) ≤ 1 by decide) (by decide), ok_bind, capA_at ha ha2, ok_bind, modR_ok (by omega), ok_bind, mix_eq ns (show (0 : Int) ≤ 2 by decide) (by decide), ok_bind, modR_ok (by decide), ok_bind, ok_bind, Ok_bind]
  have bA := emod_pos (lmix ns 1) (show (0 : Int) < (capA a : Int) by omega)
  have bB := emod_pos (lmix ns 1) (show (0 : Int) < (capB a : Int) by omega)
  refine Ok.mono (Q := fun m => 0 ≤ m ∧ m < (capB a : Int)) ?_ fun m hm => ?_
  · rw [Ok_if]
    refine ⟨fun _ => ?_, fun _ => ?_⟩
    · rw [ok_bind, capB_at ha ha2, ok_bind, modR_ok (by omega), ok_bind, Ok_ok]
      exact bB
    · rw [Ok_ok]
      exact ⟨bA.1, by omega⟩
  · obtain ⟨m, rfl⟩ := Int.eq_ofNat_of_zero_le hm.1
    rw [rest_ok ns ha ha2 (by omega) (by rw [rowsA_len]; have h1 := rowsA_le (a := a) (show m ≤ capB a - 1 by omega); rw [rowsA_len, rowsA_len] at h1; omega), Ok_ok]
end Dv

namespace Dv
open Enc (enc)
open PySem PySem.Spec PyProof.Rows L2 Evl
def top (i : Nat) : Stmt := PySem.Challenge.pw_probewell_k51_rows_of_asks.main.body.getD i (.Pass ⟨0, 0, 0, 0⟩)
abbrev s_rows_of : Stmt := top 1
abbrev s__law_mixed : Stmt := top 3
abbrev s__law_next : Stmt := top 4
abbrev s__law_wholes : Stmt := top 5
abbrev s__law_counted : Stmt := top 6
abbrev s_law : Stmt := top 7
section
variable {P : Program} {w : World} {K : PySem.W.Frag} {mg : Str → Option Value} {base : Heap} {f : Addr} {fd : FuncData}
theorem sc_rows_of : FnScope ["asks", "most", "rows", "last", "length", "longer", "row", "ask"] ["asks", "most"] (defScope s_rows_of) := ⟨rfl, rfl, rfl, by decide +kernel, rfl, by decide +kernel, by decide +kernel⟩
theorem ok_rows_of (F : FunD K "rows_of" "rows_of" (defArgs s_rows_of) (defBody s_rows_of) (defScope s_rows_of) [] [] f fd) (m0 : mg "rows_of" = some (.ref f)) (b_range : mg "range" = none) : Cal P w K mg base (clK K) "rows_of" 1 2 d_rows_of :=
  Cal.def_ F m0 sc_rows_of (by decide) (fun _ _ _ _ _ _ us hl => match us, hl with | [_, _], _ => rfl) fun cdv A outer s H E X hX hr tk hp => by
    subst hX
    have hu := hr.units
    have hu2 := units65 hr
    have hu1 := units9 hr
    have nd := sc_rows_of.nd
    exact ⟨_, (qss_cons (qs_set 2 nd (q_lst (ql_cons (q_lst ql_nil) ql_nil)))
 (qss_cons (qs_set 3 nd (q_lst (ql_cons (q_lst ql_nil) ql_nil)))
 (qss_cons (qs_for1 hp rfl rfl b_range (q_var 1) (qg_name 4 rfl nd)
 (qss_cons (qs_set 5 nd (q_lst ql_nil))
 (qss_cons (qs_for hp rfl (q_mv 3) (qg_name 6 rfl nd)
 (qss_one (qs_for1 hp rfl rfl b_range (q_var 0) (qg_name 7 rfl nd)
 (qss_one (qs_app 5 (q_var 5) (q_add (q_var 6) (qToB (q_lst (ql_cons (q_mv 7) ql_nil)))))))))
 (qss_cons (qs_set 2 nd (q_add (q_var 2) (q_var 5)))
 (qss_one (qs_set 3 nd (q_mv 5)))))))
 (qss_one (qs_ret (q_mv 2))))))⟩
theorem sc__law_mixed : FnScope ["_law_script", "_law_k", "_law_cell"] ["_law_script", "_law_k"] (defScope s__law_mixed) := ⟨rfl, rfl, rfl, by decide +kernel, rfl, by decide +kernel, by decide +kernel⟩
theorem ok__law_mixed (F : FunD K "_law_mixed" "_law_mixed" (defArgs s__law_mixed) (defBody s__law_mixed) (defScope s__law_mixed) [] [] f fd) (m0 : mg "_law_mixed" = some (.ref f)) (b_len : mg "len" = none) : Cal P w K mg base (clK K) "_law_mixed" 1 2 d_law_mixed :=
  Cal.def_ F m0 sc__law_mixed (by decide) (fun _ _ _ _ _ _ us hl => match us, hl with | [_, _], _ => rfl) fun cdv A outer s H E X hX hr tk hp => by
    subst hX
    have hu := hr.units
    have hu2 := units65 hr
    have hu1 := units9 hr
    have nd := sc__law_mixed.nd
    exact ⟨_, (qss_cons (qs_set 2 nd (qToC q_int))
 (qss_cons (qs_if (qt_gt (q_len rfl b_len (qa_cons (q_var 0) qa_nil)) q_int)
 (qss_one (qs_set 2 nd (qSh (q_ix (q_var 0) (q_mod (q_var 1) (q_len rfl b_len (qa_cons (q_var 0) qa_nil)))))))
 qss_nil)
 (qss_cons (qs_set 2 nd (qToC (q_mod (qToB (q_mul (qToB (q_add (qToB (q_add (q_mod (q_var 2) q_int) (qToB (q_mul q_int (q_var 1))))) q_int)) q_int)) q_int)))
 (qss_one (qs_ret (qToC (q_mod (qToB (q_mul (q_var 2) (qToB (q_add (qToB (q_add (q_mod (q_var 2) q_int) (q_var 1))) q_int)))) q_int)))))))⟩
theorem sc__law_next : FnScope ["_law_row", "_law_asks", "_law_at"] ["_law_row", "_law_asks"] (defScope s__law_next) := ⟨rfl, rfl, rfl, by decide +kernel, rfl, by decide +kernel, by decide +kernel⟩
theorem ok__law_next (F : FunD K "_law_next" "_law_next" (defArgs s__law_next) (defBody s__law_next) (defScope s__law_next) [] [] f fd) (m0 : mg "_law_next" = some (.ref f)) (b_len : mg "len" = none) (b_list : mg "list" = none) : Cal P w K mg base (clK K) "_law_next" 1 2 d_law_next :=
  Cal.def_ F m0 sc__law_next (by decide) (fun _ _ _ _ _ _ us hl => match us, hl with | [_, _], _ => rfl) fun cdv A outer s H E X hX hr tk hp => by
    subst hX
    have hu := hr.units
    have hu2 := units65 hr
    have hu1 := units9 hr
    have nd := sc__law_next.nd
    exact ⟨_, (qss_cons (qs_set 0 nd (q_list rfl b_list (qa_cons (q_var 0) qa_nil)))
 (qss_cons (qs_set 2 nd (qToC (q_sub (q_len rfl b_len (qa_cons (q_var 0) qa_nil)) q_int)))
 (qss_cons (qs_while hp (qw_pt (qw_and (qt_ge (q_var 2) q_int) (qw_and1 (qt_eq hu (q_ix (q_var 0) (q_var 2)) (q_sub (q_var 1) q_int)))))
 (qss_cons (qs_setP (qToC q_int) (qp_nil 0) (q_var 2))
 (qss_one (qs_set 2 nd (qToC (q_sub (q_var 2) q_int))))))
 (qss_cons (qs_if (qt_lt (q_var 2) q_int)
 (qss_one (qs_ret (q_add (q_var 0) (qToB (q_lst (ql_cons (qToC q_int) ql_nil))))))
 qss_nil)
 (qss_cons (qs_setP (q_add (q_ix (q_var 0) (q_var 2)) q_int) (qp_nil 0) (q_var 2))
 (qss_one (qs_ret (q_mv 0))))))))⟩
theorem sc__law_wholes : FnScope ["_law_found", "_law_one"] ["_law_found"] (defScope s__law_wholes) := ⟨rfl, rfl, rfl, by decide +kernel, rfl, by decide +kernel, by decide +kernel⟩
theorem ok__law_wholes (F : FunD K "_law_wholes" "_law_wholes" (defArgs s__law_wholes) (defBody s__law_wholes) (defScope s__law_wholes) [] [] f fd) (m0 : mg "_law_wholes" = some (.ref f)) (b_bool : mg "bool" = none) (b_int : mg "int" = none) (b_isinstance : mg "isinstance" = none) (b_list : mg "list" = none) : Cal P w K mg base (clK K) "_law_wholes" 1 1 d_law_wholes :=
  Cal.def_ F m0 sc__law_wholes (by decide) (fun _ _ _ _ _ _ us hl => match us, hl with | [_], _ => rfl) fun cdv A outer s H E X hX hr tk hp => by
    subst hX
    have hu := hr.units
    have hu2 := units65 hr
    have hu1 := units9 hr
    have nd := sc__law_wholes.nd
    exact ⟨_, (qss_cons (qs_if (qt_not (qt_val (q_isi rfl b_isinstance rfl b_list (by rfl) (q_var 0))))
 (qss_one (qs_ret (qToC q_bl)))
 qss_nil)
 (qss_cons (qs_for hp rfl (q_mv 0) (qg_name 1 rfl nd)
 (qss_one (qs_if (qw_pt (qw_or (qt_not (qt_val (q_isi rfl b_isinstance rfl b_int (by rfl) (q_var 1)))) (qw_or1 (qt_val (q_isi rfl b_isinstance rfl b_bool (by rfl) (q_var 1))))))
 (qss_one (qs_ret (qToC q_bl)))
 qss_nil)))
 (qss_one (qs_ret (qToC q_bl)))))⟩
theorem sc__law_counted : FnScope ["_law_found", "_law_asks", "_law_most", "_law_due", "_law_row"] ["_law_found", "_law_asks", "_law_most"] (defScope s__law_counted) := ⟨rfl, rfl, rfl, by decide +kernel, rfl, by decide +kernel, by decide +kernel⟩
theorem ok__law_counted (F : FunD K "_law_counted" "_law_counted" (defArgs s__law_counted) (defBody s__law_counted) (defScope s__law_counted) [] [] f fd) (m0 : mg "_law_counted" = some (.ref f)) (b_isinstance : mg "isinstance" = none) (b_list : mg "list" = none) (c__law_wholes : Cal P w K mg base (clK K) "_law_wholes" 1 1 d_law_wholes) (c__law_next : Cal P w K mg base (clK K) "_law_next" 1 2 d_law_next) : Cal P w K mg base (clK K) "_law_counted" 2 3 d_law_counted :=
  Cal.def_ F m0 sc__law_counted (by decide) (fun _ _ _ _ _ _ us hl => match us, hl with | [_, _, _], _ => rfl) fun cdv A outer s H E X hX hr tk hp => by
    subst hX
    have hu := hr.units
    have hu2 := units65 hr
    have hu1 := units9 hr
    have nd := sc__law_counted.nd
    exact ⟨_, (qss_cons (qs_if (qt_not (qt_val (q_isi rfl b_isinstance rfl b_list (by rfl) (q_var 0))))
 (qss_one (qs_ret (qToC q_bl)))
 qss_nil)
 (qss_cons (qs_set 3 nd (q_lst ql_nil))
 (qss_cons (qs_for hp rfl (q_mv 0) (qg_name 4 rfl nd)
 (qss_cons (qs_if (qw_pt (qw_or (qt_not (qt_val (qToB (q_callC tk hr c__law_wholes (by decide) dFn_len rfl (qa_cons (q_var 4) qa_nil))))) (qw_or1 (qt_ne hu (q_var 4) (q_var 3)))))
 (qss_one (qs_ret (qToC q_bl)))
 qss_nil)
 (qss_one (qs_set 3 nd (q_callC tk hr c__law_next (by decide) dFn_len rfl (qa_cons (q_var 3) (qa_cons (q_var 1) qa_nil)))))))
 (qss_one (qs_ret (qToC (q_eq hu (q_var 3) (qToB (q_mul (qToB (q_lst (ql_cons (qToC q_int) ql_nil))) (qToB (q_add (q_var 2) q_int)))))))))))⟩
theorem sc_law : FnScope ["_law_script", "_law_asks", "_law_most", "_law_found", "_law_held", "_law_other", "_law_far", "_law_between", "_law_again", "_law_row"] ["_law_script"] (defScope s_law) := ⟨rfl, rfl, rfl, by decide +kernel, rfl, by decide +kernel, by decide +kernel⟩
theorem ok_law (F : FunD K "law" "law" (defArgs s_law) (defBody s_law) (defScope s_law) [] [] f fd) (b_len : mg "len" = none) (b_list : mg "list" = none) (c__law_mixed : Cal P w K mg base (clK K) "_law_mixed" 1 2 d_law_mixed) (c_rows_of : Cal P w K mg base (clK K) "rows_of" 1 2 d_rows_of) (c__law_counted : Cal P w K mg base (clK K) "_law_counted" 2 3 d_law_counted) : FnOk P w K mg base (L2.CX P w) 3 f fd ["_law_script"] (spD K (clK K) 1 d_law) :=
  q_def F sc_law (by decide) fun cdv A outer s H E X hX hr tk hp => by
    subst hX
    have hu := hr.units
    have hu2 := units65 hr
    have hu1 := units9 hr
    have nd := sc_law.nd
    exact ⟨_, (qss_cons (qs_set 1 nd (q_add q_int (q_mod (qToB (q_callC tk hr c__law_mixed (by decide) dFn_len rfl (qa_cons (q_var 0) (qa_cons q_int qa_nil)))) q_int)))
 (qss_cons (qs_set 2 nd (qToC (q_mod (qToB (q_callC tk hr c__law_mixed (by decide) dFn_len rfl (qa_cons (q_var 0) (qa_cons q_int qa_nil)))) (q_ix (qToB (q_lst (ql_cons (qToC q_int) (ql_cons (qToC q_int) (ql_cons (qToC q_int) (ql_cons (qToC q_int) (ql_cons (qToC q_int) ql_nil))))))) (q_sub (q_var 1) q_int)))))
 (qss_cons (qs_if (qt_eq hu (q_mod (qToB (q_callC tk hr c__law_mixed (by decide) dFn_len rfl (qa_cons (q_var 0) (qa_cons q_int qa_nil)))) q_int) q_int)
 (qss_one (qs_set 2 nd (qToC (q_mod (qToB (q_callC tk hr c__law_mixed (by decide) dFn_len rfl (qa_cons (q_var 0) (qa_cons q_int qa_nil)))) (q_ix (qToB (q_lst (ql_cons (qToC q_int) (ql_cons (qToC q_int) (ql_cons (qToC q_int) (ql_cons (qToC q_int) (ql_cons (qToC q_int) ql_nil))))))) (q_sub (q_var 1) q_int))))))
 qss_nil)
 (qss_cons (qs_set 3 nd (q_fresh tk hr c_rows_of (by decide) dFn_len rfl (qa_cons (q_var 1) (qa_cons (q_var 2) qa_nil))))
 (qss_cons (qs_if (qt_not (qt_val (qToB (q_callC tk hr c__law_counted (by decide) dFn_len rfl (qa_cons (q_var 3) (qa_cons (q_var 1) (qa_cons (q_var 2) qa_nil)))))))
 (qss_one (qs_ret (qToC q_bl)))
 qss_nil)
 (qss_cons (qs_lc true 4 rfl nd (q_var 3) (own := [("_law_row", 9)]) (blkOk rfl) (fun _ _ _ _ _ => (qg_name 9 rfl nd)) (fun _ _ _ _ _ => qts_nil) (fun _ _ _ _ _ => (q_list rfl b_list (qa_cons (q_var 9) qa_nil))))
 (qss_cons (qs_appP (qp_ix (qp_nil 3) (q_mod (qToB (q_callC tk hr c__law_mixed (by decide) dFn_len rfl (qa_cons (q_var 0) (qa_cons q_int qa_nil)))) (q_len rfl b_len (qa_cons (q_var 3) qa_nil)))) (qToC q_int))
 (qss_cons (qs_app 3 (q_var 3) (q_lst (ql_cons (qToC q_int) ql_nil)))
 (qss_cons (qs_set 5 nd (q_add q_int (q_mod (qToB (q_callC tk hr c__law_mixed (by decide) dFn_len rfl (qa_cons (q_var 0) (qa_cons q_int qa_nil)))) q_int)))
 (qss_cons (qs_set 6 nd (qToC (q_mod (qToB (q_callC tk hr c__law_mixed (by decide) dFn_len rfl (qa_cons (q_var 0) (qa_cons q_int qa_nil)))) q_int)))
 (qss_cons (qs_set 7 nd (q_callL tk hr c_rows_of (by decide) dFn_len rfl (ql_cons (q_al 5) (ql_cons (q_al 6) ql_nil))))
 (qss_cons (qs_set 8 nd (q_callL tk hr c_rows_of (by decide) dFn_len rfl (ql_cons (q_al 1) (ql_cons (q_al 2) ql_nil))))
 (qss_one (qs_ret (qToC (q_and (qToB (q_callC tk hr c__law_counted (by decide) dFn_len rfl (qa_cons (q_var 7) (qa_cons (q_var 5) (qa_cons (q_var 6) qa_nil))))) (q_and (qToB (q_callC tk hr c__law_counted (by decide) dFn_len rfl (qa_cons (q_var 8) (qa_cons (q_var 1) (qa_cons (q_var 2) qa_nil))))) (q_one (q_eq hu (q_var 8) (q_var 4))))))))))))))))))))⟩
end
end Dv

namespace Dv
open Enc (enc)
open PySem PySem.Spec PyProof.Rows L2 Evl
theorem law_true (ns : List Int) (hl : ns.length ≤ 63) (hb : ∀ z ∈ ns, PySem.Builtin.Int.intBits z ≤ 1048576) : ∃ ow, d_law [.sc (ns.map D.int)] = some (.ret (.bl true) ow) := law_of r_law ns (n_true ns hl)
def D_rows_of : He.DefD := ⟨("rows_of", none), "rows_of", "rows_of", defArgs s_rows_of, defBody s_rows_of, defScope s_rows_of, [], []⟩
def D__law_mixed : He.DefD := ⟨("_law_mixed", none), "_law_mixed", "_law_mixed", defArgs s__law_mixed, defBody s__law_mixed, defScope s__law_mixed, [], []⟩
def D__law_next : He.DefD := ⟨("_law_next", none), "_law_next", "_law_next", defArgs s__law_next, defBody s__law_next, defScope s__law_next, [], []⟩
def D__law_wholes : He.DefD := ⟨("_law_wholes", none), "_law_wholes", "_law_wholes", defArgs s__law_wholes, defBody s__law_wholes, defScope s__law_wholes, [], []⟩
def D__law_counted : He.DefD := ⟨("_law_counted", none), "_law_counted", "_law_counted", defArgs s__law_counted, defBody s__law_counted, defScope s__law_counted, [], []⟩
def D_law : He.DefD := ⟨("law", none), "law", "law", defArgs s_law, defBody s_law, defScope s_law, [], []⟩
def fn : List He.DefD := [D_rows_of, D__law_mixed, D__law_next, D__law_wholes, D__law_counted, D_law]
def fa : List He.Fa := [.glo "rows_of", .glo "_law_mixed", .glo "_law_next", .glo "_law_wholes", .glo "_law_counted", .glo "law", .free "bool", .free "int", .free "isinstance", .free "len", .free "list", .free "range"]
abbrev RowR : PySem.W.OpenRow := PySem.W.OpenLaw.row PySem.Challenge.rw_probewell_k51_rows_of_asks
abbrev hk : PySem.W.Hook := He.hookD 4 fa fn
def ob (s : PySem.W.SharedT) : He.AlD := He.obsDG 4 fa fn (HandSHeadRun.getT s)
theorem ob_eq (s : PySem.W.SharedT) : ob s = hk.obs s.abs := He.obsDG_eq (HandSHeadRun.getT_eq s)
def loose : List Str := (["rows_of", "_law_mixed", "_law_next", "_law_wholes", "_law_counted"] : List Str)
theorem run (w : World) : HandSHeadRun.RunEq RowR (PySem.W.view RowR.prog [7]) hk ob 1200 loose w := by
  intro os
  kernel_rfl
theorem facts {P : Program} {w : World} {K : PySem.W.Frag} {h : Heap} {mg : Str → Option Value} {f : Addr} (X : K.In h) (G : h.Ns mainGlobals mg) (hfa : mg ("law" : Str) = some (.ref f)) (c0 : He.SaysD fa fn K) :
    ∃ fd : FuncData, (∀ (s : Shared) (v : Value), BindsTo s fd ⟨[v], []⟩ [("_law_script", v)]) ∧ ∀ base : Heap, K.In base → base.Ns mainGlobals mg → FnOk P w K mg base (L2.CX P w) 3 f fd ["_law_script"] (spD K (clK K) 1 d_law) := by
  have c := c0
  obtain ⟨fd_rows_of, F_rows_of⟩ := c.def_ 0 (d := D_rows_of) rfl
  obtain ⟨fd__law_mixed, F__law_mixed⟩ := c.def_ 1 (d := D__law_mixed) rfl
  obtain ⟨fd__law_next, F__law_next⟩ := c.def_ 2 (d := D__law_next) rfl
  obtain ⟨fd__law_wholes, F__law_wholes⟩ := c.def_ 3 (d := D__law_wholes) rfl
  obtain ⟨fd__law_counted, F__law_counted⟩ := c.def_ 4 (d := D__law_counted) rfl
  obtain ⟨fd_law, F_law⟩ := c.def_ 5 (d := D_law) rfl
  have g_rows_of := He.glo_ok X G (c.fact 0 (f := .glo "rows_of") rfl)
  have g__law_mixed := He.glo_ok X G (c.fact 1 (f := .glo "_law_mixed") rfl)
  have g__law_next := He.glo_ok X G (c.fact 2 (f := .glo "_law_next") rfl)
  have g__law_wholes := He.glo_ok X G (c.fact 3 (f := .glo "_law_wholes") rfl)
  have g__law_counted := He.glo_ok X G (c.fact 4 (f := .glo "_law_counted") rfl)
  have g_law := He.glo_ok X G (c.fact 5 (f := .glo "law") rfl)
  have b_bool := He.free_ok X G (c.fact 6 (f := .free "bool") rfl)
  have b_int := He.free_ok X G (c.fact 7 (f := .free "int") rfl)
  have b_isinstance := He.free_ok X G (c.fact 8 (f := .free "isinstance") rfl)
  have b_len := He.free_ok X G (c.fact 9 (f := .free "len") rfl)
  have b_list := He.free_ok X G (c.fact 10 (f := .free "list") rfl)
  have b_range := He.free_ok X G (c.fact 11 (f := .free "range") rfl)
  have e := hfa.symm.trans g_law
  cases e
  have b := FunD.bindsA (ps := ["_law_script"]) F_law fun _ _ _ _ _ _ us hl => match us, hl with | [_], _ => rfl
  refine ⟨fd_law, fun s v => b s [v] rfl, fun base _ _ => ?_⟩
  have c_rows_of := ok_rows_of (P := P) (w := w) (base := base) F_rows_of g_rows_of b_range
  have c__law_mixed := ok__law_mixed (P := P) (w := w) (base := base) F__law_mixed g__law_mixed b_len
  have c__law_next := ok__law_next (P := P) (w := w) (base := base) F__law_next g__law_next b_len b_list
  have c__law_wholes := ok__law_wholes (P := P) (w := w) (base := base) F__law_wholes g__law_wholes b_bool b_int b_isinstance b_list
  have c__law_counted := ok__law_counted (P := P) (w := w) (base := base) F__law_counted g__law_counted b_isinstance b_list c__law_wholes c__law_next
  exact ok_law F_law b_len b_list c__law_mixed c_rows_of c__law_counted
end Dv
open PySem PySem.W PySem.Calls PyProof.Rows
theorem PySem.Challenge.cw_probewell_k51_rows_of_asks_holds : PySem.Challenge.rw_probewell_k51_rows_of_asks.Holds := by
  w_on; o_law
  refine HandSHeadRun.head_any (r := PySem.W.OpenLaw.row PySem.Challenge.rw_probewell_k51_rows_of_asks) (q := PySem.W.view (PySem.W.OpenLaw.row PySem.Challenge.rw_probewell_k51_rows_of_asks).prog [7]) (H := Dv.hk) (ob := Dv.ob) (M := 1200) (loose := Dv.loose) (d := HandSHeadRun.topDef (PySem.W.OpenLaw.row PySem.Challenge.rw_probewell_k51_rows_of_asks).prog 7) (kwd := []) Dv.ob_eq
    (by kernel_rfl) (fun s => by kernel_rfl) Dv.run (by kernel_rfl) (by kernel_rfl) (by kernel_rfl) (by rfl) (by first | assumption | decide +kernel) (by decide +kernel) ⟨rfl, rfl, rfl, rfl, rfl, by decide +kernel⟩ ?hw ?hc
  case hw => w_witness2
  case hc =>
    refine Dv.walk_D (row := PySem.Challenge.rw_probewell_k51_rows_of_asks) (n := 63) (k := 3) (x := "_law_script") (df := Dv.d_law) rfl (by decide) (by kernel_rfl) ⟨rfl, by decide, by decide⟩ ?F Dv.law_true
    intro w mg fa h Y G hmg0
    obtain ⟨K, KX, c⟩ := Y
    have hmg : mg ("law" : PySem.Str) = some (.ref fa) := by
      have e : (HandSHeadRun.topDef (PySem.W.OpenLaw.row PySem.Challenge.rw_probewell_k51_rows_of_asks).prog 7).name = ("law" : PySem.Str) := by kernel_rfl
      rw [← e]
      exact hmg0
    obtain ⟨fd, hb, hF⟩ := Dv.facts (P := (PySem.Challenge.rw_probewell_k51_rows_of_asks).prog) (w := w) KX G hmg c
    exact ⟨K, fd, Dv.clK K, KX, hb, hF⟩


