import PyProof.Rows.All
import Wide.All
import OpenK.AllK
import Wide.FinOn
import HandS.ForMost
import HandS.Exc
import HandS.TryOnly
import HandS.ExcOwn
import HandS.WordsExc
import HandS.IsInst
import HandS.Wide
import HandS.Zip
import HandS.Style
import HandS.Defaults
import HandS.HotCalls
import HandS.EndBits
import HandS.Head0
import HandS.Head1
import HandS.Head2
import HandS.HeadEnd
import HandS.HeadHook1
import HandS.HeadHook2
import HandS.Deep
import HandS.TupAny
import HandS.ExcIs
import PySem.Challenge.RW_planwell_k03_compared_and_shown
set_option Elab.async false
set_option linter.all false
set_option maxRecDepth 100000
set_option maxHeartbeats 0
/-! ## D: plain data, and how they lie in the heap -/
namespace Pw
open PySem PySem.Spec PyProof.Rows L2

/-- data: trees; o: own (nobody else holds it) -/
inductive D where
  | non
  | bl (b : Bool)
  | int (i : Int)
  | str (x : Str)
  | tup (ds : List D)
  | lst (o : Bool) (ds : List D)
  | dct (o : Bool) (ks : List Key) (ds : List D)
  | dcu (o : Bool) (ks : List (List Key)) (ds : List D)
  | obj (o : Bool) (c : Nat) (ns : List Str) (ds : List D)
  | exc (c : Str)

mutual
def frz : D → D
  | .tup ds => .tup (frzs ds)
  | .lst _ ds => .lst false (frzs ds)
  | .dct _ ks ds => .dct false ks (frzs ds)
  | .dcu _ ks ds => .dcu false ks (frzs ds)
  | .obj _ c ns ds => .obj false c ns (frzs ds)
  | .non => .non
  | .bl b => .bl b
  | .int i => .int i
  | .str x => .str x
  | .exc c => .exc c
def frzs : List D → List D
  | [] => []
  | d :: ds => frz d :: frzs ds
end

mutual
/-- nothing in it is shared -/
def noShr : D → Bool
  | .tup ds => noShrs ds
  | .lst o ds => o && noShrs ds
  | .dct o _ ds => o && noShrs ds
  | .dcu o _ ds => o && noShrs ds
  | .obj o _ _ ds => o && noShrs ds
  | .exc _ => false
  | _ => true
def noShrs : List D → Bool
  | [] => true
  | d :: ds => noShr d && noShrs ds
end

/-- the written part, and where its classes stand -/
structure Kn where
  K : PySem.W.Frag
  ca : Nat → Addr

/-- a list of the written part -/
def KL (K : PySem.W.Frag) (a : Addr) (xs : List V) : Prop :=
  ∃ (ob : Obj) (its : Array Value) (n : Nat), K.lookup a = some ob ∧ ob.cls = .type "list" ∧ ob.dict = none ∧ ob.data = .seq its n ∧ its.size ≤ sizeLine ∧ Vals xs its.toList

mutual
inductive Is (G : Kn) (S : Addr → Prop) (H : Hp) : V → D → List Addr → Prop
  | non : Is G S H .non .non []
  | bl {b : Bool} : Is G S H (.bl b) (.bl b) []
  | int {i : Int} : Is G S H (.int i) (.int i) []
  | str {x : Str} : Is G S H (.str x) (.str x) []
  | tup {a : Addr} {xs : List V} {ds : List D} {f : List Addr} (h : SqT G.K H a xs) (r : IsL G S H xs ds f) : Is G S H (.ref a) (.tup ds) f
  | lstK {a : Addr} {xs : List V} {ds : List D} (h : KL G.K a xs) (r : IsL G S H xs ds []) : Is G S H (.ref a) (.lst false ds) []
  | lstF {a : Addr} {xs : List V} {ds : List D} (hs : S a) (h : Rd H a (.lst xs)) (r : IsL G S H xs ds []) : Is G S H (.ref a) (.lst false ds) []
  | lstO {a : Addr} {xs : List V} {ds : List D} {f : List Addr} (h : H a = some (.lst xs)) (r : IsL G S H xs ds f) : Is G S H (.ref a) (.lst true ds) (a :: f)
  | dctF {a : Addr} {ks : List Key} {xs : List V} {ds : List D} (hs : S a) (h : Rd H a (.dK (ks.zip xs))) (hl : ks.length = xs.length) (r : IsL G S H xs ds []) : Is G S H (.ref a) (.dct false ks ds) []
  | dctO {a : Addr} {ks : List Key} {xs : List V} {ds : List D} {f : List Addr} (h : H a = some (.dK (ks.zip xs))) (hl : ks.length = xs.length) (r : IsL G S H xs ds f) : Is G S H (.ref a) (.dct true ks ds) (a :: f)
  | dcuF {a : Addr} {ks : List (List Key)} {xs : List V} {ds : List D} (hs : S a) (h : Rd H a (.dT (ks.zip xs))) (hl : ks.length = xs.length) (r : IsL G S H xs ds []) : Is G S H (.ref a) (.dcu false ks ds) []
  | dcuO {a : Addr} {ks : List (List Key)} {xs : List V} {ds : List D} {f : List Addr} (h : H a = some (.dT (ks.zip xs))) (hl : ks.length = xs.length) (r : IsL G S H xs ds f) : Is G S H (.ref a) (.dcu true ks ds) (a :: f)
  | objF {a dx : Addr} {c : Nat} {ns : List Str} {xs : List V} {ds : List D} (hs : S a) (h : H a = some (.ins (G.ca c) dx (ns.zip xs))) (hl : ns.length = xs.length) (r : IsL G S H xs ds []) : Is G S H (.ref a) (.obj false c ns ds) []
  | objO {a dx : Addr} {c : Nat} {ns : List Str} {xs : List V} {ds : List D} {f : List Addr} (h : H a = some (.ins (G.ca c) dx (ns.zip xs))) (hl : ns.length = xs.length) (r : IsL G S H xs ds f) : Is G S H (.ref a) (.obj true c ns ds) (a :: f)
inductive IsL (G : Kn) (S : Addr → Prop) (H : Hp) : List V → List D → List Addr → Prop
  | nil : IsL G S H [] [] []
  | cons {v : V} {d : D} {f : List Addr} {vs : List V} {ds : List D} {g : List Addr} (h : Is G S H v d f) (r : IsL G S H vs ds g) : IsL G S H (v :: vs) (d :: ds) (f ++ g)
end

section
variable {G : Kn} {S S' : Addr → Prop} {H H' : Hp}

theorem rd_same {a : Addr} {u : HO} (k : ∀ b o, H b = some o → H' b = some o) (h : Rd H a u) : Rd H' a u := by
  rcases h with h | ⟨o, h⟩
  · exact .inl (k _ _ h)
  · exact .inr ⟨o, k _ _ h⟩
theorem sqT_same {K : PySem.W.Frag} {a : Addr} {xs : List V} (k : ∀ b o, H b = some o → H' b = some o) (h : SqT K H a xs) : SqT K H' a xs := by
  rcases h with h | h
  · exact .inl (rd_same k h)
  · exact .inr h

mutual
/-- what is kept: the shared set grows; all but what is written outside of it and of the footprint stays -/
theorem Is.keep (hS : ∀ a, S a → S' a) : ∀ {v : V} {d : D} {f : List Addr}, Is G S H v d f → (∀ a o, H a = some o → (S a ∨ a ∈ f ∨ ¬ Mut (some o)) → H' a = some o) → Is G S' H' v d f
  | _, _, _, .non, _ => .non
  | _, _, _, .bl, _ => .bl
  | _, _, _, .int, _ => .int
  | _, _, _, .str, _ => .str
  | _, _, _, .tup h r, k => .tup (by
      rcases h with (h | ⟨o, h⟩) | h
      · exact .inl (.inl (k _ _ h (.inr (.inr (fun z => z)))))
      · exact .inl (.inr ⟨o, k _ _ h (.inr (.inr (fun z => z)))⟩)
      · exact .inr h) (IsL.keep hS r k)
  | _, _, _, .lstK h r, k => .lstK h (IsL.keep hS r k)
  | _, _, _, .lstF hs h r, k => .lstF (hS _ hs) (by
      rcases h with h | ⟨o, h⟩
      · exact .inl (k _ _ h (.inl hs))
      · exact .inr ⟨o, k _ _ h (.inl hs)⟩) (IsL.keep hS r k)
  | _, _, _, .lstO h r, k => .lstO (k _ _ h (.inr (.inl List.mem_cons_self))) (IsL.keep hS r fun a o e q => k a o e (q.imp_right fun z => z.imp_left fun y => List.mem_cons_of_mem _ y))
  | _, _, _, .dctF hs h hl r, k => .dctF (hS _ hs) (by
      rcases h with h | ⟨o, h⟩
      · exact .inl (k _ _ h (.inl hs))
      · exact .inr ⟨o, k _ _ h (.inl hs)⟩) hl (IsL.keep hS r k)
  | _, _, _, .dctO h hl r, k => .dctO (k _ _ h (.inr (.inl List.mem_cons_self))) hl (IsL.keep hS r fun a o e q => k a o e (q.imp_right fun z => z.imp_left fun y => List.mem_cons_of_mem _ y))
  | _, _, _, .dcuF hs h hl r, k => .dcuF (hS _ hs) (by
      rcases h with h | ⟨o, h⟩
      · exact .inl (k _ _ h (.inl hs))
      · exact .inr ⟨o, k _ _ h (.inl hs)⟩) hl (IsL.keep hS r k)
  | _, _, _, .dcuO h hl r, k => .dcuO (k _ _ h (.inr (.inl List.mem_cons_self))) hl (IsL.keep hS r fun a o e q => k a o e (q.imp_right fun z => z.imp_left fun y => List.mem_cons_of_mem _ y))
  | _, _, _, .objF hs h hl r, k => .objF (hS _ hs) (k _ _ h (.inl hs)) hl (IsL.keep hS r k)
  | _, _, _, .objO h hl r, k => .objO (k _ _ h (.inr (.inl List.mem_cons_self))) hl (IsL.keep hS r fun a o e q => k a o e (q.imp_right fun z => z.imp_left fun y => List.mem_cons_of_mem _ y))
theorem IsL.keep (hS : ∀ a, S a → S' a) : ∀ {vs : List V} {ds : List D} {f : List Addr}, IsL G S H vs ds f → (∀ a o, H a = some o → (S a ∨ a ∈ f ∨ ¬ Mut (some o)) → H' a = some o) → IsL G S' H' vs ds f
  | _, _, _, .nil, _ => .nil
  | _, _, _, .cons h r, k => .cons (Is.keep hS h fun a o e q => k a o e (q.imp_right fun z => z.imp_left fun y => List.mem_append_left _ y)) (IsL.keep hS r fun a o e q => k a o e (q.imp_right fun z => z.imp_left fun y => List.mem_append_right _ y))
end
theorem Is.mono (hS : ∀ a, S a → S' a) (k : ∀ b o, H b = some o → H' b = some o) {v : V} {d : D} {f : List Addr} (h : Is G S H v d f) : Is G S' H' v d f := h.keep hS fun a o e _ => k a o e
theorem IsL.mono (hS : ∀ a, S a → S' a) (k : ∀ b o, H b = some o → H' b = some o) {v : List V} {d : List D} {f : List Addr} (h : IsL G S H v d f) : IsL G S' H' v d f := h.keep hS fun a o e _ => k a o e

theorem nil2 {f g : List Addr} (h : f = []) (h' : g = []) : f ++ g = [] := by rw [h, h'] <;> rfl

mutual
/-- own things given away -/
theorem Is.frz (hS : ∀ a, S a → S' a) : ∀ {v : V} {d : D} {f : List Addr}, Is G S H v d f → (∀ a ∈ f, S' a) → Is G S' H v (Pw.frz d) []
  | _, _, _, .non, _ => .non
  | _, _, _, .bl, _ => .bl
  | _, _, _, .int, _ => .int
  | _, _, _, .str, _ => .str
  | _, _, _, .tup h r, k => by rw [Pw.frz]; exact .tup h (IsL.frz hS r k)
  | _, _, _, .lstK h r, k => by rw [Pw.frz]; exact .lstK h (IsL.frz hS r k)
  | _, _, _, .lstF hs h r, k => by rw [Pw.frz]; exact .lstF (hS _ hs) h (IsL.frz hS r k)
  | _, _, _, .lstO h r, k => by rw [Pw.frz]; exact .lstF (k _ List.mem_cons_self) (.inl h) (IsL.frz hS r fun a y => k a (List.mem_cons_of_mem _ y))
  | _, _, _, .dctF hs h hl r, k => by rw [Pw.frz]; exact .dctF (hS _ hs) h hl (IsL.frz hS r k)
  | _, _, _, .dctO h hl r, k => by rw [Pw.frz]; exact .dctF (k _ List.mem_cons_self) (.inl h) hl (IsL.frz hS r fun a y => k a (List.mem_cons_of_mem _ y))
  | _, _, _, .dcuF hs h hl r, k => by rw [Pw.frz]; exact .dcuF (hS _ hs) h hl (IsL.frz hS r k)
  | _, _, _, .dcuO h hl r, k => by rw [Pw.frz]; exact .dcuF (k _ List.mem_cons_self) (.inl h) hl (IsL.frz hS r fun a y => k a (List.mem_cons_of_mem _ y))
  | _, _, _, .objF hs h hl r, k => by rw [Pw.frz]; exact .objF (hS _ hs) h hl (IsL.frz hS r k)
  | _, _, _, .objO h hl r, k => by rw [Pw.frz]; exact .objF (k _ List.mem_cons_self) h hl (IsL.frz hS r fun a y => k a (List.mem_cons_of_mem _ y))
theorem IsL.frz (hS : ∀ a, S a → S' a) : ∀ {vs : List V} {ds : List D} {f : List Addr}, IsL G S H vs ds f → (∀ a ∈ f, S' a) → IsL G S' H vs (Pw.frzs ds) []
  | _, _, _, .nil, _ => .nil
  | _, _, _, .cons h r, k => by
    rw [Pw.frzs]
    exact .cons (f := []) (g := []) (Is.frz hS h fun a y => k a (List.mem_append_left _ y)) (IsL.frz hS r fun a y => k a (List.mem_append_right _ y))
end

theorem and2 {a b : Bool} (h : (a && b) = true) : a = true ∧ b = true := Bool.and_eq_true_iff.mp h

mutual
/-- where nothing is shared the shared set is of no weight -/
theorem Is.anyS : ∀ {v : V} {d : D} {f : List Addr}, Is G S H v d f → noShr d = true → Is G S' H v d f
  | _, _, _, .non, _ => .non
  | _, _, _, .bl, _ => .bl
  | _, _, _, .int, _ => .int
  | _, _, _, .str, _ => .str
  | _, _, _, .tup h r, n => .tup h (IsL.anyS r (by rw [noShr] at n; exact n))
  | _, _, _, .lstK h r, n => by rw [noShr] at n; exact absurd (and2 n).1 Bool.false_ne_true
  | _, _, _, .lstF hs h r, n => by rw [noShr] at n; exact absurd (and2 n).1 Bool.false_ne_true
  | _, _, _, .lstO h r, n => .lstO h (IsL.anyS r (by rw [noShr] at n; exact (and2 n).2))
  | _, _, _, .dctF hs h hl r, n => by rw [noShr] at n; exact absurd (and2 n).1 Bool.false_ne_true
  | _, _, _, .dctO h hl r, n => .dctO h hl (IsL.anyS r (by rw [noShr] at n; exact (and2 n).2))
  | _, _, _, .dcuF hs h hl r, n => by rw [noShr] at n; exact absurd (and2 n).1 Bool.false_ne_true
  | _, _, _, .dcuO h hl r, n => .dcuO h hl (IsL.anyS r (by rw [noShr] at n; exact (and2 n).2))
  | _, _, _, .objF hs h hl r, n => by rw [noShr] at n; exact absurd (and2 n).1 Bool.false_ne_true
  | _, _, _, .objO h hl r, n => .objO h hl (IsL.anyS r (by rw [noShr] at n; exact (and2 n).2))
theorem IsL.anyS : ∀ {vs : List V} {ds : List D} {f : List Addr}, IsL G S H vs ds f → noShrs ds = true → IsL G S' H vs ds f
  | _, _, _, .nil, _ => .nil
  | _, _, _, .cons h r, n => by
    rw [noShrs] at n
    exact .cons (Is.anyS h (and2 n).1) (IsL.anyS r (and2 n).2)
end

mutual
/-- the footprint holds things that may be written -/
theorem Is.foot : ∀ {v : V} {d : D} {f : List Addr}, Is G S H v d f → ∀ a ∈ f, ∃ o, H a = some o ∧ Mut (some o)
  | _, _, _, .non, _, m => nomatch m
  | _, _, _, .bl, _, m => nomatch m
  | _, _, _, .int, _, m => nomatch m
  | _, _, _, .str, _, m => nomatch m
  | _, _, _, .tup h r, a, m => IsL.foot r a m
  | _, _, _, .lstK h r, a, m => nomatch m
  | _, _, _, .lstF hs h r, a, m => nomatch m
  | _, _, _, .lstO h r, a, m => (List.mem_cons.mp m).elim (fun e => e ▸ ⟨_, h, trivial⟩) (fun z => IsL.foot r a z)
  | _, _, _, .dctF hs h hl r, a, m => nomatch m
  | _, _, _, .dctO h hl r, a, m => (List.mem_cons.mp m).elim (fun e => e ▸ ⟨_, h, trivial⟩) (fun z => IsL.foot r a z)
  | _, _, _, .dcuF hs h hl r, a, m => nomatch m
  | _, _, _, .dcuO h hl r, a, m => (List.mem_cons.mp m).elim (fun e => e ▸ ⟨_, h, trivial⟩) (fun z => IsL.foot r a z)
  | _, _, _, .objF hs h hl r, a, m => nomatch m
  | _, _, _, .objO h hl r, a, m => (List.mem_cons.mp m).elim (fun e => e ▸ ⟨_, h, trivial⟩) (fun z => IsL.foot r a z)
theorem IsL.foot : ∀ {vs : List V} {ds : List D} {f : List Addr}, IsL G S H vs ds f → ∀ a ∈ f, ∃ o, H a = some o ∧ Mut (some o)
  | _, _, _, .nil, _, m => nomatch m
  | _, _, _, .cons h r, a, m => (List.mem_append.mp m).elim (fun z => Is.foot h a z) (fun z => IsL.foot r a z)
end
theorem IsL.len : ∀ {vs : List V} {ds : List D} {f : List Addr}, IsL G S H vs ds f → vs.length = ds.length
  | _, _, _, .nil => rfl
  | _, _, _, .cons _ r => congrArg (· + 1) r.len
theorem IsL.get : ∀ {vs : List V} {ds : List D} {f : List Addr} {i : Nat} {d : D}, IsL G S H vs ds f → ds[i]? = some d → ∃ v g, vs[i]? = some v ∧ Is G S H v d g ∧ g.Sublist f
  | _, _, _, _, _, .nil, e => by cases e
  | _, _, _, 0, _, .cons h r, e => by
    cases Option.some.inj e
    exact ⟨_, _, rfl, h, List.sublist_append_left _ _⟩
  | _, _, _, i + 1, _, .cons h r, e => by
    obtain ⟨v, g, e1, e2, e3⟩ := IsL.get r (show _ = _ from e)
    exact ⟨v, g, e1, e2, e3.trans (List.sublist_append_right _ _)⟩
theorem IsL.append : ∀ {vs ws : List V} {ds es : List D} {f g : List Addr}, IsL G S H vs ds f → IsL G S H ws es g → IsL G S H (vs ++ ws) (ds ++ es) (f ++ g)
  | _, _, _, _, _, _, .nil, q => q
  | _, _, _, _, _, g, .cons h r, q => by
    rw [List.append_assoc]
    exact .cons h (IsL.append r q)
end
end Pw

/-! ## What a pure expression comes to -/
namespace Pw
open PySem PySem.Spec PyProof.Rows L2

inductive Res (α : Type) where
  | stuck
  | ok (a : α)
  | exc (x : Str)
def Res.bind {α β : Type} (r : Res α) (k : α → Res β) : Res β := match r with
  | .stuck => .stuck
  | .ok a => k a
  | .exc x => .exc x
@[simp] theorem Res.bind_ok {α β : Type} (a : α) (k : α → Res β) : (Res.ok a).bind k = k a := rfl
@[simp] theorem Res.bind_exc {α β : Type} (x : Str) (k : α → Res β) : (Res.exc x : Res α).bind k = .exc x := rfl
@[simp] theorem Res.bind_stuck {α β : Type} (k : α → Res β) : (Res.stuck : Res α).bind k = .stuck := rfl

/-- the heap grows, and the shared set with it, by what is younger than H0 -/
structure Gr (H0 : Hp) (S : Addr → Prop) (H : Hp) (S' : Addr → Prop) (H' : Hp) : Prop where
  same : ∀ a o, H a = some o → H' a = some o
  sub : ∀ a, S a → S' a
  new : ∀ a, S' a → S a ∨ H0 a = none
  dom : ∀ a, S' a → H' a ≠ none
abbrev Dom (S : Addr → Prop) (H : Hp) : Prop := ∀ a, S a → H a ≠ none
abbrev Le (H H' : Hp) : Prop := ∀ a o, H a = some o → H' a = some o
theorem le_none {H H' : Hp} (k : Le H H') {a : Addr} (h : H' a = none) : H a = none := by
  cases e : H a with
  | none => rfl
  | some o => rw [k a o e] at h; cases h
theorem le_dom {H H' : Hp} (k : Le H H') {a : Addr} (h : H a ≠ none) : H' a ≠ none := fun e => h (le_none k e)
theorem Gr.refl {H0 : Hp} {S : Addr → Prop} {H : Hp} (d : Dom S H) : Gr H0 S H S H := ⟨fun _ _ h => h, fun _ h => h, fun _ h => .inl h, d⟩
theorem Gr.trans {H0 : Hp} {S S1 S2 : Addr → Prop} {H H1 H2 : Hp} (a : Gr H0 S H S1 H1) (b : Gr H0 S1 H1 S2 H2) : Gr H0 S H S2 H2 where
  same := fun x o h => b.same x o (a.same x o h)
  sub := fun x h => b.sub x (a.sub x h)
  new := fun x h => (b.new x h).elim (fun z => a.new x z) .inr
  dom := b.dom
theorem Gr.older {H0 H1 : Hp} {S S' : Addr → Prop} {H H' : Hp} (k : Le H0 H1) (a : Gr H1 S H S' H') : Gr H0 S H S' H' := ⟨a.same, a.sub, fun x h => (a.new x h).imp_right fun z => le_none k z, a.dom⟩
theorem Gr.heap {H0 : Hp} {S : Addr → Prop} {H H' : Hp} (d : Dom S H) (k : Le H H') : Gr H0 S H S H' := ⟨k, fun _ h => h, fun _ h => .inl h, fun a h => le_dom k (d a h)⟩
/-- .. own new things given away, too -/
theorem Gr.give {H0 : Hp} {S S' : Addr → Prop} {H H' : Hp} {f : List Addr} (g : Gr H0 S H S' H') (hf : ∀ a ∈ f, H0 a = none ∧ H' a ≠ none) : Gr H0 S H (fun a => S' a ∨ a ∈ f) H' :=
  ⟨g.same, fun _ h => .inl (g.sub _ h), fun a h => h.elim (fun z => g.new a z) fun z => .inr (hf a z).1, fun a h => h.elim (fun z => g.dom a z) fun z => (hf a z).2⟩
theorem le_upd {H : Hp} {p : Addr} {o : HO} (h : H p = none) : Le H (upd H p o) := fun a u e => by
  rw [upd_ne (ne_of_none e h)]
  exact e

def Fresh (H0 : Hp) (S : Addr → Prop) (f : List Addr) : Prop := f.Nodup ∧ ∀ a ∈ f, ¬ S a ∧ H0 a = none
theorem Fresh.nil {H0 : Hp} {S : Addr → Prop} : Fresh H0 S [] := ⟨List.nodup_nil, fun _ m => nomatch m⟩
theorem Fresh.older {H0 H1 : Hp} {S : Addr → Prop} {f : List Addr} (k : Le H0 H1) (x : Fresh H1 S f) : Fresh H0 S f := ⟨x.1, fun a m => ⟨(x.2 a m).1, le_none k (x.2 a m).2⟩⟩
/-- .. stays fresh while the heap grows -/
theorem Fresh.grow {H0 H H' : Hp} {S S' : Addr → Prop} {f : List Addr} (g : Gr H S H S' H') (x : Fresh H0 S f) (d : ∀ a ∈ f, H a ≠ none) : Fresh H0 S' f :=
  ⟨x.1, fun a m => ⟨fun z => (g.new a z).elim (x.2 a m).1 (d a m), (x.2 a m).2⟩⟩
theorem Fresh.app {H0 H1 : Hp} {S : Addr → Prop} {f g : List Addr} (k : Le H0 H1) (x : Fresh H0 S f) (y : Fresh H1 S g) (d : ∀ a ∈ f, H1 a ≠ none) : Fresh H0 S (f ++ g) := by
  refine ⟨List.nodup_append.mpr ⟨x.1, y.1, fun a ha b hb e => ?_⟩, fun a m => (List.mem_append.mp m).elim (fun z => x.2 a z) fun z => (y.older k).2 a z⟩
  subst e
  exact d a ha (y.2 a hb).2
theorem Fresh.sub {H0 : Hp} {S : Addr → Prop} {f g : List Addr} (x : Fresh H0 S f) (s : g.Sublist f) : Fresh H0 S g := ⟨x.1.sublist s, fun a m => x.2 a (s.subset m)⟩
theorem Fresh.new {H0 H : Hp} {S : Addr → Prop} {f : List Addr} {p : Addr} (k : Le H0 H) (x : Fresh H0 S f) (d : Dom S H) (df : ∀ a ∈ f, H a ≠ none) (hp : H p = none) : Fresh H0 S (p :: f) := by
  refine ⟨List.nodup_cons.mpr ⟨fun m => df p m hp, x.1⟩, fun a m => (List.mem_cons.mp m).elim (fun e => ?_) fun z => x.2 a z⟩
  subst e
  exact ⟨fun z => d a z hp, le_none k hp⟩

theorem footD {G : Kn} {S : Addr → Prop} {H : Hp} {v : V} {d : D} {f : List Addr} (h : Is G S H v d f) : ∀ a ∈ f, H a ≠ none := fun a m e => by
  obtain ⟨o, q, _⟩ := h.foot a m
  rw [e] at q
  cases q
theorem footDL {G : Kn} {S : Addr → Prop} {H : Hp} {v : List V} {d : List D} {f : List Addr} (h : IsL G S H v d f) : ∀ a ∈ f, H a ≠ none := fun a m e => by
  obtain ⟨o, q, _⟩ := h.foot a m
  rw [e] at q
  cases q

section
variable (G : Kn) (W : WX) (σ : L2.St)
/-- what a value's continuation is asked -/
def Kt (S : Addr → Prop) (H0 H : Hp) (r : Res D) (Q : VK) : Prop := match r with
  | .stuck => False
  | .ok d => ∀ v S' H' f, Gr H0 S H S' H' → Is G S' H' v d f → Fresh H0 S' f → Q v H'
  | .exc x => ∀ S' H', Gr H0 S H S' H' → W (.ref (He.ga G.K x)) none σ H'
def KtL (S : Addr → Prop) (H0 H : Hp) (r : Res (List D)) (Q : List V → Hp → Prop) : Prop := match r with
  | .stuck => False
  | .ok d => ∀ v S' H' f, Gr H0 S H S' H' → IsL G S' H' v d f → Fresh H0 S' f → Q v H'
  | .exc x => ∀ S' H', Gr H0 S H S' H' → W (.ref (He.ga G.K x)) none σ H'
end
section
variable {G : Kn} {W : WX} {σ : L2.St} {S S' : Addr → Prop} {H0 H H' : Hp}
theorem Kt.mono (g : Gr H0 S H S' H') {r : Res D} {Q : VK} (h : Kt G W σ S H0 H r Q) : Kt G W σ S' H0 H' r Q := by
  cases r with
  | stuck => exact h
  | ok d => exact fun v S2 H2 f g2 => h v S2 H2 f (g.trans g2)
  | exc x => exact fun S2 H2 g2 => h S2 H2 (g.trans g2)
theorem KtL.mono (g : Gr H0 S H S' H') {r : Res (List D)} {Q : List V → Hp → Prop} (h : KtL G W σ S H0 H r Q) : KtL G W σ S' H0 H' r Q := by
  cases r with
  | stuck => exact h
  | ok d => exact fun v S2 H2 f g2 => h v S2 H2 f (g.trans g2)
  | exc x => exact fun S2 H2 g2 => h S2 H2 (g.trans g2)
/-- younger things are fresh for the older heap, too -/
theorem Kt.young (k : Le H0 H') {r : Res D} {Q : VK} (h : Kt G W σ S H0 H r Q) : Kt G W σ S H' H r Q := by
  cases r with
  | stuck => exact h
  | ok d => exact fun v S2 H2 f g2 i fr => h v S2 H2 f (g2.older k) i (fr.older k)
  | exc x => exact fun S2 H2 g2 => h S2 H2 (g2.older k)
theorem KtL.young (k : Le H0 H') {r : Res (List D)} {Q : List V → Hp → Prop} (h : KtL G W σ S H0 H r Q) : KtL G W σ S H' H r Q := by
  cases r with
  | stuck => exact h
  | ok d => exact fun v S2 H2 f g2 i fr => h v S2 H2 f (g2.older k) i (fr.older k)
  | exc x => exact fun S2 H2 g2 => h S2 H2 (g2.older k)
/-- a value that is there already -/
theorem Kt.here {d : D} {Q : VK} {v : V} {f : List Addr} (h : Kt G W σ S H0 H (.ok d) Q) (dm : Dom S H) (i : Is G S H v d f) (fr : Fresh H0 S f) : Q v H := h v S H f (Gr.refl dm) i fr
theorem Kt.bl {b : Bool} {Q : VK} (h : Kt G W σ S H0 H (.ok (.bl b)) Q) (dm : Dom S H) : Q (.bl b) H := h.here dm .bl Fresh.nil
theorem Kt.int {b : Int} {Q : VK} (h : Kt G W σ S H0 H (.ok (.int b)) Q) (dm : Dom S H) : Q (.int b) H := h.here dm .int Fresh.nil
theorem Kt.str {b : Str} {Q : VK} (h : Kt G W σ S H0 H (.ok (.str b)) Q) (dm : Dom S H) : Q (.str b) H := h.here dm .str Fresh.nil
/-- a new tuple, a new list of things that lie there -/
theorem Kt.tup {xs : List V} {ds : List D} {f : List Addr} {Q : VK} {p : Addr} (h : Kt G W σ S H0 H (.ok (.tup ds)) Q) (dm : Dom S H) (i : IsL G S H xs ds f) (fr : Fresh H0 S f) (hp : H p = none) : Q (.ref p) (upd H p (.tup xs)) :=
  h _ S _ f (Gr.heap dm (le_upd hp)) (.tup (SqT.of upd_same) (i.mono (fun _ z => z) (le_upd hp))) fr
theorem Kt.lst {xs : List V} {ds : List D} {f : List Addr} {Q : VK} {p : Addr} (h : Kt G W σ S H0 H (.ok (.lst true ds)) Q) (dm : Dom S H) (k : Le H0 H) (i : IsL G S H xs ds f) (fr : Fresh H0 S f) (hp : H p = none) : Q (.ref p) (upd H p (.lst xs)) :=
  h _ S _ (p :: f) (Gr.heap dm (le_upd hp)) (.lstO upd_same (i.mono (fun _ z => z) (le_upd hp))) (fr.new k dm (footDL i) hp)
end

/-- the slots as they are seen: all shared -/
def Fr (G : Kn) (S : Addr → Prop) (H : Hp) (σ : L2.St) (δ : List (Option D)) : Prop := σ.length = δ.length ∧ ∀ (i : Nat) (d : D), δ[i]? = some (some d) → ∃ v, σ[i]? = some (some v) ∧ Is G S H v d []
theorem Fr.mono {G : Kn} {H0 : Hp} {S S' : Addr → Prop} {H H' : Hp} {σ : L2.St} {δ : List (Option D)} (g : Gr H0 S H S' H') (h : Fr G S H σ δ) : Fr G S' H' σ δ := ⟨h.1, fun i d e => by
  obtain ⟨v, e2, q⟩ := h.2 i d e
  exact ⟨v, e2, q.mono g.sub g.same⟩⟩

abbrev Dl := List (Option D)
def tP (G : Kn) (W : WX) (F : Dl → Res D) : TE := fun σ H Q => ∃ S δ, Dom S H ∧ Fr G S H σ δ ∧ Kt G W σ S H H (F δ) Q
def tPs (G : Kn) (W : WX) (F : Dl → Res (List D)) : TA := fun σ H Q => ∃ S δ, Dom S H ∧ Fr G S H σ δ ∧ KtL G W σ S H H (F δ) Q
def tPt (G : Kn) (W : WX) (F : Dl → Res D) : TT := fun σ H Q => tP G W F σ H fun v H' => ∃ b, v = .bl b ∧ Q b H'

section
variable {X : Cx} {e : Expr} {es : List Expr}
theorem PE.weak {t t' : TE} (h : PE X e t) (w : ∀ σ H Q, t' σ H Q → t σ H Q) : PE X e t' := ⟨fun p s σ H Q I q => h.run p s σ H Q I (w σ H Q q)⟩
theorem PT.weak {t t' : TT} (h : PT X e t) (w : ∀ σ H Q, t' σ H Q → t σ H Q) : PT X e t' := ⟨fun p s σ H Q I q => h.run p s σ H Q I (w σ H Q q)⟩
theorem PW.weak {t t' : TT} (h : PW X e t) (w : ∀ σ H Q, t' σ H Q → t σ H Q) : PW X e t' := ⟨fun wh p s σ H Q I q => h.run wh p s σ H Q I (w σ H Q q)⟩
theorem PA.weak {t t' : TA} (h : PA X es t) (w : ∀ σ H Q, t' σ H Q → t σ H Q) : PA X es t' := ⟨fun ps p s σ H Q I q => h.run ps p s σ H Q I (w σ H Q q)⟩
end

section
variable {G : Kn} {W : WX} {σ : L2.St} {H : Hp}
/-- one part -/
theorem tP1 {Fa : Dl → Res D} {op : D → Res D} {r : V → Hp → VK → Prop} {Q : VK}
    (hr : ∀ (S : Addr → Prop) (H0 H : Hp) (x : D) (v : V) (f : List Addr) (Q : VK), Dom S H → Le H0 H → Is G S H v x f → Fresh H0 S f → Kt G W σ S H0 H (op x) Q → r v H Q)
    (h : tP G W (fun δ => (Fa δ).bind op) σ H Q) : tP G W Fa σ H fun x H1 => r x H1 Q := by
  obtain ⟨S, δ, dm, fr, k⟩ := h
  dsimp only at k
  refine ⟨S, δ, dm, fr, ?_⟩
  cases ea : Fa δ with
  | stuck => rw [ea] at k; exact k
  | exc x => rw [ea] at k; exact k
  | ok x =>
    rw [ea] at k
    exact fun v S1 H1 f g i fh => hr S1 H H1 x v f Q g.dom g.same i fh (Kt.mono g k)
/-- two parts -/
theorem tP2 {Fa Fb : Dl → Res D} {op : D → D → Res D} {r : R2} {Q : VK}
    (hr : ∀ (S : Addr → Prop) (H0 H : Hp) (x y : D) (v u : V) (f g : List Addr) (Q : VK), Dom S H → Le H0 H → Is G S H v x f → Is G S H u y g → Fresh H0 S (f ++ g) → Kt G W σ S H0 H (op x y) Q → r v u H Q)
    (h : tP G W (fun δ => (Fa δ).bind fun x => (Fb δ).bind fun y => op x y) σ H Q) : tOp r (tP G W Fa) (tP G W Fb) σ H Q := by
  obtain ⟨S, δ, dm, fr, k⟩ := h
  dsimp only at k
  refine ⟨S, δ, dm, fr, ?_⟩
  cases ea : Fa δ with
  | stuck => rw [ea] at k; exact k
  | exc x => rw [ea] at k; exact k
  | ok x =>
    rw [ea] at k
    refine fun v S1 H1 f g1 i1 f1 => ⟨S1, δ, g1.dom, fr.mono g1, ?_⟩
    have k1 := Kt.mono g1 k
    cases eb : Fb δ with
    | stuck => rw [Res.bind_ok, eb] at k1; exact k1
    | exc y => rw [Res.bind_ok, eb] at k1; exact fun S2 H2 g2 => k1 S2 H2 (g2.older g1.same)
    | ok y =>
      rw [Res.bind_ok, eb] at k1
      refine fun u S2 H2 g g2 i2 f2 => hr S2 H H2 x y v u f g Q g2.dom (g1.trans (g2.older g1.same)).same (i1.mono g2.sub g2.same) i2 ?_ (Kt.mono (g2.older g1.same) k1)
      exact (f1.grow g2 (footD i1)).app g1.same f2 (footD i1)
/-- a list of parts, then an operation on them -/
theorem tPn {Fs : Dl → Res (List D)} {op : List D → Res D} {r : List V → Hp → VK → Prop} {Q : VK}
    (hr : ∀ (S : Addr → Prop) (H0 H : Hp) (x : List D) (v : List V) (f : List Addr) (Q : VK), Dom S H → Le H0 H → IsL G S H v x f → Fresh H0 S f → (∃ δ, Fs δ = .ok x) → Kt G W σ S H0 H (op x) Q → r v H Q)
    (h : tP G W (fun δ => (Fs δ).bind op) σ H Q) : tPs G W Fs σ H fun x H1 => r x H1 Q := by
  obtain ⟨S, δ, dm, fr, k⟩ := h
  dsimp only at k
  refine ⟨S, δ, dm, fr, ?_⟩
  cases ea : Fs δ with
  | stuck => rw [ea] at k; exact k
  | exc x => rw [ea] at k; exact k
  | ok x =>
    rw [ea] at k
    exact fun v S1 H1 f g i fh => hr S1 H H1 x v f Q g.dom g.same i fh ⟨δ, ea⟩ (Kt.mono g k)
theorem tPs_cons {Fa : Dl → Res D} {Fs : Dl → Res (List D)} {Q : List V → Hp → Prop}
    (h : tPs G W (fun δ => (Fa δ).bind fun x => (Fs δ).bind fun xs => .ok (x :: xs)) σ H Q) : tCons (tP G W Fa) (tPs G W Fs) σ H Q := by
  obtain ⟨S, δ, dm, fr, k⟩ := h
  dsimp only at k
  refine ⟨S, δ, dm, fr, ?_⟩
  cases ea : Fa δ with
  | stuck => rw [ea] at k; exact k
  | exc x => rw [ea] at k; exact k
  | ok x =>
    rw [ea] at k
    refine fun v S1 H1 f g1 i1 f1 => ⟨S1, δ, g1.dom, fr.mono g1, ?_⟩
    have k1 := KtL.mono g1 k
    cases eb : Fs δ with
    | stuck => rw [Res.bind_ok, eb] at k1; exact k1
    | exc y => rw [Res.bind_ok, eb] at k1; exact fun S2 H2 g2 => k1 S2 H2 (g2.older g1.same)
    | ok y =>
      rw [Res.bind_ok, eb] at k1
      refine fun u S2 H2 g g2 i2 f2 => k1 (v :: u) S2 H2 (f ++ g) (g2.older g1.same) (.cons (i1.mono g2.sub g2.same) i2) ?_
      exact (f1.grow g2 (footD i1)).app g1.same f2 (footD i1)
theorem tPs_nil {Q : List V → Hp → Prop} (h : tPs G W (fun _ => .ok []) σ H Q) : tNil σ H Q := by
  obtain ⟨S, δ, dm, fr, k⟩ := h
  exact k [] S H [] (Gr.refl dm) .nil Fresh.nil
end
end Pw

/-! ## Operations on data -/
namespace Pw
open PySem PySem.Spec PyProof.Rows L2

section
variable {G : Kn} {S S' : Addr → Prop} {H H' : Hp} {v : V} {f : List Addr}
theorem Is.eInt {i : Int} (h : Is G S H v (.int i) f) : v = .int i ∧ f = [] := by cases h; exact ⟨rfl, rfl⟩
theorem Is.eBl {i : Bool} (h : Is G S H v (.bl i) f) : v = .bl i ∧ f = [] := by cases h; exact ⟨rfl, rfl⟩
theorem Is.eStr {i : Str} (h : Is G S H v (.str i) f) : v = .str i ∧ f = [] := by cases h; exact ⟨rfl, rfl⟩
theorem Is.eNon (h : Is G S H v .non f) : v = .non ∧ f = [] := by cases h; exact ⟨rfl, rfl⟩
theorem Is.eTup {ds : List D} (h : Is G S H v (.tup ds) f) : ∃ a xs, v = .ref a ∧ SqT G.K H a xs ∧ IsL G S H xs ds f := by cases h with | tup h r => exact ⟨_, _, rfl, h, r⟩
theorem Is.eLst {o : Bool} {ds : List D} (h : Is G S H v (.lst o ds) f) : ∃ a xs g, v = .ref a ∧ SqL G.K H a xs ∧ IsL G S H xs ds g ∧ g.Sublist f := by
  cases h with
  | lstK h r => exact ⟨_, _, _, rfl, .inr h, r, List.Sublist.refl _⟩
  | lstF hs h r => exact ⟨_, _, _, rfl, .inl h, r, List.Sublist.refl _⟩
  | lstO h r => exact ⟨_, _, _, rfl, SqL.of h, r, List.sublist_cons_self _ _⟩
end

/-! ### == on data -/
mutual
def toPy : D → PyData
  | .non => .none
  | .bl b => .bool b
  | .int i => .int i
  | .str x => .str x
  | .tup ds => .tuple (toPys ds)
  | .lst _ ds => .list (toPys ds)
  | .dct _ _ _ => .dict []
  | .dcu _ _ _ => .dict []
  | .obj _ _ _ _ => .dict []
  | .exc _ => .dict []
def toPys : List D → List PyData
  | [] => []
  | d :: ds => toPy d :: toPys ds
end
mutual
/-- a tree of plain things, no deeper than so -/
def plainD : Nat → D → Bool
  | _, .non => true
  | _, .bl _ => true
  | _, .int _ => true
  | _, .str x => PyData.strOk x
  | 0, .tup _ => false
  | n + 1, .tup ds => plainDs n ds
  | 0, .lst _ _ => false
  | n + 1, .lst _ ds => plainDs n ds
  | _, _ => false
def plainDs : Nat → List D → Bool
  | _, [] => true
  | n, d :: ds => plainD n d && plainDs n ds
end
mutual
theorem plain_shape : ∀ (n : Nat) (d : D), plainD n d = true → (toPy d).canLay0 = true ∧ (toPy d).depth ≤ n
  | _, .non, _ => by simp [toPy, PyData.canLay0, PyData.depth]
  | _, .bl _, _ => by simp [toPy, PyData.canLay0, PyData.depth]
  | _, .int _, _ => by simp [toPy, PyData.canLay0, PyData.depth]
  | _, .str _, h => by simpa [toPy, PyData.canLay0, PyData.depth, plainD] using h
  | 0, .tup ds, h => by simp [plainD] at h
  | 0, .lst _ ds, h => by simp [plainD] at h
  | n + 1, .tup ds, h => by
    obtain ⟨a, b⟩ := plain_shapes n ds (by simpa [plainD] using h)
    simp [toPy, PyData.canLay0, PyData.depth, a]
    omega
  | n + 1, .lst _ ds, h => by
    obtain ⟨a, b⟩ := plain_shapes n ds (by simpa [plainD] using h)
    simp [toPy, PyData.canLay0, PyData.depth, a]
    omega
  | 0, .dct _ _ _, h => by simp [plainD] at h
  | 0, .dcu _ _ _, h => by simp [plainD] at h
  | 0, .obj _ _ _ _, h => by simp [plainD] at h
  | 0, .exc _, h => by simp [plainD] at h
  | _ + 1, .dct _ _ _, h => by simp [plainD] at h
  | _ + 1, .dcu _ _ _, h => by simp [plainD] at h
  | _ + 1, .obj _ _ _ _, h => by simp [plainD] at h
  | _ + 1, .exc _, h => by simp [plainD] at h
theorem plain_shapes : ∀ (n : Nat) (ds : List D), plainDs n ds = true → PyData.canLayAll0 (toPys ds) = true ∧ PyData.depthAll (toPys ds) ≤ n
  | _, [], _ => by simp [toPys, PyData.canLayAll0, PyData.depthAll]
  | n, d :: ds, h => by
    rw [plainDs] at h
    obtain ⟨a, b⟩ := plain_shape n d (and2 h).1
    obtain ⟨c, e⟩ := plain_shapes n ds (and2 h).2
    simp [toPys, PyData.canLayAll0, PyData.depthAll, a, c]
    omega
end
mutual
theorem Is.dp {G : Kn} {S : Addr → Prop} {H : Hp} : ∀ {n : Nat} {v : V} {d : D} {f : List Addr}, Is G S H v d f → plainD n d = true → Dp G.K H v (toPy d)
  | _, _, _, _, .non, _ => by rw [toPy]; exact .non
  | _, _, _, _, .bl, _ => by rw [toPy]; exact .bl _
  | _, _, _, _, .int, _ => by rw [toPy]; exact .int _
  | _, _, _, _, .str, _ => by rw [toPy]; exact .str _
  | 0, _, _, _, .tup h r, p => by simp [plainD] at p
  | n + 1, _, _, _, .tup h r, p => by rw [toPy]; exact .tup h (IsL.dp (n := n) r (by simpa [plainD] using p))
  | 0, _, _, _, .lstK h r, p => by simp [plainD] at p
  | 0, _, _, _, .lstF hs h r, p => by simp [plainD] at p
  | 0, _, _, _, .lstO h r, p => by simp [plainD] at p
  | n + 1, _, _, _, .lstK h r, p => by rw [toPy]; exact .lst (.inr h) (IsL.dp (n := n) r (by simpa [plainD] using p))
  | n + 1, _, _, _, .lstF hs h r, p => by rw [toPy]; exact .lst (.inl h) (IsL.dp (n := n) r (by simpa [plainD] using p))
  | n + 1, _, _, _, .lstO h r, p => by rw [toPy]; exact .lst (SqL.of h) (IsL.dp (n := n) r (by simpa [plainD] using p))
  | n, _, _, _, .dctF .., p => by cases n <;> simp [plainD] at p
  | n, _, _, _, .dctO .., p => by cases n <;> simp [plainD] at p
  | n, _, _, _, .dcuF .., p => by cases n <;> simp [plainD] at p
  | n, _, _, _, .dcuO .., p => by cases n <;> simp [plainD] at p
  | n, _, _, _, .objF .., p => by cases n <;> simp [plainD] at p
  | n, _, _, _, .objO .., p => by cases n <;> simp [plainD] at p
theorem IsL.dp {G : Kn} {S : Addr → Prop} {H : Hp} : ∀ {n : Nat} {v : List V} {d : List D} {f : List Addr}, IsL G S H v d f → plainDs n d = true → DpAll G.K H v (toPys d)
  | _, _, _, _, .nil, _ => by rw [toPys]; exact .nil
  | n, _, _, _, .cons h r, p => by
    rw [plainDs] at p
    rw [toPys]
    exact .cons (Is.dp (n := n) h (and2 p).1) (IsL.dp (n := n) r (and2 p).2)
end
theorem plain_shaped {d : D} (h : plainD 60 d = true) : SeqAt.shaped (toPy d) = true := by
  obtain ⟨a, b⟩ := plain_shape 60 d h
  simp [SeqAt.shaped, a]
  omega

mutual
/-- == by the trees -/
def eqD : D → D → Bool
  | .non, .non => true
  | .bl a, .bl b => a == b
  | .bl a, .int j => (if a then 1 else 0) == j
  | .int i, .bl b => i == (if b then 1 else 0)
  | .int i, .int j => i == j
  | .str x, .str y => x == y
  | .lst _ xs, .lst _ ys => eqDs xs ys
  | .tup xs, .tup ys => eqDs xs ys
  | _, _ => false
def eqDs : List D → List D → Bool
  | [], [] => true
  | x :: xs, y :: ys => eqD x y && eqDs xs ys
  | _, _ => false
end
mutual
theorem eqD_py : ∀ x y : D, eqD x y = PyData.eqv (toPy x) (toPy y)
  | .lst _ xs, .lst _ ys => by simp only [eqD, toPy, PyData.eqv]; exact eqDs_py xs ys
  | .tup xs, .tup ys => by simp only [eqD, toPy, PyData.eqv]; exact eqDs_py xs ys
  | .non, y => by cases y <;> simp [eqD, toPy, PyData.eqv]
  | .bl _, y => by cases y <;> simp [eqD, toPy, PyData.eqv]
  | .int _, y => by cases y <;> simp [eqD, toPy, PyData.eqv]
  | .str _, y => by cases y <;> simp [eqD, toPy, PyData.eqv]
  | .dct _ _ _, y => by cases y <;> simp [eqD, toPy, PyData.eqv]
  | .dcu _ _ _, y => by cases y <;> simp [eqD, toPy, PyData.eqv]
  | .obj _ _ _ _, y => by cases y <;> simp [eqD, toPy, PyData.eqv]
  | .exc _, y => by cases y <;> simp [eqD, toPy, PyData.eqv]
  | .lst _ _, .non => by simp [eqD, toPy, PyData.eqv]
  | .lst _ _, .bl _ => by simp [eqD, toPy, PyData.eqv]
  | .lst _ _, .int _ => by simp [eqD, toPy, PyData.eqv]
  | .lst _ _, .str _ => by simp [eqD, toPy, PyData.eqv]
  | .lst _ _, .tup _ => by simp [eqD, toPy, PyData.eqv]
  | .lst _ _, .dct _ _ _ => by simp [eqD, toPy, PyData.eqv]
  | .lst _ _, .dcu _ _ _ => by simp [eqD, toPy, PyData.eqv]
  | .lst _ _, .obj _ _ _ _ => by simp [eqD, toPy, PyData.eqv]
  | .lst _ _, .exc _ => by simp [eqD, toPy, PyData.eqv]
  | .tup _, .non => by simp [eqD, toPy, PyData.eqv]
  | .tup _, .bl _ => by simp [eqD, toPy, PyData.eqv]
  | .tup _, .int _ => by simp [eqD, toPy, PyData.eqv]
  | .tup _, .str _ => by simp [eqD, toPy, PyData.eqv]
  | .tup _, .lst _ _ => by simp [eqD, toPy, PyData.eqv]
  | .tup _, .dct _ _ _ => by simp [eqD, toPy, PyData.eqv]
  | .tup _, .dcu _ _ _ => by simp [eqD, toPy, PyData.eqv]
  | .tup _, .obj _ _ _ _ => by simp [eqD, toPy, PyData.eqv]
  | .tup _, .exc _ => by simp [eqD, toPy, PyData.eqv]
theorem eqDs_py : ∀ x y : List D, eqDs x y = PyData.eqvAll (toPys x) (toPys y)
  | [], [] => by simp [eqDs, toPys, PyData.eqvAll]
  | [], _ :: _ => by simp [eqDs, toPys, PyData.eqvAll]
  | _ :: _, [] => by simp [eqDs, toPys, PyData.eqvAll]
  | x :: xs, y :: ys => by simp only [eqDs, toPys, PyData.eqvAll]; rw [eqD_py x y, eqDs_py xs ys]
end

/-! ### two-place operations -/
def MulOk (i j : Int) : Prop := CMulW i j ∨ CMul i j
instance (i j : Int) : Decidable (MulOk i j) := by unfold MulOk CMulW CMul; infer_instance
def DivOk (j : Int) : Prop := j ≠ 0 ∧ j.natAbs.log2 < 9000
instance (j : Int) : Decidable (DivOk j) := by unfold DivOk; infer_instance
instance (i j : Int) : Decidable (CPow i j) := by unfold CPow; infer_instance
def lim : Nat := 1000000
theorem lim_le {n : Nat} (h : n ≤ lim) : n ≤ sizeLine := Nat.le_trans h (by decide)
theorem lim_lt {n : Nat} (h : n ≤ lim) : n < sizeLine := Nat.lt_of_le_of_lt h (by decide)

def op2 : Operator → D → D → Res D
  | .Add, .int i, .int j => .ok (.int (i + j))
  | .Sub, .int i, .int j => .ok (.int (i - j))
  | .Mult, .int i, .int j => if MulOk i j then .ok (.int (i * j)) else .stuck
  | .FloorDiv, .int i, .int j => if DivOk j then .ok (.int (i.fdiv j)) else .stuck
  | .Mod, .int i, .int j => if j ≠ 0 then .ok (.int (i.fmod j)) else .stuck
  | .Pow, .int i, .int j => if CPow i j then .ok (.int (i ^ j.toNat)) else .stuck
  | .Add, .str x, .str y => if x.length + y.length ≤ lim then .ok (.str (x ++ y)) else .stuck
  | .Add, .lst _ ds, .lst _ es => if ds.length + es.length ≤ lim then .ok (.lst true (frzs ds ++ frzs es)) else .stuck
  | .Add, .tup ds, .tup es => if ds.length + es.length ≤ lim then .ok (.tup (frzs ds ++ frzs es)) else .stuck
  | _, _, _ => .stuck

def rStrAdd : R2 := fun x y H Q => ∃ i j, x = .str i ∧ y = .str j ∧ i.length + j.length ≤ sizeLine ∧ Q (.str (i ++ j)) H
/-- two lists together, lists that are read -/
def rCatL (K : PySem.W.Frag) : R2 := fun x y H Q => ∃ l b xs zs, x = .ref l ∧ y = .ref b ∧ SqL K H l xs ∧ SqL K H b zs ∧ xs.length + zs.length ≤ sizeLine ∧ ∀ p, H p = none → Q (.ref p) (upd H p (.lst (xs ++ zs)))
section
variable {X : Cx}
theorem op_catL : OpR X (binaryOp .Add) (rCatL X.K) := by
  intro pins s σ H x y v u Q I rx ry h
  obtain ⟨l, b, xs, zs, rfl, rfl, hl, hb, hz, q⟩ := h
  cases rx
  cases ry
  obtain ⟨its, r, ⟨⟨c1, d1, t1, s1⟩, n, e, ec, _, ed⟩, _⟩ := I.list hl
  obtain ⟨its2, r2, ⟨⟨c2, d2, t2, s2⟩, n2, e2, ec2, _, ed2⟩, _⟩ := I.list hb
  simp only at ec ed ec2 ed2
  subst ec ed ec2 ed2
  have l1 := r.length
  have l2 := r2.length
  refine concat_meets ⟨_, e, rfl⟩ ⟨_, e2, rfl⟩ noFill_list_add seq_list_add PySem.F.slot_list_add PySem.F.entry_list_add (PySem.F.args_list_add_2 _ _) (list_addW l b its.toArray its2.toArray n n2 d1 d2 s1 s2 (by rw [List.size_toArray, List.size_toArray]; omega)) ⟨e, e2, ?_⟩
  rw [show its.toArray ++ its2.toArray = (its ++ its2).toArray by simp]
  exact ⟨.ref s.heap.objs.size, _, I.lnew (t' := s.toks) (r.append r2) (by rw [List.length_append]; omega), rfl, q _ I.fresh⟩
theorem op_divD : OpR X (binaryOp .FloorDiv) (rI (fun _ j => DivOk j) fun i j => .int (i.fdiv j)) := opI fun _ _ _ _ _ _ _ hc q => floordiv_int hc.1 q (.inl (PyProof.noPylong_of_log2 hc.2))

/-- what binaryOp asks of two values -/
def rOp2 (K : PySem.W.Frag) : Operator → R2
  | .Add => fun x y H Q => rI0 (fun i j => .int (i + j)) x y H Q ∨ rStrAdd x y H Q ∨ rCatL K x y H Q ∨ rCatA K x y H Q
  | .Sub => rI0 fun i j => .int (i - j)
  | .Mult => fun x y H Q => rI CMulW (fun i j => .int (i * j)) x y H Q ∨ rI CMul (fun i j => .int (i * j)) x y H Q
  | .FloorDiv => rI (fun _ j => DivOk j) fun i j => .int (i.fdiv j)
  | .Mod => rI (fun _ j => j ≠ 0) fun i j => .int (i.fmod j)
  | .Pow => rI CPow fun i j => .int (i ^ j.toNat)
  | _ => fun _ _ _ _ => False
theorem rOp2_ok : ∀ op : Operator, OpR X (binaryOp op) (rOp2 X.K op)
  | .Add => op_add.or (OpR.or (r := rStrAdd) op_add_str (op_catL.or op_catA))
  | .Sub => op_sub
  | .Mult => op_mulW.or op_mul
  | .FloorDiv => op_divD
  | .Mod => op_modN
  | .Pow => op_pow
  | .MatMult => fun _ _ _ _ _ _ _ _ _ _ _ _ h => h.elim
  | .Div => fun _ _ _ _ _ _ _ _ _ _ _ _ h => h.elim
  | .LShift => fun _ _ _ _ _ _ _ _ _ _ _ _ h => h.elim
  | .RShift => fun _ _ _ _ _ _ _ _ _ _ _ _ h => h.elim
  | .BitOr => fun _ _ _ _ _ _ _ _ _ _ _ _ h => h.elim
  | .BitXor => fun _ _ _ _ _ _ _ _ _ _ _ _ h => h.elim
  | .BitAnd => fun _ _ _ _ _ _ _ _ _ _ _ _ h => h.elim
end

section
variable {G : Kn} {W : WX} {σ : L2.St} {S : Addr → Prop} {H0 H : Hp}
/-- what lies in a footprint is given away -/
theorem give_ok {f g : List Addr} (dm : Dom S H) (k : Le H0 H) (fr : Fresh H0 S (f ++ g)) (df : ∀ a ∈ f, H a ≠ none) (dg : ∀ a ∈ g, H a ≠ none) : Gr H0 S H (fun a => S a ∨ a ∈ f ++ g) H :=
  (Gr.refl dm).give fun a m => ⟨(fr.2 a m).2, (List.mem_append.mp m).elim (df a) (dg a)⟩
theorem Fresh.left {f g : List Addr} (fr : Fresh H0 S (f ++ g)) : Fresh H0 S f := fr.sub (List.sublist_append_left _ _)
theorem Fresh.right {f g : List Addr} (fr : Fresh H0 S (f ++ g)) : Fresh H0 S g := fr.sub (List.sublist_append_right _ _)
theorem frzs_len : ∀ ds : List D, (frzs ds).length = ds.length
  | [] => rfl
  | _ :: ds => congrArg (· + 1) (frzs_len ds)
theorem op2_ok {op : Operator} {x y : D} {v u : V} {f g : List Addr} {Q : VK} (dm : Dom S H) (k : Le H0 H) (ix : Is G S H v x f) (iy : Is G S H u y g) (fr : Fresh H0 S (f ++ g)) (h : Kt G W σ S H0 H (op2 op x y) Q) : rOp2 G.K op v u H Q := by
  unfold op2 at h
  split at h
  · obtain ⟨rfl, _⟩ := ix.eInt
    obtain ⟨rfl, _⟩ := iy.eInt
    exact .inl ⟨_, _, rfl, rfl, h.int dm⟩
  · obtain ⟨rfl, _⟩ := ix.eInt
    obtain ⟨rfl, _⟩ := iy.eInt
    exact ⟨_, _, rfl, rfl, h.int dm⟩
  · obtain ⟨rfl, _⟩ := ix.eInt
    obtain ⟨rfl, _⟩ := iy.eInt
    split at h
    · rename_i m
      rcases m with m | m
      · exact .inl ⟨_, _, rfl, rfl, m, h.int dm⟩
      · exact .inr ⟨_, _, rfl, rfl, m, h.int dm⟩
    · exact h.elim
  · obtain ⟨rfl, _⟩ := ix.eInt
    obtain ⟨rfl, _⟩ := iy.eInt
    split at h
    · exact ⟨_, _, rfl, rfl, by assumption, h.int dm⟩
    · exact h.elim
  · obtain ⟨rfl, _⟩ := ix.eInt
    obtain ⟨rfl, _⟩ := iy.eInt
    split at h
    · exact ⟨_, _, rfl, rfl, by assumption, h.int dm⟩
    · exact h.elim
  · obtain ⟨rfl, _⟩ := ix.eInt
    obtain ⟨rfl, _⟩ := iy.eInt
    split at h
    · exact ⟨_, _, rfl, rfl, by assumption, h.int dm⟩
    · exact h.elim
  · obtain ⟨rfl, _⟩ := ix.eStr
    obtain ⟨rfl, _⟩ := iy.eStr
    split at h
    · rename_i m
      exact .inr (.inl ⟨_, _, rfl, rfl, lim_le m, h.str dm⟩)
    · exact h.elim
  · rename_i o1 ds o2 es
    obtain ⟨a, xs, f1, rfl, hx, rx, s1⟩ := ix.eLst
    obtain ⟨b, ys, g1, rfl, hy, ry, s2⟩ := iy.eLst
    split at h
    · rename_i m
      rw [← rx.len, ← ry.len] at m
      refine .inr (.inr (.inl ⟨a, b, xs, ys, rfl, rfl, hx, hy, lim_le m, fun p hp => ?_⟩))
      have g1 := give_ok dm k fr (footD ix) (footD iy)
      have h2 := Kt.mono g1 h
      have e := (IsL.frz (S' := fun a => S a ∨ a ∈ f ++ g) (fun _ z => .inl z) rx fun a z => .inr (List.mem_append_left _ (s1.subset z))).append (IsL.frz (S' := fun a => S a ∨ a ∈ f ++ g) (fun _ z => .inl z) ry fun a z => .inr (List.mem_append_right _ (s2.subset z)))
      exact h2.lst g1.dom k e Fresh.nil hp
    · exact h.elim
  · rename_i ds es
    obtain ⟨a, xs, rfl, hx, rx⟩ := ix.eTup
    obtain ⟨b, ys, rfl, hy, ry⟩ := iy.eTup
    split at h
    · rename_i m
      rw [← rx.len, ← ry.len] at m
      have g1 := give_ok dm k fr (footD ix) (footD iy)
      have h2 := Kt.mono g1 h
      have e1 := IsL.frz (S' := fun a => S a ∨ a ∈ f ++ g) (fun _ z => .inl z) rx fun a z => .inr (List.mem_append_left _ z)
      have e2 := IsL.frz (S' := fun a => S a ∨ a ∈ f ++ g) (fun _ z => .inl z) ry fun a z => .inr (List.mem_append_right _ z)
      refine .inr (.inr (.inr ⟨a, b, xs, ys, rfl, rfl, hx, hy, lim_le m, fun z => ?_, fun _ z => ?_, fun _ _ p hp => ?_⟩))
      · subst z
        exact h2.here g1.dom (.tup hy (IsL.append e1 e2)) Fresh.nil
      · subst z
        refine h2.here g1.dom (.tup hx ?_) Fresh.nil
        have e := IsL.append e1 e2
        rw [List.append_nil] at e
        exact e
      · exact h2.tup g1.dom (IsL.append e1 e2) Fresh.nil hp
    · exact h.elim
  · exact h.elim
end
end Pw

/-! ## Comparisons of data -/
namespace Pw
open PySem PySem.Spec PyProof.Rows L2

def flatD : D → Bool
  | .non => true
  | .bl _ => true
  | .int _ => true
  | .str _ => true
  | _ => false
def scalD : D → D → Bool
  | .non, y => flatD y
  | x, .non => flatD x
  | .bl _, .bl _ => true
  | .int _, .int _ => true
  | .str _, .str _ => true
  | .str _, .int _ => true
  | .str _, .bl _ => true
  | .int _, .str _ => true
  | .bl _, .str _ => true
  | _, _ => false
def isNon : D → Bool
  | .non => true
  | _ => false
def eqOk (x y : D) : Bool := scalD x y || (plainD 60 x && plainD 60 y)
def inDs (x : D) (ds : List D) : Bool := ds.any fun z => eqD z x
def inOk (x : D) (ds : List D) : Bool := flatD x && ds.all flatD
def oneSign (x : Str) : Option Nat := match x.cps.toList with
  | [c] => some c
  | _ => none

def cmp2 : CmpOp → D → D → Res D
  | .Eq, x, y => if eqOk x y then .ok (.bl (eqD x y)) else .stuck
  | .NotEq, x, y => if eqOk x y then .ok (.bl (!eqD x y)) else .stuck
  | .Lt, .int i, .int j => .ok (.bl (decide (i < j)))
  | .LtE, .int i, .int j => .ok (.bl (decide (i ≤ j)))
  | .Gt, .int i, .int j => .ok (.bl (decide (j < i)))
  | .GtE, .int i, .int j => .ok (.bl (decide (j ≤ i)))
  | .Is, x, .non => .ok (.bl (isNon x))
  | .IsNot, x, .non => .ok (.bl (!isNon x))
  | .Is, .bl a, .bl b => .ok (.bl (decide (a = b)))
  | .IsNot, .bl a, .bl b => .ok (.bl (!decide (a = b)))
  | .In, x, .tup ds => if inOk x ds then .ok (.bl (inDs x ds)) else .stuck
  | .NotIn, x, .tup ds => if inOk x ds then .ok (.bl (!inDs x ds)) else .stuck
  | .In, x, .lst _ ds => if inOk x ds || (plainD 60 x && plainDs 59 ds) then .ok (.bl (inDs x ds)) else .stuck
  | .NotIn, x, .lst _ ds => if inOk x ds || (plainD 60 x && plainDs 59 ds) then .ok (.bl (!inDs x ds)) else .stuck
  | .In, .str c, .str z => match oneSign c with
    | some k => .ok (.bl (decide (k ∈ z.cps.toList)))
    | none => .stuck
  | .NotIn, .str c, .str z => match oneSign c with
    | some k => .ok (.bl (!decide (k ∈ z.cps.toList)))
    | none => .stuck
  | _, _, _ => .stuck

def rInSign (neg : Bool) : R2 := fun x y H Q => ∃ (c : Nat) (z : Str), x = .str ⟨#[c]⟩ ∧ y = .str z ∧ Q (.bl (if neg then !decide (c ∈ z.cps.toList) else decide (c ∈ z.cps.toList))) H
def rCmp (K : PySem.W.Frag) : CmpOp → R2
  | .Eq => fun x y H Q => rEq x y H Q ∨ rEqD K x y H Q
  | .NotEq => fun x y H Q => rNe x y H Q ∨ rNeD K x y H Q
  | .Lt => rI0 fun i j => .bl (decide (i < j))
  | .LtE => rI0 fun i j => .bl (decide (i ≤ j))
  | .Gt => rI0 fun i j => .bl (decide (j < i))
  | .GtE => rI0 fun i j => .bl (decide (j ≤ i))
  | .Is => fun x y H Q => (y = .non ∧ Q (.bl (decide (x = .non))) H) ∨ rIsB x y H Q
  | .IsNot => fun x y H Q => (y = .non ∧ Q (.bl (!decide (x = .non))) H) ∨ rNotB x y H Q
  | .In => fun x y H Q => rIn K false x y H Q ∨ rInD K x y H Q ∨ rInSign false x y H Q
  | .NotIn => fun x y H Q => rIn K true x y H Q ∨ rNotInD K x y H Q ∨ rInSign true x y H Q
theorem rCmp_ok {X : Cx} {k : Nat} (hr : Room k X.A) : ∀ op : CmpOp, OpR X (compareOp op) (rCmp X.K op)
  | .Eq => op_eq.or (op_eqD hr.units)
  | .NotEq => op_ne.or (op_neD hr.units)
  | .Lt => op_lt
  | .LtE => op_le
  | .Gt => op_gt
  | .GtE => op_ge
  | .Is => op_isN.or op_isBl
  | .IsNot => op_notN.or op_notBl
  | .In => op_in_seq.or ((op_inD (by have := hr.un; omega)).or op_in_sign)
  | .NotIn => op_notIn_seq.or ((op_notInD (by have := hr.un; omega)).or op_notIn_sign)

section
variable {G : Kn} {W : WX} {σ : L2.St} {S : Addr → Prop} {H0 H : Hp}
theorem Is.isNon {v : V} {d : D} {f : List Addr} (h : Is G S H v d f) : decide (v = .non) = isNon d := by cases h <;> simp [Pw.isNon]
theorem Is.flat {v : V} {d : D} {f : List Addr} (h : Is G S H v d f) (p : flatD d = true) : flatV v = true := by cases h <;> first | rfl | cases p
theorem IsL.flat : ∀ {v : List V} {d : List D} {f : List Addr}, IsL G S H v d f → d.all flatD = true → v.all flatV = true
  | _, _, _, .nil, _ => rfl
  | _, _, _, .cons h r, p => by
    simp only [List.all_cons, Bool.and_eq_true] at p ⊢
    exact ⟨h.flat p.1, IsL.flat r p.2⟩
theorem Is.eqV {v u : V} {d e : D} {f g : List Addr} (h : Is G S H v d f) (h2 : Is G S H u e g) (p : flatD d = true) (q : flatD e = true) : L2.eqV v u = eqD d e := by
  cases h <;> (first | cases p) <;> cases h2 <;> (first | cases q) <;> rfl
theorem IsL.inV {u : V} {e : D} {g : List Addr} (h2 : Is G S H u e g) (q : flatD e = true) : ∀ {v : List V} {d : List D} {f : List Addr}, IsL G S H v d f → d.all flatD = true → L2.inV u v = inDs e d
  | _, _, _, .nil, _ => rfl
  | _, _, _, .cons h r, p => by
    simp only [List.all_cons, Bool.and_eq_true] at p
    have e1 := h.eqV h2 p.1 q
    have e2 := IsL.inV h2 q r p.2
    simp only [L2.inV, inDs, List.any_cons] at e2 ⊢
    rw [e1, e2]
theorem scal_ok {v u : V} {d e : D} {f g : List Addr} (h : Is G S H v d f) (h2 : Is G S H u e g) (p : scalD d e = true) : scal v u = true ∧ decide (v = u) = eqD d e := by
  cases h <;> cases h2 <;> (first | (exact absurd (show false = true from p) Bool.false_ne_true) | (refine ⟨rfl, ?_⟩; simp [eqD]))
  all_goals (rw [Bool.eq_iff_iff]; simp)
theorem inDs_py (x : D) : ∀ ds : List D, inDs x ds = (toPys ds).any fun z => PyData.eqv z (toPy x)
  | [] => rfl
  | d :: ds => by
    have e := inDs_py x ds
    simp only [inDs, toPys, List.any_cons] at e ⊢
    rw [e, eqD_py]
theorem plainL {o : Bool} {ds : List D} (h : plainDs 59 ds = true) : plainD 60 (.lst o ds) = true := h
theorem sign_of {c : Str} {k : Nat} (h : oneSign c = some k) : c = ⟨#[k]⟩ := by
  unfold oneSign at h
  split at h
  · rename_i c' e
    cases h
    obtain ⟨⟨l⟩⟩ := c
    simp only at e
    rw [e]
  · cases h
theorem cmp_ok {op : CmpOp} {x y : D} {v u : V} {f g : List Addr} {Q : VK} (dm : Dom S H) (ix : Is G S H v x f) (iy : Is G S H u y g) (h : Kt G W σ S H0 H (cmp2 op x y) Q) : rCmp G.K op v u H Q := by
  unfold cmp2 at h
  split at h
  · split at h
    · rename_i p
      have q := h.bl dm
      rcases Bool.or_eq_true_iff.mp p with p | p
      · obtain ⟨e1, e2⟩ := scal_ok ix iy p
        exact .inl ⟨e1, by rw [e2]; exact q⟩
      · exact .inr ⟨_, _, ix.dp (and2 p).1, iy.dp (and2 p).2, plain_shaped (and2 p).1, plain_shaped (and2 p).2, by rw [← eqD_py]; exact q⟩
    · exact h.elim
  · split at h
    · rename_i p
      have q := h.bl dm
      rcases Bool.or_eq_true_iff.mp p with p | p
      · obtain ⟨e1, e2⟩ := scal_ok ix iy p
        exact .inl ⟨e1, by rw [e2]; exact q⟩
      · exact .inr ⟨_, _, ix.dp (and2 p).1, iy.dp (and2 p).2, plain_shaped (and2 p).1, plain_shaped (and2 p).2, by rw [← eqD_py]; exact q⟩
    · exact h.elim
  · obtain ⟨rfl, _⟩ := ix.eInt
    obtain ⟨rfl, _⟩ := iy.eInt
    exact ⟨_, _, rfl, rfl, h.bl dm⟩
  · obtain ⟨rfl, _⟩ := ix.eInt
    obtain ⟨rfl, _⟩ := iy.eInt
    exact ⟨_, _, rfl, rfl, h.bl dm⟩
  · obtain ⟨rfl, _⟩ := ix.eInt
    obtain ⟨rfl, _⟩ := iy.eInt
    exact ⟨_, _, rfl, rfl, h.bl dm⟩
  · obtain ⟨rfl, _⟩ := ix.eInt
    obtain ⟨rfl, _⟩ := iy.eInt
    exact ⟨_, _, rfl, rfl, h.bl dm⟩
  · obtain ⟨rfl, _⟩ := iy.eNon
    exact .inl ⟨rfl, by rw [ix.isNon]; exact h.bl dm⟩
  · obtain ⟨rfl, _⟩ := iy.eNon
    exact .inl ⟨rfl, by rw [ix.isNon]; exact h.bl dm⟩
  · obtain ⟨rfl, _⟩ := ix.eBl
    obtain ⟨rfl, _⟩ := iy.eBl
    exact .inr ⟨_, _, rfl, rfl, h.bl dm⟩
  · obtain ⟨rfl, _⟩ := ix.eBl
    obtain ⟨rfl, _⟩ := iy.eBl
    exact .inr ⟨_, _, rfl, rfl, h.bl dm⟩
  · obtain ⟨a, xs, rfl, hx, r⟩ := iy.eTup
    split at h
    · rename_i p
      exact .inl ⟨a, xs, rfl, .inr hx, ix.flat (and2 p).1, r.flat (and2 p).2, by rw [if_neg (by decide), IsL.inV ix (and2 p).1 r (and2 p).2]; exact h.bl dm⟩
    · exact h.elim
  · obtain ⟨a, xs, rfl, hx, r⟩ := iy.eTup
    split at h
    · rename_i p
      exact .inl ⟨a, xs, rfl, .inr hx, ix.flat (and2 p).1, r.flat (and2 p).2, by rw [if_pos rfl, IsL.inV ix (and2 p).1 r (and2 p).2]; exact h.bl dm⟩
    · exact h.elim
  · obtain ⟨a, xs, _, rfl, hx, r, _⟩ := id iy.eLst
    split at h
    · rename_i p
      rcases Bool.or_eq_true_iff.mp p with p | p
      · exact .inl ⟨a, xs, rfl, .inl hx, ix.flat (and2 p).1, r.flat (and2 p).2, by rw [if_neg (by decide), IsL.inV ix (and2 p).1 r (and2 p).2]; exact h.bl dm⟩
      · have e := iy.dp (n := 60) (plainL (and2 p).2)
        have z := plain_shaped (plainL (o := true) (and2 p).2)
        rw [toPy] at e z
        exact .inr (.inl ⟨_, _, ix.dp (and2 p).1, e, plain_shaped (and2 p).1, z, by rw [← inDs_py]; exact h.bl dm⟩)
    · exact h.elim
  · obtain ⟨a, xs, _, rfl, hx, r, _⟩ := id iy.eLst
    split at h
    · rename_i p
      rcases Bool.or_eq_true_iff.mp p with p | p
      · exact .inl ⟨a, xs, rfl, .inl hx, ix.flat (and2 p).1, r.flat (and2 p).2, by rw [if_pos rfl, IsL.inV ix (and2 p).1 r (and2 p).2]; exact h.bl dm⟩
      · have e := iy.dp (n := 60) (plainL (and2 p).2)
        have z := plain_shaped (plainL (o := true) (and2 p).2)
        rw [toPy] at e z
        exact .inr (.inl ⟨_, _, ix.dp (and2 p).1, e, plain_shaped (and2 p).1, z, by rw [← inDs_py]; exact h.bl dm⟩)
    · exact h.elim
  · obtain ⟨rfl, _⟩ := ix.eStr
    obtain ⟨rfl, _⟩ := iy.eStr
    split at h
    · rename_i k e
      exact .inr (.inr ⟨k, _, by rw [sign_of e], rfl, h.bl dm⟩)
    · exact h.elim
  · obtain ⟨rfl, _⟩ := ix.eStr
    obtain ⟨rfl, _⟩ := iy.eStr
    split at h
    · rename_i k e
      exact .inr (.inr ⟨k, _, by rw [sign_of e], rfl, h.bl dm⟩)
    · exact h.elim
  · exact h.elim
end
end Pw

/-! ## Codes of pure expressions, and what they come to -/
namespace Pw
open PySem PySem.Spec PyProof.Rows L2

inductive CRes where
  | stuck
  | ok (d : D) (outs : List D)
  | exc (x : Str) (outs : List D)

/-- what is known of the text's defs: by numbers -/
structure Tb where
  consts : List (Str × D)
  names : List Str
  pn : Nat → List Str
  ar : Nat → Nat
  dfl : Nat → List D
  io : Nat → List Nat
  call : Nat → Nat → List D → CRes

inductive Blt where
  | abs | len | str | int | tuple | list | all | any | max | min | sum
  deriving DecidableEq
inductive Ty where
  | int | bool | str | tuple | list
  deriving DecidableEq
inductive Tg where
  | one (i : Nat)
  | many (is : List Nat)

mutual
inductive C where
  | nop
  | non
  | bl (b : Bool)
  | int (i : Int)
  | str (x : Str)
  | v (i : Nat)
  | g (j : Nat)
  | bin (op : Operator) (a b : C)
  | neg (a : C)
  | nt (a : C)
  | cmp (op : CmpOp) (a b : C)
  | chn (op op2 : CmpOp) (a b c : C)
  | and (cs : Cs)
  | or (cs : Cs)
  | ite (t a b : C)
  | tup (cs : Cs)
  | lst (cs : Cs)
  | ddk
  | ddu
  | idx (a b : C)
  | sl (a lo hi : C)
  | call (f : Nat) (cs : Cs)
  | blt (b : Blt) (cs : Cs)
  | isi (a : C) (t : Ty)
  | comp (own : List (Str × Nat)) (tg : Tg) (it : Ic) (cd e : C)
inductive Cs where
  | nil
  | cons (c : C) (cs : Cs)
inductive Ic where
  | val (c : C)
  | rng1 (a : C)
  | rng2 (a b : C)
end

def isRng : Ic → Bool
  | .rng1 _ => true
  | .rng2 _ _ => true
  | _ => false

/-! ### parts of it -/
def absI (i : Int) : Int := if i < 0 then -i else i
def blsOf : List D → Option (List Bool)
  | [] => some []
  | .bl b :: ds => (blsOf ds).map (b :: ·)
  | _ :: _ => none
def intsOf : List D → Option (List Int)
  | [] => some []
  | .int b :: ds => (intsOf ds).map (b :: ·)
  | _ :: _ => none
def maxL : List Int → Int
  | [] => 0
  | [a] => a
  | a :: b :: r => if a ≤ maxL (b :: r) then maxL (b :: r) else a
def minL : List Int → Int
  | [] => 0
  | [a] => a
  | a :: b :: r => if minL (b :: r) ≤ a then minL (b :: r) else a
def oInts (o : Option (List Int)) (k : List Int → Res D) : Res D := match o with
  | some ns => k ns
  | none => .stuck
def oBls (o : Option (List Bool)) (k : List Bool → Res D) : Res D := match o with
  | some ns => k ns
  | none => .stuck
def bltD : Blt → List D → Res D
  | .abs, [.int i] => .ok (.int (absI i))
  | .len, [.str x] => if x.length ≤ lim then .ok (.int x.length) else .stuck
  | .len, [.tup ds] => .ok (.int ds.length)
  | .len, [.lst _ ds] => .ok (.int ds.length)
  | .str, [.int i] => if i.natAbs.log2 < 1920 then .ok (.str (toString i)) else .stuck
  | .int, [.int i] => .ok (.int i)
  | .int, [.bl b] => .ok (.int (if b then 1 else 0))
  | .tuple, [.tup ds] => .ok (.tup ds)
  | .tuple, [.lst _ ds] => .ok (.tup (frzs ds))
  | .list, [.tup ds] => .ok (.lst true (frzs ds))
  | .list, [.lst _ ds] => .ok (.lst true (frzs ds))
  | .all, [.lst _ ds] => oBls (blsOf ds) fun bs => .ok (.bl (bs.all id))
  | .any, [.lst _ ds] => oBls (blsOf ds) fun bs => .ok (.bl (bs.any id))
  | .max, [.int i, .int j] => .ok (.int (if j > i then j else i))
  | .min, [.int i, .int j] => .ok (.int (if j < i then j else i))
  | .max, [.lst _ ds] => oInts (intsOf ds) fun ns => if ns = [] then .stuck else .ok (.int (maxL ns))
  | .min, [.lst _ ds] => oInts (intsOf ds) fun ns => if ns = [] then .stuck else .ok (.int (minL ns))
  | .sum, [.lst _ ds] => oInts (intsOf ds) fun ns => .ok (.int ns.sum)
  | _, _ => .stuck
def isTy : D → Ty → Res D
  | .obj _ _ _ _, _ => .stuck
  | .exc _, _ => .stuck
  | .dcu _ _ _, _ => .stuck
  | .int _, .int => .ok (.bl true)
  | .bl _, .int => .ok (.bl true)
  | .bl _, .bool => .ok (.bl true)
  | .str _, .str => .ok (.bl true)
  | .tup _, .tuple => .ok (.bl true)
  | .lst _ _, .list => .ok (.bl true)
  | _, _ => .ok (.bl false)
def ixR (n : Nat) (i : Int) : Option Nat := if 0 ≤ i then (if i < n then some i.toNat else none) else if -(n : Int) ≤ i then some (i + n).toNat else none
def ixL (ds : List D) (o : Option Nat) : Res D := match o with
  | none => .stuck
  | some j => match ds[j]? with
    | some d => .ok (frz d)
    | none => .stuck
def ixD : D → D → Res D
  | .tup ds, .int i => ixL ds (ixR ds.length i)
  | .lst _ ds, .int i => ixL ds (ixR ds.length i)
  | .str x, .int i => if x.length ≤ lim then (match atI x.cps.toList i with
    | some c => .ok (.str ⟨#[c]⟩)
    | none => .stuck) else .stuck
  | _, _ => .stuck
def cutD (ds : List D) (lo hi : Option Int) : List D := (ds.drop (HT.sIx ds.length 0 lo)).take (HT.sIx ds.length ds.length hi - HT.sIx ds.length 0 lo)
def slD : D → Option Int → Option Int → Res D
  | .tup ds, lo, hi => .ok (.tup (frzs (cutD ds lo hi)))
  | .lst _ ds, lo, hi => .ok (.lst true (frzs (cutD ds lo hi)))
  | .str x, lo, hi => if x.length ≤ lim then .ok (.str (L2.cutS x lo hi)) else .stuck
  | _, _, _ => .stuck
def oInt (r : Res D) (k : Option Int → Res D) : Res D := r.bind fun d => match d with
  | .int i => k (some i)
  | _ => .stuck
/-- no exception is let out of a comprehension -/
def noExc {α : Type} : Res α → Res α
  | .ok a => .ok a
  | _ => .stuck
def wipeD (δ : Dl) : List Nat → Dl
  | [] => δ
  | i :: r => (wipeD δ r).set i none
def setAll (δ : Dl) : List Nat → List D → Option Dl
  | [], [] => some δ
  | i :: is, d :: ds => setAll (δ.set i (some d)) is ds
  | _, _ => none
def bindTg (δ : Dl) : Tg → D → Option Dl
  | .one i, d => some (δ.set i (some d))
  | .many is, .tup ds => setAll δ is ds
  | _, _ => none
def keepIf (cd : Res D) (e : Res D) : Res (Option D) := cd.bind fun b => match b with
  | .bl true => e.bind fun y => .ok (some y)
  | .bl false => .ok none
  | _ => .stuck
def compL (f : D → Res (Option D)) : List D → Res (List D)
  | [] => .ok []
  | d :: ds => (f d).bind fun o => (compL f ds).bind fun ys => .ok (match o with
    | some y => y :: ys
    | none => ys)
def withTg (δ : Dl) (tg : Tg) (d : D) (k : Dl → Res (Option D)) : Res (Option D) := match bindTg δ tg d with
  | some δ1 => k δ1
  | none => .stuck
/-- lo, lo + 1, .. -/
def rngD (lo : Int) (n : Nat) : List D := (List.range n).map fun (i : Nat) => D.int (lo + (i : Int))
def rngR (lo hi : Int) : Res (List D) := if -(2 ^ 62) ≤ lo ∧ lo < 2 ^ 62 ∧ -(2 ^ 62) ≤ hi ∧ hi < 2 ^ 62 then .ok (rngD lo (hi - lo).toNat) else .stuck
def itemsOf : D → Res (List D)
  | .tup ds => .ok (frzs ds)
  | .lst _ ds => .ok (frzs ds)
  | _ => .stuck
def rng1D : D → Res (List D)
  | .int n => rngR 0 n
  | _ => .stuck
def rng2D : D → D → Res (List D)
  | .int a, .int b => rngR a b
  | _, _ => .stuck
def callP (T : Tb) (k f : Nat) (ds : List D) : Res D := match T.call k f (frzs ds ++ (T.dfl f).drop ((T.dfl f).length - (T.ar f - ds.length))) with
  | .stuck => .stuck
  | .ok d _ => .ok d
  | .exc x _ => .exc x
def negD : D → Res D
  | .int i => .ok (.int (-i))
  | _ => .stuck
def ntD : D → Res D
  | .bl b => .ok (.bl (!b))
  | _ => .stuck
def iteD (t : D) (a b : Res D) : Res D := match t with
  | .bl true => a
  | .bl false => b
  | _ => .stuck
def andD (t : D) (r : Res D) : Res D := match t with
  | .bl true => r
  | .bl false => .ok (.bl false)
  | _ => .stuck
def orD (t : D) (r : Res D) : Res D := match t with
  | .bl true => .ok (.bl true)
  | .bl false => r
  | _ => .stuck
def slotD (o : Option (Option D)) : Res D := match o with
  | some (some d) => .ok d
  | _ => .stuck
def constD (o : Option (Str × D)) : Res D := match o with
  | some p => .ok p.2
  | none => .stuck
def lenOk (ds : List D) (r : Res D) : Res D := if ds.length ≤ lim then r else .stuck
def optD (c : C) (r : Res D) (k : Option Int → Res D) : Res D := match c with
  | .nop => k none
  | _ => oInt r k

mutual
def evP (T : Tb) (k : Nat) : C → Dl → Res D
  | .nop, _ => .ok (.bl true)
  | .non, _ => .ok .non
  | .bl b, _ => .ok (.bl b)
  | .int i, _ => .ok (.int i)
  | .str x, _ => .ok (.str x)
  | .v i, δ => slotD δ[i]?
  | .g j, _ => constD T.consts[j]?
  | .bin op a b, δ => (evP T k a δ).bind fun x => (evP T k b δ).bind fun y => op2 op x y
  | .neg a, δ => (evP T k a δ).bind negD
  | .nt a, δ => (evP T k a δ).bind ntD
  | .cmp op a b, δ => (evP T k a δ).bind fun x => (evP T k b δ).bind fun y => cmp2 op x y
  | .chn op op2 a b c, δ => (evP T k a δ).bind fun x => (evP T k b δ).bind fun y => (cmp2 op x y).bind fun t => andD t ((evP T k c δ).bind fun z => cmp2 op2 y z)
  | .and cs, δ => evAnd T k cs δ
  | .or cs, δ => evOr T k cs δ
  | .ite t a b, δ => (evP T k t δ).bind fun x => iteD x (evP T k a δ) (evP T k b δ)
  | .tup cs, δ => (evPs T k cs δ).bind fun ds => lenOk ds (.ok (.tup ds))
  | .lst cs, δ => (evPs T k cs δ).bind fun ds => lenOk ds (.ok (.lst true ds))
  | .ddk, _ => .ok (.dct true [] [])
  | .ddu, _ => .ok (.dcu true [] [])
  | .idx a b, δ => (evP T k a δ).bind fun x => (evP T k b δ).bind fun y => ixD x y
  | .sl a lo hi, δ => (evP T k a δ).bind fun x => optD lo (evP T k lo δ) fun l => optD hi (evP T k hi δ) fun h => slD x l h
  | .call f cs, δ => (evPs T k cs δ).bind fun ds => callP T k f ds
  | .blt b cs, δ => (evPs T k cs δ).bind fun ds => bltD b ds
  | .isi a t, δ => (evP T k a δ).bind fun x => isTy x t
  | .comp own tg it cd e, δ => (evI T k it δ).bind fun ds => lenOk ds ((compL (fun d => noExc (withTg (wipeD δ (own.map (·.2))) tg d fun δ1 => keepIf (evP T k cd δ1) (evP T k e δ1))) ds).bind fun ys => .ok (.lst true ys))
termination_by structural x => x
def evPs (T : Tb) (k : Nat) : Cs → Dl → Res (List D)
  | .nil, _ => .ok []
  | .cons c cs, δ => (evP T k c δ).bind fun x => (evPs T k cs δ).bind fun xs => .ok (x :: xs)
termination_by structural x => x
def evAnd (T : Tb) (k : Nat) : Cs → Dl → Res D
  | .nil, _ => .stuck
  | .cons c .nil, δ => evP T k c δ
  | .cons c cs, δ => (evP T k c δ).bind fun x => andD x (evAnd T k cs δ)
termination_by structural x => x
def evOr (T : Tb) (k : Nat) : Cs → Dl → Res D
  | .nil, _ => .stuck
  | .cons c .nil, δ => evP T k c δ
  | .cons c cs, δ => (evP T k c δ).bind fun x => orD x (evOr T k cs δ)
termination_by structural x => x
def evI (T : Tb) (k : Nat) : Ic → Dl → Res (List D)
  | .val c, δ => (evP T k c δ).bind itemsOf
  | .rng1 a, δ => (evP T k a δ).bind rng1D
  | .rng2 a b, δ => (evP T k a δ).bind fun x => (evP T k b δ).bind fun y => rng2D x y
termination_by structural x => x
end

/-! ### a code against the text -/
def plainE : Expr → Bool
  | .Starred _ _ => false
  | .Set _ _ _ => false
  | .Slice _ _ _ _ => false
  | _ => true
/-- an expression whose truth is asked by its value -/
def valueE : Expr → Bool
  | .UnaryOp _ _ _ => false
  | .BoolOp _ _ _ => false
  | .IfExp _ _ _ _ => false
  | .Compare _ _ _ _ => false
  | .Starred _ _ => false
  | .Slice _ _ _ _ => false
  | _ => true
def visB (sc : Scope) (x : Str) : Bool := match sc.names.lookup x with
  | some .local => true
  | some .cell => true
  | some .free => true
  | _ => false
def gloB (sc : Scope) (x : Str) : Bool := (match sc.names.lookup x with
  | some .globalImplicit => true
  | _ => false) && !(x == ("__debug__" : Str)) && !(x == ("__name__" : Str))
def bltName : Blt → Str
  | .abs => "abs" | .len => "len" | .str => "str" | .int => "int" | .tuple => "tuple" | .list => "list" | .all => "all" | .any => "any" | .max => "max" | .min => "min" | .sum => "sum"
def tyName : Ty → String
  | .int => "int" | .bool => "bool" | .str => "str" | .tuple => "tuple" | .list => "list"
def tgIn (own : List Nat) : Tg → Bool
  | .one i => decide (i ∈ own)
  | .many is => is.all fun i => decide (i ∈ own)
/-- names stored by a target -/
def locB (sc : Scope) (N : List Str) (fn : Bool) (i : Nat) (e : Expr) : Bool := match e with
  | .Name x _ => decide (N[i]? = some x) && (match sc.names.lookup x with
    | some .local => true
    | some .cell => fn
    | _ => false)
  | _ => false
def locBs (sc : Scope) (N : List Str) (fn : Bool) : List Nat → List Expr → Bool
  | [], [] => true
  | i :: is, e :: es => locB sc N fn i e && locBs sc N fn is es
  | _, _ => false
def tgB (sc : Scope) (N : List Str) (fn : Bool) : Tg → Expr → Bool
  | .one i, e => locB sc N fn i e
  | .many is, .Tuple es _ _ => locBs sc N fn is es
  | _, _ => false
/-- free names of the built-ins -/
def freeB (fr : List Str) (sc : Scope) (x : Str) : Bool := decide (x ∈ fr) && gloB sc x

def isNop : C → Bool
  | .nop => true
  | _ => false

mutual
def chk (T : Tb) (fr N : List Str) : C → Scope → Expr → Bool
  | .non, _, .Constant .none _ _ => true
  | .bl b, _, .Constant (.bool c) _ _ => b == c
  | .int i, _, .Constant (.int j) _ _ => decide (i = j)
  | .str x, _, .Constant (.str y) _ _ => decide (x = y)
  | .v i, sc, .Name x _ => decide (N[i]? = some x) && visB sc x && !(x == ("__debug__" : Str)) && !(x == ("__classdict__" : Str))
  | .g j, sc, .Name x _ => (match T.consts[j]? with
    | some p => decide (p.1 = x)
    | none => false) && gloB sc x
  | .bin op a b, sc, .BinOp l o r _ => decide (op = o) && chk T fr N a sc l && chk T fr N b sc r
  | .neg a, sc, .UnaryOp .USub e _ => chk T fr N a sc e
  | .nt a, sc, .UnaryOp .Not e _ => chk T fr N a sc e
  | .cmp op a b, sc, .Compare l [o] [r] _ => decide (op = o) && chk T fr N a sc l && chk T fr N b sc r && !behindInMarks op r
  | .chn op op2 a b c, sc, .Compare l [o, o2] [m, r] _ => decide (op = o) && decide (op2 = o2) && chk T fr N a sc l && chk T fr N b sc m && chk T fr N c sc r && !behindInMarks op2 r
  | .and cs, sc, .BoolOp .And es _ => chks T fr N cs sc es
  | .or cs, sc, .BoolOp .Or es _ => chks T fr N cs sc es
  | .ite t a b, sc, .IfExp e1 e2 e3 _ => chk T fr N t sc e1 && chk T fr N a sc e2 && chk T fr N b sc e3
  | .tup cs, sc, .Tuple es _ _ => chks T fr N cs sc es
  | .lst cs, sc, .List es _ => chks T fr N cs sc es
  | .ddk, _, .Dict [] [] _ => true
  | .ddu, _, .Dict [] [] _ => true
  | .idx a b, sc, .Subscript e1 e2 _ => chk T fr N a sc e1 && chk T fr N b sc e2 && plainE e2
  | .sl a lo hi, sc, .Subscript e1 (.Slice l h none _) _ => chk T fr N a sc e1 && (match l with
    | none => isNop lo
    | some l1 => chk T fr N lo sc l1) && (match h with
    | none => isNop hi
    | some h1 => chk T fr N hi sc h1)
  | .call f cs, sc, .Call (.Name x _) es [] _ => decide (T.names[f]? = some x) && gloB sc x && chks T fr N cs sc es && Nat.ble (T.ar f) (es.length + (T.dfl f).length) && Nat.ble es.length (T.ar f)
  | .blt b cs, sc, .Call (.Name x _) es [] _ => decide (bltName b = x) && freeB fr sc x && chks T fr N cs sc es && !es.isEmpty
  | .isi a t, sc, .Call (.Name x _) [e, .Name y _] [] _ => decide (x = "isinstance") && freeB fr sc x && decide (y = (tyName t : Str)) && freeB fr sc y && chk T fr N a sc e && plainE e
  | .comp own tg it cd e, sc, .ListComp el [⟨t, ite, ifs, 0⟩] scp _ => chki T fr N it sc ite && blkC N sc scp own && tgIn (own.map (·.2)) tg && tgB (relS scp sc) N false tg t && (match ifs with
    | [] => isNop cd
    | [f1] => chk T fr N cd (relS scp sc) f1
    | _ => false) && chk T fr N e (relS scp sc) el
  | _, _, _ => false
termination_by structural x => x
def chks (T : Tb) (fr N : List Str) : Cs → Scope → List Expr → Bool
  | .nil, _, [] => true
  | .cons c cs, sc, e :: es => chk T fr N c sc e && plainE e && chks T fr N cs sc es
  | _, _, _ => false
termination_by structural x => x
def chki (T : Tb) (fr N : List Str) : Ic → Scope → Expr → Bool
  | .val c, sc, e => chk T fr N c sc e && plainE e
  | .rng1 a, sc, .Call (.Name x _) [e] [] _ => decide (x = "range") && freeB fr sc x && chk T fr N a sc e && plainE e
  | .rng2 a b, sc, .Call (.Name x _) [e, e2] [] _ => decide (x = "range") && freeB fr sc x && chk T fr N a sc e && plainE e && chk T fr N b sc e2 && plainE e2
  | _, _, _ => false
termination_by structural x => x
end
end Pw

/-! ## The codes' soundness: calls of built-ins, of defs -/
namespace Pw
open PySem PySem.Spec PyProof.Rows L2

/-! ### built-ins -/
def bltVal : Blt → Value
  | .abs => .builtin "abs" | .len => .builtin "len" | .str => .type "str" | .int => .type "int" | .tuple => .type "tuple" | .list => .type "list"
  | .all => .builtin "all" | .any => .builtin "any" | .max => .builtin "max" | .min => .builtin "min" | .sum => .builtin "sum"
def rBlt (K : PySem.W.Frag) : Blt → List V → Hp → VK → Prop
  | .abs => fun xs H Q => ∃ i, xs = [.int i] ∧ Q (.int (if i < 0 then -i else i)) H
  | .len => fun xs H Q => (∃ p ys, xs = [.ref p] ∧ (SqL K H p ys ∨ SqT K H p ys) ∧ Q (.int ys.length) H) ∨ ∃ z, xs = [.str z] ∧ z.length ≤ sizeLine ∧ Q (.int z.length) H
  | .str => fun xs H Q => ∃ i, xs = [.int i] ∧ i.natAbs.log2 < 1920 ∧ Q (.str (toString i)) H
  | .int => fun xs H Q => (∃ i, xs = [.int i] ∧ Q (.int i) H) ∨ ∃ k, xs = [.bl k] ∧ Q (.int (if k then 1 else 0)) H
  | .tuple => fun xs H Q => ∃ p ys, xs = [.ref p] ∧ ((SqL K H p ys ∧ ∀ l, H l = none → Q (.ref l) (upd H l (.tup ys))) ∨ (SqT K H p ys ∧ Q (.ref p) H))
  | .list => fun xs H Q => ∃ p ys, xs = [.ref p] ∧ (SqL K H p ys ∨ SqT K H p ys) ∧ ∀ l, H l = none → Q (.ref l) (upd H l (.lst ys))
  | .all => rAll K
  | .any => rAny K
  | .max => fun xs H Q => (∃ i j, xs = [.int i, .int j] ∧ Q (.int (if j > i then j else i)) H) ∨ rMax K xs H Q
  | .min => fun xs H Q => (∃ i j, xs = [.int i, .int j] ∧ Q (.int (if j < i then j else i)) H) ∨ rMin K xs H Q
  | .sum => rSum K
theorem rBlt_ok {X : Cx} (hc : X.calm = true) : ∀ b : Blt, CallR X (bltVal b) (rBlt X.K b)
  | .abs => call_abs
  | .len => call_len_seq.or call_len_str
  | .str => call_str_int
  | .int => call_int1
  | .tuple => call_tuple_of
  | .list => call_list_of
  | .all => cr_all hc
  | .any => cr_any hc
  | .max => (call_max2 hc).or (cr_max hc)
  | .min => (call_min2 hc).or (cr_min hc)
  | .sum => cr_sum hc

section
variable {G : Kn} {W : WX} {σ : L2.St} {S : Addr → Prop} {H0 H : Hp}
theorem IsL.one {vs : List V} {d : D} {f : List Addr} (h : IsL G S H vs [d] f) : ∃ v, vs = [v] ∧ Is G S H v d f := by
  cases h with
  | cons h r =>
    cases r
    exact ⟨_, rfl, by rw [List.append_nil]; exact h⟩
theorem IsL.two {vs : List V} {d e : D} {f : List Addr} (h : IsL G S H vs [d, e] f) : ∃ v u g k, vs = [v, u] ∧ Is G S H v d g ∧ Is G S H u e k ∧ f = g ++ k := by
  cases h with
  | cons h r =>
    obtain ⟨u, rfl, q⟩ := r.one
    exact ⟨_, _, _, _, rfl, h, q, rfl⟩
theorem bls_of : ∀ {ds : List D} {bs : List Bool} {xs : List V} {f : List Addr}, IsL G S H xs ds f → blsOf ds = some bs → xs = bs.map V.bl
  | [], bs, _, _, h, e => by
    cases h
    cases Option.some.inj e
    rfl
  | d :: ds, bs, _, _, h, e => by
    cases h with
    | cons h r =>
      cases d with
      | bl b =>
        obtain ⟨bs', e1, e2⟩ := Option.map_eq_some_iff.mp (show (blsOf ds).map (b :: ·) = some bs from e)
        subst e2
        obtain ⟨rfl, _⟩ := h.eBl
        rw [bls_of r e1]
        rfl
      | _ => cases e
theorem ints_of : ∀ {ds : List D} {ns : List Int} {xs : List V} {f : List Addr}, IsL G S H xs ds f → intsOf ds = some ns → xs = ns.map V.int
  | [], ns, _, _, h, e => by
    cases h
    cases Option.some.inj e
    rfl
  | d :: ds, ns, _, _, h, e => by
    cases h with
    | cons h r =>
      cases d with
      | int b =>
        obtain ⟨ns', e1, e2⟩ := Option.map_eq_some_iff.mp (show (intsOf ds).map (b :: ·) = some ns from e)
        subst e2
        obtain ⟨rfl, _⟩ := h.eInt
        rw [ints_of r e1]
        rfl
      | _ => cases e
theorem maxL_is : ∀ (ns : List Int) (m : Int), m ∈ ns → (∀ y, y ∈ ns → y ≤ m) → m = maxL ns
  | [], m, h, _ => nomatch h
  | [a], m, h, _ => by simpa [maxL] using h
  | a :: b :: r, m, h, k => by
    have top : ∀ l : List Int, l ≠ [] → maxL l ∈ l := by
      intro l
      induction l with
      | nil => intro z; exact absurd rfl z
      | cons c l ih =>
        intro _
        cases l with
        | nil => simp [maxL]
        | cons d l =>
          have q := ih (by simp)
          rw [maxL]
          split
          · exact List.mem_cons_of_mem _ q
          · exact List.mem_cons_self
    have big : ∀ l : List Int, ∀ y ∈ l, y ≤ maxL l := by
      intro l
      induction l with
      | nil => intro y z; cases z
      | cons c l ih =>
        intro y z
        cases l with
        | nil => simp at z; simp [maxL, z]
        | cons d l =>
          rw [maxL]
          have q := ih
          split <;> rcases List.mem_cons.mp z with e | e
          · omega
          · exact q y e
          · omega
          · have := q y e; omega
    have e1 := big _ m h
    have e2 := k _ (top (a :: b :: r) (by simp))
    omega
theorem minL_is : ∀ (ns : List Int) (m : Int), m ∈ ns → (∀ y, y ∈ ns → m ≤ y) → m = minL ns
  | [], m, h, _ => nomatch h
  | [a], m, h, _ => by simpa [minL] using h
  | a :: b :: r, m, h, k => by
    have top : ∀ l : List Int, l ≠ [] → minL l ∈ l := by
      intro l
      induction l with
      | nil => intro z; exact absurd rfl z
      | cons c l ih =>
        intro _
        cases l with
        | nil => simp [minL]
        | cons d l =>
          have q := ih (by simp)
          rw [minL]
          split
          · exact List.mem_cons_of_mem _ q
          · exact List.mem_cons_self
    have big : ∀ l : List Int, ∀ y ∈ l, minL l ≤ y := by
      intro l
      induction l with
      | nil => intro y z; cases z
      | cons c l ih =>
        intro y z
        cases l with
        | nil => simp at z; simp [minL, z]
        | cons d l =>
          rw [minL]
          have q := ih
          split <;> rcases List.mem_cons.mp z with e | e
          · omega
          · exact q y e
          · omega
          · have := q y e; omega
    have e1 := big _ m h
    have e2 := k _ (top (a :: b :: r) (by simp))
    omega
theorem give1 {f : List Addr} (dm : Dom S H) (fr : Fresh H0 S f) (df : ∀ a ∈ f, H a ≠ none) : Gr H0 S H (fun a => S a ∨ a ∈ f) H := (Gr.refl dm).give fun a m => ⟨(fr.2 a m).2, df a m⟩
/-- a part of what lies there, given away -/
theorem part_ok {xs : List V} {ds : List D} {g f : List Addr} (r : IsL G S H xs ds g) (s : g.Sublist f) : IsL G (fun a => S a ∨ a ∈ f) H xs (frzs ds) [] := IsL.frz (S' := fun a => S a ∨ a ∈ f) (fun _ z => .inl z) r fun a z => .inr (s.subset z)
theorem blt_ok {b : Blt} {ds : List D} {vs : List V} {f : List Addr} {Q : VK} (dm : Dom S H) (k : Le H0 H) (i : IsL G S H vs ds f) (fr : Fresh H0 S f) (h : Kt G W σ S H0 H (bltD b ds) Q) : rBlt G.K b vs H Q := by
  have g1 := give1 dm fr (footDL i)
  unfold bltD at h
  split at h
  · obtain ⟨v, rfl, q⟩ := i.one
    obtain ⟨rfl, _⟩ := q.eInt
    exact ⟨_, rfl, h.int dm⟩
  · obtain ⟨v, rfl, q⟩ := i.one
    obtain ⟨rfl, _⟩ := q.eStr
    split at h
    · exact .inr ⟨_, rfl, lim_le (by assumption), h.int dm⟩
    · exact h.elim
  · obtain ⟨v, rfl, q⟩ := i.one
    obtain ⟨a, xs, rfl, hx, r⟩ := q.eTup
    exact .inl ⟨a, xs, rfl, .inr hx, by rw [r.len]; exact h.int dm⟩
  · obtain ⟨v, rfl, q⟩ := i.one
    obtain ⟨a, xs, _, rfl, hx, r, _⟩ := q.eLst
    exact .inl ⟨a, xs, rfl, .inl hx, by rw [r.len]; exact h.int dm⟩
  · obtain ⟨v, rfl, q⟩ := i.one
    obtain ⟨rfl, _⟩ := q.eInt
    split at h
    · exact ⟨_, rfl, by assumption, h.str dm⟩
    · exact h.elim
  · obtain ⟨v, rfl, q⟩ := i.one
    obtain ⟨rfl, _⟩ := q.eInt
    exact .inl ⟨_, rfl, h.int dm⟩
  · obtain ⟨v, rfl, q⟩ := i.one
    obtain ⟨rfl, _⟩ := q.eBl
    exact .inr ⟨_, rfl, h.int dm⟩
  · obtain ⟨v, rfl, q⟩ := i.one
    obtain ⟨a, xs, rfl, hx, r⟩ := q.eTup
    exact ⟨a, xs, rfl, .inr ⟨hx, h.here dm q fr⟩⟩
  · obtain ⟨v, rfl, q⟩ := i.one
    obtain ⟨a, xs, g, rfl, hx, r, s⟩ := q.eLst
    exact ⟨a, xs, rfl, .inl ⟨hx, fun l hl => (Kt.mono g1 h).tup g1.dom (part_ok r s) Fresh.nil hl⟩⟩
  · obtain ⟨v, rfl, q⟩ := i.one
    obtain ⟨a, xs, rfl, hx, r⟩ := q.eTup
    exact ⟨a, xs, rfl, .inr hx, fun l hl => (Kt.mono g1 h).lst g1.dom k (part_ok r (List.Sublist.refl _)) Fresh.nil hl⟩
  · obtain ⟨v, rfl, q⟩ := i.one
    obtain ⟨a, xs, g, rfl, hx, r, s⟩ := q.eLst
    exact ⟨a, xs, rfl, .inl hx, fun l hl => (Kt.mono g1 h).lst g1.dom k (part_ok r s) Fresh.nil hl⟩
  · obtain ⟨v, rfl, q⟩ := i.one
    obtain ⟨a, xs, g, rfl, hx, r, s⟩ := q.eLst
    unfold oBls at h
    split at h
    · rename_i bs e
      rw [bls_of r e] at hx
      exact ⟨a, bs, rfl, hx, h.bl dm⟩
    · exact h.elim
  · obtain ⟨v, rfl, q⟩ := i.one
    obtain ⟨a, xs, g, rfl, hx, r, s⟩ := q.eLst
    unfold oBls at h
    split at h
    · rename_i bs e
      rw [bls_of r e] at hx
      exact ⟨a, bs, rfl, hx, h.bl dm⟩
    · exact h.elim
  · obtain ⟨v, u, _, _, rfl, q1, q2, _⟩ := i.two
    obtain ⟨rfl, _⟩ := q1.eInt
    obtain ⟨rfl, _⟩ := q2.eInt
    exact .inl ⟨_, _, rfl, h.int dm⟩
  · obtain ⟨v, u, _, _, rfl, q1, q2, _⟩ := i.two
    obtain ⟨rfl, _⟩ := q1.eInt
    obtain ⟨rfl, _⟩ := q2.eInt
    exact .inl ⟨_, _, rfl, h.int dm⟩
  · obtain ⟨v, rfl, q⟩ := i.one
    obtain ⟨a, xs, g, rfl, hx, r, s⟩ := q.eLst
    unfold oInts at h
    split at h
    · rename_i ns e
      rw [ints_of r e] at hx
      dsimp only at h
      split at h
      · exact h.elim
      · rename_i ne
        exact .inr ⟨a, ns, rfl, hx, by cases ns with | nil => exact absurd rfl ne | cons _ _ => simp, fun m h1 h2 => by rw [maxL_is ns m h1 h2]; exact h.int dm⟩
    · exact h.elim
  · obtain ⟨v, rfl, q⟩ := i.one
    obtain ⟨a, xs, g, rfl, hx, r, s⟩ := q.eLst
    unfold oInts at h
    split at h
    · rename_i ns e
      rw [ints_of r e] at hx
      dsimp only at h
      split at h
      · exact h.elim
      · rename_i ne
        exact .inr ⟨a, ns, rfl, hx, by cases ns with | nil => exact absurd rfl ne | cons _ _ => simp, fun m h1 h2 => by rw [minL_is ns m h1 h2]; exact h.int dm⟩
    · exact h.elim
  · obtain ⟨v, rfl, q⟩ := i.one
    obtain ⟨a, xs, g, rfl, hx, r, s⟩ := q.eLst
    unfold oInts at h
    split at h
    · rename_i ns e
      rw [ints_of r e] at hx
      exact ⟨a, ns, rfl, hx, h.int dm⟩
    · exact h.elim
  · exact h.elim
end
end Pw

/-! ## The codes' soundness: what the text looks like -/
namespace Pw
open PySem PySem.Spec PyProof.Rows L2
section
variable {T : Tb} {fr N : List Str} {sc : Scope} {e : Expr} {es : List Expr}
theorem noF {P : Prop} (h : false = true) : P := (Bool.false_ne_true h).elim
theorem and3 {a b c : Bool} (h : (a && b && c) = true) : a = true ∧ b = true ∧ c = true := ⟨(and2 (and2 h).1).1, (and2 (and2 h).1).2, (and2 h).2⟩
theorem inv_non (h : chk T fr N .non sc e = true) : ∃ k p, e = .Constant .none k p := by
  cases e with
  | Constant c k p => cases c with
    | none => exact ⟨_, _, rfl⟩
    | _ => exact noF h
  | _ => exact noF h
theorem inv_bl {b : Bool} (h : chk T fr N (.bl b) sc e = true) : ∃ k p, e = .Constant (.bool b) k p := by
  cases e with
  | Constant c k p => cases c with
    | bool c =>
      have q : (b == c) = true := h
      rw [eq_of_beq q]
      exact ⟨_, _, rfl⟩
    | _ => exact noF h
  | _ => exact noF h
theorem inv_int {b : Int} (h : chk T fr N (.int b) sc e = true) : ∃ k p, e = .Constant (.int b) k p := by
  cases e with
  | Constant c k p => cases c with
    | int c =>
      have q : decide (b = c) = true := h
      rw [of_decide_eq_true q]
      exact ⟨_, _, rfl⟩
    | _ => exact noF h
  | _ => exact noF h
theorem inv_str {b : Str} (h : chk T fr N (.str b) sc e = true) : ∃ k p, e = .Constant (.str b) k p := by
  cases e with
  | Constant c k p => cases c with
    | str c =>
      have q : decide (b = c) = true := h
      rw [of_decide_eq_true q]
      exact ⟨_, _, rfl⟩
    | _ => exact noF h
  | _ => exact noF h
theorem vis_of {x : Str} (h : visB sc x = true) : Vis sc x := by
  unfold visB at h
  split at h
  · exact .inl (by assumption)
  · exact .inr (.inl (by assumption))
  · exact .inr (.inr (by assumption))
  · exact noF h
theorem neq_of {b : Bool} (h : (!b) = true) : b = false := by simpa using h
theorem inv_v {i : Nat} (h : chk T fr N (.v i) sc e = true) : ∃ x p, e = .Name x p ∧ N[i]? = some x ∧ Vis sc x ∧ (x == ("__debug__" : Str)) = false ∧ (x == ("__classdict__" : Str)) = false := by
  cases e with
  | Name x p =>
    obtain ⟨h1, h2⟩ := and2 h
    obtain ⟨h3, h4, h5⟩ := and3 h1
    exact ⟨x, p, rfl, of_decide_eq_true h3, vis_of h4, neq_of h5, neq_of h2⟩
  | _ => exact noF h
structure GloOk (sc : Scope) (x : Str) : Prop where
  g : sc.names.lookup x = some .globalImplicit
  d : (x == ("__debug__" : Str)) = false
  n : x ≠ "__name__"
theorem glo_of {x : Str} (h : gloB sc x = true) : GloOk sc x := by
  obtain ⟨h1, h2, h3⟩ := and3 h
  refine ⟨?_, neq_of h2, fun q => ?_⟩
  · split at h1
    · assumption
    · exact noF h1
  · subst q
    exact noF h3
theorem inv_g {j : Nat} (h : chk T fr N (.g j) sc e = true) : ∃ x p q, e = .Name x p ∧ T.consts[j]? = some q ∧ q.1 = x ∧ GloOk sc x := by
  cases e with
  | Name x p =>
    obtain ⟨h1, h2⟩ := and2 h
    split at h1
    · rename_i q eq
      exact ⟨x, p, q, rfl, eq, of_decide_eq_true h1, glo_of h2⟩
    · exact noF h1
  | _ => exact noF h
theorem inv_bin {op : Operator} {a b : C} (h : chk T fr N (.bin op a b) sc e = true) : ∃ l r p, e = .BinOp l op r p ∧ chk T fr N a sc l = true ∧ chk T fr N b sc r = true := by
  cases e with
  | BinOp l o r p =>
    obtain ⟨h1, h2, h3⟩ := and3 h
    rw [of_decide_eq_true h1]
    exact ⟨l, r, p, rfl, h2, h3⟩
  | _ => exact noF h
theorem inv_neg {a : C} (h : chk T fr N (.neg a) sc e = true) : ∃ l p, e = .UnaryOp .USub l p ∧ chk T fr N a sc l = true := by
  cases e with
  | UnaryOp o l p => cases o with
    | USub => exact ⟨l, p, rfl, h⟩
    | _ => exact noF h
  | _ => exact noF h
theorem inv_nt {a : C} (h : chk T fr N (.nt a) sc e = true) : ∃ l p, e = .UnaryOp .Not l p ∧ chk T fr N a sc l = true := by
  cases e with
  | UnaryOp o l p => cases o with
    | Not => exact ⟨l, p, rfl, h⟩
    | _ => exact noF h
  | _ => exact noF h
theorem inv_cmp {op : CmpOp} {a b : C} (h : chk T fr N (.cmp op a b) sc e = true) : ∃ l r p, e = .Compare l [op] [r] p ∧ chk T fr N a sc l = true ∧ chk T fr N b sc r = true ∧ behindInMarks op r = false := by
  cases e with
  | Compare l os rs p => match os, rs, h with
    | [o], [r], h =>
      obtain ⟨h1, h4⟩ := and2 h
      obtain ⟨h1, h2, h3⟩ := and3 h1
      rw [of_decide_eq_true h1] at h4 ⊢
      exact ⟨l, r, p, rfl, h2, h3, neq_of h4⟩
    | [], _, h => exact noF h
    | _ :: _ :: _, [], h => exact noF h
    | _ :: _ :: _, [_], h => exact noF h
    | _ :: _ :: _, _ :: _ :: _, h => exact noF h
    | [_], [], h => exact noF h
    | [_], _ :: _ :: _, h => exact noF h
  | _ => exact noF h
theorem inv_chn {op op2 : CmpOp} {a b c : C} (h : chk T fr N (.chn op op2 a b c) sc e = true) : ∃ l m r p, e = .Compare l [op, op2] [m, r] p ∧ chk T fr N a sc l = true ∧ chk T fr N b sc m = true ∧ chk T fr N c sc r = true ∧ behindInMarks op2 r = false := by
  cases e with
  | Compare l os rs p => match os, rs, h with
    | [o, o2], [m, r], h =>
      obtain ⟨h1, h6⟩ := and2 h
      obtain ⟨h1, h5⟩ := and2 h1
      obtain ⟨h1, h4⟩ := and2 h1
      obtain ⟨h1, h2, h3⟩ := and3 h1
      rw [of_decide_eq_true h1]
      rw [of_decide_eq_true h2] at h6 ⊢
      exact ⟨l, m, r, p, rfl, h3, h4, h5, neq_of h6⟩
    | [], _, h => exact noF h
    | [_], _, h => exact noF h
    | _ :: _ :: _ :: _, _, h => exact noF h
    | [_, _], [], h => exact noF h
    | [_, _], [_], h => exact noF h
    | [_, _], _ :: _ :: _ :: _, h => exact noF h
  | _ => exact noF h
theorem inv_and {cs : Cs} (h : chk T fr N (.and cs) sc e = true) : ∃ es p, e = .BoolOp .And es p ∧ chks T fr N cs sc es = true := by
  cases e with
  | BoolOp o es p => cases o with
    | And => exact ⟨es, p, rfl, h⟩
    | _ => exact noF h
  | _ => exact noF h
theorem inv_or {cs : Cs} (h : chk T fr N (.or cs) sc e = true) : ∃ es p, e = .BoolOp .Or es p ∧ chks T fr N cs sc es = true := by
  cases e with
  | BoolOp o es p => cases o with
    | Or => exact ⟨es, p, rfl, h⟩
    | _ => exact noF h
  | _ => exact noF h
theorem inv_ite {t a b : C} (h : chk T fr N (.ite t a b) sc e = true) : ∃ l m r p, e = .IfExp l m r p ∧ chk T fr N t sc l = true ∧ chk T fr N a sc m = true ∧ chk T fr N b sc r = true := by
  cases e with
  | IfExp l m r p =>
    obtain ⟨h1, h2, h3⟩ := and3 h
    exact ⟨l, m, r, p, rfl, h1, h2, h3⟩
  | _ => exact noF h
theorem inv_tup {cs : Cs} (h : chk T fr N (.tup cs) sc e = true) : ∃ es k p, e = .Tuple es k p ∧ chks T fr N cs sc es = true := by
  cases e with
  | Tuple es k p => exact ⟨es, k, p, rfl, h⟩
  | _ => exact noF h
theorem inv_lst {cs : Cs} (h : chk T fr N (.lst cs) sc e = true) : ∃ es p, e = .List es p ∧ chks T fr N cs sc es = true := by
  cases e with
  | List es p => exact ⟨es, p, rfl, h⟩
  | _ => exact noF h
theorem inv_ddk (h : chk T fr N .ddk sc e = true) : ∃ p, e = .Dict [] [] p := by
  cases e with
  | Dict ks vs p => match ks, vs, h with
    | [], [], _ => exact ⟨_, rfl⟩
    | _ :: _, _, h => exact noF h
    | [], _ :: _, h => exact noF h
  | _ => exact noF h
theorem inv_ddu (h : chk T fr N .ddu sc e = true) : ∃ p, e = .Dict [] [] p := by
  cases e with
  | Dict ks vs p => match ks, vs, h with
    | [], [], _ => exact ⟨_, rfl⟩
    | _ :: _, _, h => exact noF h
    | [], _ :: _, h => exact noF h
  | _ => exact noF h
theorem inv_idx {a b : C} (h : chk T fr N (.idx a b) sc e = true) : ∃ l r p, e = .Subscript l r p ∧ chk T fr N a sc l = true ∧ chk T fr N b sc r = true ∧ plainE r = true := by
  cases e with
  | Subscript l r p =>
    obtain ⟨h1, h2, h3⟩ := and3 h
    exact ⟨l, r, p, rfl, h1, h2, h3⟩
  | _ => exact noF h
theorem inv_sl {a lo hi : C} (h : chk T fr N (.sl a lo hi) sc e = true) : ∃ l x y p p2, e = .Subscript l (.Slice x y none p2) p ∧ chk T fr N a sc l = true ∧ (match x with
    | none => isNop lo
    | some l1 => chk T fr N lo sc l1) = true ∧ (match y with
    | none => isNop hi
    | some h1 => chk T fr N hi sc h1) = true := by
  cases e with
  | Subscript l r p => cases r with
    | Slice x y z p2 => cases z with
      | none =>
        obtain ⟨h1, h2, h3⟩ := and3 h
        exact ⟨l, x, y, p, p2, rfl, h1, h2, h3⟩
      | some _ => exact noF h
    | _ => exact noF h
  | _ => exact noF h
theorem inv_call {f : Nat} {cs : Cs} (h : chk T fr N (.call f cs) sc e = true) : ∃ x q es p, e = .Call (.Name x q) es [] p ∧ T.names[f]? = some x ∧ GloOk sc x ∧ chks T fr N cs sc es = true ∧ T.ar f ≤ es.length + (T.dfl f).length ∧ es.length ≤ T.ar f := by
  cases e with
  | Call fn es ks p => cases fn with
    | Name x q => cases ks with
      | nil =>
        obtain ⟨h1, h5⟩ := and2 h
        obtain ⟨h1, h4⟩ := and2 h1
        obtain ⟨h1, h2, h3⟩ := and3 h1
        exact ⟨x, q, es, p, rfl, of_decide_eq_true h1, glo_of h2, h3, Nat.le_of_ble_eq_true h4, Nat.le_of_ble_eq_true h5⟩
      | cons _ _ => exact noF h
    | _ => exact noF h
  | _ => exact noF h
structure FreeOk (fr : List Str) (sc : Scope) (x : Str) : Prop extends GloOk sc x where
  f : x ∈ fr
theorem free_of {x : Str} (h : freeB fr sc x = true) : FreeOk fr sc x := ⟨glo_of (and2 h).2, of_decide_eq_true (and2 h).1⟩
theorem inv_blt {b : Blt} {cs : Cs} (h : chk T fr N (.blt b cs) sc e = true) : ∃ x q e1 es p, e = .Call (.Name x q) (e1 :: es) [] p ∧ bltName b = x ∧ FreeOk fr sc x ∧ chks T fr N cs sc (e1 :: es) = true := by
  cases e with
  | Call fn es ks p => cases fn with
    | Name x q => cases ks with
      | nil =>
        obtain ⟨h1, h4⟩ := and2 h
        cases es with
        | nil => exact noF h4
        | cons e1 es => exact ⟨x, q, e1, es, p, rfl, of_decide_eq_true (and3 h1).1, free_of (and3 h1).2.1, (and3 h1).2.2⟩
      | cons _ _ => exact noF h
    | _ => exact noF h
  | _ => exact noF h
theorem inv_isi {a : C} {t : Ty} (h : chk T fr N (.isi a t) sc e = true) : ∃ q l y q2 p, e = .Call (.Name "isinstance" q) [l, .Name y q2] [] p ∧ FreeOk fr sc "isinstance" ∧ y = (tyName t : Str) ∧ FreeOk fr sc y ∧ chk T fr N a sc l = true ∧ plainE l = true := by
  cases e with
  | Call fn es ks p => cases fn with
    | Name x q => match ks, es, h with
      | [], [l, m], h => cases m with
        | Name y q2 =>
          obtain ⟨h1, h6⟩ := and2 h
          obtain ⟨h1, h5⟩ := and2 h1
          obtain ⟨h1, h4⟩ := and2 h1
          obtain ⟨h1, h2, h3⟩ := and3 h1
          have e1 := of_decide_eq_true h1
          subst e1
          exact ⟨q, l, y, q2, p, rfl, free_of h2, of_decide_eq_true h3, free_of h4, h5, h6⟩
        | _ => exact noF h
      | _ :: _, [], h => exact noF h
      | _ :: _, [_], h => exact noF h
      | _ :: _, _ :: m :: [], h => cases m <;> exact noF h
      | _ :: _, _ :: m :: _ :: _, h => cases m <;> exact noF h
      | [], [], h => exact noF h
      | [], [_], h => exact noF h
      | [], _ :: m :: _ :: _, h => cases m <;> exact noF h
    | _ => exact noF h
  | _ => exact noF h
theorem inv_comp {own : List (Str × Nat)} {tg : Tg} {it : Ic} {cd a : C} (h : chk T fr N (.comp own tg it cd a) sc e = true) : ∃ el t ite ifs scp p, e = .ListComp el [⟨t, ite, ifs, 0⟩] scp p ∧
    chki T fr N it sc ite = true ∧ blkC N sc scp own = true ∧ tgIn (own.map (·.2)) tg = true ∧ tgB (relS scp sc) N false tg t = true ∧ (match ifs with
    | [] => isNop cd
    | [f1] => chk T fr N cd (relS scp sc) f1
    | _ => false) = true ∧ chk T fr N a (relS scp sc) el = true := by
  cases e with
  | ListComp el gs scp p => match gs, h with
    | [⟨t, ite, ifs, (.ofNat 0)⟩], h =>
      obtain ⟨h1, h6⟩ := and2 h
      obtain ⟨h1, h5⟩ := and2 h1
      obtain ⟨h1, h4⟩ := and2 h1
      obtain ⟨h1, h2, h3⟩ := and3 h1
      exact ⟨el, t, ite, ifs, scp, p, rfl, h1, h2, h3, h4, h5, h6⟩
    | [⟨_, _, _, (.ofNat (_ + 1))⟩], h => exact noF h
    | [⟨_, _, _, (.negSucc _)⟩], h => exact noF h
    | [], h => exact noF h
    | ⟨_, _, _, (.ofNat 0)⟩ :: _ :: _, h => exact noF h
    | ⟨_, _, _, (.ofNat (_ + 1))⟩ :: _ :: _, h => exact noF h
    | ⟨_, _, _, (.negSucc _)⟩ :: _ :: _, h => exact noF h
  | _ => exact noF h
theorem inv_rng1 {a : C} (h : chki T fr N (.rng1 a) sc e = true) : ∃ p1 p2 l, e = .Call (.Name "range" p1) [l] [] p2 ∧ FreeOk fr sc "range" ∧ chk T fr N a sc l = true ∧ plainE l = true := by
  cases e with
  | Call fn es ks p => cases fn with
    | Name x q => match ks, es, h with
      | [], [l], h =>
        obtain ⟨h1, h4⟩ := and2 h
        obtain ⟨h1, h2, h3⟩ := and3 h1
        have e1 := of_decide_eq_true h1
        subst e1
        exact ⟨q, p, l, rfl, free_of h2, h3, h4⟩
      | _ :: _, [], h => exact noF h
      | _ :: _, [_], h => exact noF h
      | _, _ :: _ :: _, h => exact noF h
      | [], [], h => exact noF h
    | _ => exact noF h
  | _ => exact noF h
theorem inv_rng2 {a b : C} (h : chki T fr N (.rng2 a b) sc e = true) : ∃ p1 p2 l m, e = .Call (.Name "range" p1) [l, m] [] p2 ∧ FreeOk fr sc "range" ∧ chk T fr N a sc l = true ∧ plainE l = true ∧ chk T fr N b sc m = true ∧ plainE m = true := by
  cases e with
  | Call fn es ks p => cases fn with
    | Name x q => match ks, es, h with
      | [], [l, m], h =>
        obtain ⟨h1, h6⟩ := and2 h
        obtain ⟨h1, h5⟩ := and2 h1
        obtain ⟨h1, h4⟩ := and2 h1
        obtain ⟨h1, h2, h3⟩ := and3 h1
        have e1 := of_decide_eq_true h1
        subst e1
        exact ⟨q, p, l, m, rfl, free_of h2, h3, h4, h5, h6⟩
      | _ :: _, [], h => exact noF h
      | _ :: _, [_], h => exact noF h
      | _ :: _, [_, _], h => exact noF h
      | _, _ :: _ :: _ :: _, h => exact noF h
      | [], [_], h => exact noF h
      | [], [], h => exact noF h
    | _ => exact noF h
  | _ => exact noF h
theorem inv_nop (h : chk T fr N .nop sc e = true) : False := by cases e <;> exact noF h
/-! ### what a plain expression is no form of -/
theorem star_plain {env : Env} (h : plainE e = true) : starEach (e :: es) env = (false, eval e env) :: starEach es env := by
  cases e <;> first | rfl | exact noF h
theorem ix_plain (h : plainE e = true) : PlainIx e := by
  cases e <;> first | (intro o i; rfl) | exact noF h
theorem true_value {env : Env} (h : valueE e = true) (whole : Sem Value) : isTrue e env whole = (do let v ← whole; standAt e.pos; holding [v] (truthy v)) := by
  cases e <;> first | rfl | exact noF h
theorem stars_plain {cs : Cs} {env : Env} {pos : Pos} : ∀ {cs : Cs} {es : List Expr}, chks T fr N cs sc es = true → (backTo pos (starEach es env)).any (·.1) = false
  | .nil, [], _ => rfl
  | .nil, _ :: _, h => noF h
  | .cons _ _, [], h => noF h
  | .cons c cs, e :: es, h => by
    obtain ⟨h1, h2, h3⟩ := and3 h
    rw [star_plain h2]
    have q := stars_plain (cs := .nil) (env := env) (pos := pos) h3
    simp only [backTo, List.map_cons, List.any_cons] at q ⊢
    rw [q]
    rfl
end
end Pw

/-! ## The codes' soundness: promises, slots, iterators -/
namespace Pw
open PySem PySem.Spec PyProof.Rows L2

/-- behind a call: H0 ahead of it, M what was handed to be changed -/
def Aft (G : Kn) (S0 : Addr → Prop) (H0 : Hp) (M : List Addr) (S : Addr → Prop) (H : Hp) (vs : List V) (ds : List D) : Prop :=
  ∃ g, IsL G S H vs ds g ∧ g.Nodup ∧ (∀ a ∈ g, ¬ S a ∧ (a ∈ M ∨ H0 a = none)) ∧ (∀ a, S0 a → S a) ∧ (∀ a, S a → S0 a ∨ a ∈ M ∨ H0 a = none) ∧ Dom S H ∧ (∀ a o, H0 a = some o → a ∉ M → H a = some o) ∧ ∀ a, H0 a ≠ none → H a ≠ none
def pick {α : Type} (io : List Nat) (vs : List α) : List α := io.filterMap fun i => vs[i]?
/-- a def's promise by data -/
def spD (G : Kn) (io : List Nat) (np : Nat) (call : List D → CRes) : Sp := fun vs H Q E => ∃ (S : Addr → Prop) (ds : List D) (f : List Addr), vs.length = np ∧ IsL G S H vs ds f ∧ f.Nodup ∧ (∀ a ∈ f, ¬ S a) ∧ Dom S H ∧ match call ds with
  | .stuck => False
  | .ok d outs => ∀ v S' H', Aft G S H f S' H' (v :: pick io vs) (d :: outs) → Q v H'
  | .exc x outs => ∀ S' H', Aft G S H f S' H' (pick io vs) outs → E (.ref (He.ga G.K x)) none H'
structure FnAt (P : Program) (w : World) (G : Kn) (mg : Str → Option Value) (base : Heap) (k : Nat) (T : Tb) (f : Nat) (x : Str) : Prop where
  ex : ∃ (b : Addr) (fd : FuncData) (ps : List Str), mg x = some (.ref b) ∧ PySem.W.keepIn G.K (.ref b) = true ∧ ps.length = T.ar f ∧ FnOk P w G.K mg base (L2.CX P w) k b fd ps (spD G (T.io f) (T.ar f) (T.call k f)) ∧ (ps = T.pn f ∧ ∃ oc od osl, G.K.lookup b = some ⟨oc, od, .func fd, osl⟩) ∧
    ∀ m, T.ar f ≤ m + (T.dfl f).length → m ≤ T.ar f → ∃ dvs us, Binds G.K fd ps us ∧ Vals dvs us ∧ m + dvs.length = T.ar f ∧ ∀ S H, IsL G S H dvs ((T.dfl f).drop ((T.dfl f).length - (T.ar f - m))) []
abbrev kn (X : Cx) (ca : Nat → Addr) : Kn := ⟨X.K, ca⟩
structure Cok (T : Tb) (fr : List Str) (ca : Nat → Addr) (k : Nat) (X : Cx) (W : WX) : Prop where
  calm : X.calm = true
  nd : X.N.Nodup
  room : Room k X.A
  takes : Takes X W
  free : ∀ x ∈ fr, X.mg x = none
  cons : ∀ (j : Nat) (p : Str × D), T.consts[j]? = some p → ∃ v u, X.mg p.1 = some u ∧ RelV v u ∧ ∀ S H, Is (kn X ca) S H v p.2 []
  fns : ∀ (f : Nat) (x : Str), T.names[f]? = some x → FnAt X.prog X.w (kn X ca) X.mg X.base k T f x
def W0 : WX := fun _ _ _ _ => False
section
variable {T : Tb} {fr : List Str} {ca : Nat → Addr} {k : Nat} {X : Cx} {W : WX}
/-- in a comprehension's block -/
theorem Cok.blk (o : Cok T fr ca k X W) (s : Shared) (H : Hp) (sc : Scope) (env : Env) (fp : List Addr) : Cok T fr ca k (X.blk s H sc env fp) W0 :=
  ⟨o.calm, o.nd, o.room, takes0, o.free, o.cons, o.fns⟩
/-- the callee runs, what it lets out is W's -/
theorem run_d {sp : Sp} {b : Addr} {fd : FuncData} {ps : List Str} {pn : List (Addr × Obj)} {σ : L2.St} {H : Hp} {s : Shared} {Q : VK} {us ws : List Value} {vs dvs : List V} (F : FnOk X.prog X.w X.K X.mg X.base (L2.CX X.prog X.w) k b fd ps sp) (hr : Room k X.A) (tk : Takes X W)
    (hb : Binds X.K fd ps ws) (hd : Vals dvs ws) (I : Inv X pn σ H s) (r : Vals vs us) (h : sp (vs ++ dvs) H Q fun cls d H' => W cls d σ H') : wpAny (model X.prog X.w) X.A (call (.ref b) us) (EP X pn σ Q) X.xe s := by
  have r2 : Vals (vs ++ dvs) (us ++ ws) := r.append hd
  have len2 : (us ++ ws).length = ps.length := by rw [← r2.length]; exact F.len _ _ _ _ h
  refine wpAny_call (codeAny_mono (F.run X.A X.stack s H ⟨us, []⟩ (us ++ ws) (vs ++ dvs) Q _ hr I.env0 (hb s us I.kIn len2) r2 h) fun r s' z => ?_)
  cases r with
  | error e => exact tk e s' (XE.of_call I (fun _ _ _ y => y) z)
  | ok fl => cases fl with
    | ret u => exact I.after z
    | next => exact z.elim
    | brk => exact z.elim
    | cont => exact z.elim
end

/-! ### slots -/
theorem wipe_get {σ : L2.St} {j : Nat} : ∀ {vs : List Nat}, (wipe σ vs)[j]? = if j ∈ vs then σ[j]?.map fun _ => none else σ[j]?
  | [] => by simp [wipe]
  | v :: vs => by
    unfold wipe
    by_cases e : v = j
    · subst e
      rw [List.getElem?_set_self', wipe_get (vs := vs)]
      by_cases m : v ∈ vs <;> simp [m] <;> cases σ[v]? <;> rfl
    · rw [List.getElem?_set_ne e, wipe_get (vs := vs)]
      have e2 : ¬ j = v := fun z => e z.symm
      simp [e2]
theorem wipeD_get {σ : Dl} {j : Nat} : ∀ {vs : List Nat}, (wipeD σ vs)[j]? = if j ∈ vs then σ[j]?.map fun _ => none else σ[j]?
  | [] => by simp [wipeD]
  | v :: vs => by
    unfold wipeD
    by_cases e : v = j
    · subst e
      rw [List.getElem?_set_self', wipeD_get (vs := vs)]
      by_cases m : v ∈ vs <;> simp [m] <;> cases σ[v]? <;> rfl
    · rw [List.getElem?_set_ne e, wipeD_get (vs := vs)]
      have e2 : ¬ j = v := fun z => e z.symm
      simp [e2]
theorem wipeD_len {σ : Dl} : ∀ {vs : List Nat}, (wipeD σ vs).length = σ.length
  | [] => rfl
  | v :: vs => by
    unfold wipeD
    rw [List.length_set, wipeD_len]
theorem wipe_set {σ : L2.St} {i : Nat} {o : Option V} {vs : List Nat} (h : i ∈ vs) : wipe (σ.set i o) vs = wipe σ vs := by
  apply List.ext_getElem?
  intro j
  rw [wipe_get, wipe_get]
  by_cases e : i = j
  · subst e
    rw [List.getElem?_set_self']
    simp [h]
    cases σ[i]? <;> rfl
  · rw [List.getElem?_set_ne e]
theorem wipe_twice {σ : L2.St} {vs : List Nat} : wipe (wipe σ vs) vs = wipe σ vs := by
  apply List.ext_getElem?
  intro j
  rw [wipe_get, wipe_get]
  by_cases m : j ∈ vs <;> simp [m] <;> cases σ[j]? <;> rfl
section
variable {G : Kn} {S : Addr → Prop} {H : Hp} {σ : L2.St} {δ : Dl}
theorem Fr.wipe (h : Fr G S H σ δ) (vs : List Nat) : Fr G S H (L2.wipe σ vs) (wipeD δ vs) := by
  refine ⟨by rw [wipe_length, wipeD_len]; exact h.1, fun i d e => ?_⟩
  rw [wipeD_get] at e
  rw [wipe_get]
  by_cases m : i ∈ vs
  · rw [if_pos m] at e
    cases q : δ[i]? <;> rw [q] at e <;> cases e
  · rw [if_neg m] at e ⊢
    exact h.2 i d e
theorem Fr.set (h : Fr G S H σ δ) {i : Nat} {v : V} {d : D} (q : Is G S H v d []) : Fr G S H (σ.set i (some v)) (δ.set i (some d)) := by
  refine ⟨by rw [List.length_set, List.length_set]; exact h.1, fun j e z => ?_⟩
  by_cases m : i = j
  · subst m
    rw [List.getElem?_set_self'] at z ⊢
    cases y : δ[i]? with
    | none => rw [y] at z; cases z
    | some w =>
      have lt : i < σ.length := by rw [h.1]; exact (List.getElem?_eq_some_iff.mp y).1
      rw [y] at z
      cases z
      exact ⟨v, by rw [List.getElem?_eq_getElem lt]; rfl, q⟩
  · rw [List.getElem?_set_ne m] at z ⊢
    exact h.2 j e z
end
def gAll : List Nat → TGs
  | [] => gNil
  | i :: is => gCons (gName i) (gAll is)
def gTg (K : PySem.W.Frag) : Tg → TG
  | .one i => gName i
  | .many is => gTup K is.length (gAll is)
section
variable {G : Kn} {S : Addr → Prop} {H : Hp}
theorem all_ok {vs : List Nat} : ∀ {is : List Nat} {xs : List V} {ds : List D} {σ : L2.St} {δ δ1 : Dl} {Q : L2.St → Hp → Prop}, Fr G S H σ δ → IsL G S H xs ds [] → setAll δ is ds = some δ1 → (is.all fun i => decide (i ∈ vs)) = true →
    (∀ σ1, Fr G S H σ1 δ1 → wipe σ1 vs = wipe σ vs → Q σ1 H) → gAll is xs σ H Q
  | [], xs, ds, σ, δ, δ1, Q, h, q, e, _, k => by
    cases ds with
    | nil =>
      cases q
      cases Option.some.inj (show some δ = some δ1 from e)
      exact ⟨rfl, k _ h rfl⟩
    | cons _ _ => cases e
  | i :: is, xs, ds, σ, δ, δ1, Q, h, q, e, m, k => by
    cases ds with
    | nil => cases e
    | cons d ds =>
      obtain ⟨v, vr, e1, i1, i2⟩ : ∃ v vr, xs = v :: vr ∧ Is G S H v d [] ∧ IsL G S H vr ds [] := by
        generalize hf : ([] : List Addr) = f at q
        cases q with
        | cons a b =>
          rename_i f1 _ f2
          have z : f1 = [] ∧ f2 = [] := List.append_eq_nil_iff.mp hf.symm
          obtain ⟨rfl, rfl⟩ := z
          exact ⟨_, _, rfl, a, b⟩
      subst e1
      simp only [List.all_cons, Bool.and_eq_true, decide_eq_true_eq] at m
      refine ⟨v, vr, rfl, ?_⟩
      refine all_ok (h.set i1) i2 (show setAll (δ.set i (some d)) is ds = some δ1 from e) (by simpa using m.2) fun σ1 f1 w1 => k σ1 f1 ?_
      rw [w1, wipe_set m.1]
theorem Is.nilT {v : V} {ds : List D} (h : Is G S H v (.tup ds) []) : ∃ a xs, v = .ref a ∧ SqT G.K H a xs ∧ IsL G S H xs ds [] := h.eTup
theorem setAll_len : ∀ {is : List Nat} {ds : List D} {δ δ1 : Dl}, setAll δ is ds = some δ1 → is.length = ds.length
  | [], [], _, _, _ => rfl
  | [], _ :: _, _, _, e => by cases e
  | _ :: _, [], _, _, e => by cases e
  | i :: is, d :: ds, δ, δ1, e => congrArg (· + 1) (setAll_len (show setAll (δ.set i (some d)) is ds = some δ1 from e))
theorem bind_tg {tg : Tg} {v : V} {d : D} {σ : L2.St} {δ δ1 : Dl} {vs : List Nat} {Q : L2.St → Hp → Prop} (h : Fr G S H σ δ) (q : Is G S H v d []) (e : bindTg δ tg d = some δ1) (m : tgIn vs tg = true)
    (k : ∀ σ1, Fr G S H σ1 δ1 → wipe σ1 vs = wipe σ vs → Q σ1 H) : gTg G.K tg v σ H Q := by
  cases tg with
  | one i =>
    cases Option.some.inj (show some (δ.set i (some d)) = some δ1 from e)
    exact k _ (h.set q) (wipe_set (of_decide_eq_true m))
  | many is =>
    cases d with
    | tup ds =>
      obtain ⟨a, xs, rfl, hx, r⟩ := q.nilT
      exact ⟨a, xs, rfl, hx, by rw [r.len, setAll_len e], all_ok h r e m k⟩
    | _ => cases e
end

/-! ### iterators -/
def KeepS (S : Addr → Prop) (H H' : Hp) : Prop := ∀ a o, H a = some o → (S a ∨ ¬ Mut (some o)) → H' a = some o
def Wk (G : Kn) (J : It) (S : Addr → Prop) (H : Hp) (ds : List D) : Prop := ∀ (S2 : Addr → Prop) (H2 : Hp), (∀ a, S a → S2 a) → Dom S2 H2 → KeepS S H H2 →
  (∀ i d, ds[i]? = some d → J.go i H2 ∧ ∀ x H3, J.yld i H2 x H3 → Le H2 H3 ∧ Is G S2 H3 x d []) ∧ ∀ i, ds.length ≤ i → J.stop i H2
def Wk2 (b : Bool) (G : Kn) (J : It) (S : Addr → Prop) (H : Hp) (ds : List D) : Prop := Wk G J S H ds ∧ (b = true → ∀ S2, Wk G J S2 H ds)
def KtI (b : Bool) (G : Kn) (W : WX) (σ : L2.St) (S : Addr → Prop) (H0 H : Hp) (r : Res (List D)) (R : It → Hp → Prop) : Prop := match r with
  | .stuck => False
  | .exc x => ∀ S' H', Gr H0 S H S' H' → W (.ref (He.ga G.K x)) none σ H'
  | .ok ds => ∀ J S' H', Gr H0 S H S' H' → Wk2 b G J S' H' ds → R J H'
theorem KtI.mono {b : Bool} {G : Kn} {W : WX} {σ : L2.St} {S S' : Addr → Prop} {H0 H H' : Hp} {r : Res (List D)} {R : It → Hp → Prop} (g : Gr H0 S H S' H') (h : KtI b G W σ S H0 H r R) : KtI b G W σ S' H0 H' r R := by
  cases r with
  | stuck => exact h
  | ok d => exact fun J S2 H2 g2 => h J S2 H2 (g.trans g2)
  | exc x => exact fun S2 H2 g2 => h S2 H2 (g.trans g2)
def tI (b : Bool) (G : Kn) (W : WX) (F : Dl → Res (List D)) : TI := fun σ H R => ∃ S δ, Dom S H ∧ Fr G S H σ δ ∧ KtI b G W σ S H H (F δ) R
theorem PI.weak {X : Cx} {tg e : Expr} {t t' : TI} (h : PI X tg e t) (w : ∀ σ H R, t' σ H R → t σ H R) : PI X tg e t' := ⟨fun p s σ H R I q => h.run p s σ H R I (w σ H R q)⟩

/-- a list or a tuple that is walked -/
def iSeq (K : PySem.W.Frag) (tl : TE) : TI := fun σ H R => tl σ H fun x H1 => (∃ a, x = .ref a ∧ (∃ xs, SqL K H1 a xs) ∧ R (Itl K a) H1) ∨ ∃ a, x = .ref a ∧ (∃ xs, SqT K H1 a xs) ∧ R (Itt K a) H1
theorem pi_seq {X : Cx} {tg l : Expr} {tl : TE} (hl : PE X l tl) : PI X tg l (iSeq X.K tl) := by
  refine ⟨fun pn s σ H R I h => ?_⟩
  refine thn (hl.run pn s σ H _ I h) fun v s1 ⟨x, H1, I1, r1, q1⟩ => ?_
  rcases q1 with ⟨a, e, ⟨xs, hq⟩, q⟩ | ⟨a, e, ⟨xs, hq⟩, q⟩
  · subst e
    cases r1
    obtain ⟨its, rv, p, hz⟩ := I1.list hq
    refine wpAny_pyIter_list p.isList ?_
    refine ⟨s1.heap.objs.size, [s1.heap.objs.size], _, _, H1, rfl, I1.kept (t' := s1.toks) fun b o e => Heap.get?_push_of_some _ e, turn_list a _, ⟨_, Heap.get?_push_size _ rfl, rfl, rfl⟩, fun b m => ?_, q⟩
    have e : b = s1.heap.objs.size := by simpa using m
    subst e
    exact I1.fpOk (Nat.le_refl _) I1.fresh
  · subst e
    cases r1
    obtain ⟨its, rv, p, hz⟩ := I1.tuple hq
    refine wpAny_pyIter_tuple (show s1.heap.IsTuple a its.toArray from p) ?_
    refine ⟨s1.heap.objs.size, [s1.heap.objs.size], _, _, H1, rfl, I1.kept (t' := s1.toks) fun b o e => Heap.get?_push_of_some _ e, turn_tuple a _, ⟨_, Heap.get?_push_size _ rfl, rfl, rfl⟩, fun b m => ?_, q⟩
    have e : b = s1.heap.objs.size := by simpa using m
    subst e
    exact I1.fpOk (Nat.le_refl _) I1.fresh

section
variable {G : Kn} {W : WX} {σ : L2.St} {S : Addr → Prop} {H0 H : Hp}
theorem sqL_keep {K : PySem.W.Frag} {a : Addr} {xs : List V} {S : Addr → Prop} {H H2 : Hp} (k : KeepS S H H2) (h : SqL K H a xs) (s : S a ∨ KL K a xs) : SqL K H2 a xs := by
  rcases s with s | s
  · rcases h with (h | ⟨o, h⟩) | h
    · exact .inl (.inl (k _ _ h (.inl s)))
    · exact .inl (.inr ⟨o, k _ _ h (.inl s)⟩)
    · exact .inr h
  · exact .inr s
theorem sqT_keep {K : PySem.W.Frag} {a : Addr} {xs : List V} {S : Addr → Prop} {H H2 : Hp} (k : KeepS S H H2) (h : SqT K H a xs) : SqT K H2 a xs := by
  rcases h with (h | ⟨o, h⟩) | h
  · exact .inl (.inl (k _ _ h (.inr fun z => z)))
  · exact .inl (.inr ⟨o, k _ _ h (.inr fun z => z)⟩)
  · exact .inr h
theorem Is.keepS {S2 : Addr → Prop} {H2 : Hp} {v : V} {d : D} (h : Is G S H v d []) (s : ∀ a, S a → S2 a) (k : KeepS S H H2) : Is G S2 H2 v d [] := h.keep s fun a o e q => k a o e (q.elim .inl fun z => z.elim (fun y => nomatch y) .inr)
theorem IsL.keepS {S2 : Addr → Prop} {H2 : Hp} {v : List V} {d : List D} (h : IsL G S H v d []) (s : ∀ a, S a → S2 a) (k : KeepS S H H2) : IsL G S2 H2 v d [] := h.keep s fun a o e q => k a o e (q.elim .inl fun z => z.elim (fun y => nomatch y) .inr)
theorem IsL.at {v : List V} {d : List D} {i : Nat} {e : D} (h : IsL G S H v d []) (q : d[i]? = some e) : ∃ x, v[i]? = some x ∧ Is G S H x e [] := by
  obtain ⟨x, g, e1, e2, e3⟩ := h.get q
  have e4 := List.sublist_nil.mp e3
  subst e4
  exact ⟨x, e1, e2⟩
theorem wk_list {a : Addr} {xs : List V} {ds : List D} (hx : SqL G.K H a xs) (s : S a ∨ KL G.K a xs) (r : IsL G S H xs ds []) : Wk G (Itl G.K a) S H ds := fun S2 H2 hs _ kp => by
  have h2 := sqL_keep kp hx s
  refine ⟨fun i d e => ?_, fun i z => ⟨xs, h2, by rw [r.len]; exact z⟩⟩
  obtain ⟨x, e1, i1⟩ := r.at e
  refine ⟨⟨xs, x, h2, e1⟩, fun y H3 yy => ?_⟩
  obtain ⟨rfl, yy⟩ := yy
  have z := yy xs h2
  rw [e1] at z
  cases z
  exact ⟨fun _ _ z => z, i1.keepS hs kp⟩
theorem wk_tup {a : Addr} {xs : List V} {ds : List D} (hx : SqT G.K H a xs) (r : IsL G S H xs ds []) : Wk G (Itt G.K a) S H ds := fun S2 H2 hs _ kp => by
  have h2 := sqT_keep kp hx
  refine ⟨fun i d e => ?_, fun i z => ⟨xs, h2, by rw [r.len]; exact z⟩⟩
  obtain ⟨x, e1, i1⟩ := r.at e
  refine ⟨⟨xs, x, h2, e1⟩, fun y H3 yy => ?_⟩
  obtain ⟨rfl, yy⟩ := yy
  have z := yy xs h2
  rw [e1] at z
  cases z
  exact ⟨fun _ _ z => z, i1.keepS hs kp⟩
theorem wk_rng {lo : Int} {n : Nat} : Wk G (Itr lo n) S H (rngD lo n) := fun S2 H2 _ _ _ => by
  refine ⟨fun i d e => ?_, fun i z => by
    show n ≤ i
    simpa [rngD] using z⟩
  have lt : i < n := by
    have := (List.getElem?_eq_some_iff.mp e).1
    simpa [rngD] using this
  refine ⟨lt, fun y H3 yy => ?_⟩
  obtain ⟨rfl, rfl⟩ := yy
  have z : d = D.int (lo + (i : Int)) := by
    unfold rngD at e
    rw [List.getElem?_map, List.getElem?_range lt] at e
    exact (Option.some.inj e).symm
  rw [z]
  exact ⟨fun _ _ z => z, .int⟩
theorem Is.eLst2 {v : V} {f : List Addr} {o : Bool} {ds : List D} (h : Is G S H v (.lst o ds) f) : ∃ a xs g, v = .ref a ∧ SqL G.K H a xs ∧ IsL G S H xs ds g ∧ g.Sublist f ∧ ((S a ∨ a ∈ f) ∨ KL G.K a xs) := by
  cases h with
  | lstK h r => exact ⟨_, _, _, rfl, .inr h, r, List.Sublist.refl _, .inr h⟩
  | lstF hs h r => exact ⟨_, _, _, rfl, .inl h, r, List.Sublist.refl _, .inl (.inl hs)⟩
  | lstO h r => exact ⟨_, _, _, rfl, SqL.of h, r, List.sublist_cons_self _ _, .inl (.inr List.mem_cons_self)⟩
theorem tI_val {F : Dl → Res D} {R : It → Hp → Prop} (h : tI false G W (fun δ => (F δ).bind itemsOf) σ H R) : iSeq G.K (tP G W F) σ H R := by
  obtain ⟨S, δ, dm, fr, k⟩ := h
  dsimp only at k
  refine ⟨S, δ, dm, fr, ?_⟩
  cases ea : F δ with
  | stuck => rw [ea] at k; exact k
  | exc x => rw [ea] at k; exact k
  | ok x =>
    rw [ea, Res.bind_ok] at k
    refine fun v S1 H1 f g i fh => ?_
    have g1 := give1 g.dom fh (footD i)
    have k1 := KtI.mono (g.trans g1) k
    unfold itemsOf at k1
    split at k1
    · obtain ⟨a, xs, rfl, hx, r⟩ := i.eTup
      exact .inr ⟨a, rfl, ⟨xs, hx⟩, k1 _ _ _ (Gr.refl g1.dom) ⟨wk_tup hx (part_ok r (List.Sublist.refl _)), fun z => nomatch z⟩⟩
    · obtain ⟨a, xs, f1, rfl, hx, r, s, w⟩ := i.eLst2
      exact .inl ⟨a, rfl, ⟨xs, hx⟩, k1 _ _ _ (Gr.refl g1.dom) ⟨wk_list hx w (part_ok r s), fun z => nomatch z⟩⟩
    · exact k1.elim
theorem tI_rng1 {F : Dl → Res D} {R : It → Hp → Prop} (h : tI true G W (fun δ => (F δ).bind rng1D) σ H R) : tPs G W (fun δ => (F δ).bind fun x => .ok [x]) σ H fun vs H1 => ∃ j : Int, vs = [.int j] ∧ -(2 ^ 62) ≤ j ∧ j < 2 ^ 62 ∧ R (Itr 0 j.toNat) H1 := by
  obtain ⟨S, δ, dm, fr, k⟩ := h
  dsimp only at k
  refine ⟨S, δ, dm, fr, ?_⟩
  dsimp only
  cases ea : F δ with
  | stuck => rw [ea] at k; exact k
  | exc x => rw [ea] at k; exact k
  | ok x =>
    rw [ea, Res.bind_ok] at k
    rw [Res.bind_ok]
    refine fun v S1 H1 f g i fh => ?_
    obtain ⟨v, rfl, ia⟩ := i.one
    have k1 := KtI.mono g k
    unfold rng1D rngR at k1
    split at k1
    · obtain ⟨rfl, _⟩ := ia.eInt
      split at k1
      · rename_i c
        obtain ⟨c1, c2, c3, c4⟩ := c
        refine ⟨_, rfl, c3, c4, k1 _ _ _ (Gr.refl g.dom) ?_⟩
        rw [Int.sub_zero]
        exact ⟨wk_rng, fun _ _ => wk_rng⟩
      · exact k1.elim
    · exact k1.elim
theorem tI_rng2 {F1 F2 : Dl → Res D} {R : It → Hp → Prop} (h : tI true G W (fun δ => (F1 δ).bind fun x => (F2 δ).bind fun y => rng2D x y) σ H R) :
    tPs G W (fun δ => (F1 δ).bind fun x => (F2 δ).bind fun y => .ok [x, y]) σ H fun vs H1 => ∃ i j : Int, vs = [.int i, .int j] ∧ (-(2 ^ 62) ≤ i ∧ i < 2 ^ 62 ∧ -(2 ^ 62) ≤ j ∧ j < 2 ^ 62) ∧ R (Itr i (j - i).toNat) H1 := by
  obtain ⟨S, δ, dm, fr, k⟩ := h
  dsimp only at k
  refine ⟨S, δ, dm, fr, ?_⟩
  dsimp only
  cases ea : F1 δ with
  | stuck => rw [ea] at k; exact k
  | exc x => rw [ea] at k; exact k
  | ok x =>
    rw [ea, Res.bind_ok] at k
    rw [Res.bind_ok]
    cases eb : F2 δ with
    | stuck => rw [eb] at k; exact k
    | exc x => rw [eb] at k; exact k
    | ok y =>
      rw [eb, Res.bind_ok] at k
      rw [Res.bind_ok]
      refine fun v S1 H1 f g i fh => ?_
      obtain ⟨v, u, _, _, rfl, ia, i2, _⟩ := i.two
      have k1 := KtI.mono g k
      unfold rng2D rngR at k1
      split at k1
      · obtain ⟨rfl, _⟩ := ia.eInt
        obtain ⟨rfl, _⟩ := i2.eInt
        split at k1
        · rename_i c
          exact ⟨_, _, rfl, c, k1 _ _ _ (Gr.refl g.dom) ⟨wk_rng, fun _ _ => wk_rng⟩⟩
        · exact k1.elim
      · exact k1.elim
end
end Pw

/-! ## The codes' soundness: subscripts, calls, comprehensions -/
namespace Pw
open PySem PySem.Spec PyProof.Rows L2
section
variable {G : Kn} {W : WX} {σ : L2.St} {S : Addr → Prop} {H0 H : Hp}
/-! ### subscripts -/
theorem ixR_eq (n : Nat) (i : Int) : ixR n i = ixN n i := rfl
theorem ix_at {xs : List V} {ds : List D} {f : List Addr} {i : Int} {j : Nat} {d : D} (r : IsL G S H xs ds f) (e : ixR ds.length i = some j) (e2 : ds[j]? = some d) : ∃ v g, atI xs i = some v ∧ Is G S H v d g ∧ g.Sublist f := by
  obtain ⟨v, g, e3, i1, s⟩ := r.get e2
  refine ⟨v, g, ?_, i1, s⟩
  unfold atI
  rw [r.len, ← ixR_eq, e]
  exact e3
theorem ix_ok {x y : D} {v u : V} {f g : List Addr} {Q : VK} (dm : Dom S H) (k : Le H0 H) (ix : Is G S H v x f) (iy : Is G S H u y g) (fr : Fresh H0 S (f ++ g)) (h : Kt G W σ S H0 H (ixD x y) Q) : rIx G.K v u H Q := by
  have g1 := give1 dm fr.left (footD ix)
  unfold ixD at h
  split at h
  · rename_i ds i
    obtain ⟨rfl, _⟩ := iy.eInt
    obtain ⟨a, xs, rfl, hx, r⟩ := ix.eTup
    unfold ixL at h
    cases e : ixR ds.length i with
    | none => rw [e] at h; exact h.elim
    | some j =>
      rw [e] at h
      dsimp only at h
      cases e2 : ds[j]? with
      | none => rw [e2] at h; exact h.elim
      | some d =>
        rw [e2] at h
        dsimp only at h
        obtain ⟨w, gg, e3, i1, s⟩ := ix_at r e e2
        exact .inr (.inl ⟨a, xs, _, w, rfl, rfl, hx, e3, (Kt.mono g1 h).here g1.dom (Is.frz (S' := fun a => S a ∨ a ∈ f) (fun _ z => .inl z) i1 fun a z => .inr (s.subset z)) Fresh.nil⟩)
  · rename_i o ds i
    obtain ⟨rfl, _⟩ := iy.eInt
    obtain ⟨a, xs, fl, rfl, hx, r, sl⟩ := ix.eLst
    unfold ixL at h
    cases e : ixR ds.length i with
    | none => rw [e] at h; exact h.elim
    | some j =>
      rw [e] at h
      dsimp only at h
      cases e2 : ds[j]? with
      | none => rw [e2] at h; exact h.elim
      | some d =>
        rw [e2] at h
        dsimp only at h
        obtain ⟨w, gg, e3, i1, s⟩ := ix_at r e e2
        exact .inl ⟨a, xs, _, w, rfl, rfl, hx, e3, (Kt.mono g1 h).here g1.dom (Is.frz (S' := fun a => S a ∨ a ∈ f) (fun _ z => .inl z) i1 fun a z => .inr (sl.subset (s.subset z))) Fresh.nil⟩
  · obtain ⟨rfl, _⟩ := iy.eInt
    obtain ⟨rfl, _⟩ := ix.eStr
    split at h
    · rename_i c
      split at h
      · rename_i z e
        exact .inr (.inr ⟨_, _, z, rfl, rfl, lim_le c, e, h.str dm⟩)
      · exact h.elim
    · exact h.elim
  · exact h.elim

/-! ### slices -/
theorem IsL.drop : ∀ {xs : List V} {ds : List D} {f : List Addr} (n : Nat), IsL G S H xs ds f → ∃ g, IsL G S H (xs.drop n) (ds.drop n) g ∧ g.Sublist f
  | _, _, f, 0, h => ⟨f, h, List.Sublist.refl _⟩
  | _, _, _, n + 1, .nil => ⟨[], .nil, List.Sublist.refl _⟩
  | _, _, _, n + 1, .cons h r => by
    obtain ⟨g, q, s⟩ := IsL.drop n r
    exact ⟨g, q, s.trans (List.sublist_append_right _ _)⟩
theorem IsL.take : ∀ {xs : List V} {ds : List D} {f : List Addr} (n : Nat), IsL G S H xs ds f → ∃ g, IsL G S H (xs.take n) (ds.take n) g ∧ g.Sublist f
  | _, _, _, 0, _ => ⟨[], .nil, List.nil_sublist _⟩
  | _, _, _, n + 1, .nil => ⟨[], .nil, List.Sublist.refl _⟩
  | _, _, _, n + 1, .cons (f := f) h r => by
    obtain ⟨g, q, s⟩ := IsL.take n r
    exact ⟨f ++ g, .cons h q, List.Sublist.append_left s f⟩
theorem IsL.cut {xs : List V} {ds : List D} {f : List Addr} (h : IsL G S H xs ds f) (lo hi : Option Int) : ∃ g, IsL G S H (cutV xs lo hi) (cutD ds lo hi) g ∧ g.Sublist f := by
  unfold cutV cutD
  rw [h.len]
  obtain ⟨g, q, s⟩ := h.drop (HT.sIx ds.length 0 lo)
  obtain ⟨g2, q2, s2⟩ := q.take (HT.sIx ds.length ds.length hi - HT.sIx ds.length 0 lo)
  exact ⟨g2, q2, s2.trans s⟩
def rSlD (K : PySem.W.Frag) : V → Option Int → Option Int → Hp → VK → Prop := fun x lo hi H Q => rSlL K x lo hi H Q ∨ rSlA K x lo hi H Q ∨ rSlS x lo hi H Q
theorem rSlD_ok {X : Cx} : SlR X (rSlD X.K) := sl_list.or (sl_tupA.or sl_str)
theorem cut_whole {α : Type} (xs : List α) (lo hi : Option Int) (h : HT.sIx xs.length 0 lo = 0 ∧ HT.sIx xs.length xs.length hi = xs.length) : (xs.drop (HT.sIx xs.length 0 lo)).take (HT.sIx xs.length xs.length hi - HT.sIx xs.length 0 lo) = xs := by
  rw [h.1, h.2]
  simp
theorem sl_ok {x : D} {v : V} {lo hi : Option Int} {f : List Addr} {Q : VK} (dm : Dom S H) (k : Le H0 H) (ix : Is G S H v x f) (fr : Fresh H0 S f) (h : Kt G W σ S H0 H (slD x lo hi) Q) : rSlD G.K v lo hi H Q := by
  have g1 := give1 dm fr (footD ix)
  unfold slD at h
  split at h
  · obtain ⟨a, xs, rfl, hx, r⟩ := ix.eTup
    obtain ⟨g, q, s⟩ := r.cut lo hi
    refine .inr (.inl ⟨a, xs, rfl, hx, fun c => ?_, fun _ p hp => (Kt.mono g1 h).tup g1.dom (part_ok q s) Fresh.nil hp⟩)
    have e := part_ok q s
    unfold cutV at e
    rw [cut_whole xs lo hi c] at e
    exact (Kt.mono g1 h).here g1.dom (.tup hx e) Fresh.nil
  · obtain ⟨a, xs, fl, rfl, hx, r, sl⟩ := ix.eLst
    obtain ⟨g, q, s⟩ := r.cut lo hi
    exact .inl ⟨a, xs, rfl, hx, fun p hp => (Kt.mono g1 h).lst g1.dom k (part_ok q (s.trans sl)) Fresh.nil hp⟩
  · obtain ⟨rfl, _⟩ := ix.eStr
    split at h
    · rename_i c
      exact .inr (.inr ⟨_, rfl, lim_le c, h.str dm⟩)
    · exact h.elim
  · exact h.elim

/-! ### isinstance -/
theorem tyx_tup {K : PySem.W.Frag} {a : Addr} {xs : List V} (h : SqT K H a xs) : TyX K H (.ref a) (.type "tuple") := by
  rcases h with (h | ⟨o, h⟩) | ⟨o, _, _, h, c, _⟩
  · exact .base (.tup h)
  · exact .fTuple h
  · exact .kTuple h c
theorem tyx_lst {K : PySem.W.Frag} {a : Addr} {xs : List V} (h : SqL K H a xs) : TyX K H (.ref a) (.type "list") := by
  rcases h with (h | ⟨o, h⟩) | ⟨o, _, _, h, c, _⟩
  · exact .base (.lst h)
  · exact .base (.frz h)
  · exact .kList h c
theorem isi_ok {x : D} {t : Ty} {v : V} {f : List Addr} {Q : VK} (dm : Dom S H) (ix : Is G S H v x f) (h : Kt G W σ S H0 H (isTy x t) Q) : rIsi G.K [v, .ty (tyName t)] H Q := by
  have go : ∀ (n : String) (b : Bool), TyX G.K H v (.type n) → kitB n (tyName t) = some b → Q (.bl b) H → rIsi G.K [v, .ty (tyName t)] H Q := fun n b ty e q => ⟨v, .ty (tyName t), .type n, .type (tyName t), b, rfl, .ty _, ty, kit_ty e, q⟩
  cases x with
  | non =>
    obtain ⟨rfl, _⟩ := ix.eNon
    cases t <;> exact go "NoneType" _ (.base .non) (by decide +kernel) (h.bl dm)
  | bl b =>
    obtain ⟨rfl, _⟩ := ix.eBl
    cases t <;> exact go "bool" _ (.base (.bl _)) (by decide +kernel) (h.bl dm)
  | int b =>
    obtain ⟨rfl, _⟩ := ix.eInt
    cases t <;> exact go "int" _ (.base (.int _)) (by decide +kernel) (h.bl dm)
  | str b =>
    obtain ⟨rfl, _⟩ := ix.eStr
    cases t <;> exact go "str" _ (.base (.str _)) (by decide +kernel) (h.bl dm)
  | tup ds =>
    obtain ⟨a, xs, rfl, hx, _⟩ := ix.eTup
    cases t <;> exact go "tuple" _ (tyx_tup hx) (by decide +kernel) (h.bl dm)
  | lst o ds =>
    obtain ⟨a, xs, _, rfl, hx, _⟩ := ix.eLst
    cases t <;> exact go "list" _ (tyx_lst hx) (by decide +kernel) (h.bl dm)
  | dct o ks ds =>
    have ty : TyX G.K H v (.type "dict") := by
      cases ix with
      | dctF hs h hl r =>
        rcases h with h | ⟨o, h⟩
        · exact .base (.dK h)
        · exact .fDict h
      | dctO h hl r => exact .base (.dK h)
    cases t <;> exact go "dict" _ ty (by decide +kernel) (h.bl dm)
  | dcu o ks ds => cases t <;> exact h.elim
  | obj o c ns ds => cases t <;> exact h.elim
  | exc c => cases t <;> exact h.elim
end
end Pw

/-! ## The codes' soundness: all of it -/
namespace Pw
open PySem PySem.Spec PyProof.Rows L2
section
variable {G : Kn} {W : WX} {σ : L2.St} {H : Hp}
theorem tP_const {d : D} {v : V} {Q : VK} (hv : ∀ S H, Is G S H v d []) (h : tP G W (fun _ => .ok d) σ H Q) : Q v H := by
  obtain ⟨S, δ, dm, fr, k⟩ := h
  exact Kt.here k dm (hv S H) Fresh.nil
theorem tP_var {i : Nat} {Q : VK} (h : tP G W (fun δ => slotD δ[i]?) σ H Q) : tVar i σ H Q := by
  obtain ⟨S, δ, dm, fr, k⟩ := h
  dsimp only at k
  cases e : δ[i]? with
  | none => rw [e] at k; exact k.elim
  | some o =>
    cases o with
    | none => rw [e] at k; exact k.elim
    | some d =>
      rw [e] at k
      obtain ⟨v, e2, q⟩ := fr.2 i d e
      exact ⟨v, e2, Kt.here k dm q Fresh.nil⟩
theorem tP_ite {Ft Fa Fb : Dl → Res D} {Q : VK} (h : tP G W (fun δ => (Ft δ).bind fun x => iteD x (Fa δ) (Fb δ)) σ H Q) : tIf (tPt G W Ft) (tP G W Fa) (tP G W Fb) σ H Q := by
  obtain ⟨S, δ, dm, fr, k⟩ := h
  dsimp only at k
  refine ⟨S, δ, dm, fr, ?_⟩
  cases ea : Ft δ with
  | stuck => rw [ea] at k; exact k
  | exc x => rw [ea] at k; exact k
  | ok x =>
    rw [ea, Res.bind_ok] at k
    refine fun v S1 H1 f g i fh => ?_
    have k1 := Kt.mono g k
    unfold iteD at k1
    split at k1
    · obtain ⟨rfl, _⟩ := i.eBl
      exact ⟨true, rfl, iteT (⟨S1, δ, g.dom, fr.mono g, k1.young g.same⟩)⟩
    · obtain ⟨rfl, _⟩ := i.eBl
      exact ⟨false, rfl, iteF (⟨S1, δ, g.dom, fr.mono g, k1.young g.same⟩)⟩
    · exact k1.elim
theorem tP_andV {Fa Fb : Dl → Res D} {Q : VK} (h : tP G W (fun δ => (Fa δ).bind fun x => andD x (Fb δ)) σ H Q) : tAndV (tP G W Fa) (tP G W Fb) σ H Q := by
  obtain ⟨S, δ, dm, fr, k⟩ := h
  dsimp only at k
  refine ⟨S, δ, dm, fr, ?_⟩
  cases ea : Fa δ with
  | stuck => rw [ea] at k; exact k
  | exc x => rw [ea] at k; exact k
  | ok x =>
    rw [ea, Res.bind_ok] at k
    refine fun v S1 H1 f g i fh => ?_
    have k1 := Kt.mono g k
    unfold andD at k1
    split at k1
    · obtain ⟨rfl, _⟩ := i.eBl
      exact ⟨true, rfl, iteT (⟨S1, δ, g.dom, fr.mono g, k1.young g.same⟩)⟩
    · obtain ⟨rfl, _⟩ := i.eBl
      exact ⟨false, rfl, iteF (k1.bl g.dom)⟩
    · exact k1.elim
theorem tP_orV {Fa Fb : Dl → Res D} {Q : VK} (h : tP G W (fun δ => (Fa δ).bind fun x => orD x (Fb δ)) σ H Q) : tOrV (tP G W Fa) (tP G W Fb) σ H Q := by
  obtain ⟨S, δ, dm, fr, k⟩ := h
  dsimp only at k
  refine ⟨S, δ, dm, fr, ?_⟩
  cases ea : Fa δ with
  | stuck => rw [ea] at k; exact k
  | exc x => rw [ea] at k; exact k
  | ok x =>
    rw [ea, Res.bind_ok] at k
    refine fun v S1 H1 f g i fh => ?_
    have k1 := Kt.mono g k
    unfold orD at k1
    split at k1
    · obtain ⟨rfl, _⟩ := i.eBl
      exact ⟨true, rfl, iteT (k1.bl g.dom)⟩
    · obtain ⟨rfl, _⟩ := i.eBl
      exact ⟨false, rfl, iteF (⟨S1, δ, g.dom, fr.mono g, k1.young g.same⟩)⟩
    · exact k1.elim
theorem tP_andT {Fa Fb : Dl → Res D} {Q : Bool → Hp → Prop} (h : tPt G W (fun δ => (Fa δ).bind fun x => andD x (Fb δ)) σ H Q) : tAnd (tPt G W Fa) (tPt G W Fb) σ H Q := by
  obtain ⟨S, δ, dm, fr, k⟩ := h
  dsimp only at k
  refine ⟨S, δ, dm, fr, ?_⟩
  cases ea : Fa δ with
  | stuck => rw [ea] at k; exact k
  | exc x => rw [ea] at k; exact k
  | ok x =>
    rw [ea, Res.bind_ok] at k
    refine fun v S1 H1 f g i fh => ?_
    have k1 := Kt.mono g k
    unfold andD at k1
    split at k1
    · obtain ⟨rfl, _⟩ := i.eBl
      exact ⟨true, rfl, iteT (⟨S1, δ, g.dom, fr.mono g, k1.young g.same⟩)⟩
    · obtain ⟨rfl, _⟩ := i.eBl
      obtain ⟨b, e, q⟩ := k1.bl g.dom
      cases e
      exact ⟨false, rfl, iteF (q)⟩
    · exact k1.elim
theorem tP_orT {Fa Fb : Dl → Res D} {Q : Bool → Hp → Prop} (h : tPt G W (fun δ => (Fa δ).bind fun x => orD x (Fb δ)) σ H Q) : tOr (tPt G W Fa) (tPt G W Fb) σ H Q := by
  obtain ⟨S, δ, dm, fr, k⟩ := h
  dsimp only at k
  refine ⟨S, δ, dm, fr, ?_⟩
  cases ea : Fa δ with
  | stuck => rw [ea] at k; exact k
  | exc x => rw [ea] at k; exact k
  | ok x =>
    rw [ea, Res.bind_ok] at k
    refine fun v S1 H1 f g i fh => ?_
    have k1 := Kt.mono g k
    unfold orD at k1
    split at k1
    · obtain ⟨rfl, _⟩ := i.eBl
      obtain ⟨b, e, q⟩ := k1.bl g.dom
      cases e
      exact ⟨true, rfl, iteT (q)⟩
    · obtain ⟨rfl, _⟩ := i.eBl
      exact ⟨false, rfl, iteF (⟨S1, δ, g.dom, fr.mono g, k1.young g.same⟩)⟩
    · exact k1.elim
theorem cmp2_bl {op : CmpOp} {x y : D} : cmp2 op x y = .stuck ∨ ∃ b, cmp2 op x y = .ok (.bl b) := by
  unfold cmp2
  split <;> first | exact .inl rfl | exact .inr ⟨_, rfl⟩ | (split <;> first | exact .inl rfl | exact .inr ⟨_, rfl⟩)
theorem tP_chain {Fa Fb Fc : Dl → Res D} {op op2 : CmpOp} {Q : VK}
    (h : tP G W (fun δ => (Fa δ).bind fun x => (Fb δ).bind fun y => (cmp2 op x y).bind fun t => andD t ((Fc δ).bind fun z => cmp2 op2 y z)) σ H Q) : tChain (rCmp G.K op) (rCmp G.K op2) (tP G W Fa) (tP G W Fb) (tP G W Fc) σ H Q := by
  obtain ⟨S, δ, dm, fr, k⟩ := h
  dsimp only at k
  refine ⟨S, δ, dm, fr, ?_⟩
  cases ea : Fa δ with
  | stuck => rw [ea] at k; exact k
  | exc x => rw [ea] at k; exact k
  | ok x =>
    rw [ea, Res.bind_ok] at k
    refine fun v S1 H1 f g1 i1 f1 => ⟨S1, δ, g1.dom, fr.mono g1, ?_⟩
    have k1 := Kt.mono g1 k
    cases eb : Fb δ with
    | stuck => rw [eb] at k1; exact k1
    | exc y => rw [eb] at k1; exact fun S2 H2 g2 => k1 S2 H2 (g2.older g1.same)
    | ok y =>
      rw [eb, Res.bind_ok] at k1
      refine fun u S2 H2 g g2 i2 f2 => ?_
      have k2 := Kt.mono (g2.older g1.same) k1
      have i1' := i1.mono g2.sub g2.same
      rcases cmp2_bl (op := op) (x := x) (y := y) with e | ⟨b, e⟩
      · rw [e] at k2; exact k2.elim
      · refine cmp_ok (W := W) (σ := σ) (H0 := H2) g2.dom i1' i2 ?_
        rw [e]
        refine fun w S3 H3 f3 g3 i3 _ => ?_
        obtain ⟨rfl, _⟩ := i3.eBl
        refine ⟨b, rfl, ?_⟩
        have k3 := Kt.mono (g3.older (fun a o z => g2.same a o (g1.same a o z))) k2
        rw [e, Res.bind_ok] at k3
        have i2' := i2.mono g3.sub g3.same
        cases b with
        | false =>
          rw [if_neg Bool.false_ne_true]
          exact Kt.bl k3 g3.dom
        | true =>
          rw [if_pos rfl]
          have k3 : Kt G W σ S3 H H3 ((Fc δ).bind fun z => cmp2 op2 y z) Q := k3
          have lea : Le H H3 := fun a o z => g3.same a o (g2.same a o (g1.same a o z))
          refine ⟨S3, δ, g3.dom, ((fr.mono g1).mono g2).mono g3, ?_⟩
          cases ec : Fc δ with
          | stuck => rw [ec] at k3; exact k3
          | exc z => rw [ec] at k3; exact fun S4 H4 g4 => k3 S4 H4 (g4.older lea)
          | ok z =>
            rw [ec, Res.bind_ok] at k3
            exact fun w S4 H4 f4 g4 i4 _ => cmp_ok g4.dom (i2'.mono g4.sub g4.same) i4 (Kt.mono (g4.older lea) k3)
theorem tPt_of {F : Dl → Res D} {Q : Bool → Hp → Prop} (h : tPt G W F σ H Q) : tB (tP G W F) σ H Q := h
theorem tPt_nt {F : Dl → Res D} {Q : Bool → Hp → Prop} (h : tPt G W (fun δ => (F δ).bind ntD) σ H Q) : tNot (tPt G W F) σ H Q := by
  have z := tP1 (G := G) (W := W) (r := fun v H Q => ∃ b, v = .bl b ∧ ∃ c, V.bl (!b) = .bl c ∧ Q (.bl c) H) (Q := fun v H => ∃ b, v = .bl b ∧ Q b H) (fun S H0 H x v f Q dm k ix fh h => by
    unfold ntD at h
    split at h
    · obtain ⟨rfl, _⟩ := ix.eBl
      exact ⟨_, rfl, _, rfl, h.bl dm⟩
    · exact h.elim) h
  obtain ⟨S, δ, dm, fr, k⟩ := z
  refine ⟨S, δ, dm, fr, ?_⟩
  cases e : F δ with
  | stuck => rw [e] at k; exact k
  | exc x => rw [e] at k; exact k
  | ok x =>
    rw [e] at k
    refine fun v S1 H1 f g i fh => ?_
    obtain ⟨b, e1, c, e2, d, e3, q⟩ := k v S1 H1 f g i fh
    cases e2
    cases e3
    exact ⟨b, e1, q⟩
end
end Pw

/-! ## The codes' soundness: calls, comprehensions, and all of it -/
namespace Pw
open PySem PySem.Spec PyProof.Rows L2

mutual
theorem evPs_len {T : Tb} {k : Nat} {fr N : List Str} {sc : Scope} : ∀ {cs : Cs} {es : List Expr} {δ : Dl} {ds : List D}, chks T fr N cs sc es = true → evPs T k cs δ = .ok ds → ds.length = es.length
  | .nil, [], δ, ds, _, h => by
    rw [evPs] at h
    cases h
    rfl
  | .nil, _ :: _, _, _, c, _ => noF c
  | .cons _ _, [], _, _, c, _ => noF c
  | .cons c cs, e :: es, δ, ds, q, h => by
    obtain ⟨_, _, q3⟩ := and3 q
    rw [evPs] at h
    cases ea : evP T k c δ with
    | stuck => rw [ea] at h; cases h
    | exc x => rw [ea] at h; cases h
    | ok x =>
      rw [ea, Res.bind_ok] at h
      cases eb : evPs T k cs δ with
      | stuck => rw [eb] at h; cases h
      | exc x => rw [eb] at h; cases h
      | ok xs =>
        rw [eb, Res.bind_ok] at h
        cases h
        exact congrArg (· + 1) (evPs_len q3 eb)
end

section
variable {T : Tb} {fr : List Str} {ca : Nat → Addr} {k : Nat} {X : Cx} {W : WX}
theorem gr_of_aft {G : Kn} {S S1 S2 : Addr → Prop} {H0 H H2 : Hp} {vs : List V} {ds : List D} (g1 : Gr H0 S H S1 H) (le : Le H0 H) (a : Aft G S1 H [] S2 H2 vs ds) : Gr H0 S H S2 H2 := by
  obtain ⟨g, i, nd, fp, sub, new, dom, kp, there⟩ := a
  exact ⟨fun b o e => kp b o e (by simp), fun b z => sub b (g1.sub b z), fun b z => (new b z).elim (fun y => g1.new b y) fun y => y.elim (fun w => nomatch w) fun w => .inr (le_none le w), dom⟩
theorem call_ok {S : Addr → Prop} {H0 H : Hp} {σ : L2.St} {f : Nat} {x : List D} {vs dvs : List V} {g : List Addr} {Q : VK} (dm : Dom S H) (le : Le H0 H) (i : IsL (kn X ca) S H vs x g) (fh : Fresh H0 S g)
    (hl : x.length + dvs.length = T.ar f) (hd : ∀ S H, IsL (kn X ca) S H dvs ((T.dfl f).drop ((T.dfl f).length - (T.ar f - x.length))) []) (h : Kt (kn X ca) W σ S H0 H (callP T k f x) Q) :
    spD (kn X ca) (T.io f) (T.ar f) (T.call k f) (vs ++ dvs) H Q fun cls d H' => W cls d σ H' := by
  have g1 := give1 dm fh (footDL i)
  refine ⟨_, frzs x ++ (T.dfl f).drop ((T.dfl f).length - (T.ar f - x.length)), [], by rw [List.length_append, i.len]; exact hl, (part_ok i (List.Sublist.refl _)).append (hd _ _), List.nodup_nil, (fun _ z => nomatch z), g1.dom, ?_⟩
  have h2 : Kt (kn X ca) W σ S H0 H (match T.call k f (frzs x ++ (T.dfl f).drop ((T.dfl f).length - (T.ar f - x.length))) with
    | .stuck => .stuck
    | .ok d _ => .ok d
    | .exc x _ => .exc x) Q := h
  cases e : T.call k f (frzs x ++ (T.dfl f).drop ((T.dfl f).length - (T.ar f - x.length))) with
  | stuck => rw [e] at h2; exact h2
  | ok d outs =>
    rw [e] at h2
    intro v S2 H2 a
    have gg := gr_of_aft g1 le a
    obtain ⟨g, i2, nd, fp, _⟩ := a
    cases i2 with
    | cons q r => exact h2 v S2 H2 _ gg q ⟨nd.sublist (List.sublist_append_left _ _), fun b m => ⟨(fp b (List.mem_append_left _ m)).1, (fp b (List.mem_append_left _ m)).2.elim (fun w => nomatch w) fun w => le_none le w⟩⟩
  | exc y outs =>
    rw [e] at h2
    exact fun S2 H2 a => h2 S2 H2 (gr_of_aft g1 le a)
theorem pe_callD {f : Nat} {x : Str} {cs : Cs} {es : List Expr} {q pos : Pos} (o : Cok T fr ca k X W) (hx : T.names[f]? = some x) (gl : GloOk X.env.scope x) (hc : chks T fr X.N cs X.env.scope es = true) (l1 : T.ar f ≤ es.length + (T.dfl f).length) (l2 : es.length ≤ T.ar f)
    (ha : PA X es (tPs (kn X ca) W (evPs T k cs))) : PE X (.Call (.Name x q) es [] pos) (tP (kn X ca) W fun δ => (evPs T k cs δ).bind fun ds => callP T k f ds) := by
  obtain ⟨b, fd, ps, hm, hk, hps, F, _, hb⟩ := (o.fns f x hx).ex
  obtain ⟨dvs, us, b1, b2, b3, b4⟩ := hb es.length l1 l2
  refine ⟨fun pn s σ H Q I h => wpAny_Call_Name_kw (ld_glob I gl.g hm ?_ gl.d)⟩
  have h2 : tPs (kn X ca) W (evPs T k cs) σ H fun vs H1 => spD (kn X ca) (T.io f) (T.ar f) (T.call k f) (vs ++ dvs) H1 Q fun cls d H' => W cls d σ H' :=
    tPn (G := kn X ca) (op := callP T k f) (r := fun vs H1 Q => spD (kn X ca) (T.io f) (T.ar f) (T.call k f) (vs ++ dvs) H1 Q fun cls d H' => W cls d σ H') (fun S H0 H x v g Q dm le i fh ex kt => by
      obtain ⟨δ, e⟩ := ex
      have len := evPs_len hc e
      exact call_ok dm le i fh (by rw [len]; exact b3) (by rw [len]; exact b4) kt) h
  cases es with
  | nil =>
    refine PySem.W.callWith_K0 I.kIn hk ?_
    have r := ha.run pos pn s σ H _ I h2
    obtain ⟨S, δ, dm, fr', kt⟩ := h2
    cases cs with
    | cons _ _ => exact noF hc
    | nil => exact run_d (us := []) (vs := []) F o.room o.takes b1 b2 I .nil (kt [] S H [] (Gr.refl dm) .nil Fresh.nil)
  | cons e es =>
    cases cs with
    | nil => exact noF hc
    | cons c cs =>
      obtain ⟨_, p1, p2⟩ := and3 hc
      exact PySem.W.callWith_K (h₀ := X.base) I.ok.mod.kin hk (thn (ha.run pos pn s σ H _ I h2) fun us' s1 ⟨vs, H1, I1, r, z⟩ => ⟨I1.kIn, run_d F o.room o.takes b1 b2 I1 r z⟩) (star_plain p1) (stars_plain (cs := .nil) p2)
end

/-! ### comprehensions -/
theorem compL_cons {fn : D → Res (Option D)} {d : D} {ds : List D} : compL fn (d :: ds) = (fn d).bind fun o => (compL fn ds).bind fun ys => .ok (match o with
    | some y => y :: ys
    | none => ys) := rfl
section
variable {G : Kn} {W : WX} {σ : L2.St} {H : Hp}
/-- the loop's state ahead of turn i -/
structure Cv (G : Kn) (H0 : Hp) (S1 : Addr → Prop) (H1 : Hp) (Dd : Addr) (fn : D → Res (Option D)) (ds : List D) (i : Nat) (Hc : Hp) : Prop where
  ex : ∃ (S2 : Addr → Prop) (acc : List V) (ads : List D) (f : List Addr), (∀ a, S1 a → S2 a) ∧ (∀ a, S2 a → S1 a ∨ H0 a = none) ∧ Dom S2 Hc ∧ Hc Dd = some (.lst acc) ∧ ¬ S2 Dd ∧ Dd ∉ f ∧ IsL G S2 Hc acc ads f ∧ Fresh H0 S2 f ∧ acc.length ≤ i ∧
    compL fn ds = (compL fn (ds.drop i)).bind fun ys => .ok (ads ++ ys)
  le : Le H1 Hc
theorem bind_app {r : Res (List D)} {a b : List D} : (r.bind fun ys => Res.ok (b ++ ys)).bind (fun ys => Res.ok (a ++ ys)) = r.bind fun ys => Res.ok (a ++ b ++ ys) := by
  cases r with
  | ok ys => simp
  | stuck => rfl
  | exc x => rfl
theorem keep_upd {S : Addr → Prop} {H : Hp} {p : Addr} {o : HO} {vs : List V} {ds : List D} {f : List Addr} (h : IsL G S H vs ds f) (hm : Mut (H p)) (h1 : ¬ S p) (h2 : p ∉ f) : IsL G S (upd H p o) vs ds f := by
  refine h.keep (fun _ z => z) fun a u e q => ?_
  have ne : a ≠ p := by
    rintro rfl
    rcases q with q | q | q
    · exact h1 q
    · exact h2 q
    · rw [e] at hm; exact q hm
  rw [upd_ne ne]
  exact e
theorem tP_comp {bi : Bool} {FI : Dl → Res (List D)} {Fc Fe : Dl → Res D} {vs : List Nat} {tg : Tg} {Q : VK} (m : tgIn vs tg = true)
    (h : tP G W (fun δ => (FI δ).bind fun ds => lenOk ds ((compL (fun d => noExc (withTg (wipeD δ vs) tg d fun δ1 => keepIf (Fc δ1) (Fe δ1))) ds).bind fun ys => .ok (.lst true ys))) σ H Q) :
    tLc (tI bi G W FI) (gTg G.K tg) (tPt G W0 Fc) (tP G W0 Fe) vs σ H Q := by
  obtain ⟨S, δ, dm, fr, kt⟩ := h
  dsimp only at kt
  refine ⟨S, δ, dm, fr, ?_⟩
  cases ea : FI δ with
  | stuck => rw [ea] at kt; exact kt
  | exc x => rw [ea] at kt; exact kt
  | ok ds =>
    rw [ea, Res.bind_ok] at kt
    generalize hfn : (fun d => noExc (withTg (wipeD δ vs) tg d fun δ1 => keepIf (Fc δ1) (Fe δ1))) = fn at kt
    unfold lenOk at kt
    split at kt
    case isFalse => exact kt.elim
    rename_i small
    refine fun J S1 H1 g1 wk Dd hD => ?_
    have k1 := Kt.mono g1 kt
    refine ⟨fun i n Hc => n = ds.length - i ∧ i ≤ ds.length ∧ Cv G H S1 H1 Dd fn ds i Hc, ⟨ds.length, by simp, Nat.zero_le _, ⟨S1, [], [], [], fun _ z => z, fun _ z => .inl z, fun a z => le_dom (le_upd hD) (g1.dom a z), upd_same, fun z => g1.dom _ z hD, by simp, .nil, Fresh.nil, by simp, ?_⟩, le_upd hD⟩, ?_⟩
    · rw [List.drop_zero]
      cases compL fn ds <;> rfl
    rintro i n Hc ⟨rfl, hi, ⟨S2, acc, ads, f, sub, new, dom, hDc, nS, nf, isl, fh, ln, res⟩, le⟩
    have wkc := wk.1 S2 Hc sub dom fun a o e _ => le a o e
    by_cases lt : i < ds.length
    case neg =>
      have e : i = ds.length := by omega
      subst e
      refine .inl ⟨wkc.2 _ (Nat.le_refl _), ?_⟩
      rw [res, List.drop_length] at k1
      have k2 : Kt G W σ S1 H H1 (.ok (.lst true ads)) Q := by
        have z : ((compL fn []).bind fun ys => Res.ok (ads ++ ys)) = .ok ads := by simp [compL]
        rw [z] at k1
        exact k1
      have hD0 : H Dd = none := le_none g1.same hD
      refine k2 (.ref Dd) S2 Hc (Dd :: f) ⟨le, sub, new, dom⟩ (.lstO hDc isl) ⟨List.nodup_cons.mpr ⟨nf, fh.1⟩, fun a z => ?_⟩
      rcases List.mem_cons.mp z with rfl | z
      · exact ⟨nS, hD0⟩
      · exact fh.2 a z
    case pos =>
      obtain ⟨d, ed⟩ : ∃ d, ds[i]? = some d := ⟨ds[i], by simp [lt]⟩
      have edrop : ds.drop i = d :: ds.drop (i + 1) := by
        rw [List.drop_eq_getElem_cons lt]
        have := (List.getElem?_eq_some_iff.mp ed).2
        rw [this]
      rw [edrop, compL_cons] at res
      obtain ⟨hgo, hyld⟩ := wkc.1 i d ed
      refine .inr ⟨hgo, fun H' => Cv G H S1 H1 Dd fn ds (i + 1) H', fun H' cv => ⟨ds.length - (i + 1), by omega, rfl, lt, cv⟩, fun x H2 yy => ?_⟩
      obtain ⟨le2, isx⟩ := hyld x H2 yy
      have dom2 : Dom S2 H2 := fun a z => le_dom le2 (dom a z)
      have frc : Fr G S2 H2 (wipe σ vs) (wipeD δ vs) := by
        have fr1 : Fr G S2 H2 σ δ := ⟨fr.1, fun j e z => by
          obtain ⟨v, e1, q⟩ := fr.2 j e z
          exact ⟨v, e1, q.mono (fun a z => sub a (g1.sub a z)) fun a o z => le2 a o (le a o (g1.same a o z))⟩⟩
        exact fr1.wipe vs
      have efn : fn d = noExc (withTg (wipeD δ vs) tg d fun δ1 => keepIf (Fc δ1) (Fe δ1)) := by rw [← hfn]
      have bad : fn d = .stuck → False := fun z => by
        rw [res, z] at k1
        exact k1
      cases eb : bindTg (wipeD δ vs) tg d with
      | none => exact (bad (by rw [efn]; unfold withTg; rw [eb]; rfl)).elim
      | some δ1 =>
        have efn2 : fn d = noExc (keepIf (Fc δ1) (Fe δ1)) := by rw [efn]; unfold withTg; rw [eb]
        refine bind_tg frc isx eb m fun σ2 fr2 w2 => ⟨by rw [w2, wipe_twice], S2, δ1, dom2, fr2, ?_⟩
        have same2 : Le H1 H2 := fun a o z => le2 a o (le a o z)
        cases ec : Fc δ1 with
        | stuck => exact (bad (by rw [efn2]; unfold keepIf; rw [ec]; rfl)).elim
        | exc x => exact (bad (by rw [efn2]; unfold keepIf; rw [ec]; rfl)).elim
        | ok c =>
          refine fun v S3 H3 f3 g3 i3 _ => ?_
          have hD3 : H3 Dd = some (.lst acc) := g3.same _ _ (le2 _ _ hDc)
          have nS3 : ¬ S3 Dd := fun z => (g3.new _ z).elim nS fun y => by rw [le2 _ _ hDc] at y; cases y
          have isl3 : IsL G S3 H3 acc ads f := isl.mono (fun a z => g3.sub a z) fun a o z => g3.same a o (le2 a o z)
          have f2in : ∀ a ∈ f, H2 a ≠ none := fun a z => le_dom le2 (footDL isl a z)
          have fh3 : Fresh H S3 f := fh.grow g3 f2in
          have new3 : ∀ a, S3 a → S1 a ∨ H a = none := fun a z => (g3.new a z).elim (new a) fun y => .inr (le_none g1.same (le_none same2 y))
          have sub3 : ∀ a, S1 a → S3 a := fun a z => g3.sub a (sub a z)
          have le3 : Le H1 H3 := fun a o z => g3.same a o (same2 a o z)
          have cbl : (∃ b, c = .bl b) := by
            cases c with
            | bl b => exact ⟨b, rfl⟩
            | _ => exact (bad (by rw [efn2]; unfold keepIf; rw [ec]; rfl)).elim
          obtain ⟨b, rfl⟩ := cbl
          obtain ⟨rfl, _⟩ := i3.eBl
          refine ⟨b, rfl, ?_⟩
          cases b with
          | false =>
            refine iteF ⟨⟨S3, acc, ads, f, sub3, new3, g3.dom, hD3, nS3, nf, isl3, fh3, Nat.le_succ_of_le ln, ?_⟩, le3⟩
            rw [res, efn2]
            unfold keepIf
            rw [ec]
            show ((compL fn (ds.drop (i + 1))).bind fun ys => Res.ok ys).bind _ = _
            cases compL fn (ds.drop (i + 1)) <;> rfl
          | true =>
            refine iteT ⟨S3, δ1, g3.dom, fr2.mono g3, ?_⟩
            cases ee : Fe δ1 with
            | stuck => exact (bad (by rw [efn2]; unfold keepIf; rw [ec]; show noExc ((Fe δ1).bind _) = _; rw [ee]; rfl)).elim
            | exc x => exact (bad (by rw [efn2]; unfold keepIf; rw [ec]; show noExc ((Fe δ1).bind _) = _; rw [ee]; rfl)).elim
            | ok y =>
              refine fun u S4 H4 f4 g4 i4 fh4 => ⟨acc, g4.same _ _ hD3, Nat.lt_of_le_of_lt ln (Nat.lt_of_lt_of_le lt (lim_le small)), ?_⟩
              have hD4 : H4 Dd = some (.lst acc) := g4.same _ _ hD3
              have mu : Mut (H4 Dd) := by rw [hD4]; trivial
              have nS4 : ¬ S4 Dd := fun z => (g4.new _ z).elim nS3 fun w => by rw [hD3] at w; cases w
              have n4 : Dd ∉ f4 := fun z => by
                have := (fh4.2 _ z).2
                rw [hD3] at this
                cases this
              have isl4 : IsL G S4 H4 acc ads f := isl3.mono g4.sub g4.same
              have one : IsL G S4 H4 [u] [y] f4 := by
                have q := IsL.cons i4 (IsL.nil (G := G) (S := S4) (H := H4))
                rw [List.append_nil] at q
                exact q
              have all := isl4.append one
              have nn : Dd ∉ f ++ f4 := fun z => (List.mem_append.mp z).elim nf n4
              have lem : Le H4 (upd H4 Dd (.lst (acc ++ [u]))) → True := fun _ => trivial
              refine ⟨⟨S4, acc ++ [u], ads ++ [y], f ++ f4, fun a z => g4.sub a (sub3 a z), fun a z => (g4.new a z).elim (new3 a) fun w => .inr (le_none g1.same (le_none le3 w)), fun a z => ?_, upd_same, nS4, nn, keep_upd all mu nS4 nn, ?_, by rw [List.length_append]; exact Nat.succ_le_succ ln, ?_⟩, fun a o z => ?_⟩
              · by_cases e : a = Dd
                · rw [e, upd_same]; exact fun w => nomatch w
                · rw [upd_ne e]; exact g4.dom a z
              · exact (fh3.grow g4 fun a z => footDL isl3 a z).app (fun a o z => le3 a o (g1.same a o z)) fh4 fun a z => footDL isl3 a z
              · rw [res, efn2]
                unfold keepIf
                rw [ec]
                show ((noExc ((Fe δ1).bind fun y => .ok (some y))).bind _).bind _ = _
                rw [ee]
                show ((compL fn (ds.drop (i + 1))).bind fun ys => Res.ok ([y] ++ ys)).bind _ = _
                exact bind_app
              · have ne : a ≠ Dd := by
                  rintro rfl
                  rw [hD] at z
                  cases z
                rw [upd_ne ne]
                exact g4.same a o (le3 a o z)
end
end Pw

/-! ## The codes' soundness -/
namespace Pw
open PySem PySem.Spec PyProof.Rows L2
section
variable {T : Tb} {fr : List Str} {ca : Nat → Addr} {k : Nat} {X : Cx} {W : WX}
theorem Cok.glob (o : Cok T fr ca k X W) {x : Str} {p : Pos} {q : Str × D} {j : Nat} (e : T.consts[j]? = some q) (eq : q.1 = x) (gl : GloOk X.env.scope x) : PE X (.Name x p) (tP (kn X ca) W fun _ => constD T.consts[j]?) := by
  obtain ⟨v, u, h1, h2, h3⟩ := o.cons j q e
  rw [eq] at h1
  refine PE.weak (pe_glob gl.g h1 h2 gl.d) fun σ H Q h => ?_
  rw [e] at h
  exact tP_const h3 h
def bltKind : Blt → Bool
  | .str => true | .int => true | .tuple => true | .list => true | _ => false
theorem pe_blt (o : Cok T fr ca k X W) {b : Blt} {x : Str} {q p : Pos} {e : Expr} {es : List Expr} {F : Dl → Res (List D)} (hb : bltName b = x) (gl : FreeOk fr X.env.scope x) (ha : PA X (e :: es) (tPs (kn X ca) W F)) (p1 : plainE e = true)
    (p2 : (backTo p (starEach es X.env)).any (·.1) = false) : PE X (.Call (.Name x q) (e :: es) [] p) (tP (kn X ca) W fun δ => (F δ).bind fun ds => bltD b ds) := by
  have w : ∀ σ H Q, tP (kn X ca) W (fun δ => (F δ).bind fun ds => bltD b ds) σ H Q → tCB (rBlt X.K b) (tPs (kn X ca) W F) σ H Q := fun σ H Q h => tPn (G := kn X ca) (op := bltD b) (r := rBlt X.K b) (fun S H0 H x v f Q dm le i fh _ kt => blt_ok dm le i fh kt) h
  have hm := o.free x gl.f
  subst hb
  have hr := rBlt_ok o.calm b
  cases b with
  | abs => exact PE.weak (pe_callB (id := "abs") hr gl.g hm (by decide +kernel) ha gl.n gl.d (star_plain p1) p2) w
  | len => exact PE.weak (pe_callB (id := "len") hr gl.g hm (by decide +kernel) ha gl.n gl.d (star_plain p1) p2) w
  | all => exact PE.weak (pe_callB (id := "all") hr gl.g hm (by decide +kernel) ha gl.n gl.d (star_plain p1) p2) w
  | any => exact PE.weak (pe_callB (id := "any") hr gl.g hm (by decide +kernel) ha gl.n gl.d (star_plain p1) p2) w
  | max => exact PE.weak (pe_callB (id := "max") hr gl.g hm (by decide +kernel) ha gl.n gl.d (star_plain p1) p2) w
  | min => exact PE.weak (pe_callB (id := "min") hr gl.g hm (by decide +kernel) ha gl.n gl.d (star_plain p1) p2) w
  | sum => exact PE.weak (pe_callB (id := "sum") hr gl.g hm (by decide +kernel) ha gl.n gl.d (star_plain p1) p2) w
  | str => exact PE.weak (pe_callTy (T := "str") hr gl.g hm (by decide +kernel) ha gl.n gl.d (star_plain p1) p2) w
  | int => exact PE.weak (pe_callTy (T := "int") hr gl.g hm (by decide +kernel) ha gl.n gl.d (star_plain p1) p2) w
  | tuple => exact PE.weak (pe_callTy (T := "tuple") hr gl.g hm (by decide +kernel) ha gl.n gl.d (star_plain p1) p2) w
  | list => exact PE.weak (pe_callTy (T := "list") hr gl.g hm (by decide +kernel) ha gl.n gl.d (star_plain p1) p2) w
theorem pe_isiD (o : Cok T fr ca k X W) {t : Ty} {y : Str} {q q2 p : Pos} {e : Expr} {F : Dl → Res D} (gi : FreeOk fr X.env.scope "isinstance") (hy : y = (tyName t : Str)) (gy : FreeOk fr X.env.scope y) (ha : PE X e (tP (kn X ca) W F)) (p1 : plainE e = true) :
    PE X (.Call (.Name "isinstance" q) [e, .Name y q2] [] p) (tP (kn X ca) W fun δ => (F δ).bind fun x => isTy x t) := by
  have hn : PE X (.Name y q2) (tC (.ty (tyName t))) := by
    subst hy
    cases t <;> exact pe_bltn gy.g (o.free _ gy.f) (by decide +kernel) rfl gy.n gy.d
  have ha2 : PA X [e, .Name y q2] (tCons (tP (kn X ca) W F) (tCons (tC (.ty (tyName t))) tNil)) := pa_cons ha (pa_cons hn pa_nil) (star_plain p1)
  refine PE.weak (pe_callB (id := "isinstance") call_isi gi.g (o.free _ gi.f) (by decide +kernel) ha2 gi.n gi.d (star_plain p1) rfl) fun σ H Q h => ?_
  exact tP1 (G := kn X ca) (op := fun x => isTy x t) (r := fun v H Q => rIsi X.K [v, .ty (tyName t)] H Q) (fun S H0 H x v f Q dm le i fh kt => isi_ok dm i kt) h
theorem name_set {sc : Scope} {N : List Str} {fn : Bool} {i : Nat} {e : Expr} (h : locB sc N fn i e = true) : ∃ x p, e = .Name x p ∧ N[i]? = some x ∧ (sc.names.lookup x = some .local ∨ (sc.names.lookup x = some .cell ∧ fn = true)) := by
  cases e with
  | Name x p =>
    obtain ⟨h1, h2⟩ := and2 h
    refine ⟨x, p, rfl, of_decide_eq_true h1, ?_⟩
    split at h2
    · exact .inl (by assumption)
    · exact .inr ⟨by assumption, h2⟩
    · exact noF h2
  | _ => exact noF h
theorem pg_one {X : Cx} {N' : X.N.Nodup} {sc : Scope} (hs : X.env.scope = sc) {fn : Bool} (hf : fn = true → ∀ x, X.fn x = true) {i : Nat} {e : Expr} (h : locB sc X.N fn i e = true) : PG X e (gName i) := by
  obtain ⟨x, p, rfl, e1, e2⟩ := name_set h
  subst hs
  rcases e2 with e2 | ⟨e2, e3⟩
  · exact pg_name N' e1 (.inl e2) (.inr e2)
  · exact pg_name N' e1 (.inr e2) (.inl (hf e3 x))
theorem assign_star {e : Expr} {es : List Expr} {env : Env} {x : Str} {p : Pos} (h : e = .Name x p) : assignEach (e :: es) env = (false, assign e env) :: assignEach es env := by subst h; rfl
theorem pg_all {X : Cx} {N' : X.N.Nodup} {sc : Scope} (hs : X.env.scope = sc) {fn : Bool} (hf : fn = true → ∀ x, X.fn x = true) : ∀ {is : List Nat} {es : List Expr}, locBs sc X.N fn is es = true → PGs X es (gAll is) ∧ (assignEach es X.env).length = is.length ∧ (assignEach es X.env).findIdx? (·.1) = none
  | [], [], _ => ⟨pgs_nil, rfl, rfl⟩
  | [], _ :: _, h => noF h
  | _ :: _, [], h => noF h
  | i :: is, e :: es, h => by
    obtain ⟨h1, h2⟩ := and2 h
    obtain ⟨q1, q2, q3⟩ := pg_all (N' := N') hs hf h2
    obtain ⟨x, p, e1, _⟩ := name_set h1
    have z := assign_star (es := es) (env := X.env) e1
    refine ⟨pgs_cons (pg_one (N' := N') hs hf h1) q1 (by rw [z]; rfl), by rw [z]; exact congrArg (· + 1) q2, ?_⟩
    rw [z, List.findIdx?_cons, q3]
    rfl
theorem pg_tg {X : Cx} {N' : X.N.Nodup} (hc : X.calm = true) {sc : Scope} (hs : X.env.scope = sc) {fn : Bool} (hf : fn = true → ∀ x, X.fn x = true) {tg : Tg} {e : Expr} (h : tgB sc X.N fn tg e = true) : PG X e (gTg X.K tg) := by
  cases tg with
  | one i => exact pg_one (N' := N') hs hf h
  | many is =>
    cases e with
    | Tuple es kk p =>
      obtain ⟨q1, q2, q3⟩ := pg_all (N' := N') hs hf (show locBs sc X.N fn is es = true from h)
      exact pg_tup hc q1 q2 q3
    | _ => exact noF h
theorem po_of {X : Cx} {e : Expr} {F : Dl → Res D} {G : Kn} (h : PE X e (tP G W F)) : PO X (some e) (tPart (tP G W F)) := po_some h
theorem fold_plain {e : Expr} {env : Env} (h : plainE e = true) : ∀ x, foldedSetIterable e env x = pure x := by
  intro x
  cases e <;> first | rfl | exact noF h
theorem PE.as {X : Cx} {e : Expr} {F F' : Dl → Res D} {G : Kn} (h : PE X e (tP G W F)) (q : ∀ δ, F' δ = F δ) : PE X e (tP G W F') := by
  rw [show F' = F from funext q]
  exact h
abbrev GoodE (T : Tb) (fr : List Str) (ca : Nat → Addr) (k : Nat) (c : C) : Prop := ∀ (X : Cx) (W : WX) (e : Expr), Cok T fr ca k X W → chk T fr X.N c X.env.scope e = true → PE X e (tP (kn X ca) W (evP T k c)) ∧ PT X e (tPt (kn X ca) W (evP T k c))
theorem both {X : Cx} {W : WX} {e : Expr} {F : Dl → Res D} {G : Kn} (h : PE X e (tP G W F)) (hv : valueE e = true) : PE X e (tP G W F) ∧ PT X e (tPt G W F) :=
  ⟨h, pt_val h fun whole => true_value hv whole⟩
/-- the bound of a slice -/
theorem part_of {X : Cx} {o : Cok T fr ca k X W} {lo : C} {x : Option Expr} (g : GoodE T fr ca k lo) (h : (match x with
    | none => isNop lo
    | some l1 => chk T fr X.N lo X.env.scope l1) = true) : (x = none ∧ lo = .nop) ∨ ∃ e, x = some e ∧ isNop lo = false ∧ PO X x (tPart (tP (kn X ca) W (evP T k lo))) := by
  cases x with
  | none =>
    refine .inl ⟨rfl, ?_⟩
    cases lo <;> first | rfl | exact noF h
  | some e =>
    refine .inr ⟨e, rfl, ?_, po_some (g X W e o h).1⟩
    cases lo <;> first | rfl | exact (inv_nop h).elim
def rPart (G : Kn) (W : WX) (lo : C) (F : Dl → Res D) : TO := match isNop lo with
  | true => tNoPart
  | false => tPart (tP G W F)
theorem po_part {X : Cx} (o : Cok T fr ca k X W) {lo : C} {x : Option Expr} (g : GoodE T fr ca k lo) (h : (match x with
    | none => isNop lo
    | some l1 => chk T fr X.N lo X.env.scope l1) = true) : PO X x (rPart (kn X ca) W lo (evP T k lo)) := by
  rcases part_of (o := o) g h with ⟨rfl, rfl⟩ | ⟨e, rfl, z, q⟩
  · exact po_none
  · unfold rPart
    rw [z]
    exact q
section
variable {G : Kn} {σ : L2.St} {S : Addr → Prop} {H0 H : Hp}
theorem part_k {lo : C} {F : Dl → Res D} {δ : Dl} {K : Option Int → Res D} {Q : VK} {R : Option Int → Hp → Prop} (dm : Dom S H) (le : Le H0 H) (fr : Fr G S H σ δ) (h : Kt G W σ S H0 H (optD lo (F δ) K) Q)
    (go : ∀ l S' H', Gr H0 S H S' H' → (∀ a o, H a = some o → H' a = some o) → (∀ a, S' a → S a ∨ H a = none) → Kt G W σ S' H0 H' (K l) Q → R l H') : rPart G W lo F σ H R := by
  unfold optD at h
  unfold rPart
  split at h
  · exact go none S H (Gr.refl dm) (fun _ _ z => z) (fun _ z => .inl z) h
  · rename_i ne
    have z : isNop lo = false := by cases lo <;> first | rfl | exact absurd rfl ne
    rw [z]
    refine ⟨S, δ, dm, fr, ?_⟩
    unfold oInt at h
    cases e : F δ with
    | stuck => rw [e] at h; exact h
    | exc x => rw [e] at h; exact fun S2 H2 g2 => h S2 H2 (g2.older le)
    | ok x =>
      rw [e, Res.bind_ok] at h
      refine fun v S1 H1 f g i fh => ?_
      have h1 := Kt.mono (g.older le) h
      cases x with
      | int n =>
        obtain ⟨rfl, _⟩ := i.eInt
        exact ⟨n, rfl, go (some n) S1 H1 (g.older le) g.same g.new h1⟩
      | _ => exact h1.elim
end
theorem tP_sl {σ : L2.St} {H : Hp} {G : Kn} {Fa Fl Fh : Dl → Res D} {lo hi : C} {Q : VK} (h : tP G W (fun δ => (Fa δ).bind fun x => optD lo (Fl δ) fun l => optD hi (Fh δ) fun u => slD x l u) σ H Q) :
    tSl (rSlD G.K) (tP G W Fa) (rPart G W lo Fl) (rPart G W hi Fh) σ H Q := by
  obtain ⟨S, δ, dm, fr, kt⟩ := h
  dsimp only at kt
  refine ⟨S, δ, dm, fr, ?_⟩
  cases ea : Fa δ with
  | stuck => rw [ea] at kt; exact kt
  | exc x => rw [ea] at kt; exact kt
  | ok x =>
    rw [ea, Res.bind_ok] at kt
    refine fun v S1 H1 f g1 i1 f1 => ?_
    have k1 := Kt.mono g1 kt
    refine part_k g1.dom g1.same (fr.mono g1) k1 fun l S2 H2 g2 le2 new2 k2 => ?_
    have fr2 := (fr.mono g1).mono g2
    refine part_k g2.dom (fun a o z => le2 a o (g1.same a o z)) fr2 k2 fun u S3 H3 g3 le3 new3 k3 => ?_
    have i3 : Is G S3 H3 v x f := (i1.mono g2.sub g2.same).mono g3.sub g3.same
    have fh3 : Fresh H S3 f := (f1.grow (⟨le2, g2.sub, new2, g2.dom⟩ : Gr H1 S1 H1 S2 H2) (footD i1)).grow (⟨le3, g3.sub, new3, g3.dom⟩ : Gr H2 S2 H2 S3 H3) (footD (i1.mono g2.sub g2.same))
    exact sl_ok g3.dom (fun a o z => le3 a o (le2 a o (g1.same a o z))) i3 fh3 k3
end
end Pw

/-! ## The codes' soundness, by induction -/
namespace Pw
open PySem PySem.Spec PyProof.Rows L2
abbrev GoodS (T : Tb) (fr : List Str) (ca : Nat → Addr) (k : Nat) (cs : Cs) : Prop := ∀ (X : Cx) (W : WX) (es : List Expr), Cok T fr ca k X W → chks T fr X.N cs X.env.scope es = true →
  PA X es (tPs (kn X ca) W (evPs T k cs)) ∧ (∀ p, PE X (.BoolOp .And es p) (tP (kn X ca) W (evAnd T k cs)) ∧ PW X (.BoolOp .And es p) (tPt (kn X ca) W (evAnd T k cs))) ∧
    ∀ p, PE X (.BoolOp .Or es p) (tP (kn X ca) W (evOr T k cs)) ∧ PW X (.BoolOp .Or es p) (tPt (kn X ca) W (evOr T k cs))
abbrev GoodI (T : Tb) (fr : List Str) (ca : Nat → Addr) (k : Nat) (ic : Ic) : Prop := ∀ (X : Cx) (W : WX) (tg e : Expr), Cok T fr ca k X W → chki T fr X.N ic X.env.scope e = true → PI X tg e (tI (isRng ic) (kn X ca) W (evI T k ic)) ∧ ∀ env x, foldedSetIterable e env x = pure x
theorem pe_stuck {X : Cx} {e : Expr} {G : Kn} {W : WX} : PE X e (tP G W fun _ => .stuck) := ⟨fun _ _ _ _ _ _ ⟨_, _, _, _, q⟩ => q.elim⟩
theorem pw_stuck {X : Cx} {e : Expr} {G : Kn} {W : WX} : PW X e (tPt G W fun _ => .stuck) := ⟨fun _ _ _ _ _ _ _ ⟨_, _, _, _, q⟩ => q.elim⟩
theorem neg_ok {G : Kn} {W : WX} {σ : L2.St} {S : Addr → Prop} {H0 H : Hp} {x : D} {v : V} {f : List Addr} {Q : VK} (dm : Dom S H) (i : Is G S H v x f) (h : Kt G W σ S H0 H (negD x) Q) : (rU fun i => .int (-i)) v H Q := by
  unfold negD at h
  split at h
  · obtain ⟨rfl, _⟩ := i.eInt
    exact ⟨_, rfl, h.int dm⟩
  · exact h.elim
theorem nt_ok {G : Kn} {W : WX} {σ : L2.St} {S : Addr → Prop} {H0 H : Hp} {x : D} {v : V} {f : List Addr} {Q : VK} (dm : Dom S H) (i : Is G S H v x f) (h : Kt G W σ S H0 H (ntD x) Q) : ∃ c, v = .bl c ∧ Q (.bl (!c)) H := by
  unfold ntD at h
  split at h
  · obtain ⟨rfl, _⟩ := i.eBl
    exact ⟨_, rfl, h.bl dm⟩
  · exact h.elim
theorem tup_ok {G : Kn} {W : WX} {σ : L2.St} {S : Addr → Prop} {H0 H : Hp} {x : List D} {v : List V} {f : List Addr} {Q : VK} (dm : Dom S H) (i : IsL G S H v x f) (fh : Fresh H0 S f) (h : Kt G W σ S H0 H (lenOk x (.ok (.tup x))) Q) :
    v.length ≤ sizeLine ∧ ∀ p, H p = none → Q (.ref p) (upd H p (.tup v)) := by
  unfold lenOk at h
  split at h
  · rename_i c
    exact ⟨by rw [i.len]; exact lim_le c, fun p hp => h.tup dm i fh hp⟩
  · exact h.elim
theorem lst_ok {G : Kn} {W : WX} {σ : L2.St} {S : Addr → Prop} {H0 H : Hp} {x : List D} {v : List V} {f : List Addr} {Q : VK} (dm : Dom S H) (le : Le H0 H) (i : IsL G S H v x f) (fh : Fresh H0 S f) (h : Kt G W σ S H0 H (lenOk x (.ok (.lst true x))) Q) :
    v.length ≤ sizeLine ∧ ∀ p, H p = none → Q (.ref p) (upd H p (.lst v)) := by
  unfold lenOk at h
  split at h
  · rename_i c
    exact ⟨by rw [i.len]; exact lim_le c, fun p hp => h.lst dm le i fh hp⟩
  · exact h.elim
theorem pt_ite {X : Cx} {c a b : Expr} {tc ta tb : TT} {pos : Pos} (hc : PT X c tc) (ha : PT X a ta) (hb : PT X b tb) : PT X (.IfExp c a b pos) (fun σ H Q => tc σ H fun k H1 => if k = true then ta σ H1 Q else tb σ H1 Q) := by
  refine ⟨fun pn s σ H Q I h => ?_⟩
  show wpAny _ _ (do if ← isTrue c X.env (eval c X.env) then isTrue a X.env (eval a X.env) else isTrue b X.env (eval b X.env)) _ _ _
  refine wpAny_bind (thn (hc.run pn s σ H _ I h) fun d s1 ⟨H1, I1, q1⟩ => ?_)
  cases d with
  | true => exact ha.run pn s1 σ H1 Q I1 q1
  | false => exact hb.run pn s1 σ H1 Q I1 q1
theorem tPt_ite {G : Kn} {W : WX} {σ : L2.St} {H : Hp} {Ft Fa Fb : Dl → Res D} {Q : Bool → Hp → Prop} (h : tPt G W (fun δ => (Ft δ).bind fun x => iteD x (Fa δ) (Fb δ)) σ H Q) : tPt G W Ft σ H fun k H1 => if k = true then tPt G W Fa σ H1 Q else tPt G W Fb σ H1 Q := by
  obtain ⟨S, δ, dm, fr, k⟩ := h
  dsimp only at k
  refine ⟨S, δ, dm, fr, ?_⟩
  cases ea : Ft δ with
  | stuck => rw [ea] at k; exact k
  | exc x => rw [ea] at k; exact k
  | ok x =>
    rw [ea, Res.bind_ok] at k
    refine fun v S1 H1 f g i fh => ?_
    have k1 := Kt.mono g k
    unfold iteD at k1
    split at k1
    · obtain ⟨rfl, _⟩ := i.eBl
      exact ⟨true, rfl, iteT ⟨S1, δ, g.dom, fr.mono g, k1.young g.same⟩⟩
    · obtain ⟨rfl, _⟩ := i.eBl
      exact ⟨false, rfl, iteF ⟨S1, δ, g.dom, fr.mono g, k1.young g.same⟩⟩
    · exact k1.elim
theorem tPs_two {G : Kn} {W : WX} {σ : L2.St} {H : Hp} {Fa Fb : Dl → Res D} {Q : List V → Hp → Prop} (h : tPs G W (fun δ => (Fa δ).bind fun x => (Fb δ).bind fun y => .ok [x, y]) σ H Q) :
    tPs G W (fun δ => (Fa δ).bind fun x => ((Fb δ).bind fun y => (Res.ok []).bind fun xs => Res.ok (y :: xs)).bind fun xs => Res.ok (x :: xs)) σ H Q := by
  have e : (fun δ => (Fa δ).bind fun x => ((Fb δ).bind fun y => (Res.ok []).bind fun xs => Res.ok (y :: xs)).bind fun xs => Res.ok (x :: xs)) = fun δ => (Fa δ).bind fun x => (Fb δ).bind fun y => .ok [x, y] := by
    funext δ
    cases Fa δ <;> first | rfl | skip
    cases Fb δ <;> rfl
  rw [e]
  exact h
theorem blt_value {x : Str} {q p : Pos} {es : List Expr} : valueE (.Call (.Name x q) es [] p) = true := rfl

section
variable {T : Tb} {fr : List Str} {ca : Nat → Addr} {k : Nat}
mutual
theorem sndC : ∀ c : C, GoodE T fr ca k c
  | .nop => fun X W e o h => (inv_nop h).elim
  | .non => fun X W e o h => by
    obtain ⟨j, p, rfl⟩ := inv_non h
    exact both (PE.weak pe_non fun σ H Q h => tP_const (fun _ _ => .non) h) rfl
  | .bl b => fun X W e o h => by
    obtain ⟨j, p, rfl⟩ := inv_bl h
    exact both (PE.weak pe_bl fun σ H Q h => tP_const (fun _ _ => .bl) h) rfl
  | .int b => fun X W e o h => by
    obtain ⟨j, p, rfl⟩ := inv_int h
    exact both (PE.weak pe_int fun σ H Q h => tP_const (fun _ _ => .int) h) rfl
  | .str b => fun X W e o h => by
    obtain ⟨j, p, rfl⟩ := inv_str h
    exact both (PE.weak pe_str fun σ H Q h => tP_const (fun _ _ => .str) h) rfl
  | .v i => fun X W e o h => by
    obtain ⟨x, p, rfl, h1, h2, h3, h4⟩ := inv_v h
    exact both (PE.weak (pe_var h1 h2 h3 h4) fun σ H Q h => tP_var h) rfl
  | .g j => fun X W e o h => by
    obtain ⟨x, p, q, rfl, h1, h2, h3⟩ := inv_g h
    exact both (PE.as (o.glob h1 h2 h3) fun _ => rfl) rfl
  | .bin op a b => fun X W e o h => by
    obtain ⟨l, r, p, rfl, h1, h2⟩ := inv_bin h
    exact both (PE.as (PE.weak (pe_op (rOp2_ok op) (sndC a X W l o h1).1 (sndC b X W r o h2).1) fun σ H Q h => tP2 (fun S H0 H x y v u f g Q dm le ix iy fh kt => op2_ok dm le ix iy fh kt) h) fun _ => rfl) rfl
  | .neg a => fun X W e o h => by
    obtain ⟨l, p, rfl, h1⟩ := inv_neg h
    have q : PE X (.UnaryOp .USub l p) (tP (kn X ca) W (evP T k (.neg a))) := PE.as (PE.weak (pe_un un_neg (sndC a X W l o h1).1) fun σ H Q h => tP1 (G := kn X ca) (fun S H0 H x v f Q dm le ix fh kt => neg_ok dm ix kt) h) fun _ => rfl
    exact ⟨q, pt_val q⟩
  | .nt a => fun X W e o h => by
    obtain ⟨l, p, rfl, h1⟩ := inv_nt h
    have g := sndC a X W l o h1
    exact ⟨PE.as (PE.weak (pe_not g.1) fun σ H Q h => tP1 (G := kn X ca) (r := fun v H Q => ∃ c, v = .bl c ∧ Q (.bl (!c)) H) (fun S H0 H x v f Q dm le ix fh kt => nt_ok dm ix kt) h) fun _ => rfl, PT.weak (pt_not g.2) fun σ H Q h => tPt_nt h⟩
  | .cmp op a b => fun X W e o h => by
    obtain ⟨l, r, p, rfl, h1, h2, h3⟩ := inv_cmp h
    have w : ∀ σ H Q, tP (kn X ca) W (evP T k (.cmp op a b)) σ H Q → tOp (rCmp X.K op) (tP (kn X ca) W (evP T k a)) (tP (kn X ca) W (evP T k b)) σ H Q := fun σ H Q h => tP2 (G := kn X ca) (fun S H0 H x y v u f g Q dm le ix iy fh kt => cmp_ok dm ix iy kt) h
    exact ⟨PE.weak (pe_cmpR (rCmp_ok o.room op) (sndC a X W l o h1).1 (sndC b X W r o h2).1 h3) w, PT.weak (pt_cmpR (rCmp_ok o.room op) (sndC a X W l o h1).1 (sndC b X W r o h2).1 h3) fun σ H Q h => w σ H _ h⟩
  | .chn op op2 a b c => fun X W e o h => by
    obtain ⟨l, m, r, p, rfl, h1, h2, h3, h4⟩ := inv_chn h
    have g1 := (sndC a X W l o h1).1
    have g2 := (sndC b X W m o h2).1
    have g3 := (sndC c X W r o h3).1
    have w : ∀ σ H Q, tP (kn X ca) W (evP T k (.chn op op2 a b c)) σ H Q → tChain (rCmp X.K op) (rCmp X.K op2) (tP (kn X ca) W (evP T k a)) (tP (kn X ca) W (evP T k b)) (tP (kn X ca) W (evP T k c)) σ H Q := fun σ H Q h => tP_chain h
    exact ⟨PE.weak (pe_chain (rCmp_ok o.room op) (rCmp_ok o.room op2) g1 g2 g3 h4) w, PT.weak (pt_chain (rCmp_ok o.room op) (rCmp_ok o.room op2) g1 g2 g3 h4) fun σ H Q h => w σ H _ h⟩
  | .and cs => fun X W e o h => by
    obtain ⟨es, p, rfl, h1⟩ := inv_and h
    have g := (sndS cs X W es o h1).2.1 p
    exact ⟨PE.as g.1 fun _ => rfl, PW.pt g.2⟩
  | .or cs => fun X W e o h => by
    obtain ⟨es, p, rfl, h1⟩ := inv_or h
    have g := (sndS cs X W es o h1).2.2 p
    exact ⟨PE.as g.1 fun _ => rfl, PW.pt g.2⟩
  | .ite t a b => fun X W e o h => by
    obtain ⟨l, m, r, p, rfl, h1, h2, h3⟩ := inv_ite h
    have q : PE X (.IfExp l m r p) (tP (kn X ca) W (evP T k (.ite t a b))) := PE.as (PE.weak (pe_ifExp (sndC t X W l o h1).2 (sndC a X W m o h2).1 (sndC b X W r o h3).1) fun σ H Q h => tP_ite h) fun _ => rfl
    exact ⟨q, PT.weak (pt_ite (sndC t X W l o h1).2 (sndC a X W m o h2).2 (sndC b X W r o h3).2) fun σ H Q h => tPt_ite h⟩
  | .tup cs => fun X W e o h => by
    obtain ⟨es, j, p, rfl, h1⟩ := inv_tup h
    exact both (PE.as (PE.weak (pe_tup (sndS cs X W es o h1).1) fun σ H Q h => tPn (G := kn X ca) (r := fun v H Q => v.length ≤ sizeLine ∧ ∀ p, H p = none → Q (.ref p) (upd H p (.tup v))) (fun S H0 H x v f Q dm le i fh _ kt => tup_ok dm i fh kt) h) fun _ => rfl) rfl
  | .lst cs => fun X W e o h => by
    obtain ⟨es, p, rfl, h1⟩ := inv_lst h
    exact both (PE.as (PE.weak (pe_lst (sndS cs X W es o h1).1) fun σ H Q h => tPn (G := kn X ca) (r := fun v H Q => v.length ≤ sizeLine ∧ ∀ p, H p = none → Q (.ref p) (upd H p (.lst v))) (fun S H0 H x v f Q dm le i fh _ kt => lst_ok dm le i fh kt) h) fun _ => rfl) rfl
  | .ddk => fun X W e o h => by
    obtain ⟨p, rfl⟩ := inv_ddk h
    exact both (PE.weak pe_dnewK fun σ H Q ⟨S, δ, dm, fr', kt⟩ p hp => kt _ S _ [p] (Gr.heap dm (le_upd hp)) (.dctO (ks := []) (xs := []) upd_same rfl .nil) (Fresh.nil.new (fun _ _ z => z) dm (fun _ m => nomatch m) hp)) rfl
  | .ddu => fun X W e o h => by
    obtain ⟨p, rfl⟩ := inv_ddu h
    exact both (PE.weak pe_dnewT fun σ H Q ⟨S, δ, dm, fr', kt⟩ p hp => kt _ S _ [p] (Gr.heap dm (le_upd hp)) (.dcuO (ks := []) (xs := []) upd_same rfl .nil) (Fresh.nil.new (fun _ _ z => z) dm (fun _ m => nomatch m) hp)) rfl
  | .idx a b => fun X W e o h => by
    obtain ⟨l, r, p, rfl, h1, h2, h3⟩ := inv_idx h
    exact both (PE.as (PE.weak (pe_ix ix_seq (sndC a X W l o h1).1 (sndC b X W r o h2).1 (ix_plain h3)) fun σ H Q h => tP2 (G := kn X ca) (fun S H0 H x y v u f g Q dm le ix iy fh kt => ix_ok dm le ix iy fh kt) h) fun _ => rfl) rfl
  | .sl a lo hi => fun X W e o h => by
    obtain ⟨l, x, y, p, p2, rfl, h1, h2, h3⟩ := inv_sl h
    exact both (PE.as (PE.weak (pe_slice rSlD_ok (sndC a X W l o h1).1 (po_part o (sndC lo) h2) (po_part o (sndC hi) h3)) fun σ H Q h => tP_sl h) fun _ => rfl) rfl
  | .call f cs => fun X W e o h => by
    obtain ⟨x, q, es, p, rfl, h1, h2, h3, h4, h5⟩ := inv_call h
    exact both (PE.as (pe_callD o h1 h2 h3 h4 h5 (sndS cs X W es o h3).1) fun _ => rfl) rfl
  | .blt b cs => fun X W e o h => by
    obtain ⟨x, q, e1, es, p, rfl, h1, h2, h3⟩ := inv_blt h
    cases cs with
    | nil => exact noF h3
    | cons c cs =>
      obtain ⟨_, p1, p2⟩ := and3 h3
      exact both (PE.as (pe_blt o h1 h2 (sndS (.cons c cs) X W (e1 :: es) o h3).1 p1 (stars_plain (cs := .nil) p2)) fun _ => rfl) rfl
  | .isi a t => fun X W e o h => by
    obtain ⟨q, l, y, q2, p, rfl, h1, h2, h3, h4, pl⟩ := inv_isi h
    exact both (PE.as (pe_isiD o h1 h2 h3 (sndC a X W l o h4).1 pl) fun _ => rfl) rfl
  | .comp own tg it cd a => fun X W e o h => by
    obtain ⟨el, t, ite, ifs, scp, p, rfl, h1, h2, h3, h4, h5, h6⟩ := inv_comp h
    have gi := sndI it X W t ite o h1
    refine both (PE.as (PE.weak (pe_lc (own := own) (g := gTg X.K tg) (tt := tPt (kn X ca) W0 (evP T k cd)) (te := tP (kn X ca) W0 (evP T k a)) o.calm o.nd gi.1 (blkOk_by h2) (fun s H C cl fp => ?_) (fun s H C cl fp => ?_) (fun s H C cl fp => ?_) (gi.2 _)) fun σ H Q h => tP_comp h3 h) fun _ => rfl) rfl
    · exact pg_tg (X := X.blk s H scp (compEnvC scp cl C X.env) fp) (N' := o.nd) o.calm (sc := relS scp X.env.scope) rfl (fn := false) (fun z => noF z) h4
    · have ob := o.blk s H scp (compEnvC scp cl C X.env) fp
      cases ifs with
      | nil =>
        have e : cd = .nop := by cases cd <;> first | rfl | exact noF h5
        subst e
        exact ⟨fun pn s σ H Q I h => by
          obtain ⟨S, δ, dm, _, kt⟩ := h
          obtain ⟨b, e, q⟩ := Kt.bl kt dm
          cases e
          exact pts_nil.run pn s σ H Q I q⟩
      | cons c cs =>
        cases cs with
        | nil => exact pts_one (sndC cd (X.blk s H scp (compEnvC scp cl C X.env) fp) W0 c ob h5).2
        | cons _ _ => exact noF h5
    · exact (sndC a (X.blk s H scp (compEnvC scp cl C X.env) fp) W0 el (o.blk s H scp (compEnvC scp cl C X.env) fp) h6).1
theorem sndS : ∀ cs : Cs, GoodS T fr ca k cs
  | .nil => fun X W es o h => by
    cases es with
    | nil => exact ⟨PA.weak pa_nil fun σ H Q h => tPs_nil h, fun p => ⟨pe_stuck, pw_stuck⟩, fun p => ⟨pe_stuck, pw_stuck⟩⟩
    | cons _ _ => exact noF h
  | .cons c cs => fun X W es o h => by
    cases es with
    | nil => exact noF h
    | cons e es =>
      obtain ⟨h1, h2, h3⟩ := and3 h
      have g := sndC c X W e o h1
      have gs := sndS cs X W es o h3
      refine ⟨PA.weak (pa_cons g.1 gs.1 (star_plain h2)) fun σ H Q h => tPs_cons h, fun p => ?_, fun p => ?_⟩
      · cases cs with
        | nil =>
          cases es with
          | nil => exact ⟨pe_one g.1, pw_and1 g.2⟩
          | cons _ _ => exact noF h3
        | cons c2 cs =>
          cases es with
          | nil => exact noF h3
          | cons e2 es => exact ⟨PE.weak (pe_and g.1 (gs.2.1 p).1) fun σ H Q h => tP_andV h, PW.weak (pw_and g.2 (gs.2.1 p).2) fun σ H Q h => tP_andT h⟩
      · cases cs with
        | nil =>
          cases es with
          | nil => exact ⟨pe_one g.1, pw_or1 g.2⟩
          | cons _ _ => exact noF h3
        | cons c2 cs =>
          cases es with
          | nil => exact noF h3
          | cons e2 es => exact ⟨PE.weak (pe_or g.1 (gs.2.2 p).1) fun σ H Q h => tP_orV h, PW.weak (pw_or g.2 (gs.2.2 p).2) fun σ H Q h => tP_orT h⟩
theorem sndI : ∀ ic : Ic, GoodI T fr ca k ic
  | .val c => fun X W tg e o h => by
    obtain ⟨h1, h2⟩ := and2 h
    exact ⟨PI.weak (pi_seq (sndC c X W e o h1).1) fun σ H R h => tI_val h, fun env => fold_plain h2⟩
  | .rng1 a => fun X W tg e o h => by
    obtain ⟨p1, p2, l, rfl, gl, h1, h2⟩ : ∃ p1 p2 l, e = .Call (.Name "range" p1) [l] [] p2 ∧ FreeOk fr X.env.scope "range" ∧ chk T fr X.N a X.env.scope l = true ∧ plainE l = true := inv_rng1 h
    exact ⟨PI.weak (pi_range1 gl.g (o.free _ gl.f) (pa_cons (sndC a X W l o h1).1 (PA.weak pa_nil fun σ H Q h => tPs_nil (G := kn X ca) (W := W) h) (star_plain h2)) (star_plain h2)) fun σ H R h => tPs_cons (tI_rng1 h), fun env x => rfl⟩
  | .rng2 a b => fun X W tg e o h => by
    obtain ⟨p1, p2, l, m, rfl, gl, h1, h2, h3, h4⟩ : ∃ p1 p2 l m, e = .Call (.Name "range" p1) [l, m] [] p2 ∧ FreeOk fr X.env.scope "range" ∧ chk T fr X.N a X.env.scope l = true ∧ plainE l = true ∧ chk T fr X.N b X.env.scope m = true ∧ plainE m = true := inv_rng2 h
    exact ⟨PI.weak (pi_range2 gl.g (o.free _ gl.f) (pa_cons (sndC a X W l o h1).1 (PA.weak (pa_cons (sndC b X W m o h3).1 (PA.weak pa_nil fun σ H Q h => tPs_nil (G := kn X ca) (W := W) h) (star_plain h4)) fun σ H Q h => tPs_cons (G := kn X ca) (W := W) h) (star_plain h2)) (by rw [star_plain h2, star_plain h4]; rfl) (star_plain h4)) fun σ H R h => tPs_cons (tPs_two (tI_rng2 h)), fun env x => rfl⟩
end
end
end Pw

/-! ## Statements: codes, what they come to, what is kept -/
namespace Pw
open PySem PySem.Spec PyProof.Rows L2

inductive SR where
  | stuck
  | nx (δ : Dl)
  | ret (d : D) (δ : Dl)
  | ct (δ : Dl)
  | bk (δ : Dl)
  | exc (x : Str) (δ : Dl)
def SR.bind (r : SR) (k : Dl → SR) : SR := match r with
  | .nx δ => k δ
  | r => r
@[simp] theorem SR.bind_nx (δ : Dl) (k : Dl → SR) : (SR.nx δ).bind k = k δ := rfl
@[simp] theorem SR.bind_ret (d : D) (δ : Dl) (k : Dl → SR) : (SR.ret d δ).bind k = .ret d δ := rfl
@[simp] theorem SR.bind_stuck (k : Dl → SR) : SR.stuck.bind k = .stuck := rfl
@[simp] theorem SR.bind_exc (x : Str) (δ : Dl) (k : Dl → SR) : (SR.exc x δ).bind k = .exc x δ := rfl
@[simp] theorem SR.bind_ct (δ : Dl) (k : Dl → SR) : (SR.ct δ).bind k = .ct δ := rfl
@[simp] theorem SR.bind_bk (δ : Dl) (k : Dl → SR) : (SR.bk δ).bind k = .bk δ := rfl

/-! ### slots that are seen, slots that are given away -/
def vwN (rs : List Nat) : Nat → Dl → Dl
  | _, [] => []
  | n, o :: δ => (if rs.contains n then o.map frz else none) :: vwN rs (n + 1) δ
def fzN (rs : List Nat) : Nat → Dl → Dl
  | _, [] => []
  | n, o :: δ => (if rs.contains n then o.map frz else o) :: fzN rs (n + 1) δ
abbrev vw (rs : List Nat) (δ : Dl) : Dl := vwN rs 0 δ
abbrev fz (rs : List Nat) (δ : Dl) : Dl := fzN rs 0 δ
/-- the slots behind an expression of that value -/
def aft (rs : List Nat) (δ : Dl) (d : D) : Dl := if noShr d then δ else fz rs δ
def onE (r : Res D) (rs : List Nat) (δ : Dl) (k : D → Dl → SR) : SR := match r with
  | .stuck => .stuck
  | .exc x => .exc x δ
  | .ok d => k d (aft rs δ d)

inductive Se where
  | isx (y : Str)
  | isxs (ys : List Str)
  | nt (a : Se)
  | and (a b : Se)
  | v (j : Nat)
/-- an except suite: bools by isinstance, stored, the last one given back -/
inductive Su where
  | nil
  | ret (e : Se)
  | set (j : Nat) (e : Se) (r : Su)

mutual
inductive Sc where
  | set (tg : Tg) (rs : List Nat) (c : C)
  | ex (rs : List Nat) (c : C)
  | ret (rs : List Nat) (c : C)
  | retv (i : Nat)
  | retN
  | ite (rs : List Nat) (c : C) (a b : Ss)
  | whl (rs : List Nat) (c : C) (b : Ss)
  | for (tg : Tg) (rs : List Nat) (it : Ic) (b : Ss)
  | rai (x : Str)
  | try (b : Ss) (x : Str) (i : Nat) (su : Su)
  | pass
  | cont
  | app (i : Nat) (rs : List Nat) (c : C)
inductive Ss where
  | nil
  | cons (s : Sc) (r : Ss)
end

def tgFree (io : List Nat) : Tg → Bool
  | .one i => !io.contains i
  | .many is => is.all fun i => !io.contains i
def putTg (io : List Nat) (δ : Dl) (tg : Tg) (d : D) : SR := if tgFree io tg then (match bindTg δ tg d with
  | some δ1 => .nx δ1
  | none => .stuck) else .stuck
/-- so many turns of a while at most -/
def whlN (t : Dl → Res D) (rs : List Nat) (b : Dl → SR) : Nat → Dl → SR
  | 0, _ => .stuck
  | n + 1, δ => onE (t δ) rs δ fun d δ1 => match d with
    | .bl true => (match b δ1 with
      | .nx δ2 => whlN t rs b n δ2
      | .ct δ2 => whlN t rs b n δ2
      | .bk δ2 => .nx δ2
      | r => r)
    | .bl false => .nx δ1
    | _ => .stuck
open Classical in
noncomputable def whlD (t : Dl → Res D) (rs : List Nat) (b : Dl → SR) (δ : Dl) : SR := if h : ∃ n, whlN t rs b n δ ≠ .stuck then whlN t rs b (Classical.choose h) δ else .stuck
def forD (io : List Nat) (tg : Tg) (b : Dl → SR) : List D → Dl → SR
  | [], δ => .nx δ
  | d :: ds, δ => (putTg io δ tg d).bind fun δ1 => match b δ1 with
    | .nx δ2 => forD io tg b ds δ2
    | .ct δ2 => forD io tg b ds δ2
    | .bk δ2 => .nx δ2
    | r => r
def iteS (d : D) (a b : SR) : SR := match d with
  | .bl true => a
  | .bl false => b
  | _ => .stuck
/-- slot i is an own list now -/
def ownAt (δ : Dl) (i : Nat) (r : SR) : SR := match δ[i]? with
  | some (some (.lst true _)) => r
  | _ => .stuck
def appD (io : List Nat) (δ : Dl) (i : Nat) (d : D) : SR := match δ[i]? with
  | some (some (.lst true ds)) => if ds.length < lim then .nx (δ.set i (some (.lst true (ds ++ [d])))) else .stuck
  | _ => .stuck
def onI (r : Res (List D)) (b : Bool) (rs : List Nat) (δ : Dl) (k : List D → Dl → SR) : SR := match r with
  | .stuck => .stuck
  | .exc x => .exc x δ
  | .ok ds => k ds (if b then δ else fz rs δ)
/-- own classes of errors: is one of x's kind one of y's -/
structure Xb where
  isa : Str → Str → Option Bool
  cls : List Str
  rai : List Str
def seD (xb : Xb) (x : Str) (δ : Dl) : Se → Option Bool
  | .isx y => xb.isa x y
  | .isxs ys => ys.foldr (fun y r => match xb.isa x y with
    | some true => some true
    | some false => r
    | none => none) (some false)
  | .nt a => (seD xb x δ a).map (!·)
  | .and a b => match seD xb x δ a with
    | some true => seD xb x δ b
    | some false => some false
    | none => none
  | .v j => match δ[j]? with
    | some (some (.bl b)) => some b
    | _ => none
def suD (xb : Xb) (io : List Nat) (i : Nat) (x : Str) : Su → Dl → SR
  | .nil, δ => .nx δ
  | .ret e, δ => match seD xb x δ e with
    | some b => .ret (.bl b) δ
    | none => .stuck
  | .set j e r, δ => match seD xb x δ e with
    | some b => if io.contains j || decide (j = i) then .stuck else suD xb io i x r (δ.set j (some (.bl b)))
    | none => .stuck
def tryD (xb : Xb) (io : List Nat) (y : Str) (i : Nat) (su : Su) (r : SR) : SR := match r with
  | .exc x δ => (match xb.isa x y with
    | some true => if io.contains i || decide (δ.length ≤ i) then .stuck else (match suD xb io i x su (δ.set i none) with
      | .ret d δ2 => .ret d (δ2.set i none)
      | .nx δ2 => .nx (δ2.set i none)
      | _ => .stuck)
    | some false => .exc x δ
    | none => .stuck)
  | r => r

mutual
noncomputable def evS (T : Tb) (xb : Xb) (k : Nat) (io : List Nat) : Sc → Dl → SR
  | .set tg rs c, δ => onE (evP T k c (vw rs δ)) rs δ fun d δ1 => putTg io δ1 tg d
  | .ex rs c, δ => onE (evP T k c (vw rs δ)) rs δ fun _ δ1 => .nx δ1
  | .ret rs c, δ => onE (evP T k c (vw rs δ)) rs δ fun d δ1 => .ret d δ1
  | .retv i, δ => (match δ[i]? with
    | some (some d) => if io.contains i then .stuck else .ret d (δ.set i none)
    | _ => .stuck)
  | .retN, δ => .ret .non δ
  | .ite rs c a b, δ => onE (evP T k c (vw rs δ)) rs δ fun d δ1 => iteS d (evSs T xb k io a δ1) (evSs T xb k io b δ1)
  | .whl rs c b, δ => whlD (fun δ => evP T k c (vw rs δ)) rs (evSs T xb k io b) δ
  | .for tg rs it b, δ => onI (evI T k it (vw rs δ)) (isRng it) rs δ fun ds δ1 => forD io tg (evSs T xb k io b) ds δ1
  | .rai x, δ => .exc x δ
  | .try b y i su, δ => tryD xb io y i su (evSs T xb k io b δ)
  | .pass, δ => .nx δ
  | .cont, δ => .ct δ
  | .app i rs c, δ => ownAt δ i (onE (evP T k c (vw rs δ)) rs δ fun d δ1 => appD io δ1 i d)
termination_by structural x => x
noncomputable def evSs (T : Tb) (xb : Xb) (k : Nat) (io : List Nat) : Ss → Dl → SR
  | .nil, δ => .nx δ
  | .cons s r, δ => (evS T xb k io s δ).bind fun δ1 => evSs T xb k io r δ1
termination_by structural x => x
end

/-! ### while: its turns -/
theorem whlN_more {t : Dl → Res D} {rs : List Nat} {b : Dl → SR} : ∀ {n m : Nat} {δ : Dl}, n ≤ m → whlN t rs b n δ ≠ .stuck → whlN t rs b m δ = whlN t rs b n δ
  | 0, _, _, _, h => absurd rfl h
  | n + 1, 0, _, l, _ => absurd l (Nat.not_succ_le_zero n)
  | n + 1, m + 1, δ, l, h => by
    have go : ∀ δ2, whlN t rs b n δ2 ≠ .stuck → whlN t rs b m δ2 = whlN t rs b n δ2 := fun δ2 z => whlN_more (Nat.le_of_succ_le_succ l) z
    unfold whlN at h ⊢
    unfold onE at h ⊢
    cases e : t δ with
    | stuck => rfl
    | exc x => rfl
    | ok d =>
      rw [e] at h
      cases d with
      | bl c =>
        cases c with
        | false => rfl
        | true =>
          dsimp only at h ⊢
          cases eb : b (aft rs δ (.bl true)) with
          | nx δ2 => rw [eb] at h; exact go δ2 h
          | ct δ2 => rw [eb] at h; exact go δ2 h
          | bk δ2 => rfl
          | stuck => rfl
          | ret _ _ => rfl
          | exc _ _ => rfl
      | _ => rfl
theorem whlD_eq {t : Dl → Res D} {rs : List Nat} {b : Dl → SR} {n : Nat} {δ : Dl} (h : whlN t rs b n δ ≠ .stuck) : whlD t rs b δ = whlN t rs b n δ := by
  have ex : ∃ n, whlN t rs b n δ ≠ .stuck := ⟨n, h⟩
  unfold whlD
  rw [dif_pos ex]
  have hc := Classical.choose_spec ex
  rcases Nat.le_total n (Classical.choose ex) with l | l
  · exact whlN_more l h
  · exact (whlN_more l hc).symm
theorem whlD_some {t : Dl → Res D} {rs : List Nat} {b : Dl → SR} {δ : Dl} (h : whlD t rs b δ ≠ .stuck) : ∃ n, whlD t rs b δ = whlN t rs b n δ := by
  unfold whlD at h ⊢
  by_cases ex : ∃ n, whlN t rs b n δ ≠ .stuck
  · rw [dif_pos ex]
    exact ⟨_, rfl⟩
  · rw [dif_neg ex] at h
    exact absurd rfl h
/-- a while's turn -/
theorem whlD_turn {t : Dl → Res D} {rs : List Nat} {b : Dl → SR} {δ : Dl} : whlD t rs b δ = onE (t δ) rs δ fun d δ1 => match d with
    | .bl true => (match b δ1 with
      | .nx δ2 => whlD t rs b δ2
      | .ct δ2 => whlD t rs b δ2
      | .bk δ2 => .nx δ2
      | r => r)
    | .bl false => .nx δ1
    | _ => .stuck := by
  have key : ∀ n, whlN t rs b (n + 1) δ = onE (t δ) rs δ fun d δ1 => match d with
    | .bl true => (match b δ1 with
      | .nx δ2 => whlN t rs b n δ2
      | .ct δ2 => whlN t rs b n δ2
      | .bk δ2 => .nx δ2
      | r => r)
    | .bl false => .nx δ1
    | _ => .stuck := fun n => rfl
  have dn : ∀ δ2, whlD t rs b δ2 ≠ .stuck → ∃ n, whlN t rs b n δ2 ≠ .stuck ∧ whlD t rs b δ2 = whlN t rs b n δ2 := fun δ2 h => by
    obtain ⟨n, e⟩ := whlD_some h
    exact ⟨n, by rw [← e]; exact h, e⟩
  cases e : t δ with
  | stuck =>
    by_cases h : whlD t rs b δ = .stuck
    · exact h
    · obtain ⟨n, h1, h2⟩ := dn δ h
      cases n with
      | zero => exact absurd rfl h1
      | succ n => rw [key, e] at h1; exact absurd rfl h1
  | exc x => rw [whlD_eq (n := 1) (by rw [key, e]; simp [onE]), key, e] <;> rfl
  | ok d =>
    cases d with
    | bl c =>
      cases c with
      | false => rw [whlD_eq (n := 1) (by rw [key, e]; simp [onE]), key, e] <;> rfl
      | true =>
        show whlD t rs b δ = (match b (aft rs δ (.bl true)) with
          | .nx δ2 => whlD t rs b δ2
          | .ct δ2 => whlD t rs b δ2
          | .bk δ2 => .nx δ2
          | r => r)
        have st : ∀ n, whlN t rs b (n + 1) δ = (match b (aft rs δ (.bl true)) with
          | .nx δ2 => whlN t rs b n δ2
          | .ct δ2 => whlN t rs b n δ2
          | .bk δ2 => .nx δ2
          | r => r) := fun n => by rw [key, e]; rfl
        have back : ∀ δ2, (∀ n, whlN t rs b (n + 1) δ = whlN t rs b n δ2) → whlD t rs b δ = whlD t rs b δ2 := fun δ2 z => by
          by_cases h : whlD t rs b δ2 = .stuck
          · rw [h]
            by_cases h2 : whlD t rs b δ = .stuck
            · exact h2
            · obtain ⟨n, h3, h4⟩ := dn δ h2
              cases n with
              | zero => exact absurd rfl h3
              | succ n =>
                rw [z n] at h3
                rw [whlD_eq h3] at h
                exact absurd h h3
          · obtain ⟨n, h3, h4⟩ := dn δ2 h
            rw [h4, ← z n, whlD_eq (n := n + 1) (by rw [z n]; exact h3)]
        cases eb : b (aft rs δ (.bl true)) with
        | nx δ2 => exact back δ2 fun n => by rw [st n, eb]
        | ct δ2 => exact back δ2 fun n => by rw [st n, eb]
        | bk δ2 => rw [whlD_eq (n := 1) (by rw [st 0, eb]; simp), st 0, eb]
        | ret _ _ => rw [whlD_eq (n := 1) (by rw [st 0, eb]; simp), st 0, eb]
        | exc _ _ => rw [whlD_eq (n := 1) (by rw [st 0, eb]; simp), st 0, eb]
        | stuck =>
          by_cases h : whlD t rs b δ = .stuck
          · exact h
          · obtain ⟨n, h1, h2⟩ := dn δ h
            cases n with
            | zero => exact absurd rfl h1
            | succ n => rw [st n, eb] at h1; exact absurd rfl h1
    | _ =>
      by_cases h : whlD t rs b δ = .stuck
      · exact h
      · obtain ⟨n, h1, h2⟩ := dn δ h
        cases n with
        | zero => exact absurd rfl h1
        | succ n => rw [key, e] at h1; exact absurd rfl h1
end Pw

/-! ## Statements: the state that is kept -/
namespace Pw
open PySem PySem.Spec PyProof.Rows L2

inductive Sl (G : Kn) (S : Addr → Prop) (H : Hp) : L2.St → Dl → List Addr → Prop
  | nil : Sl G S H [] [] []
  | gap {o : Option V} {σ : L2.St} {δ : Dl} {f : List Addr} (r : Sl G S H σ δ f) : Sl G S H (o :: σ) (none :: δ) f
  | got {v : V} {d : D} {g : List Addr} {σ : L2.St} {δ : Dl} {f : List Addr} (h : Is G S H v d g) (r : Sl G S H σ δ f) : Sl G S H (some v :: σ) (some d :: δ) (g ++ f)
section
variable {G : Kn} {S S' : Addr → Prop} {H H' : Hp}
theorem Sl.keep (hS : ∀ a, S a → S' a) : ∀ {σ : L2.St} {δ : Dl} {f : List Addr}, Sl G S H σ δ f → (∀ a o, H a = some o → (S a ∨ a ∈ f ∨ ¬ Mut (some o)) → H' a = some o) → Sl G S' H' σ δ f
  | _, _, _, .nil, _ => .nil
  | _, _, _, .gap r, k => .gap (Sl.keep hS r k)
  | _, _, _, .got h r, k => .got (h.keep hS fun a o e q => k a o e (q.imp_right fun z => z.imp_left fun y => List.mem_append_left _ y)) (Sl.keep hS r fun a o e q => k a o e (q.imp_right fun z => z.imp_left fun y => List.mem_append_right _ y))
theorem Sl.mono (hS : ∀ a, S a → S' a) (k : Le H H') {σ : L2.St} {δ : Dl} {f : List Addr} (h : Sl G S H σ δ f) : Sl G S' H' σ δ f := h.keep hS fun a o e _ => k a o e
theorem Sl.foot : ∀ {σ : L2.St} {δ : Dl} {f : List Addr}, Sl G S H σ δ f → ∀ a ∈ f, H a ≠ none
  | _, _, _, .nil, _, m => nomatch m
  | _, _, _, .gap r, a, m => Sl.foot r a m
  | _, _, _, .got h r, a, m => (List.mem_append.mp m).elim (fun z => footD h a z) (fun z => Sl.foot r a z)
theorem Sl.mut : ∀ {σ : L2.St} {δ : Dl} {f : List Addr}, Sl G S H σ δ f → ∀ a ∈ f, ∃ o, H a = some o ∧ Mut (some o)
  | _, _, _, .nil, _, m => nomatch m
  | _, _, _, .gap r, a, m => Sl.mut r a m
  | _, _, _, .got h r, a, m => (List.mem_append.mp m).elim (fun z => h.foot a z) (fun z => Sl.mut r a z)
theorem Sl.len : ∀ {σ : L2.St} {δ : Dl} {f : List Addr}, Sl G S H σ δ f → σ.length = δ.length
  | _, _, _, .nil => rfl
  | _, _, _, .gap r => congrArg (· + 1) r.len
  | _, _, _, .got _ r => congrArg (· + 1) r.len
theorem Sl.fr0 : ∀ {σ : L2.St} {δ : Dl} {f : List Addr}, Sl G S H σ δ f → f = [] → ∀ (i : Nat) (d : D), δ[i]? = some (some d) → ∃ v, σ[i]? = some (some v) ∧ Is G S H v d []
  | _, _, _, .nil, _, i, d, e => by cases i <;> cases e
  | _, _, _, .gap r, z, 0, d, e => by cases e
  | _, _, _, .gap r, z, i + 1, d, e => Sl.fr0 r z i d e
  | _, _, _, .got h r, z, 0, d, e => by
    cases Option.some.inj (Option.some.inj e)
    rw [(List.append_eq_nil_iff.mp z).1] at h
    exact ⟨_, rfl, h⟩
  | _, _, _, .got h r, z, i + 1, d, e => Sl.fr0 r (List.append_eq_nil_iff.mp z).2 i d e
theorem Sl.fr {σ : L2.St} {δ : Dl} (h : Sl G S H σ δ []) : Fr G S H σ δ := ⟨h.len, Sl.fr0 h rfl⟩
/-- what an expression that reads the slots rs sees, and what it leaves -/
theorem Sl.split (rs : List Nat) : ∀ {n : Nat} {σ : L2.St} {δ : Dl} {f : List Addr}, Sl G S H σ δ f → ∃ f1 f2, f.Perm (f1 ++ f2) ∧
    (∀ S', (∀ a, S a → S' a) → (∀ a ∈ f1, S' a) → Sl G S' H σ (vwN rs n δ) []) ∧ ∀ S', (∀ a, S a → S' a) → (∀ a ∈ f1, S' a) → Sl G S' H σ (fzN rs n δ) f2
  | _, _, _, _, .nil => ⟨[], [], .nil, fun _ _ _ => .nil, fun _ _ _ => .nil⟩
  | n, _, _, _, .gap r => by
    obtain ⟨f1, f2, p, a, b⟩ := Sl.split rs (n := n + 1) r
    refine ⟨f1, f2, p, fun S' h1 h2 => ?_, fun S' h1 h2 => ?_⟩
    · unfold vwN
      split <;> exact .gap (a S' h1 h2)
    · unfold fzN
      split <;> exact .gap (b S' h1 h2)
  | n, _, _, _, .got (g := g) h r => by
    obtain ⟨f1, f2, p, a, b⟩ := Sl.split rs (n := n + 1) r
    by_cases c : rs.contains n = true
    · refine ⟨g ++ f1, f2, by rw [List.append_assoc]; exact p.append_left g, fun S' h1 h2 => ?_, fun S' h1 h2 => ?_⟩
      · unfold vwN
        rw [if_pos c]
        exact Sl.got (g := []) (Is.frz h1 h fun a z => h2 a (List.mem_append_left _ z)) (a S' h1 fun a z => h2 a (List.mem_append_right _ z))
      · unfold fzN
        rw [if_pos c]
        exact Sl.got (g := []) (Is.frz h1 h fun a z => h2 a (List.mem_append_left _ z)) (b S' h1 fun a z => h2 a (List.mem_append_right _ z))
    · refine ⟨f1, g ++ f2, ?_, fun S' h1 h2 => ?_, fun S' h1 h2 => ?_⟩
      · refine (p.append_left g).trans ?_
        rw [← List.append_assoc, ← List.append_assoc]
        exact List.perm_append_comm.append_right f2
      · unfold vwN
        rw [if_neg c]
        exact .gap (a S' h1 h2)
      · unfold fzN
        rw [if_neg c]
        exact .got (h.mono h1 fun _ _ z => z) (b S' h1 h2)
/-- a slot emptied -/
theorem Sl.clear : ∀ {i : Nat} {σ : L2.St} {δ : Dl} {f : List Addr}, Sl G S H σ δ f → ∃ f' p, Sl G S H σ (δ.set i none) f' ∧ (f' ++ p).Perm f
  | _, _, _, _, .nil => ⟨[], [], .nil, .nil⟩
  | 0, _, _, f, .gap r => ⟨f, [], .gap r, by rw [List.append_nil]⟩
  | 0, _, _, _, .got (g := g) (f := f) h r => ⟨f, g, .gap r, List.perm_append_comm⟩
  | i + 1, _, _, _, .gap r => by
    obtain ⟨f', p, a, b⟩ := Sl.clear (i := i) r
    exact ⟨f', p, .gap a, b⟩
  | i + 1, _, _, _, .got (g := g) h r => by
    obtain ⟨f', p, a, b⟩ := Sl.clear (i := i) r
    exact ⟨g ++ f', p, .got h a, by rw [List.append_assoc]; exact b.append_left g⟩
/-- .. taken out -/
theorem Sl.take : ∀ {i : Nat} {d : D} {σ : L2.St} {δ : Dl} {f : List Addr}, Sl G S H σ δ f → δ[i]? = some (some d) → ∃ v g f', σ[i]? = some (some v) ∧ Is G S H v d g ∧ Sl G S H σ (δ.set i none) f' ∧ (f' ++ g).Perm f
  | _, _, _, _, _, .nil, e => by cases e
  | 0, _, _, _, _, .gap r, e => by cases e
  | 0, _, _, _, _, .got (g := g) (f := f) h r, e => by
    cases Option.some.inj (Option.some.inj e)
    exact ⟨_, g, f, rfl, h, .gap r, List.perm_append_comm⟩
  | i + 1, _, _, _, _, .gap r, e => by
    obtain ⟨v, g, f', a, b, c, d⟩ := Sl.take (i := i) r e
    exact ⟨v, g, f', a, b, .gap c, d⟩
  | i + 1, _, _, _, _, .got (g := g) h r, e => by
    obtain ⟨v, g2, f', a, b, c, d⟩ := Sl.take (i := i) r e
    exact ⟨v, g2, g ++ f', a, b, .got h c, by rw [List.append_assoc]; exact d.append_left g⟩
/-- an empty slot filled -/
theorem Sl.put : ∀ {i : Nat} {v : V} {d : D} {g : List Addr} {σ : L2.St} {δ : Dl} {f : List Addr}, Sl G S H σ δ f → δ[i]? = some none → Is G S H v d g → ∃ f', Sl G S H (σ.set i (some v)) (δ.set i (some d)) f' ∧ f'.Perm (f ++ g)
  | _, _, _, _, _, _, _, .nil, e, _ => by cases e
  | 0, _, _, g, _, _, f, .gap r, e, q => ⟨g ++ f, .got q r, List.perm_append_comm⟩
  | 0, _, _, _, _, _, _, .got h r, e, _ => by cases Option.some.inj e
  | i + 1, _, _, _, _, _, _, .gap r, e, q => by
    obtain ⟨f', a, b⟩ := Sl.put (i := i) r e q
    exact ⟨f', .gap a, b⟩
  | i + 1, _, _, _, _, _, _, .got (g := g) h r, e, q => by
    obtain ⟨f', a, b⟩ := Sl.put (i := i) r e q
    exact ⟨g ++ f', .got h a, by rw [List.append_assoc]; exact b.append_left g⟩
theorem Sl.set {i : Nat} {v : V} {d : D} {g : List Addr} {σ : L2.St} {δ : Dl} {f : List Addr} (h : Sl G S H σ δ f) (lt : i < δ.length) (q : Is G S H v d g) : ∃ f' p, Sl G S H (σ.set i (some v)) (δ.set i (some d)) f' ∧ (f' ++ p).Perm (f ++ g) := by
  obtain ⟨f1, p, a, b⟩ := h.clear (i := i)
  obtain ⟨f2, c, e⟩ := a.put (i := i) (by rw [List.getElem?_set_self lt]) q
  rw [List.set_set] at c
  refine ⟨f2, p, c, (e.append_right p).trans ?_⟩
  rw [List.append_assoc]
  refine (List.Perm.append_left f1 List.perm_append_comm).trans ?_
  rw [← List.append_assoc]
  exact b.append_right g
/-- an empty slot is of no weight -/
theorem Sl.loose : ∀ {i : Nat} {x : Option V} {σ : L2.St} {δ : Dl} {f : List Addr}, Sl G S H σ δ f → δ[i]? = some none → Sl G S H (σ.set i x) δ f
  | _, _, _, _, _, .nil, e => by cases e
  | 0, _, _, _, _, .gap r, _ => .gap r
  | 0, _, _, _, _, .got h r, e => by cases Option.some.inj e
  | i + 1, _, _, _, _, .gap r, e => .gap (Sl.loose (i := i) r e)
  | i + 1, _, _, _, _, .got h r, e => .got h (Sl.loose (i := i) r e)
end

/-- the entry: the heap, what may be changed, what is shared, the slots that stay -/
structure Ct where
  H0 : Hp
  M : List Addr
  S0 : Addr → Prop
  fix : List (Nat × V)
structure Cond (c : Ct) (io : List Nat) (S : Addr → Prop) (H : Hp) (σ : L2.St) (F : List Addr) : Prop where
  nd : F.Nodup
  own : ∀ a ∈ F, ¬ S a ∧ (a ∈ c.M ∨ c.H0 a = none)
  sub : ∀ a, c.S0 a → S a
  new : ∀ a, S a → c.S0 a ∨ a ∈ c.M ∨ c.H0 a = none
  dom : Dom S H
  keep : ∀ a o, c.H0 a = some o → a ∉ c.M → H a = some o
  there : ∀ a, c.H0 a ≠ none → H a ≠ none
  fix : ∀ p ∈ c.fix, p.1 ∈ io ∧ σ[p.1]? = some (some p.2)
theorem Cond.less {c : Ct} {io : List Nat} {S : Addr → Prop} {H : Hp} {σ : L2.St} {F F' p : List Addr} (h : Cond c io S H σ F) (q : (F' ++ p).Perm F) : Cond c io S H σ F' :=
  ⟨((q.nodup_iff).mpr h.nd).sublist (List.sublist_append_left _ _), fun a m => h.own a (q.mem_iff.mp (List.mem_append_left _ m)), h.sub, h.new, h.dom, h.keep, h.there, h.fix⟩
theorem Cond.slot {c : Ct} {io : List Nat} {S : Addr → Prop} {H : Hp} {σ : L2.St} {F : List Addr} {i : Nat} {x : Option V} (h : Cond c io S H σ F) (n : io.contains i = false) : Cond c io S H (σ.set i x) F :=
  ⟨h.nd, h.own, h.sub, h.new, h.dom, h.keep, h.there, fun p m => ⟨(h.fix p m).1, by
    have ne : i ≠ p.1 := by
      rintro rfl
      have := (h.fix p m).1
      rw [← List.elem_iff, List.elem_eq_contains, n] at this
      cases this
    rw [List.getElem?_set_ne ne]
    exact (h.fix p m).2⟩⟩
def Rel (G : Kn) (io : List Nat) (c : Ct) (S : Addr → Prop) (H : Hp) (σ : L2.St) (δ : Dl) (tv : List V) (td : List D) : Prop := ∃ f g, Sl G S H σ δ f ∧ IsL G S H tv td g ∧ Cond c io S H σ (f ++ g)
section
variable {G : Kn} {io : List Nat} {c : Ct} {S S' : Addr → Prop} {H H' : Hp} {σ : L2.St} {δ : Dl} {tv : List V} {td : List D} {v : V} {d : D}
theorem Rel.dom (r : Rel G io c S H σ δ tv td) : Dom S H := let ⟨_, _, _, _, q⟩ := r; q.dom
/-- the heap grows -/
theorem Rel.grow (r : Rel G io c S H σ δ tv td) (k : Le H H') : Rel G io c S H' σ δ tv td := by
  obtain ⟨f, g, a, b, q⟩ := r
  exact ⟨f, g, a.mono (fun _ z => z) k, b.mono (fun _ z => z) k, q.nd, q.own, q.sub, q.new, fun a z => le_dom k (q.dom a z), fun a o e n => k a o (q.keep a o e n), fun a e => le_dom k (q.there a e), q.fix⟩
theorem Rel.old (r : Rel G io c S H σ δ tv td) {a : Addr} (h : H a = none) : c.H0 a = none := by
  obtain ⟨f, g, _, _, q⟩ := r
  cases e : c.H0 a with
  | none => rfl
  | some o => exact absurd h (q.there a (by rw [e]; exact fun z => nomatch z))
theorem Rel.set (r : Rel G io c S H σ δ (v :: tv) (d :: td)) {i : Nat} (lt : i < δ.length) (n : io.contains i = false) : Rel G io c S H (σ.set i (some v)) (δ.set i (some d)) tv td := by
  obtain ⟨f, g, a, b, q⟩ := r
  cases b with
  | cons h t =>
    rename_i g1 g2
    obtain ⟨f', p, s, pm⟩ := a.set lt h
    refine ⟨f', g2, s, t, (q.less (F' := f' ++ g2) (p := p) ?_).slot n⟩
    rw [← List.append_assoc f g1 g2]
    refine List.Perm.trans ?_ (pm.append_right g2)
    rw [List.append_assoc, List.append_assoc]
    exact List.Perm.append_left f' List.perm_append_comm
/-- temporary things dropped -/
theorem Rel.drop (r : Rel G io c S H σ δ (v :: tv) (d :: td)) : Rel G io c S H σ δ tv td := by
  obtain ⟨f, g, a, b, q⟩ := r
  cases b with
  | cons h t =>
    rename_i g1 g2
    refine ⟨f, g2, a, t, q.less (p := g1) ?_⟩
    rw [List.append_assoc]
    exact List.Perm.append_left f List.perm_append_comm
theorem Rel.clear (r : Rel G io c S H σ δ tv td) (i : Nat) : Rel G io c S H σ (δ.set i none) tv td := by
  obtain ⟨f, g, a, b, q⟩ := r
  obtain ⟨f', p, s, pm⟩ := a.clear (i := i)
  refine ⟨f', g, s, b, q.less (p := p) ?_⟩
  rw [List.append_assoc]
  refine (List.Perm.append_left f' List.perm_append_comm).trans ?_
  rw [← List.append_assoc]
  exact pm.append_right g
theorem Rel.take (r : Rel G io c S H σ δ tv td) {i : Nat} (e : δ[i]? = some (some d)) : ∃ v, σ[i]? = some (some v) ∧ Rel G io c S H σ (δ.set i none) (v :: tv) (d :: td) := by
  obtain ⟨f, g, a, b, q⟩ := r
  obtain ⟨v, g2, f', e1, h, s, pm⟩ := a.take e
  refine ⟨v, e1, f', g2 ++ g, s, .cons h b, q.less (p := []) ?_⟩
  rw [List.append_nil, ← List.append_assoc]
  exact pm.append_right g
theorem Rel.loose (r : Rel G io c S H σ δ tv td) {i : Nat} {x : Option V} (e : δ[i]? = some none) (n : io.contains i = false) : Rel G io c S H (σ.set i x) δ tv td := by
  obtain ⟨f, g, a, b, q⟩ := r
  exact ⟨f, g, a.loose e, b, q.slot n⟩
theorem Rel.len (r : Rel G io c S H σ δ tv td) : σ.length = δ.length := by
  obtain ⟨f, g, a, b, q⟩ := r
  exact a.len
/-- an expression that reads the slots rs: what it sees; what it leaves -/
theorem Rel.eval {rs : List Nat} (r : Rel G io c S H σ δ tv td) : ∃ S1, Dom S1 H ∧ Fr G S1 H σ (vw rs δ) ∧
    (∀ S2 H2, Gr H S1 H S2 H2 → Rel G io c S H2 σ δ tv td) ∧
    (∀ S2 H2 v d h, Gr H S1 H S2 H2 → Is G S2 H2 v d h → Fresh H S2 h → Rel G io c (if noShr d then S else S2) H2 σ (aft rs δ d) (v :: tv) (d :: td)) ∧
    ∀ S2 H2, Gr H S1 H S2 H2 → Rel G io c S2 H2 σ (fz rs δ) tv td := by
  have r0 := r
  obtain ⟨f, g, a, b, q⟩ := r
  obtain ⟨f1, f2, pm, va, fa⟩ := a.split rs (n := 0)
  have in1 : ∀ a ∈ f1, a ∈ f ++ g := fun a z => List.mem_append_left _ (pm.mem_iff.mpr (List.mem_append_left _ z))
  have in2 : ∀ a ∈ f2, a ∈ f ++ g := fun a z => List.mem_append_left _ (pm.mem_iff.mpr (List.mem_append_right _ z))
  have d1 : Dom (fun a => S a ∨ a ∈ f1) H := fun x z => z.elim (q.dom x) fun y => a.foot x (pm.mem_iff.mpr (List.mem_append_left _ y))
  have full : ∀ x ∈ f ++ g, H x ≠ none := fun x z => (List.mem_append.mp z).elim (a.foot x) (footDL b x)
  have nd' : (f1 ++ (f2 ++ g)).Nodup := by
    rw [← List.append_assoc]
    exact ((pm.append_right g).nodup_iff).mp q.nd
  have giveAll : ∀ S2 H2, Gr H (fun a => S a ∨ a ∈ f1) H S2 H2 → Sl G S2 H2 σ (fz rs δ) f2 ∧ IsL G S2 H2 tv td g ∧ Cond c io S2 H2 σ (f2 ++ g) := fun S2 H2 gr => by
    refine ⟨(fa (fun a => S a ∨ a ∈ f1) (fun _ z => .inl z) fun _ z => .inr z).mono gr.sub gr.same, b.mono (fun x z => gr.sub x (.inl z)) gr.same, (List.nodup_append.mp nd').2.1, fun x m => ?_, fun x z => gr.sub x (.inl (q.sub x z)), fun x z => ?_, gr.dom, fun x o e n => gr.same x o (q.keep x o e n), fun x e => le_dom gr.same (q.there x e), q.fix⟩
    · have mm : x ∈ f ++ g := (List.mem_append.mp m).elim (in2 x) fun y => List.mem_append_right _ y
      refine ⟨fun z => (gr.new x z).elim (fun y => y.elim (q.own x mm).1 fun w => ?_) (full x mm), (q.own x mm).2⟩
      exact (List.nodup_append.mp nd').2.2 x w x m rfl
    · rcases gr.new x z with (y | y) | y
      · exact q.new x y
      · exact .inr (q.own x (in1 x y)).2
      · exact .inr (.inr (r0.old y))
  refine ⟨fun a => S a ∨ a ∈ f1, d1, (va _ (fun _ z => .inl z) fun _ z => .inr z).fr, fun S2 H2 gr => r0.grow gr.same, fun S2 H2 v d h gr is fh => ?_, fun S2 H2 gr => ⟨f2, g, giveAll S2 H2 gr⟩⟩
  by_cases n : noShr d = true
  · unfold aft
    rw [if_pos n, if_pos n]
    have is' : Is G S H2 v d h := is.anyS n
    refine ⟨f, h ++ g, a.mono (fun _ z => z) gr.same, .cons is' (b.mono (fun _ z => z) gr.same), ?_, fun x m => ?_, q.sub, q.new, fun x z => le_dom gr.same (q.dom x z), fun x o e w => gr.same x o (q.keep x o e w), fun x e => le_dom gr.same (q.there x e), q.fix⟩
    · have np : (h ++ (f ++ g)).Nodup := List.nodup_append.mpr ⟨fh.1, q.nd, fun x hx y hy e => by
        subst e
        exact full x hy (fh.2 x hx).2⟩
      refine (List.Perm.nodup_iff ?_).mp np
      rw [← List.append_assoc, ← List.append_assoc]
      exact List.perm_append_comm.append_right g
    · rcases List.mem_append.mp m with z | z
      · exact q.own x (List.mem_append_left _ z)
      · rcases List.mem_append.mp z with z | z
        · exact ⟨fun w => (fh.2 x z).1 (gr.sub x (.inl w)), .inr (r0.old (fh.2 x z).2)⟩
        · exact q.own x (List.mem_append_right _ z)
  · unfold aft
    rw [if_neg n, if_neg n]
    obtain ⟨a3, b3, q3⟩ := giveAll S2 H2 gr
    have full3 : ∀ x ∈ f2 ++ g, H x = none → False := fun x m e => (List.mem_append.mp m).elim (fun z => full x (in2 x z) e) fun z => full x (List.mem_append_right _ z) e
    refine ⟨f2, h ++ g, a3, .cons is b3, ?_, fun x m => ?_, q3.sub, q3.new, q3.dom, q3.keep, q3.there, q3.fix⟩
    · have np : (h ++ (f2 ++ g)).Nodup := List.nodup_append.mpr ⟨fh.1, q3.nd, fun x hx y hy e => by
        subst e
        exact full3 x hy (fh.2 x hx).2⟩
      refine (List.Perm.nodup_iff ?_).mp np
      rw [← List.append_assoc, ← List.append_assoc]
      exact List.perm_append_comm.append_right g
    · rcases List.mem_append.mp m with z | z
      · exact q3.own x (List.mem_append_left _ z)
      · rcases List.mem_append.mp z with z | z
        · exact ⟨(fh.2 x z).1, .inr (r0.old (fh.2 x z).2)⟩
        · exact q3.own x (List.mem_append_right _ z)
end
end Pw

/-! ## Statements: their soundness, one by one -/
namespace Pw
open PySem PySem.Spec PyProof.Rows L2

def Post (G : Kn) (io : List Nat) (W : WX) (c : Ct) (tv : List V) (td : List D) (E : Ends) (r : SR) : Prop := match r with
  | .stuck => False
  | .nx δ => ∀ σ S H, Rel G io c S H σ δ tv td → E.nx σ H
  | .ct δ => ∀ σ S H, Rel G io c S H σ δ tv td → E.ct σ H
  | .bk δ => ∀ σ S H, Rel G io c S H σ δ tv td → E.bk σ H
  | .ret d δ => ∀ v σ S H, Rel G io c S H σ δ (v :: tv) (d :: td) → E.rt v H
  | .exc x δ => ∀ σ S H, Rel G io c S H σ δ tv td → W (.ref (He.ga G.K x)) none σ H
def tSt (G : Kn) (io : List Nat) (W : WX) (F : Dl → SR) : TS := fun E σ H => ∃ c S δ tv td, Rel G io c S H σ δ tv td ∧ Post G io W c tv td E (F δ)

section
variable {G : Kn} {io : List Nat} {W : WX} {c : Ct} {S : Addr → Prop} {H : Hp} {σ : L2.St} {δ : Dl} {tv : List V} {td : List D} {E : Ends} {F : Dl → Res D} {rs : List Nat}
/-- a pure expression ahead of what a statement does -/
theorem on_eval {k : D → Dl → SR} {Q : VK} (r : Rel G io c S H σ δ tv td) (p : Post G io W c tv td E (onE (F (vw rs δ)) rs δ k))
    (go : ∀ d v S' H', Rel G io c S' H' σ (aft rs δ d) (v :: tv) (d :: td) → Post G io W c tv td E (k d (aft rs δ d)) → Q v H') : tP G W F σ H Q := by
  obtain ⟨S1, dm, fr, grow, val, _⟩ := r.eval (rs := rs)
  refine ⟨S1, vw rs δ, dm, fr, ?_⟩
  cases e : F (vw rs δ) with
  | stuck => rw [e] at p; exact p.elim
  | exc x => rw [e] at p; exact fun S2 H2 g => p σ S H2 (grow S2 H2 g)
  | ok d =>
    rw [e] at p
    exact fun v S2 H2 f g i fh => go d v _ H2 (val S2 H2 v d f g i fh) p
theorem all_put : ∀ {is : List Nat} {xs : List V} {ds : List D} {σ : L2.St} {δ δ1 : Dl} {Q : L2.St → Hp → Prop}, Rel G io c S H σ δ (xs ++ tv) (ds ++ td) → xs.length = ds.length → setAll δ is ds = some δ1 → (is.all fun i => !io.contains i) = true →
    (∀ σ1, Rel G io c S H σ1 δ1 tv td → Q σ1 H) → gAll is xs σ H Q
  | [], xs, ds, σ, δ, δ1, Q, r, l, e, _, k => by
    cases ds with
    | nil =>
      have z : xs = [] := List.eq_nil_of_length_eq_zero l
      subst z
      cases Option.some.inj (show some δ = some δ1 from e)
      exact ⟨rfl, k _ r⟩
    | cons _ _ => cases e
  | i :: is, xs, ds, σ, δ, δ1, Q, r, l, e, m, k => by
    cases ds with
    | nil => cases e
    | cons d ds =>
      cases xs with
      | nil => cases l
      | cons x xs =>
        simp only [List.all_cons, Bool.and_eq_true] at m
        refine ⟨x, xs, rfl, ?_⟩
        have r2 : Rel G io c S H (σ.set i (some x)) (δ.set i (some d)) (xs ++ tv) (ds ++ td) := by
          by_cases lt : i < δ.length
          · exact Rel.set r lt (neq_of m.1)
          · have e1 : δ.set i (some d) = δ := List.set_eq_of_length_le (by omega)
            have e2 : σ.set i (some x) = σ := List.set_eq_of_length_le (by rw [r.len]; omega)
            rw [e1, e2]
            exact Rel.drop r
        exact all_put r2 (Nat.succ.inj l) (show setAll (δ.set i (some d)) is ds = some δ1 from e) (by simpa using m.2) k
theorem put_tg {tg : Tg} {v : V} {d : D} {δ1 : Dl} {Q : L2.St → Hp → Prop} (r : Rel G io c S H σ δ (v :: tv) (d :: td)) (e : putTg io δ tg d = .nx δ1) (k : ∀ σ1, Rel G io c S H σ1 δ1 tv td → Q σ1 H) : gTg G.K tg v σ H Q := by
  unfold putTg at e
  split at e
  · rename_i fr
    cases eb : bindTg δ tg d with
    | none => rw [eb] at e; cases e
    | some δ2 =>
      rw [eb] at e
      cases e
      cases tg with
      | one i =>
        cases Option.some.inj (show some (δ.set i (some d)) = some δ1 from eb)
        have fi : io.contains i = false := neq_of fr
        by_cases lt : i < δ.length
        · exact k _ (Rel.set r lt fi)
        · have e1 : δ.set i (some d) = δ := List.set_eq_of_length_le (by omega)
          have e2 : σ.set i (some v) = σ := List.set_eq_of_length_le (by rw [r.len]; omega)
          show Q (σ.set i (some v)) H
          rw [e2]
          rw [e1] at k
          exact k _ (Rel.drop r)
      | many is =>
        cases d with
        | tup ds =>
          obtain ⟨f, g, a, b, q⟩ := r
          cases b with
          | cons h t =>
            obtain ⟨p, xs, rfl, hx, rr⟩ := h.eTup
            exact ⟨p, xs, rfl, hx, by rw [rr.len, setAll_len eb], all_put (td := td) (tv := tv) ⟨f, _, a, rr.append t, q⟩ rr.len eb fr k⟩
        | _ => cases eb
  · cases e
theorem putTg_nx {tg : Tg} {d : D} : putTg io δ tg d = .stuck ∨ ∃ δ1, putTg io δ tg d = .nx δ1 := by
  unfold putTg
  split
  · split
    · exact .inr ⟨_, rfl⟩
    · exact .inl rfl
  · exact .inl rfl
theorem st_set {tg : Tg} (h : tSt G io W (fun δ => onE (F (vw rs δ)) rs δ fun d δ1 => putTg io δ1 tg d) E σ H) : tAsg (tP G W F) (gTg G.K tg) E σ H := by
  obtain ⟨c, S, δ, tv, td, r, p⟩ := h
  refine on_eval r p fun d v S' H' r' p' => ?_
  rcases putTg_nx (io := io) (δ := aft rs δ d) (tg := tg) (d := d) with e | ⟨δ1, e⟩
  · rw [e] at p'; exact p'.elim
  · rw [e] at p'
    exact put_tg r' e fun σ1 r1 => p' σ1 S' H' r1
theorem st_ex (h : tSt G io W (fun δ => onE (F (vw rs δ)) rs δ fun _ δ1 => .nx δ1) E σ H) : tDrop (tP G W F) E σ H := by
  obtain ⟨c, S, δ, tv, td, r, p⟩ := h
  exact on_eval r p fun d v S' H' r' p' => p' σ S' H' r'.drop
theorem st_ret (h : tSt G io W (fun δ => onE (F (vw rs δ)) rs δ fun d δ1 => .ret d δ1) E σ H) : tRet (tP G W F) E σ H := by
  obtain ⟨c, S, δ, tv, td, r, p⟩ := h
  exact on_eval r p fun d v S' H' r' p' => p' v σ S' H' r'
def retvD (io : List Nat) (i : Nat) (δ : Dl) : SR := match δ[i]? with
  | some (some d) => if io.contains i then .stuck else .ret d (δ.set i none)
  | _ => .stuck
theorem st_retv {i : Nat} (h : tSt G io W (retvD io i) E σ H) : tRet (tVar i) E σ H := by
  obtain ⟨c, S, δ, tv, td, r, p⟩ := h
  unfold retvD at p
  split at p
  · rename_i d e
    split at p
    · exact p.elim
    · obtain ⟨v, e1, r1⟩ := r.take e
      exact ⟨v, e1, p v σ S H r1⟩
  · exact p.elim
theorem st_retN (h : tSt G io W (fun δ => .ret .non δ) E σ H) : tRetN E σ H := by
  obtain ⟨c, S, δ, tv, td, r, p⟩ := h
  obtain ⟨f, g, a, b, q⟩ := r
  exact p .non σ S H ⟨f, g, a, IsL.cons (f := []) .non b, q⟩
theorem st_pass (h : tSt G io W (fun δ => .nx δ) E σ H) : tNext E σ H := by
  obtain ⟨c, S, δ, tv, td, r, p⟩ := h
  exact p σ S H r
theorem st_cont (h : tSt G io W (fun δ => .ct δ) E σ H) : tCont E σ H := by
  obtain ⟨c, S, δ, tv, td, r, p⟩ := h
  exact p σ S H r
theorem st_seq {A B : Dl → SR} (h : tSt G io W (fun δ => (A δ).bind B) E σ H) : tSeq (tSt G io W A) (tSt G io W B) E σ H := by
  obtain ⟨c, S, δ, tv, td, r, p⟩ := h
  refine ⟨c, S, δ, tv, td, r, ?_⟩
  dsimp only at p
  cases e : A δ with
  | stuck => rw [e] at p; exact p
  | nx δ1 => rw [e] at p; exact fun σ1 S1 H1 r1 => ⟨c, S1, δ1, tv, td, r1, p⟩
  | ret d δ1 => rw [e] at p; exact p
  | ct δ1 => rw [e] at p; exact p
  | bk δ1 => rw [e] at p; exact p
  | exc x δ1 => rw [e] at p; exact p
theorem st_ite {A B : Dl → SR} (h : tSt G io W (fun δ => onE (F (vw rs δ)) rs δ fun d δ1 => iteS d (A δ1) (B δ1)) E σ H) : tIfS (tPt G W F) (tSt G io W A) (tSt G io W B) E σ H := by
  obtain ⟨c, S, δ, tv, td, r, p⟩ := h
  refine on_eval r p fun d v S' H' r' p' => ?_
  cases d with
  | bl b =>
    have hv : v = .bl b := by
      obtain ⟨f, g, a, i, q⟩ := r'
      cases i with
      | cons i _ => exact i.eBl.1
    refine ⟨b, hv, ?_⟩
    cases b with
    | true => exact iteT ⟨c, S', _, tv, td, r'.drop, p'⟩
    | false => exact iteF ⟨c, S', _, tv, td, r'.drop, p'⟩
  | _ => exact p'.elim
theorem st_rai {x : Str} (h : tSt G io W (fun δ => .exc x δ) E σ H) : W (.ref (He.ga G.K x)) none σ H := by
  obtain ⟨c, S, δ, tv, td, r, p⟩ := h
  exact p σ S H r
/-- while -/
theorem st_whl {B : Dl → SR} (h : tSt G io W (whlD (fun δ => F (vw rs δ)) rs B) E σ H) : tWhile (tPt G W F) (tSt G io W B) E σ H := by
  obtain ⟨c, S, δ, tv, td, r, p⟩ := h
  have ns : whlD (fun δ => F (vw rs δ)) rs B δ ≠ .stuck := fun z => by rw [z] at p; exact p
  obtain ⟨n, e⟩ := whlD_some ns
  rw [e] at p
  refine ⟨fun m σ H => ∃ S δ, Rel G io c S H σ δ tv td ∧ Post G io W c tv td E (whlN (fun δ => F (vw rs δ)) rs B m δ), ⟨n, S, δ, r, p⟩, ?_⟩
  rintro m σ H ⟨S, δ, r, p⟩
  cases m with
  | zero => exact p.elim
  | succ m =>
    refine on_eval r (show Post G io W c tv td E (onE (F (vw rs δ)) rs δ _) from p) fun d v S' H' r' p' => ?_
    cases d with
    | bl b =>
      have hv : v = .bl b := by
        obtain ⟨f, g, a, i, q⟩ := r'
        cases i with
        | cons i _ => exact i.eBl.1
      refine ⟨b, hv, ?_⟩
      cases b with
      | false => exact iteF (p' σ S' H' r'.drop)
      | true =>
        have p2 : Post G io W c tv td E (match B (aft rs δ (.bl true)) with
          | .nx δ2 => whlN (fun δ => F (vw rs δ)) rs B m δ2
          | .ct δ2 => whlN (fun δ => F (vw rs δ)) rs B m δ2
          | .bk δ2 => .nx δ2
          | r => r) := p'
        refine iteT ⟨fun σ' H' => ∃ S' δ', (B (aft rs δ (.bl true)) = .nx δ' ∨ B (aft rs δ (.bl true)) = .ct δ') ∧ Rel G io c S' H' σ' δ' tv td, ?_, c, S', _, tv, td, r'.drop, ?_⟩
        · rintro σ2 H2 ⟨S2, δ2, e2, r2⟩
          refine ⟨m, Nat.lt_succ_self m, S2, δ2, r2, ?_⟩
          rcases e2 with e2 | e2 <;> (rw [e2] at p2; exact p2)
        · cases eb : B (aft rs δ (.bl true)) with
          | stuck => rw [eb] at p2; exact p2
          | nx δ2 => exact fun σ3 S3 H3 r3 => ⟨S3, δ2, .inl rfl, r3⟩
          | ct δ2 => exact fun σ3 S3 H3 r3 => ⟨S3, δ2, .inr rfl, r3⟩
          | bk δ2 => rw [eb] at p2; exact p2
          | ret d δ2 => rw [eb] at p2; exact p2
          | exc x δ2 => rw [eb] at p2; exact p2
    | _ => exact p'.elim
/-- a stretch of its own: what is own now may be changed, what is shared now stays -/
theorem Rel.nest (r : Rel G io c S H σ δ tv td) : ∃ c', Rel G io c' S H σ δ tv td ∧ c'.H0 = H ∧ c'.S0 = S ∧ (∀ a ∈ c'.M, ¬ S a ∧ ∃ o, H a = some o ∧ Mut (some o)) ∧
    ∀ S' H' σ' δ' tv' td', Rel G io c' S' H' σ' δ' tv' td' → Rel G io c S' H' σ' δ' tv' td' := by
  have r0 := r
  obtain ⟨f, g, a, b, q⟩ := r
  refine ⟨⟨H, f ++ g, S, c.fix⟩, ⟨f, g, a, b, q.nd, fun x m => ⟨(q.own x m).1, .inl m⟩, fun _ z => z, fun _ z => .inl z, q.dom, fun _ _ e _ => e, fun _ z => z, q.fix⟩, rfl, rfl, fun x m => ⟨(q.own x m).1, ?_⟩, ?_⟩
  · rcases List.mem_append.mp m with m | m
    · exact Sl.mut a x m
    · exact b.foot x m
  · rintro S' H' σ' δ' tv' td' ⟨f', g', a', b', q'⟩
    refine ⟨f', g', a', b', q'.nd, fun x m => ⟨(q'.own x m).1, (q'.own x m).2.elim (fun z => (q.own x z).2) fun z => .inr (r0.old z)⟩, fun x z => q'.sub x (q.sub x z), fun x z => ?_, q'.dom, fun x o e n => ?_, fun x e => q'.there x (q.there x e), q'.fix⟩
    · rcases q'.new x z with y | y | y
      · exact q.new x y
      · exact .inr (q.own x y).2
      · exact .inr (.inr (r0.old y))
    · refine q'.keep x o (q.keep x o e n) fun m => ?_
      rcases (q.own x m).2 with y | y
      · exact n y
      · rw [y] at e; cases e
theorem Post.nest {c c' : Ct} {r : SR} (back : ∀ S' H' σ' δ' tv' td', Rel G io c' S' H' σ' δ' tv' td' → Rel G io c S' H' σ' δ' tv' td') (p : Post G io W c tv td E r) : Post G io W c' tv td E r := by
  cases r with
  | stuck => exact p
  | nx δ => exact fun σ S H r => p σ S H (back _ _ _ _ _ _ r)
  | ct δ => exact fun σ S H r => p σ S H (back _ _ _ _ _ _ r)
  | bk δ => exact fun σ S H r => p σ S H (back _ _ _ _ _ _ r)
  | ret d δ => exact fun v σ S H r => p v σ S H (back _ _ _ _ _ _ r)
  | exc x δ => exact fun σ S H r => p σ S H (back _ _ _ _ _ _ r)
/-- for -/
theorem st_for {B : Dl → SR} {FI : Dl → Res (List D)} {bi : Bool} {tg : Tg} (h : tSt G io W (fun δ => onI (FI (vw rs δ)) bi rs δ fun ds δ1 => forD io tg B ds δ1) E σ H) : tFor (tI bi G W FI) (gTg G.K tg) (tSt G io W B) E σ H := by
  obtain ⟨c, S, δ, tv, td, r, p⟩ := h
  obtain ⟨S1, dm, fr, grow, _, give⟩ := r.eval (rs := rs)
  refine ⟨S1, vw rs δ, dm, fr, ?_⟩
  dsimp only at p
  cases e : FI (vw rs δ) with
  | stuck => rw [e] at p; exact p.elim
  | exc x => rw [e] at p; exact fun S2 H2 g => p σ S H2 (grow S2 H2 g)
  | ok ds =>
    rw [e] at p
    refine fun J S2 H2 g wk => ?_
    -- the state ahead of the turns: the items are shared now, or no things at all
    obtain ⟨Sw, rw', wkw⟩ : ∃ Sw, Rel G io c Sw H2 σ (if bi then δ else fz rs δ) tv td ∧ Wk G J Sw H2 ds := by
      cases bi with
      | true => exact ⟨S, grow S2 H2 g, wk.2 rfl S⟩
      | false => exact ⟨S2, give S2 H2 g, wk.1⟩
    obtain ⟨c', r', hH, hS, hM, back⟩ := rw'.nest
    have p' : Post G io W c' tv td E (forD io tg B ds (if bi then δ else fz rs δ)) := Post.nest back p
    refine ⟨fun i m σ H => m = ds.length - i ∧ i ≤ ds.length ∧ ∃ S δ, Rel G io c' S H σ δ tv td ∧ Post G io W c' tv td E (forD io tg B (ds.drop i) δ), ⟨ds.length, by simp, Nat.zero_le _, Sw, _, r', by rw [List.drop_zero]; exact p'⟩, ?_⟩
    rintro i m σ3 H3 ⟨rfl, hi, S3, δ3, r3, p3⟩
    have kp : KeepS Sw H2 H3 := fun a o e q => by
      obtain ⟨f, g, _, _, qq⟩ := r3
      refine qq.keep a o (by rw [hH]; exact e) fun m => ?_
      obtain ⟨n1, o', e', mu⟩ := hM a m
      rcases q with q | q
      · exact n1 q
      · rw [e] at e'
        cases e'
        exact q mu
    have sub : ∀ a, Sw a → S3 a := fun a z => by
      obtain ⟨f, g, _, _, qq⟩ := r3
      exact qq.sub a (by rw [hS]; exact z)
    have w3 := wkw S3 H3 sub r3.dom kp
    by_cases lt : i < ds.length
    case neg =>
      have e2 : i = ds.length := by omega
      subst e2
      rw [List.drop_length] at p3
      exact .inl ⟨w3.2 _ (Nat.le_refl _), p3 σ3 S3 H3 r3⟩
    case pos =>
      obtain ⟨d, ed⟩ : ∃ d, ds[i]? = some d := ⟨ds[i], by simp [lt]⟩
      have edrop : ds.drop i = d :: ds.drop (i + 1) := by
        rw [List.drop_eq_getElem_cons lt]
        rw [(List.getElem?_eq_some_iff.mp ed).2]
      rw [edrop] at p3
      obtain ⟨hgo, hyld⟩ := w3.1 i d ed
      have p4 : Post G io W c' tv td E ((putTg io δ3 tg d).bind fun δ1 => match B δ1 with
        | .nx δ2 => forD io tg B (ds.drop (i + 1)) δ2
        | .ct δ2 => forD io tg B (ds.drop (i + 1)) δ2
        | .bk δ2 => .nx δ2
        | r => r) := p3
      rcases putTg_nx (io := io) (δ := δ3) (tg := tg) (d := d) with z | ⟨δ4, z⟩
      · rw [z] at p4; exact p4.elim
      rw [z, SR.bind_nx] at p4
      refine .inr ⟨hgo, fun σ' H' => ∃ S' δ', (B δ4 = .nx δ' ∨ B δ4 = .ct δ') ∧ Rel G io c' S' H' σ' δ' tv td, ?_, fun x H5 yy => ?_⟩
      · rintro σ5 H5 ⟨S5, δ5, e5, r5⟩
        refine ⟨ds.length - (i + 1), by omega, rfl, lt, S5, δ5, r5, ?_⟩
        rcases e5 with e5 | e5 <;> (rw [e5] at p4; exact p4)
      · obtain ⟨le5, isx⟩ := hyld x H5 yy
        have r5 : Rel G io c' S3 H5 σ3 δ3 (x :: tv) (d :: td) := by
          obtain ⟨f, g, a, b, q⟩ := r3.grow le5
          exact ⟨f, g, a, IsL.cons (f := []) isx b, q⟩
        refine put_tg r5 z fun σ6 r6 => ⟨c', S3, δ4, tv, td, r6, ?_⟩
        cases eb : B δ4 with
        | stuck => rw [eb] at p4; exact p4
        | nx δ2 => exact fun σ7 S7 H7 r7 => ⟨S7, δ2, .inl rfl, r7⟩
        | ct δ2 => exact fun σ7 S7 H7 r7 => ⟨S7, δ2, .inr rfl, r7⟩
        | bk δ2 => rw [eb] at p4; exact p4
        | ret d δ2 => rw [eb] at p4; exact p4
        | exc x δ2 => rw [eb] at p4; exact p4
end
end Pw

/-! ## Statements: append, try -/
namespace Pw
open PySem PySem.Spec PyProof.Rows L2

theorem set_same {α : Type} {l : List α} {i : Nat} {x : α} (e : l[i]? = some x) : l.set i x = l := by
  apply List.ext_getElem?
  intro j
  by_cases q : i = j
  · subst q
    rw [List.getElem?_set_self', e]
    rfl
  · rw [List.getElem?_set_ne q]
section
variable {G : Kn} {io : List Nat} {c : Ct} {S : Addr → Prop} {H : Hp} {σ : L2.St} {δ : Dl} {tv : List V} {td : List D} {v : V} {d : D}
theorem Rel.bl {b : Bool} (r : Rel G io c S H σ δ (v :: tv) (.bl b :: td)) : v = .bl b := by
  obtain ⟨f, g, a, i, q⟩ := r
  cases i with
  | cons i _ => exact i.eBl.1
theorem Rel.addBl {b : Bool} (r : Rel G io c S H σ δ tv td) : Rel G io c S H σ δ (.bl b :: tv) (.bl b :: td) := by
  obtain ⟨f, g, a, i, q⟩ := r
  exact ⟨f, g, a, IsL.cons (f := []) .bl i, q⟩
/-- an own list grows by what is held besides -/
theorem Rel.app (r : Rel G io c S H σ δ (v :: tv) (d :: td)) {i : Nat} {ds : List D} (e : δ[i]? = some (some (.lst true ds))) :
    ∃ l xs, σ[i]? = some (some (.ref l)) ∧ H l = some (.lst xs) ∧ xs.length = ds.length ∧ Rel G io c S (upd H l (.lst (xs ++ [v]))) σ (δ.set i (some (.lst true (ds ++ [d])))) tv td := by
  have r0 := r
  obtain ⟨f, g, a, b, q⟩ := r
  obtain ⟨w, gl, f', e1, h, s, pm⟩ := a.take e
  cases b with
  | cons hd t =>
  rename_i g1 g2
  cases h with
  | lstO h hr =>
  rename_i l xs gr
  have lin : l ∈ f ++ (g1 ++ g2) := List.mem_append_left _ (pm.mem_iff.mp (List.mem_append_right _ List.mem_cons_self))
  have pm2 : (l :: (f' ++ gr ++ (g1 ++ g2))).Perm (f ++ (g1 ++ g2)) := by
    refine List.Perm.trans ?_ (pm.append_right (g1 ++ g2))
    rw [List.append_assoc f' (l :: gr)]
    refine List.Perm.trans ?_ List.perm_middle.symm
    rw [List.append_assoc]
    exact List.Perm.refl _
  have nd2 := (pm2.nodup_iff).mpr q.nd
  have nl : l ∉ f' ++ gr ++ (g1 ++ g2) := (List.nodup_cons.mp nd2).1
  have nS : ¬ S l := (q.own l lin).1
  have H'k : ∀ (fp : List Addr), (∀ x ∈ fp, x ∈ f' ++ gr ++ (g1 ++ g2)) → ∀ x o, H x = some o → (S x ∨ x ∈ fp ∨ ¬ Mut (some o)) → upd H l (.lst (xs ++ [v])) x = some o := fun fp sub x o ex z => by
    have ne : x ≠ l := by
      rintro rfl
      rcases z with z | z | z
      · exact nS z
      · exact nl (sub x z)
      · rw [h] at ex
        cases ex
        exact z trivial
    rw [upd_ne ne]
    exact ex
  have s' : Sl G S (upd H l (.lst (xs ++ [v]))) σ (δ.set i none) f' := s.keep (fun _ z => z) (H'k f' fun x z => List.mem_append_left _ (List.mem_append_left _ z))
  have hr' : IsL G S (upd H l (.lst (xs ++ [v]))) xs ds gr := hr.keep (fun _ z => z) (H'k gr fun x z => List.mem_append_left _ (List.mem_append_right _ z))
  have hd' : Is G S (upd H l (.lst (xs ++ [v]))) v d g1 := hd.keep (fun _ z => z) (H'k g1 fun x z => List.mem_append_right _ (List.mem_append_left _ z))
  have t' : IsL G S (upd H l (.lst (xs ++ [v]))) tv td g2 := t.keep (fun _ z => z) (H'k g2 fun x z => List.mem_append_right _ (List.mem_append_right _ z))
  have il : i < δ.length := (List.getElem?_eq_some_iff.mp e).1
  obtain ⟨f2, s2, pf⟩ := s'.put (i := i) (v := .ref l) (by rw [List.getElem?_set_self il]) (Is.lstO upd_same (hr'.append (.cons hd' .nil)))
  rw [List.set_set] at s2
  rw [set_same e1] at s2
  have pm3 : (f2 ++ g2).Perm (f ++ (g1 ++ g2)) := by
    refine List.Perm.trans ?_ pm2
    refine (pf.append_right g2).trans ?_
    rw [List.append_nil]
    refine List.Perm.trans (l₂ := (l :: (f' ++ (gr ++ g1))) ++ g2) (List.Perm.append_right g2 List.perm_middle) ?_
    simp only [List.cons_append, List.append_assoc]
    exact List.Perm.refl _
  refine ⟨l, xs, e1, h, hr.len, f2, g2, s2, t', (pm3.nodup_iff).mpr q.nd, fun x m => q.own x (pm3.mem_iff.mp m), q.sub, q.new, fun x z => ?_, fun x o ex n => ?_, fun x ex => ?_, q.fix⟩
  · by_cases ne : x = l
    · rw [ne, upd_same]; exact fun z => nomatch z
    · rw [upd_ne ne]; exact q.dom x z
  · have ne : x ≠ l := by
      rintro rfl
      rcases (q.own x lin).2 with z | z
      · exact n z
      · rw [z] at ex; cases ex
    rw [upd_ne ne]
    exact q.keep x o ex n
  · by_cases ne : x = l
    · rw [ne, upd_same]; exact fun z => nomatch z
    · rw [upd_ne ne]; exact q.there x ex
theorem st_app {W : WX} {E : Ends} {F : Dl → Res D} {rs : List Nat} {i : Nat} (h : tSt G io W (fun δ => ownAt δ i (onE (F (vw rs δ)) rs δ fun d δ1 => appD io δ1 i d)) E σ H) : tDrop (tBM G.K "list" rAppend (tVar i) (tCons (tP G W F) tNil)) E σ H := by
  obtain ⟨c, S, δ, tv, td, r, p⟩ := h
  dsimp only at p
  unfold ownAt at p
  split at p
  case h_2 => exact p.elim
  rename_i ds0 e0
  obtain ⟨v0, ev0, r0⟩ := r.take e0
  have lv : ∃ l xs, v0 = .ref l ∧ H l = some (.lst xs) := by
    obtain ⟨f, g, a, b, q⟩ := r0
    cases b with
    | cons h _ => cases h with
      | lstO h hr => exact ⟨_, _, rfl, h⟩
  obtain ⟨l0, xs0, rfl, hl0⟩ := lv
  refine ⟨.ref l0, ev0, .inl ⟨rfl, xs0, SqL.of hl0⟩, ?_⟩
  refine on_eval r p fun d v S' H' r' p' => ?_
  unfold appD at p'
  split at p'
  case h_2 => exact p'.elim
  rename_i ds e
  split at p'
  case isFalse => exact p'.elim
  rename_i c1
  obtain ⟨l, xs, e1, h1, h2, r2⟩ := r'.app e
  rw [ev0] at e1
  cases e1
  refine ⟨l0, xs, v, rfl, rfl, h1, by rw [h2]; exact Nat.lt_of_lt_of_le c1 (lim_le (Nat.le_refl _)), p' σ S' _ r2⟩
end
/-! ### try, and what its suites ask -/
def cvOf (mg : Str → Option Value) (y : Str) : Value := match mg y with
  | some c => c
  | none => (bootBuiltins y).getD .none
/-- values that stand for one alone -/
def vOf : Value → V
  | .ref a => .ref a
  | .type t => .ty t
  | _ => .non
structure Xok (xb : Xb) (K : PySem.W.Frag) (mg : Str → Option Value) : Prop where
  nm : ∀ y ∈ xb.cls, (∃ a, mg y = some (.ref a)) ∨ (mg y = none ∧ ∃ t : String, bootBuiltins y = some (.type t))
  isa : ∀ x y b, xb.isa x y = some b → PySem.W.kitOne K (.ref (He.ga K x)) (cvOf mg y) = some b ∧ PySem.W.exmOne K (.ref (He.ga K x)) (cvOf mg y) = some b ∧ ExcC K (He.ga K x)
  rai : ∀ x ∈ xb.rai, mg x = some (.ref (He.ga K x)) ∧ PySem.W.excIn K (He.ga K x) He.veBase "ValueError.__new__" = true ∧ PySem.W.keepIn K (.ref (He.ga K x)) = true ∧ PySem.W.subIn K (.ref (He.ga K x)) (.type "BaseException") = some true ∧ PySem.W.typeIn K (.ref (He.ga K x)) = some (.type "type")
theorem vOf_ref {a : Addr} {u : Value} (h : RelV (.ref a) u) : u = .ref a := by cases h; rfl
theorem vOf_ty {t : String} {u : Value} (h : RelV (.ty t) u) : u = .type t := by cases h; rfl
section
variable {xb : Xb} {mg : Str → Option Value} {K : PySem.W.Frag}
theorem Xok.cv (o : Xok xb K mg) {y : Str} (m : y ∈ xb.cls) : RelV (vOf (cvOf mg y)) (cvOf mg y) ∧ ∀ u, RelV (vOf (cvOf mg y)) u → u = cvOf mg y := by
  rcases o.nm y m with ⟨a, e⟩ | ⟨e, t, e2⟩
  · have z : cvOf mg y = .ref a := by unfold cvOf; rw [e]
    rw [z]
    exact ⟨rfl, fun u h => vOf_ref h⟩
  · have z : cvOf mg y = .type t := by unfold cvOf; rw [e, e2]; rfl
    rw [z]
    exact ⟨rfl, fun u h => vOf_ty h⟩
theorem Xok.pe {X : Cx} (o : Xok xb K X.mg) {y : Str} {p : Pos} (m : y ∈ xb.cls) (g : GloOk X.env.scope y) : PE X (.Name y p) (tC (vOf (cvOf X.mg y))) := by
  rcases o.nm y m with ⟨a, e⟩ | ⟨e, t, e2⟩
  · have z : cvOf X.mg y = .ref a := by unfold cvOf; rw [e]
    rw [z]
    exact pe_glob g.g e rfl g.d
  · have z : cvOf X.mg y = .type t := by unfold cvOf; rw [e, e2]; rfl
    rw [z]
    exact pe_bltn g.g e e2 rfl g.n g.d
theorem Xok.names {X : Cx} (o : Xok xb K X.mg) {y : Str} (m : y ∈ xb.cls) (g : GloOk X.env.scope y) : Names X y (cvOf X.mg y) := by
  refine ⟨g.g, g.d, ?_⟩
  rcases o.nm y m with ⟨a, e⟩ | ⟨e, t, e2⟩
  · left
    rw [e]
    unfold cvOf
    rw [e]
  · right
    refine ⟨e, ?_, g.n⟩
    rw [e2]
    unfold cvOf
    rw [e, e2]
    rfl
end
/-- isinstance(e, (c, ..)) in the suite -/
def rIsEs (K : PySem.W.Frag) (D a : Addr) : List V → Hp → VK → Prop := fun xs H Q => ∃ (p : Addr) (cs : List V) (cvs : List Value) (b : Bool), xs = [.ref a, .ref p] ∧ H p = some (.tup cs) ∧ (∀ us, Vals cs us → us = cvs) ∧ PySem.W.kitAny K (.ref D) cvs = some b ∧ Q (.bl b) H
theorem call_isEs {X : Cx} {a D : Addr} {oe : Obj} {pn : List (Addr × Obj)} (C : ExcC X.K D) (hz : Zc (.ref D) none oe) (hf : ∃ vs, oe.data = .fields vs) : CallR (X.suite a ((a, oe) :: pn)) (.builtin "isinstance") (rIsEs X.K D a) := by
  intro pins s σ H xs us Q I r h
  obtain ⟨p, cs, cvs, b, rfl, hp, hcv, e, q⟩ := h
  obtain ⟨x, y, rx, ry, rfl⟩ : ∃ x y, RelV (.ref a) x ∧ RelV (.ref p) y ∧ us = [x, y] := by
    cases r with
    | cons ra rb => cases rb with
      | cons rc rd => cases rd; exact ⟨_, _, ra, rc, rfl⟩
  cases rx
  cases ry
  obtain ⟨its, rv, ⟨ot, he, hc, n, hdt⟩, hz2⟩ := I.tuple (.inl (.inl hp))
  have ei := hcv _ rv
  subst ei
  obtain ⟨hget, _⟩ := I.pin (a, oe) (List.mem_append.mpr (.inl List.mem_cons_self))
  obtain ⟨fs, hfs⟩ := hf
  have inst : PySem.W.InstAt s.heap a oe D none := by
    obtain ⟨o1, o2, o3, o4⟩ := oe
    obtain ⟨h1, h2⟩ := hz
    dsimp only at h1 h2 hfs
    subst h1 h2 hfs
    exact ⟨hget, rfl, rfl, trivial⟩
  obtain ⟨t1, t2, t3, t4⟩ := ot
  dsimp only at hc hdt
  subst hc hdt
  exact PySem.W.kia_tup (PySem.W.handS_kitx_exc C.hg C.hk C.hs C.hd C.ha C.hn C.ht C.hm) I.kIn inst he e (fun z => nomatch z) fun tk => ⟨.bl b, H, I.kept (t' := tk) fun _ _ z => z, rfl, q⟩
end Pw

/-! ## Except suites -/
namespace Pw
open PySem PySem.Spec PyProof.Rows L2

def noComp : Expr → Bool
  | .ListComp _ _ _ _ => false
  | .SetComp _ _ _ _ => false
  | .DictComp _ _ _ _ _ => false
  | _ => true
theorem sw_no {e : Expr} (h : noComp e = true) (t : Option Expr) (l : Nat) (env : Env) : swapsWith e t l env = pure false := by
  cases e <;> first | rfl | exact noF h
def namesB (xb : Xb) (sc : Scope) : List Str → List Expr → Bool
  | [], [] => true
  | y :: ys, .Name c _ :: es => decide (c = y) && decide (y ∈ xb.cls) && gloB sc y && namesB xb sc ys es
  | _, _ => false
def isOne (es : List Expr) (f : Expr → Bool) : Bool := match es with
  | [e] => f e
  | _ => false
def chkIx (xb : Xb) (T : Tb) (fr N : List Str) (i : Nat) (y : Str) (sc : Scope) : Expr → Bool
  | .Call (.Name f _) [e, .Name c _] [] _ => decide (f = "isinstance") && freeB fr sc f && chk T fr N (.v i) sc e && (decide (c = y) && decide (y ∈ xb.cls) && gloB sc y)
  | _ => false
def chkIxs (xb : Xb) (T : Tb) (fr N : List Str) (i : Nat) (ys : List Str) (sc : Scope) : Expr → Bool
  | .Call (.Name f _) [e, .Tuple es _ _] [] _ => decide (f = "isinstance") && freeB fr sc f && chk T fr N (.v i) sc e && (namesB xb sc ys es && !ys.isEmpty && Nat.ble ys.length 1000)
  | _ => false
def chkSe (xb : Xb) (T : Tb) (fr N : List Str) (i : Nat) : Se → Scope → List Expr → Bool
  | .isx y, sc, es => isOne es fun e => chkIx xb T fr N i y sc e
  | .isxs ys, sc, es => isOne es fun e => chkIxs xb T fr N i ys sc e
  | .nt a, sc, es => isOne es fun e => (match e with
    | .UnaryOp .Not e _ => chkSe xb T fr N i a sc [e] && valueE e
    | _ => false)
  | .v j, sc, es => isOne es fun e => chk T fr N (.v j) sc e
  | .and a b, sc, es => (match es with
    | [] => false
    | [e] => (match e with
      | .BoolOp .And (e :: e2 :: es) _ => chkSe xb T fr N i a sc [e] && chkSe xb T fr N i b sc (e2 :: es)
      | _ => false)
    | e :: e2 :: es => chkSe xb T fr N i a sc [e] && chkSe xb T fr N i b sc (e2 :: es))
termination_by structural x => x
def chkSu (xb : Xb) (T : Tb) (fr N : List Str) (i : Nat) : Su → Scope → List Stmt → Bool
  | .nil, _, [] => true
  | .nil, _, [.Pass _] => true
  | .ret e, sc, [.Return (some e') _] => chkSe xb T fr N i e sc [e']
  | .set j e r, sc, .Assign [t] e' _ :: rest => chkSe xb T fr N i e sc [e'] && noComp e' && locB sc N true j t && chkSu xb T fr N i r sc rest
  | _, _, _ => false
termination_by structural x => x

def AgB (σ : L2.St) (δ : Dl) : Prop := ∀ (j : Nat) (b : Bool), δ[j]? = some (some (.bl b)) → σ[j]? = some (some (.bl b))
/-- what a suite's expression comes to -/
def tSe (xb : Xb) (x : Str) (i : Nat) (a : Addr) (s : Se) : TE := fun σ H Q => ∃ (δ : Dl) (b : Bool), AgB σ δ ∧ σ[i]? = some (some (.ref a)) ∧ seD xb x δ s = some b ∧ ∀ H', Le H H' → Q (.bl b) H'
def tCs : List V → TA
  | [] => tNil
  | c :: cs => tCons (tC c) (tCs cs)
theorem tCs_ok {σ : L2.St} {H : Hp} : ∀ {cs : List V} {Q : List V → Hp → Prop}, Q cs H → tCs cs σ H Q
  | [], _, q => q
  | c :: cs, Q, q => tCs_ok (cs := cs) (Q := fun vs H1 => Q (c :: vs) H1) q
section
variable {xb : Xb} {T : Tb} {fr : List Str} {ca : Nat → Addr} {k : Nat} {X : Cx} {i : Nat} {x : Str} {a : Addr} {oe : Obj} {pn : List (Addr × Obj)}
theorem names_ok {X : Cx} (o : Xok xb X.K X.mg) : ∀ {ys : List Str} {es : List Expr}, namesB xb X.env.scope ys es = true → PA X es (tCs (ys.map fun y => vOf (cvOf X.mg y))) ∧ ∀ us, Vals (ys.map fun y => vOf (cvOf X.mg y)) us → us = ys.map (cvOf X.mg)
  | [], [], _ => ⟨pa_nil, fun us h => by cases h; rfl⟩
  | [], _ :: _, h => noF h
  | _ :: _, [], h => noF h
  | y :: ys, e :: es, h => by
    cases e with
    | Name c p =>
      obtain ⟨h1, h2⟩ := and2 h
      obtain ⟨h3, h4, h5⟩ := and3 h1
      have ey := of_decide_eq_true h3
      subst ey
      have m := of_decide_eq_true h4
      obtain ⟨q1, q2⟩ := names_ok o h2
      refine ⟨pa_cons (o.pe m (glo_of h5)) q1, fun us hv => ?_⟩
      cases hv with
      | cons r rr =>
        rw [List.map_cons, (o.cv m).2 _ r, q2 _ rr]
    | _ => exact noF h
theorem any_ok {K : PySem.W.Frag} {mg : Str → Option Value} (o : Xok xb K mg) {b : Bool} : ∀ {ys : List Str}, ys.foldr (fun y r => match xb.isa x y with
    | some true => some true
    | some false => r
    | none => none) (some false) = some b → PySem.W.kitAny K (.ref (He.ga K x)) (ys.map (cvOf mg)) = some b
  | [], h => h
  | y :: ys, h => by
    rw [List.foldr_cons] at h
    rw [List.map_cons]
    unfold PySem.W.kitAny
    cases e : xb.isa x y with
    | none => rw [e] at h; cases h
    | some c =>
      rw [(o.isa x y c e).1]
      rw [e] at h
      cases c with
      | true => exact h
      | false => exact any_ok o h
theorem first_ok {K : PySem.W.Frag} {mg : Str → Option Value} (o : Xok xb K mg) {b : Bool} {y : Str} {ys : List Str} (h : (y :: ys).foldr (fun y r => match xb.isa x y with
    | some true => some true
    | some false => r
    | none => none) (some false) = some b) : ∃ c, xb.isa x y = some c := by
  rw [List.foldr_cons] at h
  cases e : xb.isa x y with
  | none => rw [e] at h; cases h
  | some c => exact ⟨c, rfl⟩
theorem pe_none {X : Cx} {e : Expr} {s : Se} (h : ∀ δ, seD xb x δ s = none) : PE X e (tSe xb x i a s) := ⟨fun _ _ _ _ _ _ ⟨δ, b, _, _, q, _⟩ => by rw [h δ] at q; cases q⟩
theorem se_ok (fre : ∀ x ∈ fr, X.mg x = none) (o : Xok xb X.K X.mg) (hz : Zc (.ref (He.ga X.K x)) none oe) (hf : ∃ vs, oe.data = .fields vs) : ∀ (s : Se) (es : List Expr), chkSe xb T fr X.N i s X.env.scope es = true →
    (∀ p, PE (X.suite a ((a, oe) :: pn)) (.BoolOp .And es p) (tSe xb x i a s)) ∧ ∀ e, es = [e] → PE (X.suite a ((a, oe) :: pn)) e (tSe xb x i a s)
  | s, [], h => by cases s <;> exact noF h
  | .isx y, e1 :: e2 :: es, h => noF h
  | .isxs ys, e1 :: e2 :: es, h => noF h
  | .nt s, e1 :: e2 :: es, h => noF h
  | .v j, e1 :: e2 :: es, h => noF h
  | .isx y, [e0], h => by
    have main : PE (X.suite a ((a, oe) :: pn)) e0 (tSe xb x i a (.isx y)) := by
      have h : chkIx xb T fr X.N i y X.env.scope e0 = true := h
      unfold chkIx at h
      split at h
      case h_2 => exact noF h
      rename_i f p1 e c p2 p3 _
      obtain ⟨h1, h2⟩ := and2 h
      obtain ⟨h3, h4, h5⟩ := and3 h1
      obtain ⟨h6, h7, h8⟩ := and3 h2
      have e1 := of_decide_eq_true h3
      have e2 := of_decide_eq_true h6
      subst e1 e2
      have m := of_decide_eq_true h7
      have gi := free_of h4
      cases hx : xb.isa x c with
      | none => exact pe_none fun δ => hx
      | some b =>
        obtain ⟨k1, _, k3⟩ := o.isa x c b hx
        obtain ⟨n, pn', rfl, v1, v2, v3, v4⟩ := inv_v h5
        have ha : PA (X.suite a ((a, oe) :: pn)) [.Name n pn', .Name c p2] (tCons (tVar i) (tCons (tC (vOf (cvOf X.mg c))) tNil)) := pa_cons (pe_var v1 v2 v3 v4) (pa_cons (Xok.pe (X := X.suite a ((a, oe) :: pn)) o m (glo_of h8)) pa_nil)
        refine PE.weak (pe_callB (id := "isinstance") (call_isE k3 hz hf) gi.g (fre _ gi.f) (by decide +kernel) ha gi.n gi.d) fun σ H Q h => ?_
        obtain ⟨δ, b', _, hs, e1, q⟩ := h
        have e1' : xb.isa x c = some b' := e1
        rw [hx] at e1'
        cases e1'
        exact ⟨.ref a, hs, vOf (cvOf X.mg c), cvOf X.mg c, b, rfl, (o.cv m).2, k1, q H fun _ _ z => z⟩
    exact ⟨fun p => pe_one main, fun e q => by cases q; exact main⟩
  | .isxs ys, [e0], h => by
    have main : PE (X.suite a ((a, oe) :: pn)) e0 (tSe xb x i a (.isxs ys)) := by
      have h : chkIxs xb T fr X.N i ys X.env.scope e0 = true := h
      unfold chkIxs at h
      split at h
      case h_2 => exact noF h
      rename_i f p1 e es' p2 p3 p4 _
      obtain ⟨h1, h2⟩ := and2 h
      obtain ⟨h3, h4, h5⟩ := and3 h1
      obtain ⟨h6, h7, h8⟩ := and3 h2
      have e1 := of_decide_eq_true h3
      subst e1
      have gi := free_of h4
      cases ys with
      | nil => exact noF h7
      | cons y ys =>
        cases hx : xb.isa x y with
        | none =>
          refine pe_none fun δ => ?_
          show (y :: ys).foldr _ _ = none
          rw [List.foldr_cons, hx]
        | some b0 =>
          obtain ⟨_, _, k3⟩ := o.isa x y b0 hx
          obtain ⟨n, pn', rfl, v1, v2, v3, v4⟩ := inv_v h5
          obtain ⟨q1, q2⟩ := names_ok (X := X.suite a ((a, oe) :: pn)) o h6
          have ha := pa_cons (X := X.suite a ((a, oe) :: pn)) (pe_var (pos := pn') v1 v2 v3 v4) (pa_cons (pe_tup (x1 := p2) (pos := p3) q1) pa_nil)
          refine PE.weak (pe_callB (id := "isinstance") (call_isEs k3 hz hf) gi.g (fre _ gi.f) (by decide +kernel) ha gi.n gi.d) fun σ H Q h => ?_
          obtain ⟨δ, b', _, hs, e1, q⟩ := h
          refine ⟨.ref a, hs, ?_⟩
          refine tCs_ok ⟨?_, fun p hp => ?_⟩
          · rw [List.length_map]
            exact Nat.le_trans (Nat.le_of_ble_eq_true h8) (by rw [sizeLine_eq]; decide)
          · exact ⟨p, _, _, b', rfl, upd_same, q2, any_ok o e1, q _ (le_upd hp)⟩
    exact ⟨fun p => pe_one main, fun e q => by cases q; exact main⟩
  | .nt s, [e0], h => by
    have main : PE (X.suite a ((a, oe) :: pn)) e0 (tSe xb x i a (.nt s)) := by
      cases e0 with
      | UnaryOp op e p =>
        cases op with
        | Not =>
          obtain ⟨h1, h2⟩ := and2 h
          refine PE.weak (pe_not ((se_ok fre o hz hf s [e] h1).2 e rfl)) fun σ H Q h => ?_
          obtain ⟨δ, b, q1, q2, q3, q4⟩ := h
          have q3' : (seD xb x δ s).map (!·) = some b := q3
          obtain ⟨b1, e1, e2⟩ := Option.map_eq_some_iff.mp q3'
          refine ⟨δ, b1, q1, q2, e1, fun H' le => ⟨b1, rfl, ?_⟩⟩
          rw [e2]
          exact q4 H' le
        | _ => exact noF h
      | _ => exact noF h
    exact ⟨fun p => pe_one main, fun e q => by cases q; exact main⟩
  | .v j, [e0], h => by
    have main : PE (X.suite a ((a, oe) :: pn)) e0 (tSe xb x i a (.v j)) := by
      obtain ⟨n, pn', rfl, v1, v2, v3, v4⟩ := inv_v (show chk T fr X.N (.v j) X.env.scope e0 = true from h)
      refine PE.weak (pe_var v1 v2 v3 v4) fun σ H Q h => ?_
      obtain ⟨δ, b, q1, q2, q3, q4⟩ := h
      unfold seD at q3
      split at q3
      · rename_i b' e1
        cases q3
        exact ⟨.bl b, q1 j b e1, q4 H fun _ _ z => z⟩
      · cases q3
    exact ⟨fun p => pe_one main, fun e q => by cases q; exact main⟩
  | .and s1 s2, [e0], h => by
    have main : PE (X.suite a ((a, oe) :: pn)) e0 (tSe xb x i a (.and s1 s2)) := by
      cases e0 with
      | BoolOp op es p =>
        cases op with
        | And =>
          cases es with
          | nil => exact noF h
          | cons e es => cases es with
            | nil => exact noF h
            | cons e2 es =>
              obtain ⟨h1, h2⟩ := and2 h
              exact PE.weak (pe_and ((se_ok fre o hz hf s1 [e] h1).2 e rfl) ((se_ok fre o hz hf s2 (e2 :: es) h2).1 p)) fun σ H Q h => se_and h
        | _ => exact noF h
      | _ => exact noF h
    exact ⟨fun p => pe_one main, fun e q => by cases q; exact main⟩
  | .and s1 s2, e :: e2 :: es, h => by
    obtain ⟨h1, h2⟩ := and2 h
    exact ⟨fun p => PE.weak (pe_and ((se_ok fre o hz hf s1 [e] h1).2 e rfl) ((se_ok fre o hz hf s2 (e2 :: es) h2).1 p)) fun σ H Q h => se_and h, fun e' q => by cases q⟩
where
  se_and {s1 s2 : Se} {σ : L2.St} {H : Hp} {Q : VK} (h : tSe xb x i a (.and s1 s2) σ H Q) : tAndV (tSe xb x i a s1) (tSe xb x i a s2) σ H Q := by
    obtain ⟨δ, b, q1, q2, q3, q4⟩ := h
    unfold seD at q3
    cases e : seD xb x δ s1 with
    | none => rw [e] at q3; cases q3
    | some b1 =>
      rw [e] at q3
      cases b1 with
      | true => exact ⟨δ, true, q1, q2, e, fun H' le => ⟨true, rfl, iteT ⟨δ, b, q1, q2, q3, fun H2 le2 => q4 H2 fun z w y => le2 z w (le z w y)⟩⟩⟩
      | false =>
        have z : false = b := Option.some.inj q3
        subst z
        exact ⟨δ, false, q1, q2, e, fun H' le => ⟨false, rfl, iteF (q4 H' le)⟩⟩
end
/-- a suite's promise -/
def tSu (G : Kn) (io : List Nat) (xb : Xb) (x : Str) (i : Nat) (a : Addr) (s : Su) : TS := fun E σ H => ∃ c S δ tv td, Rel G io c S H σ δ tv td ∧ σ[i]? = some (some (.ref a)) ∧ Post G io W0 c tv td E (suD xb io i x s δ)
theorem Rel.agb {G : Kn} {io : List Nat} {c : Ct} {S : Addr → Prop} {H : Hp} {σ : L2.St} {δ : Dl} {tv : List V} {td : List D} (r : Rel G io c S H σ δ tv td) : AgB σ δ := fun j b e => by
  obtain ⟨v, e1, r1⟩ := r.take e
  rw [e1, r1.bl]
section
variable {xb : Xb} {T : Tb} {fr : List Str} {ca : Nat → Addr} {k : Nat} {X : Cx} {i : Nat} {x : Str} {a : Addr} {oe : Obj} {pn : List (Addr × Obj)} {io : List Nat}
theorem su_ok (nd : X.N.Nodup) (fn : ∀ x, X.fn x = true) (fre : ∀ x ∈ fr, X.mg x = none) (o : Xok xb X.K X.mg) (hz : Zc (.ref (He.ga X.K x)) none oe) (hf : ∃ vs, oe.data = .fields vs) : ∀ (s : Su) (st : List Stmt), chkSu xb T fr X.N i s X.env.scope st = true →
    PSs (X.suite a ((a, oe) :: pn)) st (tSu (kn X ca) io xb x i a s)
  | .nil, st, h => by
    have q : ∀ E σ H, tSu (kn X ca) io xb x i a .nil E σ H → E.nx σ H := fun E σ H ⟨c, S, δ, tv, td, r, _, p⟩ => p σ S H r
    cases st with
    | nil => exact ⟨fun p s σ H E I z => pss_nil.run p s σ H E I (q E σ H z)⟩
    | cons s1 st =>
      cases st with
      | nil => cases s1 with
        | Pass p => exact ⟨fun p s σ H E I z => (pss_one ps_pass).run p s σ H E I (q E σ H z)⟩
        | _ => exact noF h
      | cons _ _ => cases s1 <;> exact noF h
  | .ret e, st, h => by
    cases st with
    | nil => exact noF h
    | cons s1 st =>
      cases s1 with
      | Return oe' p =>
        cases oe' with
        | none => cases st <;> exact noF h
        | some e' =>
          cases st with
          | cons _ _ => exact noF h
          | nil =>
            refine ⟨fun pp s σ H E I z => (pss_one (ps_ret ((se_ok (pn := pn) (a := a) fre o hz hf e [e'] h).2 e' rfl))).run pp s σ H E I ?_⟩
            obtain ⟨c, S, δ, tv, td, r, q, p⟩ := z
            unfold suD at p
            cases eq : seD xb x δ e with
            | none => rw [eq] at p; exact p.elim
            | some b =>
              rw [eq] at p
              exact ⟨δ, b, r.agb, q, eq, fun H' le => p _ σ S H' (r.grow le).addBl⟩
      | _ => cases st <;> exact noF h
  | .set j e rr, st, h => by
    cases st with
    | nil => exact noF h
    | cons s1 st =>
      cases s1 with
      | Assign ts e' p =>
        cases ts with
        | nil => exact noF h
        | cons t ts => cases ts with
          | cons _ _ => exact noF h
          | nil =>
            obtain ⟨h0, h4⟩ := and2 h
            obtain ⟨h1, h2, h3⟩ := and3 h0
            obtain ⟨n, np, rfl, n1, n2⟩ := name_set h3
            have lc : Loc X.env.scope n := n2.elim .inl fun z => .inr z.1
            refine ⟨fun pp s σ H E I z => (pss_cons (ps_set (X := X.suite a ((a, oe) :: pn)) (i := j) nd n1 lc ((se_ok (pn := pn) (a := a) fre o hz hf e [e'] h1).2 e' rfl) (sw_no h2 _ _ _) (.inl (fn n))) (su_ok nd fn fre o hz hf rr st h4)).run pp s σ H E I ?_⟩
            obtain ⟨c, S, δ, tv, td, r, q, p⟩ := z
            unfold suD at p
            cases eq : seD xb x δ e with
            | none => rw [eq] at p; exact p.elim
            | some b =>
              rw [eq] at p
              refine ⟨δ, b, r.agb, q, eq, fun H' le => ?_⟩
              dsimp only at p
              split at p
              · exact p.elim
              · rename_i hn
                have hn1 : io.contains j = false := by
                  cases w : io.contains j with
                  | false => rfl
                  | true => rw [w] at hn; exact absurd rfl hn
                have hn2 : j ≠ i := by
                  intro w
                  rw [hn1, decide_eq_true w] at hn
                  exact absurd rfl hn
                have r2 : Rel (kn X ca) io c S H' σ δ (.bl b :: tv) (.bl b :: td) := (r.grow le).addBl
                have q' : (σ.set j (some (.bl b)))[i]? = some (some (.ref a)) := by rw [List.getElem?_set_ne hn2]; exact q
                refine ⟨c, S, δ.set j (some (.bl b)), tv, td, ?_, q', p⟩
                by_cases lt : j < δ.length
                · exact Rel.set r2 lt hn1
                · have e1 : δ.set j (some (D.bl b)) = δ := List.set_eq_of_length_le (by omega)
                  have e2 : σ.set j (some (V.bl b)) = σ := List.set_eq_of_length_le (by rw [r.len]; omega)
                  rw [e1, e2]
                  exact r2.drop
      | _ => exact noF h
end
end Pw

/-! ## Statements against the text -/
namespace Pw
open PySem PySem.Spec PyProof.Rows L2

def noTup : Expr → Bool
  | .Tuple _ _ _ => false
  | _ => true
/-- a comprehension whose list is laid ahead of the name's old value -/
def swT (sc : Scope) : Expr → Expr → Bool
  | .Name y py, .ListComp _ _ scp p => (match sc.names.lookup y with
    | some .local => true
    | _ => false) && (py.line == p.line) && !(scp.names.any fun (n, k) => n == y && (k == .local || k == .cell))
  | _, _ => false
def setB (sc : Scope) (N : List Str) : Tg → Expr → Expr → Bool
  | .one i, t, e => locB sc N true i t && (noComp e || swT sc t e)
  | .many is, .Tuple ts _ _, e => locBs sc N true is ts && noComp e && noTup e
  | _, _, _ => false
def isLocal (sc : Scope) (n : Str) : Bool := match sc.names.lookup n with
  | some .local => true
  | _ => false
/-- the parts of some statements -/
structure TryP where
  body : List Stmt
  y : Str
  n : Str
  b0 : Stmt
  suite : List Stmt
  np : Pos
  p1 : Pos
  p2 : Pos
structure AppP where
  o : Expr
  m : Str
  e : Expr
  ap : Pos
  cp : Pos
  p : Pos
def raiP : Stmt → Option Str
  | .Raise (some (.Call (.Name y _) [.Constant (.str _) _ _] [] _)) none _ => some y
  | _ => none
def tryP : Stmt → Option TryP
  | .Try body [.ExceptHandler (some (.Name y np)) (some n) (b0 :: suite) p1] [] [] p2 => some ⟨body, y, n, b0, suite, np, p1, p2⟩
  | _ => none
def appP : Stmt → Option AppP
  | .Expr (.Call (.Attribute o m ap) [e] [] cp) p => some ⟨o, m, e, ap, cp, p⟩
  | _ => none
theorem raiP_ok {st : Stmt} {y : Str} (h : raiP st = some y) : ∃ q1 m j q2 q3 q4, st = .Raise (some (.Call (.Name y q1) [.Constant (.str m) j q2] [] q3)) none q4 := by
  unfold raiP at h
  split at h
  · cases h
    exact ⟨_, _, _, _, _, _, rfl⟩
  · cases h
theorem tryP_ok {st : Stmt} {q : TryP} (h : tryP st = some q) : st = .Try q.body [.ExceptHandler (some (.Name q.y q.np)) (some q.n) (q.b0 :: q.suite) q.p1] [] [] q.p2 := by
  unfold tryP at h
  split at h
  · cases h
    rfl
  · cases h
theorem appP_ok {st : Stmt} {q : AppP} (h : appP st = some q) : st = .Expr (.Call (.Attribute q.o q.m q.ap) [q.e] [] q.cp) q.p := by
  unfold appP at h
  split at h
  · cases h
    rfl
  · cases h
mutual
def chkS (T : Tb) (xb : Xb) (fr N : List Str) : Sc → Scope → Stmt → Bool
  | .set tg _ c, sc, .Assign [t] e _ => chk T fr N c sc e && setB sc N tg t e
  | .ex _ c, sc, .Expr e _ => chk T fr N c sc e && noComp e
  | .ret _ c, sc, .Return (some e) _ => chk T fr N c sc e
  | .retv i, sc, .Return (some e) _ => chk T fr N (.v i) sc e
  | .retN, _, .Return none _ => true
  | .ite _ c a b, sc, .If e x y _ => chk T fr N c sc e && chkSs T xb fr N a sc x && chkSs T xb fr N b sc y
  | .whl _ c b, sc, .While e x [] _ => chk T fr N c sc e && chkSs T xb fr N b sc x
  | .for tg _ it b, sc, .For t e x [] _ => chki T fr N it sc e && tgB sc N true tg t && chkSs T xb fr N b sc x
  | .rai x, sc, st => (match raiP st with
    | some y => decide (y = x) && decide (x ∈ xb.rai) && gloB sc y
    | none => false)
  | .try b y i su, sc, st => (match tryP st with
    | some q => decide (q.y = y) && decide (y ∈ xb.cls) && gloB sc y && (decide (N[i]? = some q.n) && isLocal sc q.n) && (chkSs T xb fr N b sc q.body && chkSu xb T fr N i su sc (q.b0 :: q.suite))
    | none => false)
  | .pass, _, .Pass _ => true
  | .cont, _, .Continue _ => true
  | .app i _ c, sc, st => (match appP st with
    | some q => decide (q.m = "append") && chk T fr N (.v i) sc q.o && chk T fr N c sc q.e && (plainE q.e && (q.ap.endLine == q.cp.line))
    | none => false)
  | _, _, _ => false
termination_by structural x => x
def chkSs (T : Tb) (xb : Xb) (fr N : List Str) : Ss → Scope → List Stmt → Bool
  | .nil, _, [] => true
  | .cons s r, sc, st :: sts => chkS T xb fr N s sc st && chkSs T xb fr N r sc sts
  | _, _, _ => false
termination_by structural x => x
end
structure Sok (T : Tb) (xb : Xb) (fr : List Str) (ca : Nat → Addr) (k : Nat) (X : Cx) (W : WX) : Prop where
  c : Cok T fr ca k X W
  hs : X.stack = X.env :: X.outer
  hf : X.env.frame = some X.env.locals
  fn : ∀ x, X.fn x = true
  pass : PassesOwn (model X.prog X.w) X.A X.env X.xe
  kind : X.env.scope.kind = .function
  xo : Xok xb X.K X.mg
theorem PS.weak {X : Cx} {st : Stmt} {t t' : TS} (h : PS X st t) (w : ∀ E σ H, t' E σ H → t E σ H) : PS X st t' := ⟨fun p s σ H E I q => h.run p s σ H E I (w E σ H q)⟩
theorem PSs.weak {X : Cx} {st : List Stmt} {t t' : TS} (h : PSs X st t) (w : ∀ E σ H, t' E σ H → t E σ H) : PSs X st t' := ⟨fun p s σ H E I q => h.run p s σ H E I (w E σ H q)⟩
theorem st_try {G : Kn} {io : List Nat} {W : WX} {E : Ends} {σ : L2.St} {H : Hp} {xb : Xb} {mg : Str → Option Value} {y : Str} {i : Nat} {su : Su} {B : Dl → SR} (xo : Xok xb G.K mg) (h : tSt G io W (fun δ => tryD xb io y i su (B δ)) E σ H) :
    tSt G io (wAs G.K (cvOf mg y) i (fun a cls d => fun E σ H => ∃ x, cls = .ref (He.ga G.K x) ∧ d = none ∧ tSu G io xb x i a su E σ H) W E) B E σ H := by
  obtain ⟨c, S, δ, tv, td, r, p⟩ := h
  refine ⟨c, S, δ, tv, td, r, ?_⟩
  dsimp only at p
  cases e : B δ with
  | stuck => rw [e] at p; exact p
  | nx δ1 => rw [e] at p; exact p
  | ret d δ1 => rw [e] at p; exact p
  | ct δ1 => rw [e] at p; exact p
  | bk δ1 => rw [e] at p; exact p
  | exc x δ1 =>
    rw [e] at p
    intro σ1 S1 H1 r1
    unfold tryD at p
    dsimp only at p
    cases e2 : xb.isa x y with
    | none => rw [e2] at p; exact p.elim
    | some b =>
      rw [e2] at p
      refine ⟨b, (xo.isa x y b e2).2.1, fun hb a ha => ?_, fun hb => ?_⟩
      · subst hb
        dsimp only at p
        split at p
        · exact p.elim
        · rename_i hn
          have hn1 : io.contains i = false := by
            cases w : io.contains i with
            | false => rfl
            | true => rw [w] at hn; exact absurd rfl hn
          have lt : i < δ1.length := by
            rw [hn1] at hn
            have := of_decide_eq_false (p := δ1.length ≤ i) (by simpa using hn)
            omega
          refine ⟨x, rfl, rfl, c, S1, δ1.set i none, tv, td, (r1.clear i).loose (by rw [List.getElem?_set_self lt]) hn1, by rw [List.getElem?_set_self (by rw [r1.len]; exact lt)], ?_⟩
          cases es : suD xb io i x su (δ1.set i none) with
          | stuck => rw [es] at p; exact p
          | ct δ2 => rw [es] at p; exact p.elim
          | bk δ2 => rw [es] at p; exact p.elim
          | exc y δ2 => rw [es] at p; exact p.elim
          | ret d δ2 =>
            rw [es] at p
            exact fun v σ S H r => p v σ S H (r.clear i)
          | nx δ2 =>
            rw [es] at p
            refine fun σ S H r => p _ S H ?_
            by_cases l2 : i < δ2.length
            · exact (r.clear i).loose (by rw [List.getElem?_set_self l2]) hn1
            · have e1 : δ2.set i none = δ2 := List.set_eq_of_length_le (by omega)
              have e2 : σ.set i none = σ := List.set_eq_of_length_le (by rw [r.len]; omega)
              rw [e1, e2]
              exact r
      · subst hb
        exact p σ1 S1 H1 r1
section
variable {T : Tb} {xb : Xb} {fr : List Str} {ca : Nat → Addr} {k : Nat} {io : List Nat}
theorem Sok.tr {X : Cx} {W W' : WX} (o : Sok T xb fr ca k X W) {pn : List (Addr × Obj)} {xe : Value → Shared → Prop} (tk : Takes (X.tr pn xe) W') (ps : PassesOwn (model X.prog X.w) X.A X.env xe) : Sok T xb fr ca k (X.tr pn xe) W' :=
  ⟨⟨o.c.calm, o.c.nd, o.c.room, tk, o.c.free, o.c.cons, o.c.fns⟩, o.hs, o.hf, o.fn, ps, o.kind, o.xo⟩
theorem inv_lc {N : List Str} {c : C} {sc scp : Scope} {el : Expr} {gs : List Comprehension} {p : Pos} (h : chk T fr N c sc (.ListComp el gs scp p) = true) : ∃ own tg it cd a, c = .comp own tg it cd a := by
  cases c <;> first | exact ⟨_, _, _, _, _, rfl⟩ | exact noF h
/-- name = value -/
theorem set_one {X : Cx} {W : WX} {c : C} {i : Nat} {t e : Expr} {p : Pos} (o : Sok T xb fr ca k X W) (h1 : chk T fr X.N c X.env.scope e = true) (h2 : setB X.env.scope X.N (.one i) t e = true) : PS X (.Assign [t] e p) (tAsg (tP (kn X ca) W (evP T k c)) (gName i)) := by
  obtain ⟨h3, h4⟩ := and2 h2
  obtain ⟨n, np, rfl, n1, n2⟩ := name_set h3
  have lc : Loc X.env.scope n := n2.elim .inl fun z => .inr z.1
  by_cases nc : noComp e = true
  · exact ps_set o.c.nd n1 lc (sndC c X W e o.c h1).1 (sw_no nc _ _ _) (.inl (o.fn n))
  · have sw : swT X.env.scope (.Name n np) e = true := by
      cases q : noComp e with
      | true => exact absurd q nc
      | false => rw [q] at h4; exact h4
    cases e with
    | ListComp el gs scp pp =>
      obtain ⟨own, tg, it, cd, a, rfl⟩ := inv_lc h1
      obtain ⟨el', t', ite, ifs, scp', p', eq, g1, g2, g3, g4, g5, g6⟩ := inv_comp h1
      cases eq
      obtain ⟨s1, s2, s3⟩ := and3 sw
      have lk : X.env.scope.names.lookup n = some .local := by
        split at s1
        · assumption
        · exact noF s1
      have gi := sndI it X W t' ite o.c g1
      refine PS.weak (ps_setLc (own := own) (g := gTg X.K tg) (tt := tPt (kn X ca) W0 (evP T k cd)) (te := tP (kn X ca) W0 (evP T k a)) o.c.calm o.c.nd n1 lk (sw_true o.kind lk s2 (neq_of s3)) gi.1 (blkOk_by g2) (fun s H C cl fp => ?_) (fun s H C cl fp => ?_) (fun s H C cl fp => ?_) (gi.2 _)) fun E σ H h => tP_comp g3 h
      · exact pg_tg (X := X.blk s H scp (compEnvC scp cl C X.env) fp) (N' := o.c.nd) o.c.calm (sc := relS scp X.env.scope) rfl (fn := false) (fun z => noF z) g4
      · have ob := o.c.blk s H scp (compEnvC scp cl C X.env) fp
        cases ifs with
        | nil =>
          have e : cd = .nop := by cases cd <;> first | rfl | exact noF g5
          subst e
          exact ⟨fun pn s σ H Q I h => by
            obtain ⟨S, δ, dm, _, kt⟩ := h
            obtain ⟨b, e, q⟩ := Kt.bl kt dm
            cases e
            exact pts_nil.run pn s σ H Q I q⟩
        | cons c cs =>
          cases cs with
          | nil => exact pts_one (sndC cd (X.blk s H scp (compEnvC scp cl C X.env) fp) W0 c ob g5).2
          | cons _ _ => exact noF g5
      · exact (sndC a (X.blk s H scp (compEnvC scp cl C X.env) fp) W0 el (o.c.blk s H scp (compEnvC scp cl C X.env) fp) g6).1
    | _ => first | exact noF sw | exact absurd rfl nc
theorem set_many {X : Cx} {W : WX} {c : C} {is : List Nat} {t e : Expr} {p : Pos} (o : Sok T xb fr ca k X W) (h1 : chk T fr X.N c X.env.scope e = true) (h2 : setB X.env.scope X.N (.many is) t e = true) : PS X (.Assign [t] e p) (tAsg (tP (kn X ca) W (evP T k c)) (gTg X.K (.many is))) := by
  cases t with
  | Tuple ts kk pp =>
    obtain ⟨g1, g2, g3⟩ := and3 h2
    refine ps_asg (sndC c X W e o.c h1).1 (pg_tg (N' := o.c.nd) o.c.calm (fn := true) rfl (fun _ => o.fn) (tg := .many is) (e := .Tuple ts kk pp) g1) (show swapsWithSole [.Tuple ts kk pp] e p.line X.env = pure false from sw_no g2 (some (.Tuple ts kk pp)) p.line X.env) ?_
    cases e <;> first | rfl | exact noF g3
  | _ => exact noF h2
abbrev GoodSt (T : Tb) (xb : Xb) (fr : List Str) (ca : Nat → Addr) (k : Nat) (io : List Nat) (s : Sc) : Prop := ∀ (X : Cx) (W : WX) (st : Stmt), Sok T xb fr ca k X W → chkS T xb fr X.N s X.env.scope st = true → PS X st (tSt (kn X ca) io W (evS T xb k io s))
abbrev GoodSs (T : Tb) (xb : Xb) (fr : List Str) (ca : Nat → Addr) (k : Nat) (io : List Nat) (s : Ss) : Prop := ∀ (X : Cx) (W : WX) (st : List Stmt), Sok T xb fr ca k X W → chkSs T xb fr X.N s X.env.scope st = true → PSs X st (tSt (kn X ca) io W (evSs T xb k io s))
mutual
theorem sndSt : ∀ s : Sc, GoodSt T xb fr ca k io s
  | .set tg rs c => fun X W st o h => by
    cases st with
    | Assign ts e p =>
      cases ts with
      | nil => exact noF h
      | cons t ts => cases ts with
        | cons _ _ => exact noF h
        | nil =>
          obtain ⟨h1, h2⟩ := and2 h
          cases tg with
          | one i => exact PS.weak (set_one o h1 h2) fun E σ H z => st_set (tg := .one i) z
          | many is => exact PS.weak (set_many o h1 h2) fun E σ H z => st_set (tg := .many is) z
    | _ => exact noF h
  | .ex rs c => fun X W st o h => by
    cases st with
    | Expr e p =>
      obtain ⟨h1, h2⟩ := and2 h
      exact PS.weak (ps_expr (sndC c X W e o.c h1).1 (sw_no h2 _ _ _)) fun E σ H z => st_ex z
    | _ => exact noF h
  | .ret rs c => fun X W st o h => by
    cases st with
    | Return oe p => cases oe with
      | none => exact noF h
      | some e => exact PS.weak (ps_ret (sndC c X W e o.c h).1) fun E σ H z => st_ret z
    | _ => exact noF h
  | .retv i => fun X W st o h => by
    cases st with
    | Return oe p => cases oe with
      | none => exact noF h
      | some e =>
        obtain ⟨n, pn', rfl, v1, v2, v3, v4⟩ := inv_v (show chk T fr X.N (.v i) X.env.scope e = true from h)
        exact PS.weak (ps_ret (pe_var v1 v2 v3 v4)) fun E σ H z => st_retv z
    | _ => exact noF h
  | .retN => fun X W st o h => by
    cases st with
    | Return oe p => cases oe with
      | none => exact PS.weak ps_retN fun E σ H z => st_retN z
      | some e => exact noF h
    | _ => exact noF h
  | .ite rs c a b => fun X W st o h => by
    cases st with
    | If e x y p =>
      obtain ⟨h1, h2, h3⟩ := and3 h
      exact PS.weak (ps_if (sndC c X W e o.c h1).2 (sndSs a X W x o h2) (sndSs b X W y o h3)) fun E σ H z => st_ite z
    | _ => exact noF h
  | .whl rs c b => fun X W st o h => by
    cases st with
    | While e x y p =>
      cases y with
      | cons _ _ => exact noF h
      | nil =>
        obtain ⟨h1, h2⟩ := and2 h
        exact PS.weak (ps_while o.pass (sndC c X W e o.c h1).2 (sndSs b X W x o h2)) fun E σ H z => st_whl z
    | _ => exact noF h
  | .for tg rs it b => fun X W st o h => by
    cases st with
    | For t e x y p =>
      cases y with
      | cons _ _ => exact noF h
      | nil =>
        obtain ⟨h1, h2, h3⟩ := and3 h
        have gi := sndI it X W t e o.c h1
        exact PS.weak (ps_for o.pass o.c.calm gi.1 (pg_tg (N' := o.c.nd) o.c.calm (fn := true) rfl (fun _ => o.fn) h2) (sndSs b X W x o h3) (gi.2 _)) fun E σ H z => st_for z
    | _ => exact noF h
  | .rai x => fun X W st o h => by
    have h : (match raiP st with
      | some y => decide (y = x) && decide (x ∈ xb.rai) && gloB X.env.scope y
      | none => false) = true := h
    split at h
    case h_2 => exact noF h
    rename_i y e
    obtain ⟨h1, h2, h3⟩ := and3 h
    have e1 := of_decide_eq_true h1
    subst e1
    obtain ⟨q1, m, j, q2, q3, q4, rfl⟩ := raiP_ok e
    have g := glo_of h3
    obtain ⟨x1, x2, x3, x4, x5⟩ := o.xo.rai y (of_decide_eq_true h2)
    exact PS.weak (ps_raise o.c.calm o.c.takes (pmk_own PySem.F.excBase_ValueError x2 x1 x3 (raises_own x4 x5) g.g g.d)) fun E σ H z => st_rai z
  | .try b y i su => fun X W st o h => by
    have h : (match tryP st with
      | some q => decide (q.y = y) && decide (y ∈ xb.cls) && gloB X.env.scope y && (decide (X.N[i]? = some q.n) && isLocal X.env.scope q.n) && (chkSs T xb fr X.N b X.env.scope q.body && chkSu xb T fr X.N i su X.env.scope (q.b0 :: q.suite))
      | none => false) = true := h
    split at h
    case h_2 => exact noF h
    rename_i q e
    obtain ⟨h1, h2, h3⟩ := and3 h
    obtain ⟨h4, h5, h6⟩ := and3 h1
    obtain ⟨h7, h8⟩ := and2 h2
    obtain ⟨h9, h10⟩ := and2 h3
    have e1 := of_decide_eq_true h4
    subst e1
    rw [tryP_ok e]
    have lk : X.env.kindOf q.n = some .local := by
      unfold isLocal at h8
      split at h8
      · assumption
      · exact noF h8
    have cx : (pn : List (Addr × Obj)) → (xe : Value → Shared → Prop) → (W' : WX) → Takes (X.tr pn xe) W' → PassesOwn (model X.prog X.w) X.A X.env xe → PSs (X.tr pn xe) q.body (tSt (kn X ca) io W' (evSs T xb k io b)) := fun pn xe W' tk ps => sndSs b (X.tr pn xe) W' q.body (o.tr tk ps) h9
    refine PS.weak (ps_try_as (tb := fun W' => tSt (kn X ca) io W' (evSs T xb k io b)) (ts := fun a cls d => fun E σ H => ∃ x, cls = .ref (He.ga X.K x) ∧ d = none ∧ tSu (kn X ca) io xb x i a su E σ H) o.hs o.hf o.c.nd (of_decide_eq_true h7) lk (o.xo.names (of_decide_eq_true h5) (glo_of h6)) o.c.takes (fun W' pn xe tk ps => cx pn xe W' tk ps) fun a oe cls d pn hz hf => ?_) fun E σ H z => st_try (G := kn X ca) o.xo z
    refine ⟨fun pp s σ H E I z => ?_⟩
    obtain ⟨x, rfl, rfl, z⟩ := z
    exact (su_ok (ca := ca) o.c.nd o.fn o.c.free o.xo hz hf su (q.b0 :: q.suite) h10).run pp s σ H E I z
  | .pass => fun X W st o h => by
    cases st with
    | Pass p => exact PS.weak ps_pass fun E σ H z => st_pass z
    | _ => exact noF h
  | .cont => fun X W st o h => by
    cases st with
    | Continue p => exact PS.weak ps_continue fun E σ H z => st_cont z
    | _ => exact noF h
  | .app i rs c => fun X W st o h => by
    have h : (match appP st with
      | some q => decide (q.m = "append") && chk T fr X.N (.v i) X.env.scope q.o && chk T fr X.N c X.env.scope q.e && (plainE q.e && (q.ap.endLine == q.cp.line))
      | none => false) = true := h
    split at h
    case h_2 => exact noF h
    rename_i q e
    obtain ⟨h1, h2, h3⟩ := and3 h
    obtain ⟨h4, h5⟩ := and2 h1
    obtain ⟨h6, h7⟩ := and2 h3
    rw [appP_ok e]
    obtain ⟨o1, m1, e1, ap, cp, p⟩ := q
    have em : m1 = "append" := of_decide_eq_true h4
    subst em
    obtain ⟨n, pn', rfl, v1, v2, v3, v4⟩ := inv_v (show chk T fr X.N (.v i) X.env.scope o1 = true from h5)
    have pl : plainE e1 = true := h6
    refine PS.weak (ps_expr (pe_bm PySem.F.plainAttrs_list PySem.F.slot_list_append PySem.F.type_list_append mt_append (pe_var v1 v2 v3 v4) (pa_cons (sndC c X W e1 o.c h2).1 pa_nil (star_plain pl)) rfl ?_ h7 (star_plain pl) rfl) rfl) fun E σ H z => st_app z
    rw [star_plain pl]
    rfl
theorem sndSs : ∀ s : Ss, GoodSs T xb fr ca k io s
  | .nil => fun X W st o h => by
    cases st with
    | nil => exact PSs.weak pss_nil fun E σ H z => st_pass z
    | cons _ _ => exact noF h
  | .cons s r => fun X W st o h => by
    cases st with
    | nil => exact noF h
    | cons t ts =>
      obtain ⟨h1, h2⟩ := and2 h
      exact PSs.weak (pss_cons (sndSt s X W t o h1) (sndSs r X W ts o h2)) fun E σ H z => st_seq z
end
end
end Pw

/-! ## Functions: the table, calls by levels -/
namespace Pw
open PySem PySem.Spec PyProof.Rows L2

structure Fd where
  name : Str
  ps : List Str
  N : List Str
  body : Ss
/-- a text -/
structure Stc where
  fs : List Fd
  dfl : Nat → List D
  consts : List (Str × D)
  xb : Xb
  fr : List Str
def startD (N : List Str) (ds : List D) : Dl := ds.map some ++ List.replicate (N.length - ds.length) none
def outF : SR → CRes
  | .ret d _ => .ok d []
  | .nx _ => .ok .non []
  | .exc x _ => .exc x []
  | _ => .stuck
def Stc.tb (s : Stc) (call : Nat → Nat → List D → CRes) : Tb where
  consts := s.consts
  names := s.fs.map (·.name)
  pn := fun f => match s.fs[f]? with
    | some F => F.ps
    | none => []
  ar := fun f => match s.fs[f]? with
    | some F => F.ps.length
    | none => 0
  dfl := s.dfl
  io := fun _ => []
  call := call
noncomputable def Stc.callL (s : Stc) : Nat → Nat → List D → CRes
  | 0, _, _ => .stuck
  | k + 1, f, ds => match s.fs[f]? with
    | some F => outF (evSs (s.tb fun _ => s.callL k) s.xb k [] F.body (startD F.N ds))
    | none => .stuck
noncomputable abbrev Stc.at (s : Stc) (k : Nat) : Tb := s.tb fun _ => s.callL k

section
variable {G : Kn} {S : Addr → Prop} {H : Hp}
theorem gaps : ∀ n : Nat, Sl G S H (List.replicate n none) (List.replicate n none) []
  | 0 => .nil
  | n + 1 => .gap (gaps n)
theorem start_sl {n : Nat} : ∀ {vs : List V} {ds : List D} {f : List Addr}, IsL G S H vs ds f → Sl G S H (vs.map some ++ List.replicate n none) (ds.map some ++ List.replicate n none) f
  | _, _, _, .nil => gaps n
  | _, _, _, .cons h r => .got h (start_sl r)
end
/-- one def, its text -/
structure FdOk (s : Stc) (K : PySem.W.Frag) (mg : Str → Option Value) (G : Kn) (f : Nat) (F : Fd) : Prop where
  ex : ∃ (b : Addr) (fd : FuncData) (params : Arguments) (stmts : List Stmt) (scope : Scope) (dvs : List V), mg F.name = some (.ref b) ∧ FunD K F.name F.name params stmts scope dvs [] b fd ∧ FnScope F.N F.ps scope ∧
    (∀ k, chkSs (s.at k) s.xb s.fr F.N F.body scope stmts = true) ∧
    ∀ m, F.ps.length ≤ m + (s.dfl f).length → m ≤ F.ps.length → ∃ dvs us, Binds K fd F.ps us ∧ Vals dvs us ∧ m + dvs.length = F.ps.length ∧ ∀ S H, IsL G S H dvs ((s.dfl f).drop ((s.dfl f).length - (F.ps.length - m))) []
section
variable {s : Stc} {P : Program} {w : World} {K : PySem.W.Frag} {ca : Nat → Addr} {mg : Str → Option Value} {base : Heap}
theorem body_ok {k : Nat} {F : Fd} {vs : List V} {H : Hp} {Q : VK} {E : XK} {np : Nat} (h : spD ⟨K, ca⟩ [] np (fun ds => outF (evSs (s.at k) s.xb k [] F.body (startD F.N ds))) vs H Q E) (hN : np = F.ps.length) (hl : F.ps.length ≤ F.N.length) :
    tSt ⟨K, ca⟩ [] (fun cls d _ H' => E cls d H') (evSs (s.at k) s.xb k [] F.body) { nx := fun _ H' => Q .non H', rt := Q } (start F.N vs) H := by
  obtain ⟨S, ds, f, hl1, is, nd, ns, dm, p⟩ := h
  have el : vs.length = ds.length := is.len
  have sl : Sl ⟨K, ca⟩ S H (start F.N vs) (startD F.N ds) f := by
    unfold L2.start startD
    rw [el]
    exact start_sl is
  refine ⟨⟨H, f, S, []⟩, S, startD F.N ds, [], [], ⟨f, [], sl, .nil, ?_⟩, ?_⟩
  · rw [List.append_nil]
    exact ⟨nd, fun a m => ⟨ns a m, .inl m⟩, fun _ z => z, fun _ z => .inl z, dm, fun _ _ e _ => e, fun _ z => z, fun _ m => nomatch m⟩
  · have aft : ∀ {S' : Addr → Prop} {H' : Hp} {σ : L2.St} {δ : Dl} {v : V} {d : D}, Rel ⟨K, ca⟩ [] ⟨H, f, S, []⟩ S' H' σ δ [v] [d] → Aft ⟨K, ca⟩ S H f S' H' (v :: pick [] vs) (d :: []) := fun r => by
      obtain ⟨f', g', a, b, q⟩ := r
      exact ⟨g', b, (List.nodup_append.mp q.nd).2.1, fun x m => q.own x (List.mem_append_right _ m), q.sub, q.new, q.dom, q.keep, q.there⟩
    dsimp only at p
    generalize evSs (s.at k) s.xb k [] F.body (startD F.N ds) = r at p
    cases r with
    | stuck => exact p
    | ret d δ => exact fun v σ S' H' r => p v S' H' (aft r)
    | nx δ =>
      intro σ S' H' r
      refine p .non S' H' (aft (σ := σ) (δ := δ) ?_)
      obtain ⟨f', g', a, b, q⟩ := r
      exact ⟨f', g', a, IsL.cons (f := []) .non b, q⟩
    | ct δ => exact p.elim
    | bk δ => exact p.elim
    | exc x δ =>
      intro σ S' H' r
      obtain ⟨f', g', a, b, q⟩ := r
      exact p S' H' ⟨g', b, (List.nodup_append.mp q.nd).2.1, fun x m => q.own x (List.mem_append_right _ m), q.sub, q.new, q.dom, q.keep, q.there⟩
theorem look_of {x qual : Str} {params : Arguments} {stmts : List Stmt} {scope : Scope} {dvs : List V} {b : Addr} {fd : FuncData} (h : FunD K x qual params stmts scope dvs [] b fd) : ∃ oc od osl, K.lookup b = some ⟨oc, od, .func fd, osl⟩ := by
  obtain ⟨oc, od, _, _, _, _, _, _, _, osl, _, lk, _⟩ := h.ex
  exact ⟨oc, od, osl, lk⟩
theorem scope_len {N Ps : List Str} {sc : Scope} (h : FnScope N Ps sc) : Ps.length ≤ N.length := by
  have e := congrArg List.length h.pre
  rw [List.length_take] at e
  omega
/-- all defs keep their promises, level by level -/
theorem fn_all (hF : ∀ f F, s.fs[f]? = some F → FdOk s K mg ⟨K, ca⟩ f F) (hfree : ∀ x ∈ s.fr, mg x = none)
    (hcons : ∀ (j : Nat) (p : Str × D), s.consts[j]? = some p → ∃ v u, mg p.1 = some u ∧ RelV v u ∧ ∀ S H, Is ⟨K, ca⟩ S H v p.2 []) (hx : Xok s.xb K mg) :
    ∀ (k f : Nat) (x : Str), (s.fs.map (·.name))[f]? = some x → FnAt P w ⟨K, ca⟩ mg base k (s.at k) f x := by
  intro k
  induction k with
  | zero =>
    intro f x e
    rw [List.getElem?_map] at e
    obtain ⟨F, eF, rfl⟩ := Option.map_eq_some_iff.mp e
    obtain ⟨b, fd, params, stmts, scope, dvs, h1, h2, h3, h4, h5⟩ := (hF f F eF).ex
    have epn : F.ps = (s.at 0).pn f := by
      show _ = (match s.fs[f]? with
        | some F => F.ps
        | none => [])
      rw [eF]
    have ear : (s.at 0).ar f = F.ps.length := by
      show (match s.fs[f]? with
        | some F => F.ps.length
        | none => 0) = _
      rw [eF]
    refine ⟨b, fd, F.ps, h1, h2.kp, ear.symm, ⟨fun vs H Q E z => ?_, fun A outer s' H args us vs Q E _ _ _ _ z => ?_⟩, ⟨epn, look_of h2⟩, fun m m1 m2 => ?_⟩
    · obtain ⟨_, _, _, _, _, _, _, _, z⟩ := z
      exact z.elim
    · obtain ⟨_, _, _, _, _, _, _, _, z⟩ := z
      exact z.elim
    · rw [ear] at m1 m2 ⊢
      exact h5 m m1 m2
  | succ k ih =>
    intro f x e
    rw [List.getElem?_map] at e
    obtain ⟨F, eF, rfl⟩ := Option.map_eq_some_iff.mp e
    obtain ⟨b, fd, params, stmts, scope, dvs, h1, h2, h3, h4, h5⟩ := (hF f F eF).ex
    have epn : F.ps = (s.at (k + 1)).pn f := by
      show _ = (match s.fs[f]? with
        | some F => F.ps
        | none => [])
      rw [eF]
    have ear : (s.at (k + 1)).ar f = F.ps.length := by
      show (match s.fs[f]? with
        | some F => F.ps.length
        | none => 0) = _
      rw [eF]
    have ec : (s.at (k + 1)).call (k + 1) f = fun ds => outF (evSs (s.at k) s.xb k [] F.body (startD F.N ds)) := by
      funext ds
      show (match s.fs[f]? with
        | some F => outF (evSs (s.tb fun _ => s.callL k) s.xb k [] F.body (startD F.N ds))
        | none => .stuck) = _
      rw [eF]
    refine ⟨b, fd, F.ps, h1, h2.kp, ear.symm, ?_, ⟨epn, look_of h2⟩, fun m m1 m2 => ?_⟩
    · rw [ear, ec]
      refine h2.ok h3 (fun vs H Q E z => ?_) fun cdv A outer s1 H vs Q E hr z => ⟨_, ?_, body_ok z rfl (scope_len h3)⟩
      · obtain ⟨_, _, _, e, _⟩ := z
        exact e
      · have tk := takes_of (X := cxOf (L2.CX P w) P w K mg base F.N F.name scope b cdv A outer s1 H E) (E := E) rfl rfl rfl rfl
        have ps := passes_of (X := cxOf (L2.CX P w) P w K mg base F.N F.name scope b cdv A outer s1 H E) rfl
        have ok : Sok (s.at k) s.xb s.fr ca k (cxOf (L2.CX P w) P w K mg base F.N F.name scope b cdv A outer s1 H E) (fun cls d _ H' => E cls d H') :=
          ⟨⟨rfl, h3.nd, hr, tk, hfree, hcons, fun f x e => ih f x e⟩, rfl, rfl, fun _ => rfl, ps, h3.kind, hx⟩
        exact sndSs F.body _ _ stmts ok (h4 k)
    · rw [ear] at m1 m2 ⊢
      exact h5 m m1 m2
end
end Pw

/-! ## The head's facts -/
namespace Pw
open PySem PySem.Spec PyProof.Rows L2

/-- what the module's name y stands for, by the written part -/
def cvK (K : PySem.W.Frag) (y : Str) : Value := match PySem.W.nsIn K mainGlobals y with
  | some (some v) => v
  | _ => (bootBuiltins y).getD .none
def mkXb (xs : List (Str × List Str)) (cls : List Str) : Xb where
  isa := fun x y => match xs.lookup x with
    | some l => if cls.contains y then some (l.contains y) else none
    | none => none
  cls := cls
  rai := xs.map (·.1)
def exB (K : PySem.W.Frag) (a : Addr) : Bool :=
  He.eqO (PySem.W.findIn K (.ref a) "__getattribute__") (some (some (.builtin "BaseException.__getattribute__"))) && (He.eqO (PySem.W.findIn K (.ref a) "__getattr__") (some none) && (decide (PySem.W.subIn K (.ref a) (.type "BaseException") = some true) && (PySem.W.hasDictIn K a &&
    (He.eqO (PySem.W.findIn K (.ref a) "__class__") (some (some (.builtin "object.__class__"))) && (He.eqO (PySem.W.specialIn K (.builtin "object.__class__") "__get__") (some (some (.builtin "getset_descriptor.__get__"))) &&
      (decide (PySem.W.takesIn K (.builtin "object.__class__") = some true) && decide (PySem.W.mroIn K a (.type "object") = some true)))))))
theorem exB_ok {K : PySem.W.Frag} {a : Addr} (h : exB K a = true) : ExcC K a := by
  obtain ⟨h1, h⟩ := and2 h
  obtain ⟨h2, h⟩ := and2 h
  obtain ⟨h3, h⟩ := and2 h
  obtain ⟨h4, h⟩ := and2 h
  obtain ⟨h5, h⟩ := and2 h
  obtain ⟨h6, h⟩ := and2 h
  obtain ⟨h7, h8⟩ := and2 h
  exact ⟨He.eqO_ok h1, He.eqO_ok h2, of_decide_eq_true h3, h4, He.eqO_ok h5, He.eqO_ok h6, of_decide_eq_true h7, of_decide_eq_true h8⟩
def isTyp : Option Value → Bool
  | some (.type _) => true
  | _ => false
def nmB (K : PySem.W.Frag) (y : Str) : Bool := He.eqO (PySem.W.nsIn K mainGlobals y) (some (some (.ref (He.ga K y)))) || (He.eqO (PySem.W.nsIn K mainGlobals y) (some none) && isTyp (bootBuiltins y))
def xB (xs : List (Str × List Str)) (cls : List Str) (K : PySem.W.Frag) : Bool :=
  cls.all (nmB K) && (xs.all fun p => (He.Fa.glo p.1).ok K && ((He.Fa.exc p.1).ok K && (exB K (He.ga K p.1) && cls.all fun y => decide (PySem.W.kitOne K (.ref (He.ga K p.1)) (cvK K y) = some (p.2.contains y)) && decide (PySem.W.exmOne K (.ref (He.ga K p.1)) (cvK K y) = some (p.2.contains y)))))
theorem lookup_mem {β : Type} : ∀ {xs : List (Str × β)} {x : Str} {l : β}, xs.lookup x = some l → (x, l) ∈ xs
  | [], _, _, h => nomatch h
  | (y, m) :: xs, x, l, h => by
    rw [List.lookup_cons] at h
    split at h
    · rename_i e
      have e1 : x = y := by simpa using e
      subst e1
      cases h
      exact List.mem_cons_self
    · exact List.mem_cons_of_mem _ (lookup_mem h)
theorem xok_of {xs : List (Str × List Str)} {cls : List Str} {K : PySem.W.Frag} {h : Heap} {mg : Str → Option Value} (X : K.In h) (G : h.Ns mainGlobals mg) (c : xB xs cls K = true) : Xok (mkXb xs cls) K mg := by
  obtain ⟨c1, c2⟩ := and2 c
  have nm : ∀ y ∈ cls, ((∃ a, mg y = some (.ref a)) ∨ (mg y = none ∧ ∃ t : String, bootBuiltins y = some (.type t))) ∧ cvOf mg y = cvK K y := fun y m => by
    have z := List.all_eq_true.mp c1 y m
    unfold nmB at z
    rcases Bool.or_eq_true_iff.mp z with z | z
    · have e := He.eqO_ok z
      have g := PySem.W.mg_of X G e
      refine ⟨.inl ⟨_, g⟩, ?_⟩
      unfold cvOf cvK
      rw [g, e]
    · obtain ⟨z1, z2⟩ := and2 z
      have e := He.eqO_ok z1
      have g := PySem.W.mg_none_of X G e
      have t : ∃ t : String, bootBuiltins y = some (.type t) := by
        unfold isTyp at z2
        split at z2
        · rename_i t e2
          exact ⟨t, e2⟩
        · exact noF z2
      refine ⟨.inr ⟨g, t⟩, ?_⟩
      unfold cvOf cvK
      rw [g, e]
  have pr : ∀ p ∈ xs, (He.Fa.glo p.1).ok K = true ∧ (He.Fa.exc p.1).ok K = true ∧ exB K (He.ga K p.1) = true ∧ ∀ y ∈ cls, PySem.W.kitOne K (.ref (He.ga K p.1)) (cvK K y) = some (p.2.contains y) ∧ PySem.W.exmOne K (.ref (He.ga K p.1)) (cvK K y) = some (p.2.contains y) := fun p m => by
    have z := List.all_eq_true.mp c2 p m
    obtain ⟨z1, z⟩ := and2 z
    obtain ⟨z2, z⟩ := and2 z
    obtain ⟨z3, z4⟩ := and2 z
    refine ⟨z1, z2, z3, fun y my => ?_⟩
    have w := List.all_eq_true.mp z4 y my
    obtain ⟨w1, w2⟩ := and2 w
    exact ⟨of_decide_eq_true w1, of_decide_eq_true w2⟩
  refine ⟨fun y m => (nm y m).1, fun x y b e => ?_, fun x m => ?_⟩
  · have e1 : (match xs.lookup x with
      | some l => if cls.contains y then some (l.contains y) else none
      | none => none) = some b := e
    split at e1
    · rename_i l el
      split at e1
      · rename_i cy
        cases e1
        have my : y ∈ cls := by simpa using cy
        obtain ⟨_, _, p3, p4⟩ := pr (x, l) (lookup_mem el)
        obtain ⟨k1, k2⟩ := p4 y my
        rw [(nm y my).2]
        exact ⟨k1, k2, exB_ok p3⟩
      · cases e1
    · cases e1
  · obtain ⟨p, mp, ep⟩ := List.mem_map.mp (show x ∈ xs.map (·.1) from m)
    obtain ⟨p1, p2, _, _⟩ := pr p mp
    subst ep
    obtain ⟨q1, q2, q3, q4⟩ := He.exc_ok p2
    exact ⟨He.glo_ok X G p1, q1, q2, q3, q4⟩
/-! ### the Hook -/
abbrev AlX : Type := He.AlD × Bool
def obsX (fa : List He.Fa) (fn : List He.DefD) (xt : PySem.W.Frag → Bool) (K : PySem.W.Frag) : AlX := (He.obsD fa fn K, xt K)
def obsXG (n : Nat) (fa : List He.Fa) (fn : List He.DefD) (xt : PySem.W.Frag → Bool) (g : Addr → Option Obj) : AlX := obsX fa fn xt (He.frG g (He.asD g n))
def hookX (n : Nat) (fa : List He.Fa) (fn : List He.DefD) (xt : PySem.W.Frag → Bool) : PySem.W.Hook where
  α := AlX
  obs := fun s => obsXG n fa fn xt s.heap.get?
  val := fun _ => (He.valD fn, true)
  says := fun _ h => ∃ K : PySem.W.Frag, K.In h ∧ obsX fa fn xt K = (He.valD fn, true)
  of := fun _ _ e => ⟨_, He.frG_in, e⟩
  keeps := fun _ _ _ ⟨K, hK, c⟩ k => ⟨K, PySem.W.Frag.In.keeps hK k, c⟩
theorem obsXG_eq {n : Nat} {fa : List He.Fa} {fn : List He.DefD} {xt : PySem.W.Frag → Bool} {g : Addr → Option Obj} {s : Shared} (h : ∀ a, g a = s.heap.get? a) : obsXG n fa fn xt g = (hookX n fa fn xt).obs s := by
  have e : g = s.heap.get? := funext h
  rw [e] <;> rfl
theorem saysX {fa : List He.Fa} {fn : List He.DefD} {xt : PySem.W.Frag → Bool} {K : PySem.W.Frag} (c : obsX fa fn xt K = (He.valD fn, true)) : He.SaysD fa fn K ∧ xt K = true := ⟨congrArg (fun z : AlX => z.1) c, congrArg (fun z : AlX => z.2) c⟩
/-- a def as the head has it, beside what is said of it -/
structure DefOk (s : Stc) (f : Nat) (F : Fd) (d : He.DefD) : Prop where
  at_ : d.at_ = (F.name, none)
  name : d.name = F.name
  qual : d.qual = F.name
  kwd : d.kwd = []
  sc : FnScope F.N F.ps d.scope
  chk : ∀ k, chkSs (s.at k) s.xb s.fr F.N F.body d.scope d.body = true
  bind : ∀ (K : PySem.W.Frag) (fd : FuncData) (b : Addr), FunD K F.name F.name d.params d.body d.scope (d.dvs K) [] b fd → ∀ m, F.ps.length ≤ m + (s.dfl f).length → m ≤ F.ps.length → ∃ dvs us, Binds K fd F.ps us ∧ Vals dvs us ∧ m + dvs.length = F.ps.length ∧ ∀ (G : Kn) S H, IsL G S H dvs ((s.dfl f).drop ((s.dfl f).length - (F.ps.length - m))) []
theorem DefOk.fd {s : Stc} {f : Nat} {F : Fd} {d : He.DefD} (o : DefOk s f F d) {K : PySem.W.Frag} {mg : Str → Option Value} {G : Kn} (hg : mg F.name = some (.ref (He.ga K F.name))) (h : ∃ fd, FunD K d.name d.qual d.params d.body d.scope (d.dvs K) (d.kws K) (He.fAd K d.at_) fd) : FdOk s K mg G f F := by
  obtain ⟨fd, h⟩ := h
  have e1 : d.kws K = [] := by unfold He.DefD.kws; rw [o.kwd]; rfl
  rw [o.at_, o.name, o.qual, e1] at h
  exact ⟨He.ga K F.name, fd, d.params, d.body, d.scope, d.dvs K, hg, h, o.sc, o.chk, fun m m1 m2 => by
    obtain ⟨dvs, us, q1, q2, q3, q4⟩ := o.bind K fd _ h m m1 m2
    exact ⟨dvs, us, q1, q2, q3, fun S H => q4 G S H⟩⟩
/-- all of a head -/
structure Hd (s : Stc) (fa : List He.Fa) (fn : List He.DefD) (xs : List (Str × List Str)) (cls : List Str) : Prop where
  xb : s.xb = mkXb xs cls
  fns : ∀ f F, s.fs[f]? = some F → He.Fa.glo F.name ∈ fa ∧ ∃ d, fn[f]? = some d ∧ DefOk s f F d
  free : ∀ x ∈ s.fr, He.Fa.free x ∈ fa
  cons : ∀ (K : PySem.W.Frag) (mg : Str → Option Value) (h : Heap), K.In h → h.Ns mainGlobals mg → (∀ f ∈ fa, f.ok K = true) → ∀ (j : Nat) (p : Str × D), s.consts[j]? = some p → ∃ v u, mg p.1 = some u ∧ RelV v u ∧ ∀ (G : Kn) S H, Is G S H v p.2 []
theorem says_all {fa : List He.Fa} {fn : List He.DefD} {K : PySem.W.Frag} (c : He.SaysD fa fn K) : ∀ f ∈ fa, f.ok K = true := fun f m => List.all_eq_true.mp (and2 (show ((fa.all fun f => f.ok K) && fn.all fun d => d.ok K) = true from congrArg (fun z : He.AlD => z.1) c)).1 f m
theorem Hd.all {s : Stc} {fa : List He.Fa} {fn : List He.DefD} {xs : List (Str × List Str)} {cls : List Str} (hd : Hd s fa fn xs cls) {P : Program} {w : World} {K : PySem.W.Frag} {h : Heap} {mg : Str → Option Value} (X : K.In h) (G : h.Ns mainGlobals mg) (c : obsX fa fn (xB xs cls) K = (He.valD fn, true)) (ca : Nat → Addr) (base : Heap) :
    ∀ (k f : Nat) (x : Str), (s.fs.map (·.name))[f]? = some x → FnAt P w ⟨K, ca⟩ mg base k (s.at k) f x := by
  obtain ⟨c1, c2⟩ := saysX c
  have al := says_all c1
  refine fn_all (fun f F e => ?_) (fun x m => He.free_ok X G (al _ (hd.free x m))) (fun j p e => ?_) ?_
  · obtain ⟨m, d, ed, o⟩ := hd.fns f F e
    exact o.fd (He.glo_ok X G (al _ m)) (c1.def_ f ed)
  · obtain ⟨v, u, q1, q2, q3⟩ := hd.cons K mg h X G al j p e
    exact ⟨v, u, q1, q2, fun S H => q3 ⟨K, ca⟩ S H⟩
  · rw [hd.xb]
    exact xok_of X G c2
theorem ints_is {G : Kn} {S : Addr → Prop} {H : Hp} : ∀ ns : List Int, IsL G S H (ns.map V.int) (ns.map D.int) []
  | [] => .nil
  | _ :: ns => IsL.cons (f := []) .int (ints_is ns)
theorem kl_of {K : PySem.W.Frag} {H : Hp} {a : Addr} {xs : List V} (h : SqL K H a xs) : Rd H a (.lst xs) ∨ KL K a xs := h
/-- what a law's def promises of the script -/
theorem script_sp {K : PySem.W.Frag} {ca : Nat → Addr} {call : List D → CRes} {H : Hp} {a : Addr} {ns : List Int} (h : SqL K H a (ns.map V.int)) (e : call [.lst false (ns.map D.int)] = .ok (.bl true) []) :
    spD ⟨K, ca⟩ [] 1 call [.ref a] H (fun v _ => v = .bl true) fun _ _ _ => False := by
  have fin : ∀ S : Addr → Prop, Dom S H → Is ⟨K, ca⟩ S H (.ref a) (.lst false (ns.map D.int)) [] → spD ⟨K, ca⟩ [] 1 call [.ref a] H (fun v _ => v = .bl true) fun _ _ _ => False := fun S dm i => by
    refine ⟨S, [.lst false (ns.map D.int)], [], rfl, IsL.cons (f := []) i .nil, List.nodup_nil, (fun _ m => nomatch m), dm, ?_⟩
    rw [e]
    rintro v S' H' ⟨g, q, _⟩
    cases q with
    | cons q _ => exact q.eBl.1
  rcases kl_of h with h | h
  · refine fin (fun b => b = a) (fun b e => ?_) (.lstF rfl h (ints_is ns))
    subst e
    rcases h with h | ⟨o, h⟩ <;> (rw [h]; exact fun z => nomatch z)
  · exact fin (fun _ => False) (fun _ z => z.elim) (.lstK h (ints_is ns))
theorem cx_none {P : Program} {w : World} {H : Hp} {s s' : Shared} {e : Value} (c : L2.CX P w [] H s (fun _ _ _ => False) e s') : False := by
  obtain ⟨_, _, _, _, _, _, _, _, _, _, _, _, z⟩ := c
  exact z
/-- a law's end -/
theorem law_walk {l : PySem.W.OpenLaw} {n k f : Nat} {q : Program} {loose : List Str} {XP : (Str → Option Value) → Heap → Prop} {d : DefRec} {x law : Str} {s : Stc} {fa : List He.Fa} {fn : List He.DefD} {xs : List (Str × List Str)} {cls : List Str} {N : Nat} {F : Fd} {df : He.DefD}
    (hd : Hd s fa fn xs cls) (hn : l.most = some n) (hn2 : n ≤ 1000000) (hdf : d.params.defaults = []) (hr : Room k callerA) (hname : d.name = law) (ef : s.fs[f]? = some F) (ed : fn[f]? = some df) (eF : F.name = law) (ex : F.ps = [x]) (edf : df.dfl = [])
    (hb : ∀ (kV doc pm : Value) (an : Option Addr) (cdv ct : Value) (u : Value), bindArgs (PySem.W.fnOf F.name F.name df.params df.body df.scope .none kV doc pm an cdv ct) ⟨[u], []⟩ = pure [(x, u)])
    (plain : ∀ ns : List Int, ns.length ≤ n → (∀ z ∈ ns, Builtin.Int.intBits z ≤ 1048576) → s.callL k f [.lst false (ns.map D.int)] = .ok (.bl true) []) :
    PySem.W.WalkO q loose XP (hookX N fa fn (xB xs cls)).says l.row.toRowW d [] (fun g vs => PySem.call g vs) := by
  have ln : n ≤ sizeLine := Nat.le_trans hn2 (by rw [sizeLine_eq]; decide)
  refine Att.attach_callB hn hdf fun w s0 s1 mg mb fa1 o pm cd doc a vs ns Gr Y ho hd1 hcd hmg hobj hints hlen hbits hgens => ?_
  obtain ⟨K, KX, c⟩ := Y
  have G := Gr.T.g
  have al : ∀ base : Heap, ∀ (k f : Nat) (x : Str), (s.fs.map (·.name))[f]? = some x → FnAt l.prog w ⟨K, fun _ => 0⟩ mg base k (s.at k) f x := hd.all KX G c fun _ => 0
  obtain ⟨mfa, df', ed', o'⟩ := hd.fns f F ef
  rw [ed] at ed'
  cases ed'
  obtain ⟨c1, c2⟩ := saysX c
  have g1 : mg F.name = some (.ref (He.ga K F.name)) := He.glo_ok KX G (says_all c1 _ mfa)
  have en : (s.fs.map (·.name))[f]? = some F.name := by rw [List.getElem?_map, ef]; rfl
  obtain ⟨fd, hfd⟩ := c1.def_ f ed
  have e1 : df.kws K = [] := by unfold He.DefD.kws; rw [o'.kwd]; rfl
  have e2 : df.dvs K = [] := by unfold He.DefD.dvs; rw [edf]; rfl
  rw [o'.at_, o'.name, o'.qual, e1, e2] at hfd
  have eA : fa1 = He.ga K F.name := by
    rw [hname, ← eF, g1] at hmg
    cases hmg
    rfl
  subst eA
  obtain ⟨oc, od, osl, lk⟩ := look_of hfd
  have prom : ∀ base : Heap, K.In base → base.Ns mainGlobals mg → FnOk l.prog w K mg base (L2.CX l.prog w) k (He.ga K F.name) fd [x] (spD ⟨K, fun _ => 0⟩ [] 1 (s.callL k f)) := fun base _ _ => by
    obtain ⟨b, fd2, ps, m1, m2, m3, m4, ⟨m5, oc2, od2, osl2, lk2⟩, _⟩ := (al base k f F.name en).ex
    rw [g1] at m1
    cases m1
    have lk3 : K.lookup (He.ga K F.name) = some ⟨oc2, od2, .func fd2, osl2⟩ := lk2
    have lk4 : K.lookup (He.ga K F.name) = some ⟨oc, od, .func fd, osl⟩ := lk
    rw [lk4] at lk3
    cases lk3
    have e5 : (s.at k).pn f = [x] := by
      show (match s.fs[f]? with
        | some F => F.ps
        | none => []) = _
      rw [ef]
      exact ex
    have e6 : (s.at k).ar f = 1 := by
      show (match s.fs[f]? with
        | some F => F.ps.length
        | none => 0) = _
      rw [ef]
      show F.ps.length = 1
      rw [ex]
      rfl
    rw [m5, e5, e6] at m4
    exact m4
  refine law_call KX G Gr.T.b Gr.T.builtins Gr.T.nolimit hgens hobj hints (Nat.le_trans hlen ln) hr prom (fun s' u => ?_) (fun H _ hS => script_sp hS (plain ns hlen hbits)) fun H e s' => cx_none
  refine FunD.bindsA (ps := [x]) hfd (fun kV doc pm an cdv ct us hl => ?_) s' [u] rfl
  match us, hl with
  | [u], _ => exact hb kV doc pm an cdv ct u
end Pw

/-! ## What the codes come to: rules for simp -/
namespace Pw
open PySem PySem.Spec PyProof.Rows L2
section
variable {T : Tb} {k : Nat} {δ : Dl} {xb : Xb} {io rs : List Nat}
@[simp] theorem ev_nop : evP T k .nop δ = .ok (.bl true) := rfl
@[simp] theorem ev_non : evP T k .non δ = .ok .non := rfl
@[simp] theorem ev_bl (b : Bool) : evP T k (.bl b) δ = .ok (.bl b) := rfl
@[simp] theorem ev_int (b : Int) : evP T k (.int b) δ = .ok (.int b) := rfl
@[simp] theorem ev_str (b : Str) : evP T k (.str b) δ = .ok (.str b) := rfl
@[simp] theorem ev_v (i : Nat) : evP T k (.v i) δ = slotD δ[i]? := rfl
@[simp] theorem ev_g (i : Nat) : evP T k (.g i) δ = constD T.consts[i]? := rfl
@[simp] theorem ev_bin (op : Operator) (a b : C) : evP T k (.bin op a b) δ = (evP T k a δ).bind fun x => (evP T k b δ).bind fun y => op2 op x y := rfl
@[simp] theorem ev_neg (a : C) : evP T k (.neg a) δ = (evP T k a δ).bind negD := rfl
@[simp] theorem ev_nt (a : C) : evP T k (.nt a) δ = (evP T k a δ).bind ntD := rfl
@[simp] theorem ev_cmp (op : CmpOp) (a b : C) : evP T k (.cmp op a b) δ = (evP T k a δ).bind fun x => (evP T k b δ).bind fun y => cmp2 op x y := rfl
@[simp] theorem ev_chn (op op2 : CmpOp) (a b c : C) : evP T k (.chn op op2 a b c) δ = (evP T k a δ).bind fun x => (evP T k b δ).bind fun y => (cmp2 op x y).bind fun t => andD t ((evP T k c δ).bind fun z => cmp2 op2 y z) := rfl
@[simp] theorem ev_and (cs : Cs) : evP T k (.and cs) δ = evAnd T k cs δ := rfl
@[simp] theorem ev_or (cs : Cs) : evP T k (.or cs) δ = evOr T k cs δ := rfl
@[simp] theorem ev_ite (t a b : C) : evP T k (.ite t a b) δ = (evP T k t δ).bind fun x => iteD x (evP T k a δ) (evP T k b δ) := rfl
@[simp] theorem ev_tup (cs : Cs) : evP T k (.tup cs) δ = (evPs T k cs δ).bind fun ds => lenOk ds (.ok (.tup ds)) := rfl
@[simp] theorem ev_lst (cs : Cs) : evP T k (.lst cs) δ = (evPs T k cs δ).bind fun ds => lenOk ds (.ok (.lst true ds)) := rfl
@[simp] theorem ev_ddk : evP T k .ddk δ = .ok (.dct true [] []) := rfl
@[simp] theorem ev_ddu : evP T k .ddu δ = .ok (.dcu true [] []) := rfl
@[simp] theorem ev_idx (a b : C) : evP T k (.idx a b) δ = (evP T k a δ).bind fun x => (evP T k b δ).bind fun y => ixD x y := rfl
@[simp] theorem ev_sl (a lo hi : C) : evP T k (.sl a lo hi) δ = (evP T k a δ).bind fun x => optD lo (evP T k lo δ) fun l => optD hi (evP T k hi δ) fun h => slD x l h := rfl
@[simp] theorem ev_call (f : Nat) (cs : Cs) : evP T k (.call f cs) δ = (evPs T k cs δ).bind fun ds => callP T k f ds := rfl
@[simp] theorem ev_blt (b : Blt) (cs : Cs) : evP T k (.blt b cs) δ = (evPs T k cs δ).bind fun ds => bltD b ds := rfl
@[simp] theorem ev_isi (a : C) (t : Ty) : evP T k (.isi a t) δ = (evP T k a δ).bind fun x => isTy x t := rfl
theorem ev_comp (own : List (Str × Nat)) (tg : Tg) (it : Ic) (cd e : C) : evP T k (.comp own tg it cd e) δ = (evI T k it δ).bind fun ds => lenOk ds ((compL (fun d => noExc (withTg (wipeD δ (own.map (·.2))) tg d fun δ1 => keepIf (evP T k cd δ1) (evP T k e δ1))) ds).bind fun ys => .ok (.lst true ys)) := rfl
@[simp] theorem evs_nil : evPs T k .nil δ = .ok [] := rfl
@[simp] theorem evs_cons (c : C) (cs : Cs) : evPs T k (.cons c cs) δ = (evP T k c δ).bind fun x => (evPs T k cs δ).bind fun xs => .ok (x :: xs) := rfl
@[simp] theorem evand_one (c : C) : evAnd T k (.cons c .nil) δ = evP T k c δ := rfl
@[simp] theorem evand_cons (c c2 : C) (cs : Cs) : evAnd T k (.cons c (.cons c2 cs)) δ = (evP T k c δ).bind fun x => andD x (evAnd T k (.cons c2 cs) δ) := rfl
@[simp] theorem evor_one (c : C) : evOr T k (.cons c .nil) δ = evP T k c δ := rfl
@[simp] theorem evor_cons (c c2 : C) (cs : Cs) : evOr T k (.cons c (.cons c2 cs)) δ = (evP T k c δ).bind fun x => orD x (evOr T k (.cons c2 cs) δ) := rfl
@[simp] theorem evi_val (c : C) : evI T k (.val c) δ = (evP T k c δ).bind itemsOf := rfl
@[simp] theorem evi_rng1 (c : C) : evI T k (.rng1 c) δ = (evP T k c δ).bind rng1D := rfl
@[simp] theorem evi_rng2 (a b : C) : evI T k (.rng2 a b) δ = (evP T k a δ).bind fun x => (evP T k b δ).bind fun y => rng2D x y := rfl
/-! statements -/
@[simp] theorem es_nil : evSs T xb k io .nil δ = .nx δ := rfl
@[simp] theorem es_cons (s : Sc) (r : Ss) : evSs T xb k io (.cons s r) δ = (evS T xb k io s δ).bind fun δ1 => evSs T xb k io r δ1 := rfl
@[simp] theorem es_set (tg : Tg) (c : C) : evS T xb k io (.set tg rs c) δ = onE (evP T k c (vw rs δ)) rs δ fun d δ1 => putTg io δ1 tg d := rfl
@[simp] theorem es_ex (c : C) : evS T xb k io (.ex rs c) δ = onE (evP T k c (vw rs δ)) rs δ fun _ δ1 => .nx δ1 := rfl
@[simp] theorem es_ret (c : C) : evS T xb k io (.ret rs c) δ = onE (evP T k c (vw rs δ)) rs δ fun d δ1 => .ret d δ1 := rfl
@[simp] theorem es_retv (i : Nat) : evS T xb k io (.retv i) δ = retvD io i δ := rfl
@[simp] theorem es_retN : evS T xb k io .retN δ = .ret .non δ := rfl
@[simp] theorem es_ite (c : C) (a b : Ss) : evS T xb k io (.ite rs c a b) δ = onE (evP T k c (vw rs δ)) rs δ fun d δ1 => iteS d (evSs T xb k io a δ1) (evSs T xb k io b δ1) := rfl
theorem es_whl (c : C) (b : Ss) : evS T xb k io (.whl rs c b) δ = whlD (fun δ => evP T k c (vw rs δ)) rs (evSs T xb k io b) δ := rfl
theorem es_for (tg : Tg) (it : Ic) (b : Ss) : evS T xb k io (.for tg rs it b) δ = onI (evI T k it (vw rs δ)) (isRng it) rs δ fun ds δ1 => forD io tg (evSs T xb k io b) ds δ1 := rfl
@[simp] theorem es_rai (x : Str) : evS T xb k io (.rai x) δ = .exc x δ := rfl
@[simp] theorem es_try (b : Ss) (y : Str) (i : Nat) (su : Su) : evS T xb k io (.try b y i su) δ = tryD xb io y i su (evSs T xb k io b δ) := rfl
@[simp] theorem es_pass : evS T xb k io .pass δ = .nx δ := rfl
@[simp] theorem es_cont : evS T xb k io .cont δ = .ct δ := rfl
@[simp] theorem es_app (i : Nat) (c : C) : evS T xb k io (.app i rs c) δ = ownAt δ i (onE (evP T k c (vw rs δ)) rs δ fun d δ1 => appD io δ1 i d) := rfl
/-! slots -/
@[simp] theorem at_zero {α : Type} (a : α) (l : List α) : (a :: l)[0]? = some a := rfl
@[simp] theorem at_succ {α : Type} (a : α) (l : List α) (n : Nat) : (a :: l)[n + 1]? = l[n]? := rfl
@[simp] theorem set_zero {α : Type} (a b : α) (l : List α) : (a :: l).set 0 b = b :: l := rfl
@[simp] theorem set_succ {α : Type} (a b : α) (l : List α) (n : Nat) : (a :: l).set (n + 1) b = a :: l.set n b := rfl
@[simp] theorem vw_nil (n : Nat) : vwN rs n [] = [] := rfl
@[simp] theorem vw_cons (n : Nat) (o : Option D) : vwN rs n (o :: δ) = (if rs.contains n then o.map frz else none) :: vwN rs (n + 1) δ := rfl
@[simp] theorem fz_nil (n : Nat) : fzN rs n [] = [] := rfl
@[simp] theorem fz_cons (n : Nat) (o : Option D) : fzN rs n (o :: δ) = (if rs.contains n then o.map frz else o) :: fzN rs (n + 1) δ := rfl
@[simp] theorem slot_some (d : D) : slotD (some (some d)) = .ok d := rfl
@[simp] theorem onE_ok (d : D) (q : D → Dl → SR) : onE (.ok d) rs δ q = q d (aft rs δ d) := rfl
@[simp] theorem onE_exc (x : Str) (q : D → Dl → SR) : onE (.exc x) rs δ q = .exc x δ := rfl
@[simp] theorem onI_ok (d : List D) (b : Bool) (q : List D → Dl → SR) : onI (.ok d) b rs δ q = q d (if b then δ else fz rs δ) := rfl
@[simp] theorem aft_bl (b : Bool) : aft rs δ (.bl b) = δ := rfl
@[simp] theorem aft_int (b : Int) : aft rs δ (.int b) = δ := rfl
@[simp] theorem aft_str (b : Str) : aft rs δ (.str b) = δ := rfl
@[simp] theorem aft_non : aft rs δ .non = δ := rfl
@[simp] theorem aft_tup (ds : List D) : aft rs δ (.tup ds) = if noShrs ds then δ else fz rs δ := rfl
@[simp] theorem aft_lst (o : Bool) (ds : List D) : aft rs δ (.lst o ds) = if o && noShrs ds then δ else fz rs δ := rfl
@[simp] theorem noShrs_nil : noShrs [] = true := rfl
@[simp] theorem noShrs_cons (d : D) (ds : List D) : noShrs (d :: ds) = (noShr d && noShrs ds) := rfl
@[simp] theorem noShr_int (b : Int) : noShr (.int b) = true := rfl
@[simp] theorem noShr_bl (b : Bool) : noShr (.bl b) = true := rfl
@[simp] theorem noShr_str (b : Str) : noShr (.str b) = true := rfl
@[simp] theorem noShr_non : noShr .non = true := rfl
@[simp] theorem noShr_tup (ds : List D) : noShr (.tup ds) = noShrs ds := rfl
@[simp] theorem noShr_lst (o : Bool) (ds : List D) : noShr (.lst o ds) = (o && noShrs ds) := rfl
@[simp] theorem frz_int (b : Int) : frz (.int b) = .int b := rfl
@[simp] theorem frz_bl (b : Bool) : frz (.bl b) = .bl b := rfl
@[simp] theorem frz_str (b : Str) : frz (.str b) = .str b := rfl
@[simp] theorem frz_non : frz .non = .non := rfl
@[simp] theorem frz_tup (ds : List D) : frz (.tup ds) = .tup (frzs ds) := rfl
@[simp] theorem frz_lst (o : Bool) (ds : List D) : frz (.lst o ds) = .lst false (frzs ds) := rfl
@[simp] theorem frz_dct (o : Bool) (ks : List Key) (ds : List D) : frz (.dct o ks ds) = .dct false ks (frzs ds) := rfl
@[simp] theorem frzs_nil : frzs [] = [] := rfl
@[simp] theorem frzs_cons (d : D) (ds : List D) : frzs (d :: ds) = frz d :: frzs ds := rfl
mutual
@[simp] theorem frz_twice : ∀ d : D, frz (frz d) = frz d
  | .tup ds => by simp only [frz]; rw [frzs_twice ds]
  | .lst _ ds => by simp only [frz]; rw [frzs_twice ds]
  | .dct _ _ ds => by simp only [frz]; rw [frzs_twice ds]
  | .dcu _ _ ds => by simp only [frz]; rw [frzs_twice ds]
  | .obj _ _ _ ds => by simp only [frz]; rw [frzs_twice ds]
  | .non => rfl
  | .bl _ => rfl
  | .int _ => rfl
  | .str _ => rfl
  | .exc _ => rfl
@[simp] theorem frzs_twice : ∀ ds : List D, frzs (frzs ds) = frzs ds
  | [] => rfl
  | d :: ds => by simp only [frzs]; rw [frz_twice d, frzs_twice ds]
end
theorem pow_is {i j r : Int} (h : CPow i j) (e : i ^ j.toNat = r) : op2 .Pow (.int i) (.int j) = .ok (.int r) := by
  subst e
  exact if_pos h
theorem frzs_ints : ∀ ns : List Int, frzs (ns.map D.int) = ns.map D.int
  | [] => rfl
  | n :: ns => congrArg (D.int n :: ·) (frzs_ints ns)
@[simp] theorem put_one (i : Nat) (d : D) : putTg [] δ (.one i) d = .nx (δ.set i (some d)) := rfl
@[simp] theorem put_many (is : List Nat) (ds : List D) : putTg [] δ (.many is) (.tup ds) = match setAll δ is ds with
  | some δ1 => .nx δ1
  | none => .stuck := by
  have e : (is.all fun i => !([] : List Nat).contains i) = true := by simp
  unfold putTg tgFree
  rw [if_pos e]
  rfl
@[simp] theorem ites_t (a b : SR) : iteS (.bl true) a b = a := rfl
@[simp] theorem ites_f (a b : SR) : iteS (.bl false) a b = b := rfl
theorem ites_b (c : Bool) (a b : SR) : iteS (.bl c) a b = if c = true then a else b := by cases c <;> rfl
theorem ited_b (c : Bool) (a b : Res D) : iteD (.bl c) a b = if c = true then a else b := by cases c <;> rfl
@[simp] theorem ited_t (a b : Res D) : iteD (.bl true) a b = a := rfl
@[simp] theorem ited_f (a b : Res D) : iteD (.bl false) a b = b := rfl
@[simp] theorem andd_t (a : Res D) : andD (.bl true) a = a := rfl
@[simp] theorem andd_f (a : Res D) : andD (.bl false) a = .ok (.bl false) := rfl
@[simp] theorem ord_t (a : Res D) : orD (.bl true) a = .ok (.bl true) := rfl
@[simp] theorem ord_f (a : Res D) : orD (.bl false) a = a := rfl
@[simp] theorem ntD_b (b : Bool) : ntD (.bl b) = .ok (.bl (!b)) := rfl
@[simp] theorem negD_i (b : Int) : negD (.int b) = .ok (.int (-b)) := rfl
@[simp] theorem outF_ret (d : D) : outF (.ret d δ) = .ok d [] := rfl
@[simp] theorem outF_nx : outF (.nx δ) = .ok .non [] := rfl
@[simp] theorem outF_exc (x : Str) : outF (.exc x δ) = .exc x [] := rfl
@[simp] theorem setAll_nil : setAll δ [] [] = some δ := rfl
@[simp] theorem setAll_cons (i : Nat) (is : List Nat) (d : D) (ds : List D) : setAll δ (i :: is) (d :: ds) = setAll (δ.set i (some d)) is ds := rfl
theorem lenOk_lt {ds : List D} {r : Res D} (h : ds.length ≤ 1000000) : lenOk ds r = r := if_pos h
@[simp] theorem lenOk_0 (r : Res D) : lenOk [] r = r := rfl
@[simp] theorem lenOk_c (d : D) (ds : List D) (r : Res D) : lenOk (d :: ds) r = if ds.length < 1000000 then r else .stuck := by
  unfold lenOk lim
  rw [List.length_cons]
  rfl
/-! operations -/
@[simp] theorem op_add (i j : Int) : op2 .Add (.int i) (.int j) = .ok (.int (i + j)) := rfl
@[simp] theorem op_sub (i j : Int) : op2 .Sub (.int i) (.int j) = .ok (.int (i - j)) := rfl
theorem mul_l {i j : Int} (h1 : -18446744073709551616 < i) (h2 : i < 18446744073709551616) : op2 .Mult (.int i) (.int j) = .ok (.int (i * j)) := if_pos (.inr (.inl ⟨h1, h2⟩))
theorem mul_r {i j : Int} (h1 : -18446744073709551616 < j) (h2 : j < 18446744073709551616) : op2 .Mult (.int i) (.int j) = .ok (.int (i * j)) := if_pos (.inr (.inr ⟨h1, h2⟩))
theorem log_lt {n b : Nat} (h : n < 2 ^ b) : n.log2 < b + 1 := by
  by_cases e : n = 0
  · subst e
    rw [show Nat.log2 0 = 0 from by decide]
    omega
  · have := (Nat.log2_lt e).mpr h
    omega
theorem mul_w {i j : Int} {a b : Nat} (h1 : i.natAbs < 2 ^ a) (h2 : j.natAbs < 2 ^ b) (h : a + b < 999990) : op2 .Mult (.int i) (.int j) = .ok (.int (i * j)) := if_pos (.inl (by
  have q1 := log_lt h1
  have q2 := log_lt h2
  show i.natAbs.log2 + j.natAbs.log2 < 1000000
  omega))
theorem div_p {i j : Int} (h : 0 < j) (h2 : j.natAbs < 2 ^ 8000) : op2 .FloorDiv (.int i) (.int j) = .ok (.int (i / j)) := by
  have e : i.fdiv j = i / j := Int.fdiv_eq_ediv_of_nonneg i (by omega)
  rw [← e]
  exact if_pos ⟨by omega, Nat.lt_of_lt_of_le (log_lt h2) (by decide)⟩
/-- by a positive number of at most 64 bits -/
theorem div_s {i j : Int} (h : 0 < j) (h2 : j < 18446744073709551616) : op2 .FloorDiv (.int i) (.int j) = .ok (.int (i / j)) := div_p h (Nat.lt_trans (show j.natAbs < 2 ^ 64 by omega) (Nat.pow_lt_pow_right (by decide) (by decide)))
theorem div_n {i j : Int} (h : j ≠ 0) (h2 : j.natAbs < 2 ^ 8000) : op2 .FloorDiv (.int i) (.int j) = .ok (.int (i.fdiv j)) := if_pos ⟨h, Nat.lt_of_lt_of_le (log_lt h2) (by decide)⟩
theorem mod_p {i j : Int} (h : 0 < j) : op2 .Mod (.int i) (.int j) = .ok (.int (i % j)) := by
  have e : i.fmod j = i % j := Int.fmod_eq_emod_of_nonneg i (by omega)
  rw [← e]
  exact if_pos (by omega)
theorem mul_m {i j : Int} (h1 : -2582249878086908589655919172003011874329705792829223512830659356540647622016841194629645353280137831435903171972747493376 < i) (h2 : i < 2582249878086908589655919172003011874329705792829223512830659356540647622016841194629645353280137831435903171972747493376) (h3 : -2582249878086908589655919172003011874329705792829223512830659356540647622016841194629645353280137831435903171972747493376 < j) (h4 : j < 2582249878086908589655919172003011874329705792829223512830659356540647622016841194629645353280137831435903171972747493376) : op2 .Mult (.int i) (.int j) = .ok (.int (i * j)) := mul_w (a := 400) (b := 400) (by rw [show (2 : Nat) ^ 400 = 2582249878086908589655919172003011874329705792829223512830659356540647622016841194629645353280137831435903171972747493376 from by decide]; omega) (by rw [show (2 : Nat) ^ 400 = 2582249878086908589655919172003011874329705792829223512830659356540647622016841194629645353280137831435903171972747493376 from by decide]; omega) (by decide)
theorem div_m {i j : Int} (h : 0 < j) (h2 : j < 2582249878086908589655919172003011874329705792829223512830659356540647622016841194629645353280137831435903171972747493376) : op2 .FloorDiv (.int i) (.int j) = .ok (.int (i / j)) := div_p h (Nat.lt_trans (show j.natAbs < 2 ^ 400 by rw [show (2 : Nat) ^ 400 = 2582249878086908589655919172003011874329705792829223512830659356540647622016841194629645353280137831435903171972747493376 from by decide]; omega) (Nat.pow_lt_pow_right (by decide) (by decide)))
theorem div_nm {i j : Int} (h0 : j ≠ 0) (h1 : -2582249878086908589655919172003011874329705792829223512830659356540647622016841194629645353280137831435903171972747493376 < j) (h2 : j < 2582249878086908589655919172003011874329705792829223512830659356540647622016841194629645353280137831435903171972747493376) : op2 .FloorDiv (.int i) (.int j) = .ok (.int (i.fdiv j)) := div_n h0 (Nat.lt_trans (show j.natAbs < 2 ^ 400 by rw [show (2 : Nat) ^ 400 = 2582249878086908589655919172003011874329705792829223512830659356540647622016841194629645353280137831435903171972747493376 from by decide]; omega) (Nat.pow_lt_pow_right (by decide) (by decide)))
theorem str_m {i : Int} (h1 : -2582249878086908589655919172003011874329705792829223512830659356540647622016841194629645353280137831435903171972747493376 < i) (h2 : i < 2582249878086908589655919172003011874329705792829223512830659356540647622016841194629645353280137831435903171972747493376) : bltD .str [.int i] = .ok (.str (toString i)) := by
  have h : i.natAbs < 2 ^ 400 := by
    rw [show (2 : Nat) ^ 400 = 2582249878086908589655919172003011874329705792829223512830659356540647622016841194629645353280137831435903171972747493376 from by decide]
    omega
  exact if_pos (Nat.lt_of_lt_of_le (log_lt h) (by decide))
@[simp] theorem isty_int (i : Int) (t : Ty) : isTy (.int i) t = .ok (.bl (decide (t = .int))) := by cases t <;> rfl
@[simp] theorem isty_bl (i : Bool) (t : Ty) : isTy (.bl i) t = .ok (.bl (decide (t = .int) || decide (t = .bool))) := by cases t <;> rfl
@[simp] theorem isty_str (i : Str) (t : Ty) : isTy (.str i) t = .ok (.bl (decide (t = .str))) := by cases t <;> rfl
@[simp] theorem isty_non (t : Ty) : isTy .non t = .ok (.bl false) := by cases t <;> rfl
@[simp] theorem isty_tup (ds : List D) (t : Ty) : isTy (.tup ds) t = .ok (.bl (decide (t = .tuple))) := by cases t <;> rfl
@[simp] theorem isty_lst (o : Bool) (ds : List D) (t : Ty) : isTy (.lst o ds) t = .ok (.bl (decide (t = .list))) := by cases t <;> rfl
@[simp] theorem isty_dct (o : Bool) (ks : List Key) (ds : List D) (t : Ty) : isTy (.dct o ks ds) t = .ok (.bl false) := by cases t <;> rfl
@[simp] theorem cat_lst (o p : Bool) (ds es : List D) : op2 .Add (.lst o ds) (.lst p es) = if ds.length + es.length ≤ 1000000 then .ok (.lst true (frzs ds ++ frzs es)) else .stuck := rfl
@[simp] theorem cmp_lt (i j : Int) : cmp2 .Lt (.int i) (.int j) = .ok (.bl (decide (i < j))) := rfl
@[simp] theorem cmp_le (i j : Int) : cmp2 .LtE (.int i) (.int j) = .ok (.bl (decide (i ≤ j))) := rfl
@[simp] theorem cmp_gt (i j : Int) : cmp2 .Gt (.int i) (.int j) = .ok (.bl (decide (j < i))) := rfl
@[simp] theorem cmp_ge (i j : Int) : cmp2 .GtE (.int i) (.int j) = .ok (.bl (decide (j ≤ i))) := rfl
@[simp] theorem cmp_eq_i (i j : Int) : cmp2 .Eq (.int i) (.int j) = .ok (.bl (decide (i = j))) := rfl
@[simp] theorem cmp_ne_i (i j : Int) : cmp2 .NotEq (.int i) (.int j) = .ok (.bl (!decide (i = j))) := rfl
theorem cmp_eq_t2 (a b c d : Int) : cmp2 .Eq (.tup [.int a, .int b]) (.tup [.int c, .int d]) = .ok (.bl (decide (a = c) && decide (b = d))) := by
  show Res.ok (D.bl (eqD (.int a) (.int c) && (eqD (.int b) (.int d) && true))) = _
  rw [Bool.and_true]
  rfl
@[simp] theorem cmp_eq_s (x y : Str) : cmp2 .Eq (.str x) (.str y) = .ok (.bl (x == y)) := rfl
@[simp] theorem cmp_eq_b (x y : Bool) : cmp2 .Eq (.bl x) (.bl y) = .ok (.bl (x == y)) := rfl
@[simp] theorem cmp_ne_s (x y : Str) : cmp2 .NotEq (.str x) (.str y) = .ok (.bl (!(x == y))) := rfl
theorem add_str {x y : Str} (h : x.length + y.length ≤ 1000000) : op2 .Add (.str x) (.str y) = .ok (.str (x ++ y)) := if_pos h
@[simp] theorem blt_int_b (b : Bool) : bltD .int [.bl b] = .ok (.int (if b then 1 else 0)) := rfl
@[simp] theorem cmp_is_b (i j : Bool) : cmp2 .Is (.bl i) (.bl j) = .ok (.bl (decide (i = j))) := rfl
@[simp] theorem cmp_isn_b (i j : Bool) : cmp2 .IsNot (.bl i) (.bl j) = .ok (.bl (!decide (i = j))) := rfl
@[simp] theorem cmp_is_n (d : D) : cmp2 .Is d .non = .ok (.bl (isNon d)) := rfl
@[simp] theorem cmp_isn_n (d : D) : cmp2 .IsNot d .non = .ok (.bl (!isNon d)) := rfl
@[simp] theorem blt_abs (i : Int) : bltD .abs [.int i] = .ok (.int (absI i)) := rfl
theorem absI_eq (i : Int) : absI i = (i.natAbs : Int) := by
  unfold absI
  split <;> omega
@[simp] theorem blt_len_l (o : Bool) (ds : List D) : bltD .len [.lst o ds] = .ok (.int ds.length) := rfl
@[simp] theorem blt_len_t (ds : List D) : bltD .len [.tup ds] = .ok (.int ds.length) := rfl
@[simp] theorem ix_tup (ds : List D) (i : Int) : ixD (.tup ds) (.int i) = ixL ds (ixR ds.length i) := rfl
@[simp] theorem ix_lst (o : Bool) (ds : List D) (i : Int) : ixD (.lst o ds) (.int i) = ixL ds (ixR ds.length i) := rfl
@[simp] theorem ixl_some (ds : List D) (j : Nat) : ixL ds (some j) = match ds[j]? with
  | some d => .ok (frz d)
  | none => .stuck := rfl
@[simp] theorem ixl_none (ds : List D) : ixL ds none = .stuck := rfl
end
theorem whl_go {t : Dl → Res D} {rs : List Nat} {b : Dl → SR} {δ δ2 : Dl} (h1 : t δ = .ok (.bl true)) (h2 : b δ = .nx δ2) : whlD t rs b δ = whlD t rs b δ2 := by
  rw [whlD_turn, h1, onE_ok, aft_bl]
  dsimp only
  rw [h2]
theorem whl_end {t : Dl → Res D} {rs : List Nat} {b : Dl → SR} {δ : Dl} (h1 : t δ = .ok (.bl false)) : whlD t rs b δ = .nx δ := by
  rw [whlD_turn, h1, onE_ok, aft_bl]
/-! comprehensions -/
theorem compL_all {f : D → Res (Option D)} {g : D → D} : ∀ {ds : List D}, (∀ d ∈ ds, f d = .ok (some (g d))) → compL f ds = .ok (ds.map g)
  | [], _ => rfl
  | d :: ds, h => by
    unfold compL
    rw [h d List.mem_cons_self, Res.bind_ok, compL_all fun x m => h x (List.mem_cons_of_mem _ m)]
    rfl
theorem bls_const {α : Type} (b : Bool) : ∀ ds : List α, blsOf (ds.map fun _ => D.bl b) = some (ds.map fun _ => b)
  | [] => rfl
  | _ :: ds => by
    rw [List.map_cons]
    unfold blsOf
    rw [bls_const b ds]
    rfl
theorem all_const {α : Type} (o : Bool) (ds : List α) : bltD .all [.lst o (ds.map fun _ => D.bl true)] = .ok (.bl true) := by
  show oBls (blsOf (ds.map fun _ => D.bl true)) _ = _
  rw [bls_const]
  show Res.ok (D.bl _) = _
  simp
@[simp] theorem itm_lst (o : Bool) (ds : List D) : itemsOf (.lst o ds) = .ok (frzs ds) := rfl
@[simp] theorem itm_tup (ds : List D) : itemsOf (.tup ds) = .ok (frzs ds) := rfl
@[simp] theorem noExc_ok {α : Type} (a : α) : noExc (.ok a) = .ok a := rfl
@[simp] theorem with_one (δ : Dl) (i : Nat) (d : D) (k : Dl → Res (Option D)) : withTg δ (.one i) d k = k (δ.set i (some d)) := rfl
@[simp] theorem keep_t (e : Res D) : keepIf (.ok (.bl true)) e = e.bind fun y => .ok (some y) := rfl
@[simp] theorem keep_f (e : Res D) : keepIf (.ok (.bl false)) e = .ok none := rfl
@[simp] theorem wipe_nil (δ : Dl) : wipeD δ [] = δ := rfl
@[simp] theorem wipe_cons (δ : Dl) (i : Nat) (r : List Nat) : wipeD δ (i :: r) = (wipeD δ r).set i none := rfl
/-- a comprehension over a list that stands in a slot -/
theorem comp_const {T : Tb} {k i j : Nat} {x : Str} {o : Bool} {ds : List D} {δ : Dl} {e : C} {r : D} (hi : δ[i]? = some (some (.lst o ds))) (hf : frzs ds = ds) (hl : ds.length ≤ 1000000) (h : ∀ d ∈ ds, evP T k e ((δ.set j none).set j (some d)) = .ok r) :
    evP T k (.comp [(x, j)] (.one j) (.val (.v i)) .nop e) δ = .ok (.lst true (ds.map fun _ => r)) := by
  rw [ev_comp, evi_val, ev_v, hi, slot_some, Res.bind_ok, itm_lst, Res.bind_ok, hf, lenOk_lt hl, compL_all (g := fun _ => r)]
  · rfl
  · intro d m
    show noExc (keepIf (.ok (.bl true)) (evP T k e ((δ.set j none).set j (some d)))) = _
    rw [h d m]
    rfl
/-- a def's call -/
theorem callL_eq (s : Stc) (k f : Nat) (ds : List D) : s.callL (k + 1) f ds = match s.fs[f]? with
  | some F => outF (evSs (s.at k) s.xb k [] F.body (startD F.N ds))
  | none => .stuck := rfl
def resC : CRes → Res D
  | .ok d _ => .ok d
  | .exc x _ => .exc x
  | .stuck => .stuck
@[simp] theorem resC_ok (d : D) (o : List D) : resC (.ok d o) = .ok d := rfl
@[simp] theorem resC_exc (x : Str) (o : List D) : resC (.exc x o) = .exc x := rfl
theorem callP_eq (s : Stc) (k f : Nat) (ds : List D) : callP (s.at k) k f ds = resC (s.callL k f (frzs ds ++ (s.dfl f).drop ((s.dfl f).length - ((s.at k).ar f - ds.length)))) := by
  unfold callP
  show (match s.callL k f (frzs ds ++ (s.dfl f).drop ((s.dfl f).length - ((s.at k).ar f - ds.length))) with
    | .stuck => Res.stuck
    | .ok d _ => .ok d
    | .exc x _ => .exc x) = _
  cases s.callL k f (frzs ds ++ (s.dfl f).drop ((s.dfl f).length - ((s.at k).ar f - ds.length))) <;> rfl
end Pw

/-! the text of law_k03_compared_and_shown: codes, made by gen.py -/
namespace Pg
open PySem PySem.Spec PyProof.Rows L2 Pw
abbrev rowP : Program := (PySem.Challenge.rw_planwell_k03_compared_and_shown).prog
def topSt (i : Nat) : Stmt := rowP.main.body.getD i (.Pass ⟨0, 0, 0, 0⟩)
def fb_less : Ss := 
  (.cons (.ret [0, 1] (.cmp .Lt (.bin .Mult (.idx (.v 0) (.int 0)) (.idx (.v 1) (.int 1))) (.bin .Mult (.idx (.v 1) (.int 0)) (.idx (.v 0) (.int 1)))))
  .nil)
def fd_less : Fd := ⟨"less", ["one", "other"], ["one", "other"], fb_less⟩
def fb_sign : Ss := 
  (.cons (.ret [0] (.bin .Sub (.blt .int (.cons (.cmp .Gt (.idx (.v 0) (.int 0)) (.int 0)) .nil)) (.blt .int (.cons (.cmp .Lt (.idx (.v 0) (.int 0)) (.int 0)) .nil))))
  .nil)
def fd_sign : Fd := ⟨"sign", ["one"], ["one"], fb_sign⟩
def fb_down : Ss := 
  (.cons (.ret [0] (.bin .FloorDiv (.idx (.v 0) (.int 0)) (.idx (.v 0) (.int 1))))
  .nil)
def fd_down : Fd := ⟨"down", ["one"], ["one"], fb_down⟩
def fb_up : Ss := 
  (.cons (.ret [0] (.neg (.bin .FloorDiv (.neg (.idx (.v 0) (.int 0))) (.idx (.v 0) (.int 1)))))
  .nil)
def fd_up : Fd := ⟨"up", ["one"], ["one"], fb_up⟩
def fb_shown_fraction : Ss := 
  (.cons (.ite [0] (.cmp .Eq (.idx (.v 0) (.int 1)) (.int 1)) (.cons (.ret [0] (.blt .str (.cons (.idx (.v 0) (.int 0)) .nil))) .nil) .nil)
  (.cons (.ret [0] (.bin .Add (.bin .Add (.blt .str (.cons (.idx (.v 0) (.int 0)) .nil)) (.str "/")) (.blt .str (.cons (.idx (.v 0) (.int 1)) .nil))))
  .nil))
def fd_shown_fraction : Fd := ⟨"shown_fraction", ["one"], ["one"], fb_shown_fraction⟩
def fb__law_cell_at : Ss := 
  (.cons (.ite [0, 1] (.cmp .Lt (.v 1) (.blt .len (.cons (.v 0) .nil))) (.cons (.ret [0, 1] (.idx (.v 0) (.v 1))) .nil) .nil)
  (.cons (.ret [] (.int 0))
  .nil))
def fd__law_cell_at : Fd := ⟨"_law_cell_at", ["_law_script", "_law_k"], ["_law_script", "_law_k"], fb__law_cell_at⟩
def fb__law_mixed : Ss := 
  (.cons (.ret [0, 1] (.bin .Mod (.bin .Add (.bin .Mult (.bin .Add (.bin .Mod (.v 0) (.int 1000003)) (.int 7)) (.bin .Add (.bin .Mult (.bin .Mult (.int 31) (.v 1)) (.v 1)) (.int 48271))) (.bin .Mult (.bin .FloorDiv (.v 0) (.int 1000003)) (.int 16807))) (.int 2147483629)))
  .nil)
def fd__law_mixed : Fd := ⟨"_law_mixed", ["_law_cell", "_law_k"], ["_law_cell", "_law_k"], fb__law_mixed⟩
def fb__law_whole : Ss := 
  (.cons (.ret [0] (.and (.cons (.isi (.v 0) .int) (.cons (.nt (.isi (.v 0) .bool)) .nil))))
  .nil)
def fd__law_whole : Fd := ⟨"_law_whole", ["_law_found"], ["_law_found"], fb__law_whole⟩
def fb__law_shared : Ss := 
  (.cons (.whl [1] (.cmp .Gt (.v 1) (.int 0)) (.cons (.set (.one 2) [0, 1] (.bin .Mod (.v 0) (.v 1))) (.cons (.set (.one 0) [1] (.v 1)) (.cons (.set (.one 1) [2] (.v 2)) .nil))))
  (.cons (.retv 0)
  .nil))
def fd__law_shared : Fd := ⟨"_law_shared", ["_law_one", "_law_other"], ["_law_one", "_law_other", "_law_rest"], fb__law_shared⟩
def fb__law_number : Ss := 
  (.cons (.set (.one 2) [0, 1] (.call 6 (.cons (.v 0) (.cons (.v 1) .nil))))
  (.cons (.set (.one 3) [0, 1, 2] (.bin .Mult (.bin .Mult (.bin .Mult (.bin .FloorDiv (.v 2) (.int 12)) (.call 6 (.cons (.v 0) (.cons (.bin .Add (.v 1) (.int 1)) .nil)))) (.call 6 (.cons (.v 0) (.cons (.bin .Add (.v 1) (.int 2)) .nil)))) (.call 6 (.cons (.v 0) (.cons (.bin .Add (.v 1) (.int 3)) .nil)))))
  (.cons (.set (.one 4) [2, 3] (.bin .Mod (.bin .FloorDiv (.v 3) (.int 7)) (.idx (.lst (.cons (.int 10) (.cons (.int 10) (.cons (.int 1000) (.cons (.bin .Pow (.int 10) (.int 6)) (.cons (.bin .Pow (.int 10) (.int 9)) (.cons (.bin .Pow (.int 10) (.int 30)) .nil))))))) (.bin .Mod (.v 2) (.int 6)))))
  (.cons (.ret [2, 4] (.idx (.lst (.cons (.v 4) (.cons (.neg (.v 4)) .nil))) (.bin .Mod (.bin .FloorDiv (.v 2) (.int 6)) (.int 2))))
  .nil))))
def fd__law_number : Fd := ⟨"_law_number", ["_law_cell", "_law_k"], ["_law_cell", "_law_k", "_law_first", "_law_long", "_law_size"], fb__law_number⟩
def fb__law_low : Ss := 
  (.cons (.set (.one 2) [0, 1] (.call 8 (.cons (.blt .abs (.cons (.v 0) .nil)) (.cons (.blt .abs (.cons (.v 1) .nil)) .nil))))
  (.cons (.ite [1] (.cmp .Lt (.v 1) (.int 0)) (.cons (.set (.one 2) [2] (.neg (.v 2))) .nil) .nil)
  (.cons (.ret [0, 1, 2] (.tup (.cons (.bin .FloorDiv (.v 0) (.v 2)) (.cons (.bin .FloorDiv (.v 1) (.v 2)) .nil))))
  .nil)))
def fd__law_low : Fd := ⟨"_law_low", ["_law_top", "_law_bottom"], ["_law_top", "_law_bottom", "_law_part"], fb__law_low⟩
def fb__law_fraction : Ss := 
  (.cons (.ret [0, 1] (.call 10 (.cons (.call 9 (.cons (.v 0) (.cons (.int 0) .nil))) (.cons (.bin .Add (.int 1) (.blt .abs (.cons (.call 9 (.cons (.v 1) (.cons (.int 4) .nil))) .nil))) .nil))))
  .nil)
def fd__law_fraction : Fd := ⟨"_law_fraction", ["_law_cell", "_law_more"], ["_law_cell", "_law_more"], fb__law_fraction⟩
def fb__law_near : Ss := 
  (.cons (.set (.many [2, 3]) [0] (.v 0))
  (.cons (.set (.one 4) [1] (.bin .Add (.int 1) (.bin .Mod (.bin .FloorDiv (.v 1) (.int 7)) (.int 9))))
  (.cons (.set (.one 5) [2, 3, 4] (.lst (.cons (.tup (.cons (.v 2) (.cons (.v 3) .nil))) (.cons (.tup (.cons (.neg (.v 2)) (.cons (.v 3) .nil))) (.cons (.tup (.cons (.bin .Add (.v 2) (.v 4)) (.cons (.v 3) .nil))) (.cons (.tup (.cons (.bin .Add (.bin .Mult (.v 2) (.v 4)) (.int 1)) (.cons (.bin .Mult (.v 3) (.v 4)) .nil))) .nil))))))
  (.cons (.set (.one 5) [2, 3, 4, 5] (.bin .Add (.v 5) (.lst (.cons (.tup (.cons (.v 3) (.cons (.bin .Add (.int 1) (.blt .abs (.cons (.v 2) .nil))) .nil))) (.cons (.tup (.cons (.bin .Sub (.bin .Mult (.v 4) (.v 3)) (.v 2)) (.cons (.v 3) .nil))) (.cons (.tup (.cons (.int 0) (.cons (.int 1) .nil))) .nil))))))
  (.cons (.ret [1, 5] (.call 10 (.cons (.idx (.idx (.v 5) (.bin .Mod (.v 1) (.int 7))) (.int 0)) (.cons (.idx (.idx (.v 5) (.bin .Mod (.v 1) (.int 7))) (.int 1)) .nil))))
  .nil)))))
def fd__law_near : Fd := ⟨"_law_near", ["_law_one", "_law_cell"], ["_law_one", "_law_cell", "_law_top", "_law_bottom", "_law_step", "_law_some"], fb__law_near⟩
def fb__law_figures : Ss := 
  (.cons (.set (.one 1) [] (.str ""))
  (.cons (.set (.one 2) [0] (.blt .abs (.cons (.v 0) .nil)))
  (.cons (.whl [1, 2] (.or (.cons (.cmp .Gt (.v 2) (.int 0)) (.cons (.cmp .Eq (.v 1) (.str "")) .nil))) (.cons (.set (.one 1) [1, 2] (.bin .Add (.idx (.str "0123456789") (.bin .Mod (.v 2) (.int 10))) (.v 1))) (.cons (.set (.one 2) [2] (.bin .FloorDiv (.v 2) (.int 10))) .nil)))
  (.cons (.ret [0, 1] (.bin .Add (.sl (.str "-") .nop (.blt .int (.cons (.cmp .Lt (.v 0) (.int 0)) .nil))) (.v 1)))
  .nil))))
def fd__law_figures : Fd := ⟨"_law_figures", ["_law_number_here"], ["_law_number_here", "_law_found", "_law_rest"], fb__law_figures⟩
def fb__law_alone : Ss := 
  (.cons (.set (.many [1, 2]) [0] (.v 0))
  (.cons (.set (.one 3) [0] (.call 2 (.cons (.v 0) .nil)))
  (.cons (.set (.one 4) [0] (.call 3 (.cons (.v 0) .nil)))
  (.cons (.ite [1, 2, 3] (.or (.cons (.nt (.call 7 (.cons (.v 3) .nil))) (.cons (.nt (.chn .LtE .Lt (.bin .Mult (.v 3) (.v 2)) (.v 1) (.bin .Mult (.bin .Add (.v 3) (.int 1)) (.v 2)))) .nil))) (.cons (.ret [] (.bl false)) .nil) .nil)
  (.cons (.ite [1, 2, 4] (.or (.cons (.nt (.call 7 (.cons (.v 4) .nil))) (.cons (.nt (.chn .Lt .LtE (.bin .Mult (.bin .Sub (.v 4) (.int 1)) (.v 2)) (.v 1) (.bin .Mult (.v 4) (.v 2)))) .nil))) (.cons (.ret [] (.bl false)) .nil) .nil)
  (.cons (.set (.one 5) [0] (.call 1 (.cons (.v 0) .nil)))
  (.cons (.ite [1, 5] (.or (.cons (.nt (.call 7 (.cons (.v 5) .nil))) (.cons (.cmp .NotEq (.v 5) (.idx (.lst (.cons (.int 0) (.cons (.int 1) (.cons (.neg (.int 1)) .nil)))) (.bin .Add (.blt .int (.cons (.cmp .Gt (.v 1) (.int 0)) .nil)) (.bin .Mult (.int 2) (.blt .int (.cons (.cmp .Lt (.v 1) (.int 0)) .nil)))))) .nil))) (.cons (.ret [] (.bl false)) .nil) .nil)
  (.cons (.set (.one 6) [1] (.call 13 (.cons (.v 1) .nil)))
  (.cons (.ite [2] (.cmp .Gt (.v 2) (.int 1)) (.cons (.set (.one 6) [2, 6] (.bin .Add (.bin .Add (.v 6) (.str "/")) (.call 13 (.cons (.v 2) .nil)))) .nil) .nil)
  (.cons (.set (.one 7) [0] (.call 4 (.cons (.v 0) .nil)))
  (.cons (.ret [6, 7] (.and (.cons (.isi (.v 7) .str) (.cons (.cmp .Eq (.v 7) (.v 6)) .nil))))
  .nil)))))))))))
def fd__law_alone : Fd := ⟨"_law_alone", ["_law_one"], ["_law_one", "_law_top", "_law_bottom", "_law_low_here", "_law_high", "_law_side", "_law_due", "_law_found"], fb__law_alone⟩
def fb__law_less : Ss := 
  (.cons (.set (.one 2) [0, 1] (.call 0 (.cons (.v 0) (.cons (.v 1) .nil))))
  (.cons (.ret [0, 1, 2] (.and (.cons (.isi (.v 2) .bool) (.cons (.cmp .Eq (.v 2) (.cmp .Lt (.bin .Mult (.idx (.v 0) (.int 0)) (.idx (.v 1) (.int 1))) (.bin .Mult (.idx (.v 1) (.int 0)) (.idx (.v 0) (.int 1))))) .nil))))
  .nil))
def fd__law_less : Fd := ⟨"_law_less", ["_law_one", "_law_other"], ["_law_one", "_law_other", "_law_found"], fb__law_less⟩
def fb_law : Ss := 
  (.cons (.set (.one 1) [0] (.call 11 (.cons (.call 5 (.cons (.v 0) (.cons (.int 0) .nil))) (.cons (.call 5 (.cons (.v 0) (.cons (.int 1) .nil))) .nil))))
  (.cons (.set (.one 2) [0] (.call 11 (.cons (.call 5 (.cons (.v 0) (.cons (.int 2) .nil))) (.cons (.call 5 (.cons (.v 0) (.cons (.int 3) .nil))) .nil))))
  (.cons (.set (.one 3) [0] (.call 5 (.cons (.v 0) (.cons (.int 4) .nil))))
  (.cons (.ite [3] (.cmp .Eq (.bin .Mod (.v 3) (.int 2)) (.int 1)) (.cons (.set (.one 2) [1, 3] (.call 12 (.cons (.v 1) (.cons (.bin .FloorDiv (.v 3) (.int 2)) .nil)))) .nil) .nil)
  (.cons (.ite [1, 2] (.or (.cons (.nt (.call 14 (.cons (.v 1) .nil))) (.cons (.nt (.call 14 (.cons (.v 2) .nil))) (.cons (.nt (.call 14 (.cons (.tup (.cons (.int 0) (.cons (.int 1) .nil))) .nil))) .nil)))) (.cons (.ret [] (.bl false)) .nil) .nil)
  (.cons (.ret [1, 2] (.and (.cons (.call 15 (.cons (.v 1) (.cons (.v 2) .nil))) (.cons (.call 15 (.cons (.v 2) (.cons (.v 1) .nil))) (.cons (.call 15 (.cons (.v 1) (.cons (.v 1) .nil))) (.cons (.call 15 (.cons (.v 2) (.cons (.tup (.cons (.int 0) (.cons (.int 1) .nil))) .nil))) .nil))))))
  .nil))))))
def fd_law : Fd := ⟨"law", ["_law_script"], ["_law_script", "_law_one", "_law_other", "_law_cell"], fb_law⟩
def dflT : Nat → List D
  | _ => []
def xsT : List (Str × List Str) := []
def clsT : List Str := []
def stcT : Stc := ⟨[fd_less, fd_sign, fd_down, fd_up, fd_shown_fraction, fd__law_cell_at, fd__law_mixed, fd__law_whole, fd__law_shared, fd__law_number, fd__law_low, fd__law_fraction, fd__law_near, fd__law_figures, fd__law_alone, fd__law_less, fd_law], dflT, [], mkXb xsT clsT, ["abs", "bool", "int", "isinstance", "len", "str"]⟩
/-! calls -/
theorem run_less (k : Nat) (ds : List D) : stcT.callL (k + 1) 0 ds = outF (evSs (stcT.at k) stcT.xb k [] fb_less (startD ["one", "other"] ds)) := rfl
theorem cl2_less (k : Nat) (x0 x1 : D) : callP (stcT.at k) k 0 [x0, x1] = resC (stcT.callL k 0 [frz x0, frz x1]) := callP_eq stcT k 0 _
theorem run_sign (k : Nat) (ds : List D) : stcT.callL (k + 1) 1 ds = outF (evSs (stcT.at k) stcT.xb k [] fb_sign (startD ["one"] ds)) := rfl
theorem cl1_sign (k : Nat) (x0 : D) : callP (stcT.at k) k 1 [x0] = resC (stcT.callL k 1 [frz x0]) := callP_eq stcT k 1 _
theorem run_down (k : Nat) (ds : List D) : stcT.callL (k + 1) 2 ds = outF (evSs (stcT.at k) stcT.xb k [] fb_down (startD ["one"] ds)) := rfl
theorem cl1_down (k : Nat) (x0 : D) : callP (stcT.at k) k 2 [x0] = resC (stcT.callL k 2 [frz x0]) := callP_eq stcT k 2 _
theorem run_up (k : Nat) (ds : List D) : stcT.callL (k + 1) 3 ds = outF (evSs (stcT.at k) stcT.xb k [] fb_up (startD ["one"] ds)) := rfl
theorem cl1_up (k : Nat) (x0 : D) : callP (stcT.at k) k 3 [x0] = resC (stcT.callL k 3 [frz x0]) := callP_eq stcT k 3 _
theorem run_shown_fraction (k : Nat) (ds : List D) : stcT.callL (k + 1) 4 ds = outF (evSs (stcT.at k) stcT.xb k [] fb_shown_fraction (startD ["one"] ds)) := rfl
theorem cl1_shown_fraction (k : Nat) (x0 : D) : callP (stcT.at k) k 4 [x0] = resC (stcT.callL k 4 [frz x0]) := callP_eq stcT k 4 _
theorem run__law_cell_at (k : Nat) (ds : List D) : stcT.callL (k + 1) 5 ds = outF (evSs (stcT.at k) stcT.xb k [] fb__law_cell_at (startD ["_law_script", "_law_k"] ds)) := rfl
theorem cl2__law_cell_at (k : Nat) (x0 x1 : D) : callP (stcT.at k) k 5 [x0, x1] = resC (stcT.callL k 5 [frz x0, frz x1]) := callP_eq stcT k 5 _
theorem run__law_mixed (k : Nat) (ds : List D) : stcT.callL (k + 1) 6 ds = outF (evSs (stcT.at k) stcT.xb k [] fb__law_mixed (startD ["_law_cell", "_law_k"] ds)) := rfl
theorem cl2__law_mixed (k : Nat) (x0 x1 : D) : callP (stcT.at k) k 6 [x0, x1] = resC (stcT.callL k 6 [frz x0, frz x1]) := callP_eq stcT k 6 _
theorem run__law_whole (k : Nat) (ds : List D) : stcT.callL (k + 1) 7 ds = outF (evSs (stcT.at k) stcT.xb k [] fb__law_whole (startD ["_law_found"] ds)) := rfl
theorem cl1__law_whole (k : Nat) (x0 : D) : callP (stcT.at k) k 7 [x0] = resC (stcT.callL k 7 [frz x0]) := callP_eq stcT k 7 _
theorem run__law_shared (k : Nat) (ds : List D) : stcT.callL (k + 1) 8 ds = outF (evSs (stcT.at k) stcT.xb k [] fb__law_shared (startD ["_law_one", "_law_other", "_law_rest"] ds)) := rfl
theorem cl2__law_shared (k : Nat) (x0 x1 : D) : callP (stcT.at k) k 8 [x0, x1] = resC (stcT.callL k 8 [frz x0, frz x1]) := callP_eq stcT k 8 _
theorem run__law_number (k : Nat) (ds : List D) : stcT.callL (k + 1) 9 ds = outF (evSs (stcT.at k) stcT.xb k [] fb__law_number (startD ["_law_cell", "_law_k", "_law_first", "_law_long", "_law_size"] ds)) := rfl
theorem cl2__law_number (k : Nat) (x0 x1 : D) : callP (stcT.at k) k 9 [x0, x1] = resC (stcT.callL k 9 [frz x0, frz x1]) := callP_eq stcT k 9 _
theorem run__law_low (k : Nat) (ds : List D) : stcT.callL (k + 1) 10 ds = outF (evSs (stcT.at k) stcT.xb k [] fb__law_low (startD ["_law_top", "_law_bottom", "_law_part"] ds)) := rfl
theorem cl2__law_low (k : Nat) (x0 x1 : D) : callP (stcT.at k) k 10 [x0, x1] = resC (stcT.callL k 10 [frz x0, frz x1]) := callP_eq stcT k 10 _
theorem run__law_fraction (k : Nat) (ds : List D) : stcT.callL (k + 1) 11 ds = outF (evSs (stcT.at k) stcT.xb k [] fb__law_fraction (startD ["_law_cell", "_law_more"] ds)) := rfl
theorem cl2__law_fraction (k : Nat) (x0 x1 : D) : callP (stcT.at k) k 11 [x0, x1] = resC (stcT.callL k 11 [frz x0, frz x1]) := callP_eq stcT k 11 _
theorem run__law_near (k : Nat) (ds : List D) : stcT.callL (k + 1) 12 ds = outF (evSs (stcT.at k) stcT.xb k [] fb__law_near (startD ["_law_one", "_law_cell", "_law_top", "_law_bottom", "_law_step", "_law_some"] ds)) := rfl
theorem cl2__law_near (k : Nat) (x0 x1 : D) : callP (stcT.at k) k 12 [x0, x1] = resC (stcT.callL k 12 [frz x0, frz x1]) := callP_eq stcT k 12 _
theorem run__law_figures (k : Nat) (ds : List D) : stcT.callL (k + 1) 13 ds = outF (evSs (stcT.at k) stcT.xb k [] fb__law_figures (startD ["_law_number_here", "_law_found", "_law_rest"] ds)) := rfl
theorem cl1__law_figures (k : Nat) (x0 : D) : callP (stcT.at k) k 13 [x0] = resC (stcT.callL k 13 [frz x0]) := callP_eq stcT k 13 _
theorem run__law_alone (k : Nat) (ds : List D) : stcT.callL (k + 1) 14 ds = outF (evSs (stcT.at k) stcT.xb k [] fb__law_alone (startD ["_law_one", "_law_top", "_law_bottom", "_law_low_here", "_law_high", "_law_side", "_law_due", "_law_found"] ds)) := rfl
theorem cl1__law_alone (k : Nat) (x0 : D) : callP (stcT.at k) k 14 [x0] = resC (stcT.callL k 14 [frz x0]) := callP_eq stcT k 14 _
theorem run__law_less (k : Nat) (ds : List D) : stcT.callL (k + 1) 15 ds = outF (evSs (stcT.at k) stcT.xb k [] fb__law_less (startD ["_law_one", "_law_other", "_law_found"] ds)) := rfl
theorem cl2__law_less (k : Nat) (x0 x1 : D) : callP (stcT.at k) k 15 [x0, x1] = resC (stcT.callL k 15 [frz x0, frz x1]) := callP_eq stcT k 15 _
theorem run_law (k : Nat) (ds : List D) : stcT.callL (k + 1) 16 ds = outF (evSs (stcT.at k) stcT.xb k [] fb_law (startD ["_law_script", "_law_one", "_law_other", "_law_cell"] ds)) := rfl
theorem cl1_law (k : Nat) (x0 : D) : callP (stcT.at k) k 16 [x0] = resC (stcT.callL k 16 [frz x0]) := callP_eq stcT k 16 _
/-! the head -/
def dd_less : He.DefD := ⟨("less", none), "less", "less", defArgs (topSt 1), defBody (topSt 1), defScope (topSt 1), [], []⟩
def dd_sign : He.DefD := ⟨("sign", none), "sign", "sign", defArgs (topSt 2), defBody (topSt 2), defScope (topSt 2), [], []⟩
def dd_down : He.DefD := ⟨("down", none), "down", "down", defArgs (topSt 3), defBody (topSt 3), defScope (topSt 3), [], []⟩
def dd_up : He.DefD := ⟨("up", none), "up", "up", defArgs (topSt 4), defBody (topSt 4), defScope (topSt 4), [], []⟩
def dd_shown_fraction : He.DefD := ⟨("shown_fraction", none), "shown_fraction", "shown_fraction", defArgs (topSt 5), defBody (topSt 5), defScope (topSt 5), [], []⟩
def dd__law_cell_at : He.DefD := ⟨("_law_cell_at", none), "_law_cell_at", "_law_cell_at", defArgs (topSt 7), defBody (topSt 7), defScope (topSt 7), [], []⟩
def dd__law_mixed : He.DefD := ⟨("_law_mixed", none), "_law_mixed", "_law_mixed", defArgs (topSt 8), defBody (topSt 8), defScope (topSt 8), [], []⟩
def dd__law_whole : He.DefD := ⟨("_law_whole", none), "_law_whole", "_law_whole", defArgs (topSt 9), defBody (topSt 9), defScope (topSt 9), [], []⟩
def dd__law_shared : He.DefD := ⟨("_law_shared", none), "_law_shared", "_law_shared", defArgs (topSt 10), defBody (topSt 10), defScope (topSt 10), [], []⟩
def dd__law_number : He.DefD := ⟨("_law_number", none), "_law_number", "_law_number", defArgs (topSt 11), defBody (topSt 11), defScope (topSt 11), [], []⟩
def dd__law_low : He.DefD := ⟨("_law_low", none), "_law_low", "_law_low", defArgs (topSt 12), defBody (topSt 12), defScope (topSt 12), [], []⟩
def dd__law_fraction : He.DefD := ⟨("_law_fraction", none), "_law_fraction", "_law_fraction", defArgs (topSt 13), defBody (topSt 13), defScope (topSt 13), [], []⟩
def dd__law_near : He.DefD := ⟨("_law_near", none), "_law_near", "_law_near", defArgs (topSt 14), defBody (topSt 14), defScope (topSt 14), [], []⟩
def dd__law_figures : He.DefD := ⟨("_law_figures", none), "_law_figures", "_law_figures", defArgs (topSt 15), defBody (topSt 15), defScope (topSt 15), [], []⟩
def dd__law_alone : He.DefD := ⟨("_law_alone", none), "_law_alone", "_law_alone", defArgs (topSt 16), defBody (topSt 16), defScope (topSt 16), [], []⟩
def dd__law_less : He.DefD := ⟨("_law_less", none), "_law_less", "_law_less", defArgs (topSt 17), defBody (topSt 17), defScope (topSt 17), [], []⟩
def dd_law : He.DefD := ⟨("law", none), "law", "law", defArgs (topSt 18), defBody (topSt 18), defScope (topSt 18), [], []⟩
def fnT : List He.DefD := [dd_less, dd_sign, dd_down, dd_up, dd_shown_fraction, dd__law_cell_at, dd__law_mixed, dd__law_whole, dd__law_shared, dd__law_number, dd__law_low, dd__law_fraction, dd__law_near, dd__law_figures, dd__law_alone, dd__law_less, dd_law]
def faT : List He.Fa := [.glo "less", .glo "sign", .glo "down", .glo "up", .glo "shown_fraction", .glo "_law_cell_at", .glo "_law_mixed", .glo "_law_whole", .glo "_law_shared", .glo "_law_number", .glo "_law_low", .glo "_law_fraction", .glo "_law_near", .glo "_law_figures", .glo "_law_alone", .glo "_law_less", .glo "law"] ++ (["abs", "bool", "int", "isinstance", "len", "str"] : List Str).map He.Fa.free
theorem ok_less : DefOk stcT 0 fd_less dd_less := by
  refine ⟨rfl, rfl, rfl, rfl, ⟨rfl, rfl, rfl, by decide +kernel, rfl, by decide +kernel, by decide +kernel⟩, fun k => by kernel_rfl, fun K fd b h m m1 m2 => ?_⟩
  have e : m = 2 := Nat.le_antisymm m2 m1
  subst e
  exact ⟨[], [], FunD.bindsN h fun _ _ _ _ _ _ us hl => (match us, hl with | [_, _], _ => rfl), .nil, rfl, fun _ _ _ => .nil⟩
theorem ok_sign : DefOk stcT 1 fd_sign dd_sign := by
  refine ⟨rfl, rfl, rfl, rfl, ⟨rfl, rfl, rfl, by decide +kernel, rfl, by decide +kernel, by decide +kernel⟩, fun k => by kernel_rfl, fun K fd b h m m1 m2 => ?_⟩
  have e : m = 1 := Nat.le_antisymm m2 m1
  subst e
  exact ⟨[], [], FunD.bindsN h fun _ _ _ _ _ _ us hl => (match us, hl with | [_], _ => rfl), .nil, rfl, fun _ _ _ => .nil⟩
theorem ok_down : DefOk stcT 2 fd_down dd_down := by
  refine ⟨rfl, rfl, rfl, rfl, ⟨rfl, rfl, rfl, by decide +kernel, rfl, by decide +kernel, by decide +kernel⟩, fun k => by kernel_rfl, fun K fd b h m m1 m2 => ?_⟩
  have e : m = 1 := Nat.le_antisymm m2 m1
  subst e
  exact ⟨[], [], FunD.bindsN h fun _ _ _ _ _ _ us hl => (match us, hl with | [_], _ => rfl), .nil, rfl, fun _ _ _ => .nil⟩
theorem ok_up : DefOk stcT 3 fd_up dd_up := by
  refine ⟨rfl, rfl, rfl, rfl, ⟨rfl, rfl, rfl, by decide +kernel, rfl, by decide +kernel, by decide +kernel⟩, fun k => by kernel_rfl, fun K fd b h m m1 m2 => ?_⟩
  have e : m = 1 := Nat.le_antisymm m2 m1
  subst e
  exact ⟨[], [], FunD.bindsN h fun _ _ _ _ _ _ us hl => (match us, hl with | [_], _ => rfl), .nil, rfl, fun _ _ _ => .nil⟩
theorem ok_shown_fraction : DefOk stcT 4 fd_shown_fraction dd_shown_fraction := by
  refine ⟨rfl, rfl, rfl, rfl, ⟨rfl, rfl, rfl, by decide +kernel, rfl, by decide +kernel, by decide +kernel⟩, fun k => by kernel_rfl, fun K fd b h m m1 m2 => ?_⟩
  have e : m = 1 := Nat.le_antisymm m2 m1
  subst e
  exact ⟨[], [], FunD.bindsN h fun _ _ _ _ _ _ us hl => (match us, hl with | [_], _ => rfl), .nil, rfl, fun _ _ _ => .nil⟩
theorem ok__law_cell_at : DefOk stcT 5 fd__law_cell_at dd__law_cell_at := by
  refine ⟨rfl, rfl, rfl, rfl, ⟨rfl, rfl, rfl, by decide +kernel, rfl, by decide +kernel, by decide +kernel⟩, fun k => by kernel_rfl, fun K fd b h m m1 m2 => ?_⟩
  have e : m = 2 := Nat.le_antisymm m2 m1
  subst e
  exact ⟨[], [], FunD.bindsN h fun _ _ _ _ _ _ us hl => (match us, hl with | [_, _], _ => rfl), .nil, rfl, fun _ _ _ => .nil⟩
theorem ok__law_mixed : DefOk stcT 6 fd__law_mixed dd__law_mixed := by
  refine ⟨rfl, rfl, rfl, rfl, ⟨rfl, rfl, rfl, by decide +kernel, rfl, by decide +kernel, by decide +kernel⟩, fun k => by kernel_rfl, fun K fd b h m m1 m2 => ?_⟩
  have e : m = 2 := Nat.le_antisymm m2 m1
  subst e
  exact ⟨[], [], FunD.bindsN h fun _ _ _ _ _ _ us hl => (match us, hl with | [_, _], _ => rfl), .nil, rfl, fun _ _ _ => .nil⟩
theorem ok__law_whole : DefOk stcT 7 fd__law_whole dd__law_whole := by
  refine ⟨rfl, rfl, rfl, rfl, ⟨rfl, rfl, rfl, by decide +kernel, rfl, by decide +kernel, by decide +kernel⟩, fun k => by kernel_rfl, fun K fd b h m m1 m2 => ?_⟩
  have e : m = 1 := Nat.le_antisymm m2 m1
  subst e
  exact ⟨[], [], FunD.bindsN h fun _ _ _ _ _ _ us hl => (match us, hl with | [_], _ => rfl), .nil, rfl, fun _ _ _ => .nil⟩
theorem ok__law_shared : DefOk stcT 8 fd__law_shared dd__law_shared := by
  refine ⟨rfl, rfl, rfl, rfl, ⟨rfl, rfl, rfl, by decide +kernel, rfl, by decide +kernel, by decide +kernel⟩, fun k => by kernel_rfl, fun K fd b h m m1 m2 => ?_⟩
  have e : m = 2 := Nat.le_antisymm m2 m1
  subst e
  exact ⟨[], [], FunD.bindsN h fun _ _ _ _ _ _ us hl => (match us, hl with | [_, _], _ => rfl), .nil, rfl, fun _ _ _ => .nil⟩
theorem ok__law_number : DefOk stcT 9 fd__law_number dd__law_number := by
  refine ⟨rfl, rfl, rfl, rfl, ⟨rfl, rfl, rfl, by decide +kernel, rfl, by decide +kernel, by decide +kernel⟩, fun k => by kernel_rfl, fun K fd b h m m1 m2 => ?_⟩
  have e : m = 2 := Nat.le_antisymm m2 m1
  subst e
  exact ⟨[], [], FunD.bindsN h fun _ _ _ _ _ _ us hl => (match us, hl with | [_, _], _ => rfl), .nil, rfl, fun _ _ _ => .nil⟩
theorem ok__law_low : DefOk stcT 10 fd__law_low dd__law_low := by
  refine ⟨rfl, rfl, rfl, rfl, ⟨rfl, rfl, rfl, by decide +kernel, rfl, by decide +kernel, by decide +kernel⟩, fun k => by kernel_rfl, fun K fd b h m m1 m2 => ?_⟩
  have e : m = 2 := Nat.le_antisymm m2 m1
  subst e
  exact ⟨[], [], FunD.bindsN h fun _ _ _ _ _ _ us hl => (match us, hl with | [_, _], _ => rfl), .nil, rfl, fun _ _ _ => .nil⟩
theorem ok__law_fraction : DefOk stcT 11 fd__law_fraction dd__law_fraction := by
  refine ⟨rfl, rfl, rfl, rfl, ⟨rfl, rfl, rfl, by decide +kernel, rfl, by decide +kernel, by decide +kernel⟩, fun k => by kernel_rfl, fun K fd b h m m1 m2 => ?_⟩
  have e : m = 2 := Nat.le_antisymm m2 m1
  subst e
  exact ⟨[], [], FunD.bindsN h fun _ _ _ _ _ _ us hl => (match us, hl with | [_, _], _ => rfl), .nil, rfl, fun _ _ _ => .nil⟩
theorem ok__law_near : DefOk stcT 12 fd__law_near dd__law_near := by
  refine ⟨rfl, rfl, rfl, rfl, ⟨rfl, rfl, rfl, by decide +kernel, rfl, by decide +kernel, by decide +kernel⟩, fun k => by kernel_rfl, fun K fd b h m m1 m2 => ?_⟩
  have e : m = 2 := Nat.le_antisymm m2 m1
  subst e
  exact ⟨[], [], FunD.bindsN h fun _ _ _ _ _ _ us hl => (match us, hl with | [_, _], _ => rfl), .nil, rfl, fun _ _ _ => .nil⟩
theorem ok__law_figures : DefOk stcT 13 fd__law_figures dd__law_figures := by
  refine ⟨rfl, rfl, rfl, rfl, ⟨rfl, rfl, rfl, by decide +kernel, rfl, by decide +kernel, by decide +kernel⟩, fun k => by kernel_rfl, fun K fd b h m m1 m2 => ?_⟩
  have e : m = 1 := Nat.le_antisymm m2 m1
  subst e
  exact ⟨[], [], FunD.bindsN h fun _ _ _ _ _ _ us hl => (match us, hl with | [_], _ => rfl), .nil, rfl, fun _ _ _ => .nil⟩
theorem ok__law_alone : DefOk stcT 14 fd__law_alone dd__law_alone := by
  refine ⟨rfl, rfl, rfl, rfl, ⟨rfl, rfl, rfl, by decide +kernel, rfl, by decide +kernel, by decide +kernel⟩, fun k => by kernel_rfl, fun K fd b h m m1 m2 => ?_⟩
  have e : m = 1 := Nat.le_antisymm m2 m1
  subst e
  exact ⟨[], [], FunD.bindsN h fun _ _ _ _ _ _ us hl => (match us, hl with | [_], _ => rfl), .nil, rfl, fun _ _ _ => .nil⟩
theorem ok__law_less : DefOk stcT 15 fd__law_less dd__law_less := by
  refine ⟨rfl, rfl, rfl, rfl, ⟨rfl, rfl, rfl, by decide +kernel, rfl, by decide +kernel, by decide +kernel⟩, fun k => by kernel_rfl, fun K fd b h m m1 m2 => ?_⟩
  have e : m = 2 := Nat.le_antisymm m2 m1
  subst e
  exact ⟨[], [], FunD.bindsN h fun _ _ _ _ _ _ us hl => (match us, hl with | [_, _], _ => rfl), .nil, rfl, fun _ _ _ => .nil⟩
theorem ok_law : DefOk stcT 16 fd_law dd_law := by
  refine ⟨rfl, rfl, rfl, rfl, ⟨rfl, rfl, rfl, by decide +kernel, rfl, by decide +kernel, by decide +kernel⟩, fun k => by kernel_rfl, fun K fd b h m m1 m2 => ?_⟩
  have e : m = 1 := Nat.le_antisymm m2 m1
  subst e
  exact ⟨[], [], FunD.bindsN h fun _ _ _ _ _ _ us hl => (match us, hl with | [_], _ => rfl), .nil, rfl, fun _ _ _ => .nil⟩
theorem hdT : Hd stcT faT fnT xsT clsT := by
  refine ⟨rfl, fun f F e => ?_, fun x m => ?_, fun _ _ _ _ _ _ j p e => by cases e⟩
  · match f, e with
    | 0, e => cases e; exact ⟨List.mem_of_getElem? (i := 0) rfl, _, rfl, ok_less⟩
    | 1, e => cases e; exact ⟨List.mem_of_getElem? (i := 1) rfl, _, rfl, ok_sign⟩
    | 2, e => cases e; exact ⟨List.mem_of_getElem? (i := 2) rfl, _, rfl, ok_down⟩
    | 3, e => cases e; exact ⟨List.mem_of_getElem? (i := 3) rfl, _, rfl, ok_up⟩
    | 4, e => cases e; exact ⟨List.mem_of_getElem? (i := 4) rfl, _, rfl, ok_shown_fraction⟩
    | 5, e => cases e; exact ⟨List.mem_of_getElem? (i := 5) rfl, _, rfl, ok__law_cell_at⟩
    | 6, e => cases e; exact ⟨List.mem_of_getElem? (i := 6) rfl, _, rfl, ok__law_mixed⟩
    | 7, e => cases e; exact ⟨List.mem_of_getElem? (i := 7) rfl, _, rfl, ok__law_whole⟩
    | 8, e => cases e; exact ⟨List.mem_of_getElem? (i := 8) rfl, _, rfl, ok__law_shared⟩
    | 9, e => cases e; exact ⟨List.mem_of_getElem? (i := 9) rfl, _, rfl, ok__law_number⟩
    | 10, e => cases e; exact ⟨List.mem_of_getElem? (i := 10) rfl, _, rfl, ok__law_low⟩
    | 11, e => cases e; exact ⟨List.mem_of_getElem? (i := 11) rfl, _, rfl, ok__law_fraction⟩
    | 12, e => cases e; exact ⟨List.mem_of_getElem? (i := 12) rfl, _, rfl, ok__law_near⟩
    | 13, e => cases e; exact ⟨List.mem_of_getElem? (i := 13) rfl, _, rfl, ok__law_figures⟩
    | 14, e => cases e; exact ⟨List.mem_of_getElem? (i := 14) rfl, _, rfl, ok__law_alone⟩
    | 15, e => cases e; exact ⟨List.mem_of_getElem? (i := 15) rfl, _, rfl, ok__law_less⟩
    | 16, e => cases e; exact ⟨List.mem_of_getElem? (i := 16) rfl, _, rfl, ok_law⟩
    | _ + 17, e => cases e
  · exact List.mem_append_right _ (List.mem_map_of_mem m)
abbrev openR : PySem.W.OpenRow := PySem.W.OpenLaw.row PySem.Challenge.rw_planwell_k03_compared_and_shown
abbrev hkT : PySem.W.Hook := hookX 4 faT fnT (xB xsT clsT)
def obT (s : PySem.W.SharedT) : AlX := obsXG 4 faT fnT (xB xsT clsT) (HandSHeadRun.getT s)
theorem obT_eq (s : PySem.W.SharedT) : obT s = hkT.obs s.abs := obsXG_eq (HandSHeadRun.getT_eq s)
def looseT : List Str := ["less", "sign", "down", "up", "shown_fraction", "_law_cell_at", "_law_mixed", "_law_whole", "_law_shared", "_law_number", "_law_low", "_law_fraction", "_law_near", "_law_figures", "_law_alone", "_law_less"]
theorem runT (w : World) : HandSHeadRun.RunEq openR (PySem.W.view openR.prog [18]) hkT obT 4000 looseT w := by
  intro os
  kernel_rfl
end Pg
/-! ## the end -/
open PySem PySem.W PySem.Calls PyProof.Rows in
theorem law_of (k : Nat) (hk : L2.Room k callerA) (plain : ∀ ns : List Int, ns.length ≤ 63 → (∀ z ∈ ns, Builtin.Int.intBits z ≤ 1048576) → Pg.stcT.callL k 16 [.lst false (ns.map Pw.D.int)] = .ok (.bl true) []) : PySem.Challenge.rw_planwell_k03_compared_and_shown.Holds := by
  w_on
  o_law
  refine HandSHeadRun.head_any (r := Pg.openR) (q := view Pg.openR.prog [18]) (H := Pg.hkT) (ob := Pg.obT) (M := 4000) (loose := Pg.looseT) (d := HandSHeadRun.topDef Pg.openR.prog 18) (kwd := []) Pg.obT_eq
    (by kernel_rfl) (fun s => by kernel_rfl) Pg.runT (by kernel_rfl) (by kernel_rfl) (by kernel_rfl) (by rfl) (by first | assumption | decide +kernel) (by decide +kernel) ⟨rfl, rfl, rfl, rfl, rfl, by decide +kernel⟩ ?hw ?hc
  case hw => w_witness2
  case hc =>
    exact Pw.law_walk (s := Pg.stcT) (F := Pg.fd_law) (df := Pg.dd_law) (law := "law") (x := "_law_script") (f := 16) (n := 63) Pg.hdT rfl (by decide) (by kernel_rfl) hk (by kernel_rfl) rfl rfl rfl rfl rfl (fun _ _ _ _ _ _ _ => rfl) plain

namespace Pg
open PySem PySem.Spec PyProof.Rows L2 Pw
theorem mixed_ok (n : Nat) (cell k : Int) (h1 : 0 ≤ k) (h2 : k < 1000) : ∃ r : Int, stcT.callL (n + 1) 6 [.int cell, .int k] = .ok (.int r) [] ∧ 0 ≤ r ∧ r < 2147483629 := by
  refine ⟨((cell % 1000003 + 7) * (31 * k * k + 48271) + cell / 1000003 * 16807) % 2147483629, ?_, by omega, by omega⟩
  rw [run__law_mixed]
  simp (disch := omega) [fb__law_mixed, startD, mod_p, div_s, mul_l, mul_r]
theorem cell_ok (n : Nat) (ns : List Int) (j : Nat) : stcT.callL (n + 1) 5 [.lst false (ns.map D.int), .int j] = .ok (.int (ns.getD j 0)) [] := by
  rw [run__law_cell_at]
  by_cases h : j < ns.length
  · simp [fb__law_cell_at, startD, h, frzs_ints, ixR]
  · simp [fb__law_cell_at, startD, h, frzs_ints, ixR]
theorem gcd_turn (T : Tb) (k : Nat) (xb : Xb) : ∀ (b a : Nat) (o : Option D), ∃ o', evS T xb k [] (.whl [1] (.cmp .Gt (.v 1) (.int 0)) (.cons (.set (.one 2) [0, 1] (.bin .Mod (.v 0) (.v 1))) (.cons (.set (.one 0) [1] (.v 1)) (.cons (.set (.one 1) [2] (.v 2)) .nil)))) [some (.int a), some (.int b), o] = .nx [some (.int (Nat.gcd a b : Nat)), some (.int 0), o'] := by
  intro b
  induction b using Nat.strongRecOn with
  | ind b ih =>
    intro a o
    by_cases h : b = 0
    · subst h
      refine ⟨o, ?_⟩
      rw [es_whl, whl_end]
      · simp
      · simp
    · obtain ⟨o', e⟩ := ih (a % b) (Nat.mod_lt _ (by omega)) b (some (.int (a % b : Nat)))
      refine ⟨o', ?_⟩
      have hb : (0 : Int) < (b : Int) := by omega
      rw [es_whl] at e ⊢
      rw [whl_go (δ2 := [some (.int b), some (.int (a % b : Nat)), some (.int (a % b : Nat))])]
      · rw [e, Nat.gcd_comm a b, Nat.gcd_rec b a, Nat.gcd_comm]
      · simp [hb]
        omega
      · simp (disch := omega) [mod_p]
theorem _law_shared_ok (n : Nat) (a b : Nat) : stcT.callL (n + 1) 8 [.int a, .int b] = .ok (.int (Nat.gcd a b : Nat)) [] := by
  rw [run__law_shared]
  obtain ⟨o', e⟩ := gcd_turn (stcT.at n) n stcT.xb b a none
  unfold fb__law_shared
  rw [es_cons, show startD ["_law_one", "_law_other", "_law_rest"] [.int a, .int b] = [some (.int (a : Int)), some (.int (b : Int)), none] from rfl, e]
  simp [retvD]
/-! ### numbers -/
theorem pow6 : op2 .Pow (.int 10) (.int 6) = .ok (.int 1000000) := pow_is (by decide +kernel) (by decide +kernel)
theorem pow9 : op2 .Pow (.int 10) (.int 9) = .ok (.int 1000000000) := pow_is (by decide +kernel) (by decide +kernel)
theorem pow30 : op2 .Pow (.int 10) (.int 30) = .ok (.int 1000000000000000000000000000000) := pow_is (by decide +kernel) (by decide +kernel)
theorem number_ok (n : Nat) (cell k : Int) (h1 : 0 ≤ k) (h2 : k < 900) : ∃ r : Int, stcT.callL (n + 2) 9 [.int cell, .int k] = .ok (.int r) [] ∧ -1000000000000000000000000000000 < r ∧ r < 1000000000000000000000000000000 := by
  obtain ⟨a, ea, a1, a2⟩ := mixed_ok n cell k h1 (by omega)
  obtain ⟨b, eb, b1, b2⟩ := mixed_ok n cell (k + 1) (by omega) (by omega)
  obtain ⟨c, ec, c1, c2⟩ := mixed_ok n cell (k + 2) (by omega) (by omega)
  obtain ⟨d, ed, d1, d2⟩ := mixed_ok n cell (k + 3) (by omega) (by omega)
  have z : ∀ m : Int, 0 < m → m ≤ 1000000000000000000000000000000 → ∀ x : Int, 0 ≤ x % m ∧ x % m < 1000000000000000000000000000000 := fun m p q x => ⟨Int.emod_nonneg x (by omega), Int.lt_of_lt_of_le (Int.emod_lt_of_pos x p) q⟩
  have w6 : a % 6 = 0 ∨ a % 6 = 1 ∨ a % 6 = 2 ∨ a % 6 = 3 ∨ a % 6 = 4 ∨ a % 6 = 5 := by omega
  have w2 : a / 6 % 2 = 0 ∨ a / 6 % 2 = 1 := by omega
  have z1 := z 10 (by decide) (by decide) (a / 12 * b * c * d / 7)
  have z3 := z 1000 (by decide) (by decide) (a / 12 * b * c * d / 7)
  have z6 := z 1000000 (by decide) (by decide) (a / 12 * b * c * d / 7)
  have z9 := z 1000000000 (by decide) (by decide) (a / 12 * b * c * d / 7)
  have z30 := z 1000000000000000000000000000000 (by decide) (by decide) (a / 12 * b * c * d / 7)
  rw [run__law_number]
  rcases w6 with w | w | w | w | w | w <;> rcases w2 with v | v <;>
    simp (disch := omega) [fb__law_number, startD, cl2__law_mixed, ea, eb, ec, ed, mod_p, div_s, mul_r, pow6, pow9, pow30, w, v, ixR] <;> omega
/-! ### fraction -/
/-- the same worth, in lowest terms -/
structure Low (top bottom t b : Int) : Prop where
  pos : 0 < b
  cross : t * bottom = top * b
  low : Nat.gcd t.natAbs b.natAbs = 1
  t_le : t.natAbs ≤ top.natAbs
  b_le : b.natAbs ≤ bottom.natAbs
theorem low_of (top bottom : Int) (hb : bottom ≠ 0) : ∃ x y : Int, top = (Nat.gcd top.natAbs bottom.natAbs : Int) * x ∧ bottom = (Nat.gcd top.natAbs bottom.natAbs : Int) * y ∧ 0 < Nat.gcd top.natAbs bottom.natAbs ∧ Nat.gcd x.natAbs y.natAbs = 1 ∧ x.natAbs ≤ top.natAbs ∧ y.natAbs ≤ bottom.natAbs ∧ y ≠ 0 := by
  have hg : 0 < Nat.gcd top.natAbs bottom.natAbs := Nat.gcd_pos_of_pos_right _ (by omega)
  obtain ⟨x, ex⟩ : ((Nat.gcd top.natAbs bottom.natAbs : Nat) : Int) ∣ top := Int.ofNat_dvd_left.mpr (Nat.gcd_dvd_left _ _)
  obtain ⟨y, ey⟩ : ((Nat.gcd top.natAbs bottom.natAbs : Nat) : Int) ∣ bottom := Int.ofNat_dvd_left.mpr (Nat.gcd_dvd_right _ _)
  generalize hG : Nat.gcd top.natAbs bottom.natAbs = g at *
  have ax : top.natAbs = g * x.natAbs := by rw [ex, Int.natAbs_mul]; rfl
  have ay : bottom.natAbs = g * y.natAbs := by rw [ey, Int.natAbs_mul]; rfl
  refine ⟨x, y, ex, ey, hg, ?_, ?_, ?_, ?_⟩
  · rw [ax, ay, Nat.gcd_mul_left] at hG
    exact Nat.eq_of_mul_eq_mul_left hg (by rw [hG, Nat.mul_one])
  · rw [ax]; exact Nat.le_mul_of_pos_left _ hg
  · rw [ay]; exact Nat.le_mul_of_pos_left _ hg
  · intro z
    rw [z, Int.mul_zero] at ey
    exact hb ey
theorem _law_low_ok (n : Nat) (top bottom : Int) (hb : bottom ≠ 0) (h1 : -2582249878086908589655919172003011874329705792829223512830659356540647622016841194629645353280137831435903171972747493376 < top) (h2 : top < 2582249878086908589655919172003011874329705792829223512830659356540647622016841194629645353280137831435903171972747493376) (h3 : -2582249878086908589655919172003011874329705792829223512830659356540647622016841194629645353280137831435903171972747493376 < bottom) (h4 : bottom < 2582249878086908589655919172003011874329705792829223512830659356540647622016841194629645353280137831435903171972747493376) :
    ∃ t b : Int, stcT.callL (n + 2) 10 [.int top, .int bottom] = .ok (.tup [.int t, .int b]) [] ∧ Low top bottom t b := by
  obtain ⟨x, y, ex, ey, hg, co, lx, ly, ny⟩ := low_of top bottom hb
  have e := _law_shared_ok n top.natAbs bottom.natAbs
  have gl : Nat.gcd top.natAbs bottom.natAbs ≤ bottom.natAbs := Nat.gcd_le_right _ (by omega)
  generalize Nat.gcd top.natAbs bottom.natAbs = g at *
  have g0 : (g : Int) ≠ 0 := by omega
  rw [run__law_low]
  by_cases neg : bottom < 0
  · have e1 : top.fdiv (-(g : Int)) = -x := by
      rw [ex, ← Int.neg_mul_neg]
      exact Int.mul_fdiv_cancel_left _ (by omega)
    have e2 : bottom.fdiv (-(g : Int)) = -y := by
      rw [ey, ← Int.neg_mul_neg]
      exact Int.mul_fdiv_cancel_left _ (by omega)
    refine ⟨-x, -y, ?_, ?_⟩
    · simp (disch := omega) [fb__law_low, startD, cl2__law_shared, absI_eq, e, hb, neg, div_nm, e1, e2]
    · refine ⟨?_, ?_, by simpa using co, by simpa using lx, by simpa using ly⟩
      · rcases Int.lt_or_gt_of_ne ny with z | z
        · omega
        · rw [ey] at neg
          have := Int.mul_pos (show (0 : Int) < g by omega) z
          omega
      · rw [ex, ey]
        grind
  · have e1 : top.fdiv (g : Int) = x := by
      rw [ex]
      exact Int.mul_fdiv_cancel_left _ g0
    have e2 : bottom.fdiv (g : Int) = y := by
      rw [ey]
      exact Int.mul_fdiv_cancel_left _ g0
    refine ⟨x, y, ?_, ?_⟩
    · simp (disch := omega) [fb__law_low, startD, cl2__law_shared, absI_eq, e, hb, neg, div_nm, e1, e2]
    · refine ⟨?_, ?_, co, lx, ly⟩
      · rcases Int.lt_or_gt_of_ne ny with z | z
        · have := Int.mul_neg_of_pos_of_neg (show (0 : Int) < g by omega) z
          rw [← ey] at this
          omega
        · omega
      · rw [ex, ey]
        simp [Int.mul_comm, Int.mul_left_comm]
@[simp] theorem whole2_int (n : Nat) (i : Int) : stcT.callL (n + 1) 7 [.int i] = .ok (.bl true) [] := by simp [run__law_whole, fb__law_whole, startD]
/-! ### the drawn fractions -/
theorem drawn_ok (n : Nat) (x y : Int) : ∃ t b : Int, stcT.callL (n + 3) 11 [.int x, .int y] = .ok (.tup [.int t, .int b]) [] ∧ 0 < b ∧ b < 2000000000000000000000000000000 ∧ -2000000000000000000000000000000 < t ∧ t < 2000000000000000000000000000000 := by
  obtain ⟨u, eu, u1, u2⟩ := number_ok n x 0 (by decide) (by decide)
  obtain ⟨v, ev, v1, v2⟩ := number_ok n y 4 (by decide) (by decide)
  obtain ⟨t, b, e, l⟩ := _law_low_ok n u (1 + v.natAbs) (by omega) (by omega) (by omega) (by omega) (by omega)
  have q1 := l.t_le
  have q2 := l.b_le
  have q3 := l.pos
  refine ⟨t, b, ?_, q3, by omega, by omega, by omega⟩
  simp [run__law_fraction, fb__law_fraction, startD, cl2__law_number, cl2__law_low, eu, ev, absI_eq, e]
theorem near_ok (n : Nat) (a b c : Int) (h1 : 0 < b) (h2 : b < 2000000000000000000000000000000) (h3 : -2000000000000000000000000000000 < a) (h4 : a < 2000000000000000000000000000000) :
    ∃ t d : Int, stcT.callL (n + 3) 12 [.tup [.int a, .int b], .int c] = .ok (.tup [.int t, .int d]) [] ∧ 0 < d ∧ d < 200000000000000000000000000000000 ∧ -200000000000000000000000000000000 < t ∧ t < 200000000000000000000000000000000 := by
  have w1 : ∃ s : Int, 1 + c / 7 % 9 = s ∧ 0 < s ∧ s < 10 := ⟨_, rfl, by omega, by omega⟩
  obtain ⟨s, hs, s1, s2⟩ := w1
  have m1 : -20000000000000000000000000000000 < a * s ∧ a * s < 20000000000000000000000000000000 := by
    have z : (a * s).natAbs ≤ 2000000000000000000000000000000 * 9 := by
      rw [Int.natAbs_mul]
      exact Nat.mul_le_mul (by omega) (by omega)
    omega
  have m2 : 0 < b * s ∧ b * s < 20000000000000000000000000000000 := by
    have z : (b * s).natAbs ≤ 2000000000000000000000000000000 * 9 := by
      rw [Int.natAbs_mul]
      exact Nat.mul_le_mul (by omega) (by omega)
    have := Int.mul_pos h1 s1
    omega
  have m3 : s * b = b * s := Int.mul_comm s b
  have go : ∀ x y : Int, 0 < y → y < 100000000000000000000000000000000 → -100000000000000000000000000000000 < x → x < 100000000000000000000000000000000 → ∃ t d : Int, stcT.callL (n + 2) 10 [.int x, .int y] = .ok (.tup [.int t, .int d]) [] ∧ 0 < d ∧ d < 200000000000000000000000000000000 ∧ -200000000000000000000000000000000 < t ∧ t < 200000000000000000000000000000000 := fun x y y1 y2 x1 x2 => by
    obtain ⟨t, d, e, l⟩ := _law_low_ok n x y (by omega) (by omega) (by omega) (by omega) (by omega)
    have q1 := l.t_le
    have q2 := l.b_le
    have q3 := l.pos
    exact ⟨t, d, e, q3, by omega, by omega, by omega⟩
  have w7 : c % 7 = 0 ∨ c % 7 = 1 ∨ c % 7 = 2 ∨ c % 7 = 3 ∨ c % 7 = 4 ∨ c % 7 = 5 ∨ c % 7 = 6 := by omega
  rcases w7 with w | w | w | w | w | w | w
  · obtain ⟨t, d, e, r⟩ := go a b (by omega) (by omega) (by omega) (by omega)
    exact ⟨t, d, by simp (disch := omega) [run__law_near, fb__law_near, startD, cl2__law_low, mod_p, div_s, mul_r, mul_l, ixR, absI_eq, hs, w, e], r⟩
  · obtain ⟨t, d, e, r⟩ := go (-a) b (by omega) (by omega) (by omega) (by omega)
    exact ⟨t, d, by simp (disch := omega) [run__law_near, fb__law_near, startD, cl2__law_low, mod_p, div_s, mul_r, mul_l, ixR, absI_eq, hs, w, e], r⟩
  · obtain ⟨t, d, e, r⟩ := go (a + s) b (by omega) (by omega) (by omega) (by omega)
    exact ⟨t, d, by simp (disch := omega) [run__law_near, fb__law_near, startD, cl2__law_low, mod_p, div_s, mul_r, mul_l, ixR, absI_eq, hs, w, e], r⟩
  · obtain ⟨t, d, e, r⟩ := go (a * s + 1) (b * s) (by omega) (by omega) (by omega) (by omega)
    exact ⟨t, d, by simp (disch := omega) [run__law_near, fb__law_near, startD, cl2__law_low, mod_p, div_s, mul_r, mul_l, ixR, absI_eq, hs, w, e], r⟩
  · obtain ⟨t, d, e, r⟩ := go b (1 + a.natAbs) (by omega) (by omega) (by omega) (by omega)
    exact ⟨t, d, by simp (disch := omega) [run__law_near, fb__law_near, startD, cl2__law_low, mod_p, div_s, mul_r, mul_l, ixR, absI_eq, hs, w, e], r⟩
  · obtain ⟨t, d, e, r⟩ := go (s * b - a) b (by omega) (by omega) (by omega) (by omega)
    exact ⟨t, d, by simp (disch := omega) [run__law_near, fb__law_near, startD, cl2__law_low, mod_p, div_s, mul_r, mul_l, ixR, absI_eq, hs, w, e], r⟩
  · obtain ⟨t, d, e, r⟩ := go 0 1 (by omega) (by omega) (by omega) (by omega)
    exact ⟨t, d, by simp (disch := omega) [run__law_near, fb__law_near, startD, cl2__law_low, mod_p, div_s, mul_r, mul_l, ixR, absI_eq, hs, w, e], r⟩
/-! ### figures -/
theorem fig_at (r : Nat) : ixD (.str "0123456789") (.int ((r : Int) % 10)) = .ok (.str ⟨#[48 + r % 10]⟩) := by
  have e : ((r : Int) % 10) = ((r % 10 : Nat) : Int) := by omega
  rw [e]
  have h : r % 10 < 10 := Nat.mod_lt _ (by decide)
  generalize r % 10 = d at h
  match d, h with
  | 0, _ => rfl
  | 1, _ => rfl
  | 2, _ => rfl
  | 3, _ => rfl
  | 4, _ => rfl
  | 5, _ => rfl
  | 6, _ => rfl
  | 7, _ => rfl
  | 8, _ => rfl
  | 9, _ => rfl
theorem dig_nat (m : Nat) : TL.tl (Str.ofString (toString ((m : Nat) : Int))) = TL.numL m := TL.tl_num m
theorem dig_neg (m : Nat) : TL.tl (Str.ofString (toString (-((m + 1 : Nat) : Int)))) = 45 :: TL.numL (m + 1) := by
  have e : toString (-((m + 1 : Nat) : Int)) = "-" ++ toString ((m + 1 : Nat) : Int) := rfl
  have e2 : TL.tl (Str.ofString (toString ((m + 1 : Nat) : Int))) = TL.numL (m + 1) := TL.tl_num (m + 1)
  rw [Str.ofString_eq_toList] at e2
  rw [e, Str.ofString_eq_toList, String.toList_append, List.map_append]
  have e3 : (toString ((m + 1 : Nat) : Int)).toList.map Char.toNat = TL.numL (m + 1) := by simpa [TL.tl] using e2
  show (("-".toList.map Char.toNat) ++ (toString ((m + 1 : Nat) : Int)).toList.map Char.toNat) = _
  rw [e3]
  rfl
/-- the loop that takes figures off -/
theorem fig_loop (T : Tb) (k : Nat) (xb : Xb) : ∀ (r : Nat) (f : List Nat) (z : D), (0 < r ∨ f = []) → (TL.numL r).length + f.length ≤ 100000 →
    evS T xb k [] (.whl [1, 2] (.or (.cons (.cmp .Gt (.v 2) (.int 0)) (.cons (.cmp .Eq (.v 1) (.str "")) .nil))) (.cons (.set (.one 1) [1, 2] (.bin .Add (.idx (.str "0123456789") (.bin .Mod (.v 2) (.int 10))) (.v 1))) (.cons (.set (.one 2) [2] (.bin .FloorDiv (.v 2) (.int 10))) .nil))) [some z, some (.str ⟨f.toArray⟩), some (.int r)] =
      .nx [some z, some (.str ⟨(TL.numL r ++ f).toArray⟩), some (.int 0)] := by
  intro r
  induction r using Nat.strongRecOn with
  | ind r ih =>
    intro f z h l
    have ne : TL.numL r ≠ [] := TL.numL_ne r
    have ll : f.length ≤ 100000 := by omega
    have cat : (⟨#[48 + r % 10]⟩ : Str) ++ (⟨f.toArray⟩ : Str) = ⟨((48 + r % 10) :: f).toArray⟩ := TL.ext_tl (by rw [TL.tl_append]; rfl)
    have lc : (⟨#[48 + r % 10]⟩ : Str).length + (⟨f.toArray⟩ : Str).length ≤ 1000000 := by
      show 1 + f.toArray.size ≤ 1000000
      rw [List.size_toArray]
      omega
    rw [es_whl, whl_go (δ2 := [some z, some (.str ⟨((48 + r % 10) :: f).toArray⟩), some (.int (r / 10 : Nat))])]
    · by_cases h10 : 10 ≤ r
      · have q := ih (r / 10) (by omega) ((48 + r % 10) :: f) z (.inl (by omega)) (by
          rw [TL.numL_step h10, List.length_append] at l
          simp only [List.length_cons, List.length_nil] at l ⊢
          omega)
        rw [es_whl] at q
        rw [q, TL.numL_step h10, List.append_assoc]
        rfl
      · have e0 : r / 10 = 0 := by omega
        have e1 : r % 10 = r := by omega
        rw [e0, e1, TL.numL_lt (by omega), whl_end]
        · rfl
        · have nn : ((⟨((48 + r) :: f).toArray⟩ : Str) == ("" : Str)) = false := by
            rw [beq_eq_false_iff_ne]
            intro w
            have w2 := congrArg TL.tl w
            cases w2
          simp [nn]
    · rcases h with h | h
      · simp [h]
      · subst h
        by_cases h0 : 0 < r
        · simp [h0]
        · have ee : ((⟨([] : List Nat).toArray⟩ : Str) == ("" : Str)) = true := by rfl
          simp [h0, ee]
    · simp (disch := first | assumption | omega) [mod_p, div_s, fig_at, add_str, cat]
theorem minus_0 : slD (.str "-") none (some 0) = .ok (.str "") := by rfl
theorem minus_1 : slD (.str "-") none (some 1) = .ok (.str "-") := by rfl
theorem num_len {i : Int} (h1 : -200000000000000000000000000000000 < i) (h2 : i < 200000000000000000000000000000000) : (TL.numL i.natAbs).length ≤ 100 := Nat.le_trans (TL.numL_len (k := 40) (by decide) (by omega)) (by decide)
theorem figures_ok (n : Nat) (i : Int) (h1 : -200000000000000000000000000000000 < i) (h2 : i < 200000000000000000000000000000000) : stcT.callL (n + 1) 13 [.int i] = .ok (.str (toString i)) [] := by
  have nl := num_len h1 h2
  have q := fig_loop (stcT.at n) n stcT.xb i.natAbs [] (.int i) (.inr rfl) (by simp; omega)
  rw [List.append_nil] at q
  have a1 : evS (stcT.at n) stcT.xb n [] (.set (.one 1) [] (.str "")) [some (.int i), none, none] = .nx [some (.int i), some (.str ⟨([] : List Nat).toArray⟩), none] := rfl
  have a2 : evS (stcT.at n) stcT.xb n [] (.set (.one 2) [0] (.blt .abs (.cons (.v 0) .nil))) [some (.int i), some (.str ⟨([] : List Nat).toArray⟩), none] = .nx [some (.int i), some (.str ⟨([] : List Nat).toArray⟩), some (.int (i.natAbs : Nat))] := by simp [absI_eq]
  rw [run__law_figures]
  unfold fb__law_figures
  rw [show startD ["_law_number_here", "_law_found", "_law_rest"] [.int i] = [some (.int i), none, none] from rfl, es_cons, a1, SR.bind_nx, es_cons, a2, SR.bind_nx, es_cons, q, SR.bind_nx]
  have ls : ∀ x : Str, x.length ≤ 1 → x.length + (⟨(TL.numL i.natAbs).toArray⟩ : Str).length ≤ 1000000 := fun x lx => by
    have : (⟨(TL.numL i.natAbs).toArray⟩ : Str).length = (TL.numL i.natAbs).length := by
      rw [TL.len_tl]
    omega
  by_cases neg : i < 0
  · obtain ⟨m, rfl⟩ : ∃ m : Nat, i = -((m + 1 : Nat) : Int) := ⟨i.natAbs - 1, by omega⟩
    have e : ("-" : Str) ++ (⟨(TL.numL (-((m + 1 : Nat) : Int)).natAbs).toArray⟩ : Str) = Str.ofString (toString (-((m + 1 : Nat) : Int))) := TL.ext_tl (by
      rw [TL.tl_append, dig_neg]
      show 45 :: TL.numL (-((m + 1 : Nat) : Int)).natAbs = _
      rw [show (-((m + 1 : Nat) : Int)).natAbs = m + 1 by omega])
    have l1 := ls "-" (by decide)
    generalize -((m + 1 : Nat) : Int) = i at *
    simp [neg, optD, oInt, minus_1, add_str l1, e]
  · obtain ⟨m, rfl⟩ : ∃ m : Nat, i = (m : Int) := ⟨i.natAbs, by omega⟩
    have e : ("" : Str) ++ (⟨(TL.numL ((m : Nat) : Int).natAbs).toArray⟩ : Str) = Str.ofString (toString ((m : Nat) : Int)) := TL.ext_tl (by
      rw [TL.tl_append, dig_nat]
      rfl)
    have l1 := ls "" (by decide)
    generalize ((m : Nat) : Int) = i at *
    simp [neg, optD, oInt, minus_0, add_str l1, e]
/-! ### one fraction -/
structure In (a b : Int) : Prop where
  pos : 0 < b
  b_lt : b < 200000000000000000000000000000000
  a_gt : -200000000000000000000000000000000 < a
  a_lt : a < 200000000000000000000000000000000
theorem floor_in {a b : Int} (h : 0 < b) : a / b * b ≤ a ∧ a < (a / b + 1) * b ∧ (a / b).natAbs ≤ a.natAbs := by
  have h1 := Int.ediv_mul_le a (show b ≠ 0 by omega)
  have h2 := Int.lt_ediv_add_one_mul_self a h
  refine ⟨h1, h2, ?_⟩
  by_cases p : 0 ≤ a
  · have q1 := Int.ediv_le_self b p
    have q2 := Int.ediv_nonneg p (Int.le_of_lt h)
    omega
  · have q1 : a ≤ a / b := (Int.le_ediv_iff_mul_le h).mpr (by
      have := Int.mul_le_mul_of_nonpos_left (a := a) (b := b) (c := 1) (by omega) (by omega)
      rw [Int.mul_one] at this
      exact this)
    have q2 : a / b < 0 := Int.ediv_neg_of_neg_of_pos (by omega) h
    omega
/-- a whole number's text -/
def txt (i : Int) : Str := Str.ofString (toString i)
theorem txt_len {i : Int} (h1 : -200000000000000000000000000000000 < i) (h2 : i < 200000000000000000000000000000000) : (txt i).length ≤ 200 := by
  have nl := num_len h1 h2
  rw [TL.len_tl]
  unfold txt
  by_cases neg : i < 0
  · obtain ⟨m, rfl⟩ : ∃ m : Nat, i = -((m + 1 : Nat) : Int) := ⟨i.natAbs - 1, by omega⟩
    rw [dig_neg]
    rw [show (-((m + 1 : Nat) : Int)).natAbs = m + 1 by omega] at nl
    rw [List.length_cons]
    omega
  · obtain ⟨m, rfl⟩ : ∃ m : Nat, i = (m : Int) := ⟨i.natAbs, by omega⟩
    rw [dig_nat]
    rw [show ((m : Nat) : Int).natAbs = m by omega] at nl
    omega
theorem figs_ok (n : Nat) (i : Int) (h1 : -200000000000000000000000000000000 < i) (h2 : i < 200000000000000000000000000000000) : stcT.callL (n + 1) 13 [.int i] = .ok (.str (txt i)) [] := figures_ok n i h1 h2
theorem str_t {i : Int} (h1 : -200000000000000000000000000000000 < i) (h2 : i < 200000000000000000000000000000000) : bltD .str [.int i] = .ok (.str (txt i)) := str_m (by omega) (by omega)
theorem slash_len {x y : Str} (hx : x.length ≤ 200) (hy : y.length ≤ 200) : x.length + ("/" : Str).length ≤ 1000000 ∧ (x ++ "/").length + y.length ≤ 1000000 := by
  have e : ("/" : Str).length = 1 := by decide
  have e2 : (x ++ "/").length = x.length + ("/" : Str).length := by
    rw [TL.len_tl, TL.len_tl, TL.len_tl, TL.tl_append, List.length_append]
  omega
theorem shown_ok (n : Nat) {a b : Int} (h : In a b) : stcT.callL (n + 1) 4 [.tup [.int a, .int b]] = .ok (.str (if b = 1 then txt a else txt a ++ "/" ++ txt b)) [] := by
  obtain ⟨h1, h2, h3, h4⟩ := h
  have s1 := str_t h3 h4
  have s2 := str_t (show -200000000000000000000000000000000 < b by omega) h2
  obtain ⟨l1, l2⟩ := slash_len (txt_len h3 h4) (txt_len (show -200000000000000000000000000000000 < b by omega) h2)
  by_cases e : b = 1
  · subst e
    simp [run_shown_fraction, fb_shown_fraction, startD, ixR, s1]
  · simp [run_shown_fraction, fb_shown_fraction, startD, ixR, s1, s2, e, add_str l1, add_str l2]
def lo3 (a b : Int) : Prop := a / b * b ≤ a ∧ a < (a / b + 1) * b ∧ -200000000000000000000000000000000 < a / b ∧ a / b < 200000000000000000000000000000000
def hi3 (a b : Int) : Prop := (-(-a / b) - 1) * b < a ∧ a ≤ -(-a / b) * b ∧ -200000000000000000000000000000000 < -(-a / b) ∧ -(-a / b) < 200000000000000000000000000000000
theorem alone_go (n : Nat) {a b : Int} (h1 : 0 < b) (h2 : b < 200000000000000000000000000000000) (h3 : -200000000000000000000000000000000 < a) (h4 : a < 200000000000000000000000000000000) (b1 : lo3 a b) (b2 : hi3 a b)
    (dn : stcT.callL (n + 1) 2 [.tup [.int a, .int b]] = .ok (.int (a / b)) []) (up : stcT.callL (n + 1) 3 [.tup [.int a, .int b]] = .ok (.int (-(-a / b))) []) (sg : stcT.callL (n + 1) 1 [.tup [.int a, .int b]] = .ok (.int ((if 0 < a then 1 else 0) - (if a < 0 then 1 else 0))) [])
    (f1 : stcT.callL (n + 1) 13 [.int a] = .ok (.str (txt a)) []) (f2 : stcT.callL (n + 1) 13 [.int b] = .ok (.str (txt b)) [])
    (sh : stcT.callL (n + 1) 4 [.tup [.int a, .int b]] = .ok (.str (if b = 1 then txt a else txt a ++ "/" ++ txt b)) []) : stcT.callL (n + 2) 14 [.tup [.int a, .int b]] = .ok (.bl true) [] := by
  obtain ⟨d1, d2, d3, d4⟩ := b1
  obtain ⟨e1, e2, e3, e4⟩ := b2
  obtain ⟨l1, l2⟩ := slash_len (txt_len h3 h4) (txt_len (show -200000000000000000000000000000000 < b by omega) h2)
  generalize a / b = lo at *
  generalize -(-a / b) = hi at *
  have sgn : (0 < a ∧ ¬ a < 0) ∨ (¬ 0 < a ∧ a < 0) ∨ (¬ 0 < a ∧ ¬ a < 0) := by omega
  by_cases e : b = 1
  · have nb : ¬ 1 < b := by omega
    rw [if_pos e] at sh
    rcases sgn with ⟨s1, s2⟩ | ⟨s1, s2⟩ | ⟨s1, s2⟩ <;> simp only [s1, s2, if_true, if_false, Int.sub_zero, Int.zero_sub] at sg <;>
      simp (disch := omega) [run__law_alone, fb__law_alone, startD, cl1_down, cl1_up, cl1_sign, cl1__law_figures, cl1_shown_fraction, cl1__law_whole, dn, up, sg, f1, f2, sh, ixR, mul_m, mul_l, d1, d2, e1, e2, s1, s2, nb]
  · have nb : 1 < b := by omega
    rw [if_neg e] at sh
    rcases sgn with ⟨s1, s2⟩ | ⟨s1, s2⟩ | ⟨s1, s2⟩ <;> simp only [s1, s2, if_true, if_false, Int.sub_zero, Int.zero_sub] at sg <;>
      simp (disch := omega) [run__law_alone, fb__law_alone, startD, cl1_down, cl1_up, cl1_sign, cl1__law_figures, cl1_shown_fraction, cl1__law_whole, dn, up, sg, f1, f2, sh, ixR, mul_m, mul_l, d1, d2, e1, e2, s1, s2, nb, add_str l1, add_str l2]
theorem less_ok (n : Nat) {a b c d : Int} (h : In a b) (g : In c d) : stcT.callL (n + 2) 15 [.tup [.int a, .int b], .tup [.int c, .int d]] = .ok (.bl true) [] := by
  obtain ⟨h1, h2, h3, h4⟩ := h
  obtain ⟨g1, g2, g3, g4⟩ := g
  have e : stcT.callL (n + 1) 0 [.tup [.int a, .int b], .tup [.int c, .int d]] = .ok (.bl (decide (a * d < c * b))) [] := by
    simp (disch := omega) [run_less, fb_less, startD, ixR, mul_m]
  simp (disch := omega) [run__law_less, fb__law_less, startD, ixR, cl2_less, mul_m, e]
theorem alone_ok (n : Nat) {a b : Int} (h : In a b) : stcT.callL (n + 2) 14 [.tup [.int a, .int b]] = .ok (.bl true) [] := by
  have sh := shown_ok n h
  obtain ⟨h1, h2, h3, h4⟩ := h
  obtain ⟨d1, d2, d3⟩ := floor_in (a := a) h1
  obtain ⟨u1, u2, u3⟩ := floor_in (a := -a) h1
  have dn : stcT.callL (n + 1) 2 [.tup [.int a, .int b]] = .ok (.int (a / b)) [] := by
    simp (disch := omega) [run_down, fb_down, startD, ixR, div_m]
  have up : stcT.callL (n + 1) 3 [.tup [.int a, .int b]] = .ok (.int (-(-a / b))) [] := by
    simp (disch := omega) [run_up, fb_up, startD, ixR, div_m]
  have sg : stcT.callL (n + 1) 1 [.tup [.int a, .int b]] = .ok (.int ((if 0 < a then 1 else 0) - (if a < 0 then 1 else 0))) [] := by
    simp [run_sign, fb_sign, startD, ixR]
  have f1 := figs_ok n a h3 h4
  have f2 := figs_ok n b (by omega) h2
  have v1 : ¬ a < a / b * b := by omega
  have v3 : (-(-a / b) - 1) * b < a := by
    rw [Int.sub_mul, Int.neg_mul, Int.one_mul]
    rw [Int.add_mul, Int.one_mul] at u2
    omega
  have v4 : a ≤ -(-a / b) * b := by
    rw [Int.neg_mul]
    omega
  have b1 : lo3 a b := ⟨d1, d2, by omega, by omega⟩
  have b2 : hi3 a b := ⟨v3, v4, by omega, by omega⟩
  exact alone_go n h1 h2 h3 h4 b1 b2 dn up sg f1 f2 sh
theorem law_ok (n : Nat) (ns : List Int) : stcT.callL (n + 5) 16 [.lst false (ns.map D.int)] = .ok (.bl true) [] := by
  obtain ⟨a, b, e1, h1, h2, h3, h4⟩ := drawn_ok (n + 1) (ns.getD 0 0) (ns.getD 1 0)
  obtain ⟨c, d, e2, g1, g2, g3, g4⟩ := drawn_ok (n + 1) (ns.getD 2 0) (ns.getD 3 0)
  obtain ⟨x, y, e3, f1, f2, f3, f4⟩ := near_ok (n + 1) a b (ns.getD 4 0 / 2) h1 h2 h3 h4
  have k0 : stcT.callL (n + 4) 5 [.lst false (ns.map D.int), .int 0] = .ok (.int (ns.getD 0 0)) [] := cell_ok (n + 3) ns 0
  have k1 : stcT.callL (n + 4) 5 [.lst false (ns.map D.int), .int 1] = .ok (.int (ns.getD 1 0)) [] := cell_ok (n + 3) ns 1
  have k2 : stcT.callL (n + 4) 5 [.lst false (ns.map D.int), .int 2] = .ok (.int (ns.getD 2 0)) [] := cell_ok (n + 3) ns 2
  have k3 : stcT.callL (n + 4) 5 [.lst false (ns.map D.int), .int 3] = .ok (.int (ns.getD 3 0)) [] := cell_ok (n + 3) ns 3
  have k4 : stcT.callL (n + 4) 5 [.lst false (ns.map D.int), .int 4] = .ok (.int (ns.getD 4 0)) [] := cell_ok (n + 3) ns 4
  generalize ns.getD 0 0 = x0 at *
  generalize ns.getD 1 0 = x1 at *
  generalize ns.getD 2 0 = x2 at *
  generalize ns.getD 3 0 = x3 at *
  generalize ns.getD 4 0 = x4 at *
  have i1 : In a b := ⟨h1, by omega, by omega, by omega⟩
  have i0 : In 0 1 := ⟨by decide, by decide, by decide, by decide⟩
  have a1 := alone_ok (n + 2) i1
  have a0 := alone_ok (n + 2) i0
  rcases (show x4 % 2 = 1 ∨ x4 % 2 = 0 by omega) with w | w
  · have i2 : In x y := ⟨f1, by omega, by omega, by omega⟩
    have a2 := alone_ok (n + 2) i2
    have q1 := less_ok (n + 2) i1 i2
    have q2 := less_ok (n + 2) i2 i1
    have q3 := less_ok (n + 2) i1 i1
    have q4 := less_ok (n + 2) i2 i0
    simp (disch := omega) [run_law, fb_law, startD, frzs_ints, cl2__law_cell_at, cl2__law_fraction, cl2__law_near, cl1__law_alone, cl2__law_less, k0, k1, k2, k3, k4, e1, e2, e3, a0, a1, a2, q1, q2, q3, q4, mod_p, div_s, w]
  · have i2 : In c d := ⟨g1, by omega, by omega, by omega⟩
    have a2 := alone_ok (n + 2) i2
    have q1 := less_ok (n + 2) i1 i2
    have q2 := less_ok (n + 2) i2 i1
    have q3 := less_ok (n + 2) i1 i1
    have q4 := less_ok (n + 2) i2 i0
    simp (disch := omega) [run_law, fb_law, startD, frzs_ints, cl2__law_cell_at, cl2__law_fraction, cl2__law_near, cl1__law_alone, cl2__law_less, k0, k1, k2, k3, k4, e1, e2, e3, a0, a1, a2, q1, q2, q3, q4, mod_p, div_s, w]
end Pg
theorem PySem.Challenge.cw_planwell_k03_compared_and_shown_holds : PySem.Challenge.rw_planwell_k03_compared_and_shown.Holds :=
  law_of 5 ⟨rfl, by decide, by decide⟩ fun ns _ _ => Pg.law_ok 0 ns
