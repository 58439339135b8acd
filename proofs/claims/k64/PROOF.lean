import PyProof.Rows.All
import Wide.All
import OpenK.AllK
import Wide.FinOn
import HandS.ForMost
import HandS.Exc
import HandS.Walk
import HandS.HeadHook2
import HandS.TupAny
import HandS.Deep
import HandS.SortKw
import HandS.IsInst
import KE.DataEq
import KE.DataCmp
import HandS.Style
import HandS.Flow
import HandS.ExcOwn
import HandS.TryMany
import HandS.TryOnly
import HandS.Defaults
import HandS.Head2
import PyProof.Rows.MatchSeqLen
import HandS.Wide
import HandS.HeadEnd
import PySem.Challenge.RW_slipscaught_k64_judge_of_following
set_option Elab.async false
set_option linter.all false
set_option maxRecDepth 100000
set_option maxHeartbeats 0
/-! DL1: data level: values as trees, what stands for what, what is frozen and what may still be changed -/
namespace DL
open PySem PySem.Spec L2

abbrev D := PyData
/-- the end of an expression -/
inductive R (α : Type) where
  | ok (a : α) | exc (c : Str) (fs : List (Str × D)) | bad
def R.bind {α β : Type} : R α → (α → R β) → R β
  | .ok a, f => f a
  | .exc c fs, _ => .exc c fs
  | .bad, _ => .bad
@[simp] theorem R.bind_ok {α β : Type} (a : α) (f : α → R β) : (R.ok a).bind f = f a := rfl
@[simp] theorem R.bind_exc {α β : Type} (c : Str) (fs : List (Str × D)) (f : α → R β) : (R.exc c fs : R α).bind f = .exc c fs := rfl
@[simp] theorem R.bind_bad {α β : Type} (f : α → R β) : (R.bad : R α).bind f = .bad := rfl
abbrev DEnv := List (Option D)
/-- the end of a statement -/
inductive Flow where
  | nx (e : DEnv) | rt (d : D) | bk (e : DEnv) | ct (e : DEnv) | ex (c : Str) (fs : List (Str × D)) (e : DEnv) | bad
abbrev ED := DEnv → R D
abbrev TD := DEnv → R Bool
abbrev AD := DEnv → R (List D)
abbrev SD := DEnv → Flow

/-! ### heaps -/
/-- what is read in F is read in H -/
structure Le (F H : Hp) : Prop where
  rd : ∀ a u, Rd F a u → Rd H a u
  ins : ∀ a C dx fs, F a = some (.ins C dx fs) → H a = some (.ins C dx fs)
  lst : ∀ a xs, F a = some (.lst xs) → H a = some (.lst xs)
theorem Le.refl {F : Hp} : Le F F := ⟨fun _ _ h => h, fun _ _ _ _ h => h, fun _ _ h => h⟩
theorem Le.trans {F G H : Hp} (a : Le F G) (b : Le G H) : Le F H := ⟨fun x u h => b.rd x u (a.rd x u h), fun x C dx fs h => b.ins x C dx fs (a.ins x C dx fs h), fun x xs h => b.lst x xs (a.lst x xs h)⟩
theorem Rd.some {H : Hp} {a : Addr} {u : HO} (h : Rd H a u) : H a ≠ none := by
  rcases h with h | ⟨o, h⟩ <;> (rw [h]; intro z; cases z)
theorem Rd.of_ne {H : Hp} {a : Addr} (h : H a ≠ none) : ∃ u, Rd H a u := by
  cases e : H a with
  | none => exact absurd e h
  | some u => exact ⟨u, .inl e⟩
theorem Le.none {F H : Hp} (l : Le F H) {a : Addr} (h : H a = none) : F a = none := by
  cases e : F a with
  | none => rfl
  | some u => exact absurd h (Rd.some (l.rd a u (.inl e)))
/-- every tracked object stands as it is -/
def Ext (H H' : Hp) : Prop := ∀ a o, H a = some o → H' a = some o
theorem Ext.refl {H : Hp} : Ext H H := fun _ _ h => h
theorem Ext.trans {H G J : Hp} (a : Ext H G) (b : Ext G J) : Ext H J := fun x o h => b x o (a x o h)
theorem Ext.le {H H' : Hp} (e : Ext H H') : Le H H' := ⟨fun a u h => h.elim (fun h => .inl (e a _ h)) fun ⟨o, h⟩ => .inr ⟨o, e a _ h⟩, fun a _ _ _ h => e a _ h, fun a _ h => e a _ h⟩
theorem Ext.none {H H' : Hp} (e : Ext H H') {a : Addr} (h : H' a = none) : H a = none := e.le.none h
theorem ext_upd {H : Hp} {a : Addr} {o : HO} (h : H a = none) : Ext H (upd H a o) := fun b u e => by rw [upd_ne (ne_of_none e h)]; exact e

/-! ### what stands for a datum -/
/-- the datum of a key -/
def keyD : Key → D
  | .inl i => .int i
  | .inr s => .str s
section
variable (K : PySem.W.Frag)
mutual
inductive Rep (F : Hp) : V → D → Prop
  | non : Rep F .non .none
  | bl (b : Bool) : Rep F (.bl b) (.bool b)
  | int (i : Int) : Rep F (.int i) (.int i)
  | str (s : Str) : Rep F (.str s) (.str s)
  | lst {a : Addr} {xs : List V} {ds : List D} : F a = some (.lst xs) → RepL F xs ds → Rep F (.ref a) (.list ds)
  | tup {a : Addr} {xs : List V} {ds : List D} : SqT K F a xs → RepL F xs ds → Rep F (.ref a) (.tuple ds)
  | dK {a : Addr} {kvs : List (Key × V)} {ds : List (D × D)} : Rd F a (.dK kvs) → RepK F kvs ds → Rep F (.ref a) (.dict ds)
  | dT {a : Addr} {kvs : List (List Key × V)} {ds : List (D × D)} : Rd F a (.dT kvs) → RepT F kvs ds → Rep F (.ref a) (.dict ds)
  | obj {a dx : Addr} {c : Str} {fs : List (Str × V)} {ds : List (D × D)} : F a = some (.ins (He.ga K c) dx fs) → RepF F fs ds → Rep F (.ref a) (.dict ((.none, .str c) :: ds))
  | scr {a : Addr} {ns : List Int} : SqL K F a (ns.map V.int) → Rep F (.ref a) (.dict [(.bool true, .list (ns.map .int))])
inductive RepL (F : Hp) : List V → List D → Prop
  | nil : RepL F [] []
  | cons {v : V} {vs : List V} {d : D} {ds : List D} : Rep F v d → RepL F vs ds → RepL F (v :: vs) (d :: ds)
inductive RepK (F : Hp) : List (Key × V) → List (D × D) → Prop
  | nil : RepK F [] []
  | cons {k : Key} {v : V} {vs : List (Key × V)} {d : D} {ds : List (D × D)} : Rep F v d → RepK F vs ds → RepK F ((k, v) :: vs) ((keyD k, d) :: ds)
inductive RepT (F : Hp) : List (List Key × V) → List (D × D) → Prop
  | nil : RepT F [] []
  | cons {k : List Key} {v : V} {vs : List (List Key × V)} {d : D} {ds : List (D × D)} : Rep F v d → RepT F vs ds → RepT F ((k, v) :: vs) ((.tuple (k.map keyD), d) :: ds)
inductive RepF (F : Hp) : List (Str × V) → List (D × D) → Prop
  | nil : RepF F [] []
  | cons {k : Str} {v : V} {vs : List (Str × V)} {d : D} {ds : List (D × D)} : Rep F v d → RepF F vs ds → RepF F ((k, v) :: vs) ((.str k, d) :: ds)
end
end
section
variable {K : PySem.W.Frag} {F G : Hp}
theorem SqL.le (l : Le F G) {a : Addr} {xs : List V} (h : SqL K F a xs) : SqL K G a xs := h.elim (fun h => .inl (l.rd _ _ h)) .inr
theorem SqT.le (l : Le F G) {a : Addr} {xs : List V} (h : SqT K F a xs) : SqT K G a xs := h.elim (fun h => .inl (l.rd _ _ h)) .inr
mutual
theorem Rep.le (l : Le F G) : ∀ (d : D) (v : V), Rep K F v d → Rep K G v d
  | .none, _, h => by cases h; exact .non
  | .bool b, _, h => by cases h; exact .bl b
  | .int b, _, h => by cases h; exact .int b
  | .str b, _, h => by cases h; exact .str b
  | .list ds, _, h => by
    cases h with
    | lst a b => exact .lst (l.lst _ _ a) (RepL.le l ds _ b)
  | .tuple ds, _, h => by
    cases h with
    | tup a b => exact .tup (SqT.le l a) (RepL.le l ds _ b)
  | .dict ds, _, h => by
    cases h with
    | dK a b => exact .dK (l.rd _ _ a) (RepK.le l ds _ b)
    | dT a b => exact .dT (l.rd _ _ a) (RepT.le l ds _ b)
    | obj a b => exact .obj (l.ins _ _ _ _ a) (RepF.le l _ _ b)
    | scr a => exact .scr (SqL.le l a)
theorem RepL.le (l : Le F G) : ∀ (ds : List D) (vs : List V), RepL K F vs ds → RepL K G vs ds
  | [], _, h => by cases h; exact .nil
  | d :: ds, _, h => by
    cases h with
    | cons a b => exact .cons (Rep.le l d _ a) (RepL.le l ds _ b)
theorem RepK.le (l : Le F G) : ∀ (ds : List (D × D)) (vs : List (Key × V)), RepK K F vs ds → RepK K G vs ds
  | [], _, h => by cases h; exact .nil
  | (k, d) :: ds, _, h => by
    cases h with
    | cons a b => exact .cons (Rep.le l d _ a) (RepK.le l ds _ b)
theorem RepT.le (l : Le F G) : ∀ (ds : List (D × D)) (vs : List (List Key × V)), RepT K F vs ds → RepT K G vs ds
  | [], _, h => by cases h; exact .nil
  | (k, d) :: ds, _, h => by
    cases h with
    | cons a b => exact .cons (Rep.le l d _ a) (RepT.le l ds _ b)
theorem RepF.le (l : Le F G) : ∀ (ds : List (D × D)) (vs : List (Str × V)), RepF K F vs ds → RepF K G vs ds
  | [], _, h => by cases h; exact .nil
  | (k, d) :: ds, _, h => by
    cases h with
    | cons a b => exact .cons (Rep.le l d _ a) (RepF.le l ds _ b)
end
theorem RepL.length : ∀ {vs : List V} {ds : List D}, RepL K F vs ds → vs.length = ds.length
  | _, _, .nil => rfl
  | _, _, .cons _ t => congrArg Nat.succ (RepL.length t)
theorem RepL.get : ∀ {vs : List V} {ds : List D} {i : Nat} {d : D}, RepL K F vs ds → ds[i]? = some d → ∃ v, vs[i]? = some v ∧ Rep K F v d
  | _, _, i, _, .nil, e => by simp at e
  | _, _, 0, _, .cons r _, e => by simp at e; subst e; exact ⟨_, rfl, r⟩
  | _, _, i + 1, d, .cons _ t, e => by
    obtain ⟨v, h1, h2⟩ := RepL.get (i := i) (d := d) t (by simpa using e)
    exact ⟨v, by simpa using h1, h2⟩
theorem RepL.append : ∀ {vs us : List V} {ds es : List D}, RepL K F vs ds → RepL K F us es → RepL K F (vs ++ us) (ds ++ es)
  | _, _, _, _, .nil, s => s
  | _, _, _, _, .cons r t, s => .cons r (RepL.append t s)
end
end DL

/-! DL2: what is owned, the relation of slots and data, the judgements -/
namespace DL
open PySem PySem.Spec L2

/-- sh: frozen; ow g: the object itself is ours, its parts are as g says -/
inductive G where
  | sh | ow (g : G)
  deriving DecidableEq
inductive Atom : V → D → Prop
  | non : Atom .non .none
  | bl (b : Bool) : Atom (.bl b) (.bool b)
  | int (i : Int) : Atom (.int i) (.int i)
  | str (s : Str) : Atom (.str s) (.str s)
section
variable (K : PySem.W.Frag)
mutual
inductive RepG (F H : Hp) : V → D → G → List Addr → Prop
  | sh {v : V} {d : D} : Rep K F v d → RepG F H v d .sh []
  | at_ {v : V} {d : D} {g : G} : Atom v d → RepG F H v d (.ow g) []
  | lst {a : Addr} {xs : List V} {ds : List D} {g : G} {S : List Addr} : H a = some (.lst xs) → RepGL F H xs ds g S → a ∉ S → RepG F H (.ref a) (.list ds) (.ow g) (a :: S)
  | tup {a : Addr} {xs : List V} {ds : List D} {g : G} {S : List Addr} : H a = some (.tup xs) → RepGL F H xs ds g S → a ∉ S → RepG F H (.ref a) (.tuple ds) (.ow g) (a :: S)
  | dK {a : Addr} {kvs : List (Key × V)} {ds : List (D × D)} {g : G} {S : List Addr} : H a = some (.dK kvs) → ds.map (·.1) = kvs.map (fun p => keyD p.1) → RepGL F H (kvs.map (·.2)) (ds.map (·.2)) g S → a ∉ S → RepG F H (.ref a) (.dict ds) (.ow g) (a :: S)
  | dT {a : Addr} {kvs : List (List Key × V)} {ds : List (D × D)} {g : G} {S : List Addr} : H a = some (.dT kvs) → ds.map (·.1) = kvs.map (fun p => .tuple (p.1.map keyD)) → RepGL F H (kvs.map (·.2)) (ds.map (·.2)) g S → a ∉ S → RepG F H (.ref a) (.dict ds) (.ow g) (a :: S)
inductive RepGL (F H : Hp) : List V → List D → G → List Addr → Prop
  | nil {g : G} : RepGL F H [] [] g []
  | cons {v : V} {vs : List V} {d : D} {ds : List D} {g : G} {S T : List Addr} : RepG F H v d g S → RepGL F H vs ds g T → (∀ a ∈ S, a ∉ T) → RepGL F H (v :: vs) (d :: ds) g (S ++ T)
end
end
section
variable {K : PySem.W.Frag} {F F' H H' : Hp}
theorem Atom.rep {v : V} {d : D} (a : Atom v d) : Rep K F v d := by
  cases a
  · exact .non
  · exact .bl _
  · exact .int _
  · exact .str _
mutual
/-- moved to other heaps that keep the footprint -/
theorem RepG.mv (l : Le F F') : ∀ {v : V} {d : D} {g : G} {S : List Addr}, RepG K F H v d g S → (∀ a ∈ S, ∀ o, H a = some o → H' a = some o) → RepG K F' H' v d g S
  | _, _, _, _, .sh r, _ => .sh (Rep.le l _ _ r)
  | _, _, _, _, .at_ a, _ => .at_ a
  | _, _, _, _, .lst h r n, k => .lst (k _ (by simp) _ h) (RepGL.mv l r fun a ha => k a (by simp [ha])) n
  | _, _, _, _, .tup h r n, k => .tup (k _ (by simp) _ h) (RepGL.mv l r fun a ha => k a (by simp [ha])) n
  | _, _, _, _, .dK h e r n, k => .dK (k _ (by simp) _ h) e (RepGL.mv l r fun a ha => k a (by simp [ha])) n
  | _, _, _, _, .dT h e r n, k => .dT (k _ (by simp) _ h) e (RepGL.mv l r fun a ha => k a (by simp [ha])) n
theorem RepGL.mv (l : Le F F') : ∀ {v : List V} {d : List D} {g : G} {S : List Addr}, RepGL K F H v d g S → (∀ a ∈ S, ∀ o, H a = some o → H' a = some o) → RepGL K F' H' v d g S
  | _, _, _, _, .nil, _ => .nil
  | _, _, _, _, .cons r t n, k => .cons (RepG.mv l r fun a ha => k a (by simp [ha])) (RepGL.mv l t fun a ha => k a (by simp [ha])) n
end
theorem repK_of : ∀ {kvs : List (Key × V)} {ds : List (D × D)}, ds.map (·.1) = kvs.map (fun p => keyD p.1) → RepL K F (kvs.map (·.2)) (ds.map (·.2)) → RepK K F kvs ds
  | [], [], _, _ => .nil
  | [], _ :: _, e, _ => by simp at e
  | _ :: _, [], e, _ => by simp at e
  | (k, v) :: kvs, (c, d) :: ds, e, r => by
    simp only [List.map_cons, List.cons.injEq] at e
    obtain ⟨rfl, e⟩ := e
    cases r with
    | cons a b => exact .cons a (repK_of e b)
theorem repT_of : ∀ {kvs : List (List Key × V)} {ds : List (D × D)}, ds.map (·.1) = kvs.map (fun p => .tuple (p.1.map keyD)) → RepL K F (kvs.map (·.2)) (ds.map (·.2)) → RepT K F kvs ds
  | [], [], _, _ => .nil
  | [], _ :: _, e, _ => by simp at e
  | _ :: _, [], e, _ => by simp at e
  | (k, v) :: kvs, (c, d) :: ds, e, r => by
    simp only [List.map_cons, List.cons.injEq] at e
    obtain ⟨rfl, e⟩ := e
    cases r with
    | cons a b => exact .cons a (repT_of e b)
mutual
/-- frozen: the footprint is read too -/
theorem RepG.rep (l : Le F F') : ∀ {v : V} {d : D} {g : G} {S : List Addr}, RepG K F H v d g S → (∀ a ∈ S, ∀ o, H a = some o → F' a = some o) → Rep K F' v d
  | _, _, _, _, .sh r, _ => Rep.le l _ _ r
  | _, _, _, _, .at_ a, _ => a.rep
  | _, _, _, _, .lst h r n, k => .lst (k _ (by simp) _ h) (RepGL.rep l r fun a ha => k a (by simp [ha]))
  | _, _, _, _, .tup h r n, k => .tup (SqT.of (k _ (by simp) _ h)) (RepGL.rep l r fun a ha => k a (by simp [ha]))
  | _, _, _, _, .dK h e r n, k => .dK (.inl (k _ (by simp) _ h)) (repK_of e (RepGL.rep l r fun a ha => k a (by simp [ha])))
  | _, _, _, _, .dT h e r n, k => .dT (.inl (k _ (by simp) _ h)) (repT_of e (RepGL.rep l r fun a ha => k a (by simp [ha])))
theorem RepGL.rep (l : Le F F') : ∀ {v : List V} {d : List D} {g : G} {S : List Addr}, RepGL K F H v d g S → (∀ a ∈ S, ∀ o, H a = some o → F' a = some o) → RepL K F' v d
  | _, _, _, _, .nil, _ => .nil
  | _, _, _, _, .cons r t n, k => .cons (RepG.rep l r fun a ha => k a (by simp [ha])) (RepGL.rep l t fun a ha => k a (by simp [ha]))
end
mutual
theorem RepG.dom : ∀ {v : V} {d : D} {g : G} {S : List Addr}, RepG K F H v d g S → ∀ a ∈ S, H a ≠ none
  | _, _, _, _, .sh r, a, h => by simp at h
  | _, _, _, _, .at_ _, a, h => by simp at h
  | _, _, _, _, .lst e r n, a, h => by
    rcases List.mem_cons.mp h with rfl | h
    · rw [e]; simp
    · exact RepGL.dom r a h
  | _, _, _, _, .tup e r n, a, h => by
    rcases List.mem_cons.mp h with rfl | h
    · rw [e]; simp
    · exact RepGL.dom r a h
  | _, _, _, _, .dK e _ r n, a, h => by
    rcases List.mem_cons.mp h with rfl | h
    · rw [e]; simp
    · exact RepGL.dom r a h
  | _, _, _, _, .dT e _ r n, a, h => by
    rcases List.mem_cons.mp h with rfl | h
    · rw [e]; simp
    · exact RepGL.dom r a h
theorem RepGL.dom : ∀ {v : List V} {d : List D} {g : G} {S : List Addr}, RepGL K F H v d g S → ∀ a ∈ S, H a ≠ none
  | _, _, _, _, .nil, a, h => by simp at h
  | _, _, _, _, .cons r t n, a, h => (List.mem_append.mp h).elim (fun h => RepG.dom r a h) fun h => RepGL.dom t a h
end
theorem RepG.now (l : Le F H) {v : V} {d : D} {g : G} {S : List Addr} (r : RepG K F H v d g S) : Rep K H v d := r.rep l fun _ _ _ h => h
theorem RepGL.sh : ∀ {vs : List V} {ds : List D}, RepL K F vs ds → RepGL K F H vs ds .sh []
  | _, _, .nil => .nil
  | _, _, .cons r t => by
    have z := RepGL.cons (S := []) (T := []) (.sh r) (RepGL.sh t) (fun a h => by simp at h)
    simpa using z
theorem RepGL.length : ∀ {vs : List V} {ds : List D} {g : G} {S : List Addr}, RepGL K F H vs ds g S → vs.length = ds.length
  | _, _, _, _, .nil => rfl
  | _, _, _, _, .cons _ t _ => congrArg Nat.succ (RepGL.length t)
theorem RepG.sh_nil {v : V} {d : D} {S : List Addr} (r : RepG K F H v d .sh S) : S = [] ∧ Rep K F v d := by
  cases r with
  | sh r => exact ⟨rfl, r⟩
theorem RepGL.sh_nil : ∀ {vs : List V} {ds : List D} {S : List Addr}, RepGL K F H vs ds .sh S → S = [] ∧ RepL K F vs ds
  | _, _, _, .nil => ⟨rfl, .nil⟩
  | _, _, _, .cons r t _ => by
    obtain ⟨rfl, a⟩ := r.sh_nil
    obtain ⟨rfl, b⟩ := RepGL.sh_nil t
    exact ⟨rfl, .cons a b⟩
end

/-- lengths lie within the model's line -/
def szO : HO → Prop
  | .lst xs => xs.length ≤ sizeLine
  | .tup xs => xs.length ≤ sizeLine
  | .dK kvs => kvs.length ≤ sizeLine
  | .dT kvs => kvs.length ≤ sizeLine
  | .frz _ (.tup xs) => xs.length ≤ sizeLine
  | .frz _ (.dK kvs) => kvs.length ≤ sizeLine
  | .frz _ (.dT kvs) => kvs.length ≤ sizeLine
  | _ => True
def Sz (H : Hp) : Prop := ∀ a o, H a = some o → szO o
theorem Sz.upd {H : Hp} {a : Addr} {o : HO} (s : Sz H) (z : szO o) : Sz (upd H a o) := fun b u e => by
  by_cases h : b = a
  · subst h; rw [upd_same] at e; cases e; exact z
  · rw [upd_ne h] at e; exact s b u e
/-- F is frozen within H -/
structure Tp (F H : Hp) : Prop extends Le F H where
  sz : Sz H
theorem Tp.lenL {F H : Hp} (t : Tp F H) {a : Addr} {xs : List V} (h : H a = some (.lst xs)) : xs.length ≤ sizeLine := t.sz a _ h
theorem Sz.tup {K : PySem.W.Frag} {H : Hp} (s : Sz H) {a : Addr} {xs : List V} (h : SqT K H a xs) : xs.length ≤ sizeLine := by
  rcases h with (h | ⟨o, h⟩) | ⟨o, its, n, _, _, _, hz, r⟩
  · exact s a _ h
  · exact s a _ h
  · rw [r.length, Array.length_toList]; exact hz
/-- the heap grows, what is frozen grows by new objects -/
structure Pg (F H F' H' : Hp) : Prop where
  ext : Ext H H'
  le : Le F F'
  top : Tp F' H'
  new : ∀ a, F' a ≠ none → F a ≠ none ∨ H a = none
theorem Pg.refl {F H : Hp} (t : Tp F H) : Pg F H F H := ⟨.refl, .refl, t, fun _ h => .inl h⟩
theorem Pg.trans {F H F1 H1 F2 H2 : Hp} (a : Pg F H F1 H1) (b : Pg F1 H1 F2 H2) : Pg F H F2 H2 :=
  ⟨a.ext.trans b.ext, a.le.trans b.le, b.top, fun x h => (b.new x h).elim (fun h => a.new x h) fun h => .inr (a.ext.none h)⟩
theorem RepG.nowT {K : PySem.W.Frag} {F H : Hp} {v : V} {d : D} {g : G} {S : List Addr} (t : Tp F H) (r : RepG K F H v d g S) : Rep K H v d := r.now t.toLe
theorem Pg.fnone {F H F' H' : Hp} (p : Pg F H F' H') {a : Addr} (h1 : F a = none) (h2 : H a ≠ none) : F' a = none := by
  cases e : F' a with
  | none => rfl
  | some u => exact ((p.new a (by rw [e]; simp)).elim (fun z => z h1) fun z => h2 z).elim
/-- a new object, not frozen -/
theorem Pg.alloc {F H : Hp} {p : Addr} {o : HO} (t : Tp F H) (h : H p = none) (z : szO o) : Pg F H F (upd H p o) := ⟨ext_upd h, .refl, ⟨t.toLe.trans (ext_upd h).le, t.sz.upd z⟩, fun _ h => .inl h⟩
/-- a new object, frozen at once -/
theorem Pg.allocF {F H : Hp} {p : Addr} {o : HO} (t : Tp F H) (h : H p = none) (z : szO o) : Pg F H (upd F p o) (upd H p o) := by
  refine ⟨ext_upd h, (ext_upd (t.none h)).le, ⟨⟨fun a u q => ?_, fun a C dx fs q => ?_, fun a xs q => ?_⟩, t.sz.upd z⟩, fun a q => ?_⟩
  · by_cases e : a = p
    · subst e
      rcases q with q | ⟨ob, q⟩
      · rw [upd_same] at q; exact .inl (by rw [upd_same]; exact q)
      · rw [upd_same] at q; exact .inr ⟨ob, by rw [upd_same]; exact q⟩
    · have q' : Rd F a u := by
        rcases q with q | ⟨ob, q⟩
        · rw [upd_ne e] at q; exact .inl q
        · rw [upd_ne e] at q; exact .inr ⟨ob, q⟩
      rcases t.rd a u q' with z | ⟨ob, z⟩
      · exact .inl (by rw [upd_ne e]; exact z)
      · exact .inr ⟨ob, by rw [upd_ne e]; exact z⟩
  · by_cases e : a = p
    · subst e
      rw [upd_same] at q ⊢
      exact q
    · rw [upd_ne e] at q ⊢
      exact t.ins _ _ _ _ q
  · by_cases e : a = p
    · subst e
      rw [upd_same] at q ⊢
      exact q
    · rw [upd_ne e] at q ⊢
      exact t.lst _ _ q
  · by_cases e : a = p
    · subst e; exact .inr h
    · rw [upd_ne e] at q; exact .inl q
/-- more of the heap is frozen -/
def addF (F H : Hp) (S : List Addr) : Hp := fun a => if a ∈ S then H a else F a
theorem addF_le {F H : Hp} {S : List Addr} (n : ∀ a ∈ S, F a = none) : Le F (addF F H S) := by
  have key : ∀ a o, F a = some o → addF F H S a = some o := fun a o h => by
    unfold addF
    rw [if_neg fun z => by rw [n a z] at h; cases h]
    exact h
  exact (show Ext F (addF F H S) from key).le
theorem addF_top {F H : Hp} {S : List Addr} (t : Le F H) : Le (addF F H S) H := by
  refine ⟨fun a u q => ?_, fun a C dx fs q => ?_, fun a xs q => ?_⟩
  · by_cases e : a ∈ S
    · unfold Rd addF at q
      simp only [if_pos e] at q
      exact q
    · unfold Rd addF at q
      simp only [if_neg e] at q
      exact t.rd a u q
  · by_cases e : a ∈ S
    · unfold addF at q
      simp only [if_pos e] at q
      exact q
    · unfold addF at q
      simp only [if_neg e] at q
      exact t.ins a C dx fs q
  · by_cases e : a ∈ S
    · unfold addF at q
      simp only [if_pos e] at q
      exact q
    · unfold addF at q
      simp only [if_neg e] at q
      exact t.lst a xs q
theorem addF_in {F H : Hp} {S : List Addr} {a : Addr} (h : a ∈ S) : addF F H S a = H a := if_pos h
theorem addF_out {F H : Hp} {S : List Addr} {a : Addr} (h : a ∉ S) : addF F H S a = F a := if_neg h

/-! ### slots and data -/
abbrev Gs := List (Option G)
structure Rel (K : PySem.W.Frag) (nn : Nat) (B F H : Hp) (Γ : Gs) (σ : St) (env : DEnv) (S : Nat → List Addr) : Prop where
  top : Tp F H
  base : Ext B H
  slot : ∀ i g d, Γ[i]? = some (some g) → env[i]? = some (some d) → ∃ v, σ[i]? = some (some v) ∧ RepG K F H v d g (S i)
  fr : ∀ i a, a ∈ S i → F a = none ∧ B a = none ∧ H a ≠ none
  dj : ∀ i j a, i ≠ j → a ∈ S i → a ∉ S j
  ls : σ.length = nn
  le : env.length = nn
section
variable {K : PySem.W.Frag} {nn : Nat} {B F H F' H' : Hp} {Γ : Gs} {σ : St} {env : DEnv} {S : Nat → List Addr}
theorem Rel.pg (r : Rel K nn B F H Γ σ env S) (p : Pg F H F' H') : Rel K nn B F' H' Γ σ env S :=
  ⟨p.top, r.base.trans p.ext, fun i g d h1 h2 => by
    obtain ⟨v, e, q⟩ := r.slot i g d h1 h2
    exact ⟨v, e, q.mv p.le fun a _ o h => p.ext a o h⟩,
   fun i a h => by
    obtain ⟨h1, h2, h3⟩ := r.fr i a h
    refine ⟨p.fnone h1 h3, h2, fun z => h3 (p.ext.none z)⟩, r.dj, r.ls, r.le⟩
end

/-! ### results -/
/-- v g: ours, with its parts as g says (sh: frozen); b g: read only, some slot's -/
inductive Rf where
  | v (g : G) | b (g : G)
/-- H0: what stood ahead; the footprint of what is ours is new -/
def Res (K : PySem.W.Frag) (H0 F H : Hp) (x : V) (d : D) : Rf → Prop
  | .v g => ∃ S, RepG K F H x d g S ∧ ∀ a ∈ S, H0 a = none ∧ F a = none
  | .b g => ∃ S, RepG K F H x d g S
theorem Res.now {K : PySem.W.Frag} {H0 F H : Hp} {x : V} {d : D} {r : Rf} (t : Tp F H) (h : Res K H0 F H x d r) : Rep K H x d := by
  cases r with
  | v g => obtain ⟨S, q, _⟩ := h; exact q.now t.toLe
  | b g => obtain ⟨S, q⟩ := h; exact q.now t.toLe
theorem Res.sh {K : PySem.W.Frag} {H0 F H : Hp} {x : V} {d : D} (h : Rep K F x d) : Res K H0 F H x d (.v .sh) := ⟨[], .sh h, fun _ z => by simp at z⟩
theorem Res.at_ {K : PySem.W.Frag} {H0 F H : Hp} {x : V} {d : D} {g : G} (h : Atom x d) : Res K H0 F H x d (.v g) := by
  cases g with
  | sh => exact .sh h.rep
  | ow g => exact ⟨[], .at_ h, fun _ z => by simp at z⟩
theorem Res.older {K : PySem.W.Frag} {H0 H1 F H : Hp} {x : V} {d : D} {r : Rf} (e : Ext H0 H1) (h : Res K H1 F H x d r) : Res K H0 F H x d r := by
  cases r with
  | v g =>
    obtain ⟨S, q, n⟩ := h
    exact ⟨S, q, fun a ha => ⟨e.none (n a ha).1, (n a ha).2⟩⟩
  | b g => exact h
/-- a result stays a result while the heap grows -/
theorem Res.pg {K : PySem.W.Frag} {H0 F H F' H' : Hp} {x : V} {d : D} {r : Rf} (p : Pg F H F' H') (h : Res K H0 F H x d r) : Res K H0 F' H' x d r := by
  cases r with
  | v g =>
    obtain ⟨S, q, n⟩ := h
    exact ⟨S, q.mv p.le fun a _ o z => p.ext a o z, fun a ha => ⟨(n a ha).1, p.fnone (n a ha).2 (q.dom a ha)⟩⟩
  | b g =>
    obtain ⟨S, q⟩ := h
    exact ⟨S, q.mv p.le fun a _ o z => p.ext a o z⟩
/-- what is ours may be frozen -/
theorem Res.freeze {K : PySem.W.Frag} {H0 F H : Hp} {x : V} {d : D} {g : G} (t : Tp F H) (h : Res K H0 F H x d (.v g)) : ∃ F', Le F F' ∧ Tp F' H ∧ (∀ a, F' a ≠ none → F a ≠ none ∨ H0 a = none) ∧ Rep K F' x d := by
  obtain ⟨S, q, n⟩ := h
  refine ⟨addF F H S, addF_le fun a ha => (n a ha).2, ⟨addF_top t.toLe, t.sz⟩, fun a ha => ?_, q.rep (addF_le fun a ha => (n a ha).2) fun a ha o e => by rw [addF_in ha]; exact e⟩
  by_cases z : a ∈ S
  · exact .inr (n a z).1
  · rw [addF_out z] at ha; exact .inl ha

/-- an exception's dict (none where the class has no __init__) -/
def ExAt (K : PySem.W.Frag) (F H : Hp) (dd : Option Addr) (fs : List (Str × D)) : Prop :=
  (dd = none ∧ fs = []) ∨ ∃ a xs, dd = some a ∧ H a = some (.xd xs) ∧ RepF K F xs (fs.map fun p => (.str p.1, p.2))
theorem ExAt.pg {K : PySem.W.Frag} {F H F' H' : Hp} {dd : Option Addr} {fs : List (Str × D)} (p : Pg F H F' H') (h : ExAt K F H dd fs) : ExAt K F' H' dd fs := by
  rcases h with h | ⟨a, xs, e, h, r⟩
  · exact .inl h
  · exact .inr ⟨a, xs, e, p.ext _ _ h, RepF.le p.le _ _ r⟩

/-- what is wanted of an end x: a good value, or the exception's wish -/
def Out {α β : Type} (K : PySem.W.Frag) (W : Value → Option Addr → Hp → Prop) (F H : Hp) (x : R α) (good : α → β → Hp → Hp → Prop) (Q : β → Hp → Prop) : Prop :=
  match x with
  | .ok d => ∀ b H' F', Pg F H F' H' → good d b F' H' → Q b H'
  | .exc c fs => ∀ dd H' F', Pg F H F' H' → ExAt K F' H' dd fs → W (.ref (He.ga K c)) dd H'
  | .bad => False
theorem Out.bind {α β γ δ : Type} {K : PySem.W.Frag} {W : Value → Option Addr → Hp → Prop} {F H : Hp} {x : R α} {k : α → R γ} {good : γ → δ → Hp → Hp → Prop} {Q : δ → Hp → Prop} {good1 : α → β → Hp → Hp → Prop} {Q1 : β → Hp → Prop}
    (h : Out K W F H (x.bind k) good Q) (hk : ∀ d b H1 F1, x = .ok d → Pg F H F1 H1 → good1 d b F1 H1 → Out K W F H (k d) good Q → Q1 b H1) : Out K W F H x good1 Q1 := by
  cases x with
  | ok d => exact fun b H' F' p g => hk d b H' F' rfl p g h
  | exc c fs => exact h
  | bad => exact h
/-- from a later state -/
theorem Out.later {α β : Type} {K : PySem.W.Frag} {W : Value → Option Addr → Hp → Prop} {F H F1 H1 : Hp} {x : R α} {good good' : α → β → Hp → Hp → Prop} {Q : β → Hp → Prop} (p : Pg F H F1 H1)
    (hg : ∀ d b F' H', Pg F1 H1 F' H' → good' d b F' H' → good d b F' H') (h : Out K W F H x good Q) : Out K W F1 H1 x good' Q := by
  cases x with
  | ok d => exact fun b H' F' p' g => h b H' F' (p.trans p') (hg d b F' H' p' g)
  | exc c fs => exact fun dd H' F' p' g => h dd H' F' (p.trans p') g
  | bad => exact h
theorem Out.mono {α β : Type} {K : PySem.W.Frag} {W : Value → Option Addr → Hp → Prop} {F H : Hp} {x : R α} {good good' : α → β → Hp → Hp → Prop} {Q Q' : β → Hp → Prop}
    (h : Out K W F H x good Q) (hq : ∀ d b F' H', x = .ok d → Pg F H F' H' → good' d b F' H' → ∃ F'', Pg F H F'' H' ∧ good d b F'' H' ∧ (Q b H' → Q' b H')) : Out K W F H x good' Q' := by
  cases x with
  | ok d => exact fun b H' F' p g => let ⟨F'', p', g', i⟩ := hq d b F' H' rfl p g; i (h b H' F'' p' g')
  | exc c fs => exact h
  | bad => exact h

/-! ### judgements -/
section
variable (K : PySem.W.Frag) (W : WX) (nn : Nat) (Γ : Gs)
/-- a reading by data: f says what comes out -/
def tX {α β : Type} (f : DEnv → R α) (good : Hp → α → β → Hp → Hp → Prop) : St → Hp → (β → Hp → Prop) → Prop := fun σ H Q =>
  ∃ B F env S, Rel K nn B F H Γ σ env S ∧ Out K (fun c d H' => W c d σ H') F H (f env) (good H) Q
def gV (r : Rf) : Hp → D → V → Hp → Hp → Prop := fun H0 d x F H => Res K H0 F H x d r
def gB : Hp → Bool → Bool → Hp → Hp → Prop := fun _ d x _ _ => x = d
/-- arguments, each as g says -/
def gA (g : G) : Hp → List D → List V → Hp → Hp → Prop := fun H0 ds xs F H => ∃ S, RepGL K F H xs ds g S ∧ ∀ a ∈ S, H0 a = none ∧ F a = none
def tE (r : Rf) (f : ED) : TE := tX K W nn Γ f (gV K r)
def tT (f : TD) : TT := tX K W nn Γ f gB
def tA (g : G) (f : AD) : TA := tX K W nn Γ f (gA K g)
end
theorem PE.imp {X : Cx} {e : Expr} {t t' : TE} (h : PE X e t) (i : ∀ σ H Q, t' σ H Q → t σ H Q) : PE X e t' := ⟨fun pins s σ H Q I q => h.run pins s σ H Q I (i σ H Q q)⟩
theorem PT.imp {X : Cx} {e : Expr} {t t' : TT} (h : PT X e t) (i : ∀ σ H Q, t' σ H Q → t σ H Q) : PT X e t' := ⟨fun pins s σ H Q I q => h.run pins s σ H Q I (i σ H Q q)⟩
theorem PA.imp {X : Cx} {e : List Expr} {t t' : TA} (h : PA X e t) (i : ∀ σ H Q, t' σ H Q → t σ H Q) : PA X e t' := ⟨fun pos pins s σ H Q I q => h.run pos pins s σ H Q I (i σ H Q q)⟩
theorem PS.imp {X : Cx} {e : Stmt} {t t' : TS} (h : PS X e t) (i : ∀ D σ H, t' D σ H → t D σ H) : PS X e t' := ⟨fun pins s σ H D I q => h.run pins s σ H D I (i D σ H q)⟩
theorem PSs.imp {X : Cx} {e : List Stmt} {t t' : TS} (h : PSs X e t) (i : ∀ D σ H, t' D σ H → t D σ H) : PSs X e t' := ⟨fun pins s σ H D I q => h.run pins s σ H D I (i D σ H q)⟩
abbrev PEd (X : Cx) (W : WX) (nn : Nat) (Γ : Gs) (e : Expr) (r : Rf) (f : ED) : Prop := PE X e (tE X.K W nn Γ r f)
abbrev PTd (X : Cx) (W : WX) (nn : Nat) (Γ : Gs) (e : Expr) (f : TD) : Prop := PT X e (tT X.K W nn Γ f)
structure PAd (X : Cx) (W : WX) (nn : Nat) (Γ : Gs) (es : List Expr) (g : G) (n : Nat) (f : AD) : Prop where
  pa : PA X es (tA X.K W nn Γ g f)
  len : ∀ e ds, f e = .ok ds → ds.length = n
end DL

/-! DL3: expressions: names, constants, operators -/
namespace DL
open PySem PySem.Spec L2

/-! ### data level -/
def ofO {α : Type} : Option α → R α
  | some a => .ok a
  | none => .bad
@[simp] theorem ofO_some {α : Type} (a : α) : ofO (some a) = .ok a := rfl
@[simp] theorem ofO_none {α : Type} : (ofO none : R α) = .bad := rfl
def vD (i : Nat) : ED := fun e => match e[i]? with
  | some (some d) => .ok d
  | _ => .bad
def cD (d : D) : ED := fun _ => .ok d
def binD (g : D → D → Option D) (a b : ED) : ED := fun e => (a e).bind fun x => (b e).bind fun y => ofO (g x y)
def unD (g : D → Option D) (a : ED) : ED := fun e => (a e).bind fun x => ofO (g x)

section
variable {X : Cx} {W : WX} {nn : Nat} {Γ : Gs}
/-- children frozen -/
def ksh : Rf → Bool
  | .v .sh => true
  | .v (.ow .sh) => true
  | .b .sh => true
  | .b (.ow .sh) => true
  | _ => false
theorem Res.repG {K : PySem.W.Frag} {H0 F H : Hp} {x : V} {d : D} {r : Rf} (hk : ksh r = true) (h : Res K H0 F H x d r) : ∃ S, RepG K F H x d .sh S ∨ RepG K F H x d (.ow .sh) S := by
  rcases r with ⟨_ | ⟨_ | g⟩⟩ | ⟨_ | ⟨_ | g⟩⟩
  · obtain ⟨S, q, _⟩ := h; exact ⟨S, .inl q⟩
  · obtain ⟨S, q, _⟩ := h; exact ⟨S, .inr q⟩
  · cases hk
  · obtain ⟨S, q⟩ := h; exact ⟨S, .inl q⟩
  · obtain ⟨S, q⟩ := h; exact ⟨S, .inr q⟩
  · cases hk
theorem Res.kidsL {K : PySem.W.Frag} {H0 F H : Hp} {x : V} {ds : List D} {r : Rf} (hk : ksh r = true) (t : Tp F H) (h : Res K H0 F H x (.list ds) r) : ∃ a xs, x = .ref a ∧ H a = some (.lst xs) ∧ RepL K F xs ds := by
  obtain ⟨S, q | q⟩ := h.repG hk
  · obtain ⟨_, q⟩ := q.sh_nil
    cases q with
    | lst a b => exact ⟨_, _, rfl, t.lst _ _ a, b⟩
  · cases q with
    | at_ a => cases a
    | lst e r n => exact ⟨_, _, rfl, e, r.sh_nil.2⟩
theorem Res.kidsT {K : PySem.W.Frag} {H0 F H : Hp} {x : V} {ds : List D} {r : Rf} (hk : ksh r = true) (t : Tp F H) (h : Res K H0 F H x (.tuple ds) r) : ∃ a xs, x = .ref a ∧ SqT K H a xs ∧ RepL K F xs ds := by
  obtain ⟨S, q | q⟩ := h.repG hk
  · obtain ⟨_, q⟩ := q.sh_nil
    cases q with
    | tup a b => exact ⟨_, _, rfl, SqT.le t.toLe a, b⟩
  · cases q with
    | at_ a => cases a
    | tup e r n => exact ⟨_, _, rfl, SqT.of e, r.sh_nil.2⟩
theorem Rep.int_inv {K : PySem.W.Frag} {F : Hp} {x : V} {i : Int} (h : Rep K F x (.int i)) : x = .int i := by cases h; rfl
theorem Rep.str_inv {K : PySem.W.Frag} {F : Hp} {x : V} {i : Str} (h : Rep K F x (.str i)) : x = .str i := by cases h; rfl
theorem Rep.bl_inv {K : PySem.W.Frag} {F : Hp} {x : V} {i : Bool} (h : Rep K F x (.bool i)) : x = .bl i := by cases h; rfl
theorem Rep.non_inv {K : PySem.W.Frag} {F : Hp} {x : V} (h : Rep K F x .none) : x = .non := by cases h; rfl

/-! ### names, constants -/
theorem pd_var {x : Str} {pos : Pos} (i : Nat) (g : G) (hN : X.N[i]? = some x) (hv : Vis X.env.scope x) (hg : Γ[i]? = some (some g)) (hd : (x == ("__debug__" : Str)) = false := by decide) (hcd : (x == ("__classdict__" : Str)) = false := by decide) :
    PEd X W nn Γ (.Name x pos) (.b g) (vD i) := by
  refine PE.imp (pe_var hN hv hd hcd) fun σ H Q h => ?_
  obtain ⟨B, F, env, S, r, o⟩ := h
  unfold vD at o
  split at o
  · rename_i d e
    obtain ⟨v, hv, q⟩ := r.slot i g d hg e
    exact ⟨v, hv, o v H F (.refl r.top) ⟨_, q⟩⟩
  · exact o.elim
theorem pd_sh {e : Expr} {f : ED} (h : PEd X W nn Γ e (.b .sh) f) : PEd X W nn Γ e (.v .sh) f := by
  refine PE.imp h fun σ H Q h => ?_
  obtain ⟨B, F, env, S, r, o⟩ := h
  refine ⟨B, F, env, S, r, Out.mono o fun d b F' H' _ p g => ⟨F', p, ?_, id⟩⟩
  obtain ⟨S', q⟩ := g
  exact .sh q.sh_nil.2
/-- what is ours is frozen -/
theorem pd_fz {e : Expr} {f : ED} {g : G} (h : PEd X W nn Γ e (.v g) f) : PEd X W nn Γ e (.v .sh) f := by
  refine PE.imp h fun σ H Q h => ?_
  obtain ⟨B, F, env, S, r, o⟩ := h
  refine ⟨B, F, env, S, r, Out.mono o fun d b F' H' _ p g => ?_⟩
  obtain ⟨F2, l1, l2, n2, q⟩ := g.freeze p.top
  refine ⟨F2, ⟨p.ext, p.le.trans l1, l2, fun a ha => (n2 a ha).elim (fun z => p.new a z) .inr⟩, .sh q, id⟩
theorem tE_const {K : PySem.W.Frag} {v : V} {d : D} {g : G} (a : Atom v d) (σ : St) (H : Hp) (Q : VK) (h : tE K W nn Γ (.v g) (cD d) σ H Q) : tC v σ H Q := by
  obtain ⟨B, F, env, S, r, o⟩ := h
  exact o v H F (.refl r.top) (.at_ a)
theorem pd_int {i j pos} (g : G) : PEd X W nn Γ (.Constant (.int i) j pos) (.v g) (cD (.int i)) := PE.imp pe_int (tE_const (.int i))
theorem pd_bl {i j pos} (g : G) : PEd X W nn Γ (.Constant (.bool i) j pos) (.v g) (cD (.bool i)) := PE.imp pe_bl (tE_const (.bl i))
theorem pd_non {j pos} (g : G) : PEd X W nn Γ (.Constant .none j pos) (.v g) (cD .none) := PE.imp pe_non (tE_const .non)
theorem pd_str {x j pos} (g : G) : PEd X W nn Γ (.Constant (.str x) j pos) (.v g) (cD (.str x)) := PE.imp pe_str (tE_const (.str x))
/-- a module's constant -/
theorem pd_gc {x : Str} {v : V} {d : D} {pos : Pos} (g : G) (a : Atom v d) (hg : Gl X x) (hm : ∃ u, X.mg x = some u ∧ RelV v u) (hd : (x == ("__debug__" : Str)) = false := by decide) : PEd X W nn Γ (.Name x pos) (.v g) (cD d) := by
  obtain ⟨u, hm, r⟩ := hm
  exact PE.imp (pe_glob hg hm r hd) (tE_const a)
/-- a module's tuple, list .. of the written part -/
theorem pd_go {x : Str} {v : V} {d : D} {pos : Pos} (a : ∀ F, Rep X.K F v d) (hg : Gl X x) (hm : ∃ u, X.mg x = some u ∧ RelV v u) (hd : (x == ("__debug__" : Str)) = false := by decide) : PEd X W nn Γ (.Name x pos) (.v .sh) (cD d) := by
  obtain ⟨u, hm, r⟩ := hm
  refine PE.imp (pe_glob hg hm r hd) fun σ H Q h => ?_
  obtain ⟨B, F, env, S, r, o⟩ := h
  exact o v H F (.refl r.top) (.sh (a F))

/-! ### operators by values -/
def BinR (X : Cx) (r : R2) (g : D → D → Option D) (r1 r2 rf : Rf) : Prop :=
  ∀ (H0 F H : Hp) (x : V) (dx : D) (y : V) (dy d : D) (Q : VK), Tp F H → Res X.K H0 F H x dx r1 → Res X.K H0 F H y dy r2 → g dx dy = some d →
    (∀ v F' H', Pg F H F' H' → Res X.K H F' H' v d rf → Q v H') → r x y H Q
theorem tE_bin {r : R2} {g : D → D → Option D} {r1 r2 rf : Rf} {fa fb : ED} (hr : BinR X r g r1 r2 rf) (σ : St) (H : Hp) (Q : VK) (h : tE X.K W nn Γ rf (binD g fa fb) σ H Q) :
    tOp r (tE X.K W nn Γ r1 fa) (tE X.K W nn Γ r2 fb) σ H Q := by
  obtain ⟨B, F, env, S, rel, o⟩ := h
  refine ⟨B, F, env, S, rel, Out.bind o fun dx x H1 F1 e1 p1 g1 o1 => ?_⟩
  refine ⟨B, F1, env, S, rel.pg p1, Out.bind (Out.later p1 (fun d b F' H' p' z => Res.older p1.ext z) o1) fun dy y H2 F2 e2 p2 g2 o2 => ?_⟩
  cases e : g dx dy with
  | none => rw [e] at o2; exact o2.elim
  | some d =>
    rw [e] at o2
    exact hr H F2 H2 x dx y dy d Q p2.top (Res.pg p2 g1) (Res.older p1.ext g2) e fun v F' H' p' z => o2 v H' F' (p2.trans p') (Res.older p2.ext z)
variable {a b c : Expr} {pos : Pos} {fa fb fc : ED} {r1 r2 r3 rf : Rf}
theorem pd_op {op : Operator} {r : R2} {g : D → D → Option D} (ho : OpR X (binaryOp op) r) (hr : BinR X r g r1 r2 rf) (ha : PEd X W nn Γ a r1 fa) (hb : PEd X W nn Γ b r2 fb) : PEd X W nn Γ (.BinOp a op b pos) rf (binD g fa fb) :=
  PE.imp (pe_op ho ha hb) (tE_bin hr)
theorem pd_cmp {op : CmpOp} {r : R2} {g : D → D → Option D} (ho : OpR X (compareOp op) r) (hr : BinR X r g r1 r2 rf) (ha : PEd X W nn Γ a r1 fa) (hb : PEd X W nn Γ b r2 fb) (hm : behindInMarks op b = false) : PEd X W nn Γ (.Compare a [op] [b] pos) rf (binD g fa fb) :=
  PE.imp (pe_cmpR ho ha hb hm) (tE_bin hr)
/-- subscript -/
theorem pd_ix {r : R2} {g : D → D → Option D} (ho : IxR X r) (hr : BinR X r g r1 r2 rf) (ha : PEd X W nn Γ a r1 fa) (hb : PEd X W nn Γ b r2 fb) (hs : PlainIx b) : PEd X W nn Γ (.Subscript a b pos) rf (binD g fa fb) :=
  PE.imp (pe_ix ho ha hb hs) (tE_bin hr)
theorem BinR.int {r : R2} {g : D → D → Option D} {C : Int → Int → Prop} {h : Int → Int → V} {k : Int → Int → D} (gg : G) (hr : r = rI C h) (hg : ∀ dx dy d, g dx dy = some d → ∃ i j, dx = .int i ∧ dy = .int j ∧ C i j ∧ d = k i j ∧ Atom (h i j) (k i j)) : BinR X r g r1 r2 (.v gg) := by
  intro H0 F H x dx y dy d Q t g1 g2 e q
  obtain ⟨i, j, rfl, rfl, hc, rfl, ha⟩ := hg dx dy d e
  rw [hr]
  exact ⟨i, j, (g1.now t).int_inv, (g2.now t).int_inv, hc, q _ F H (.refl t) (.at_ ha)⟩
theorem BinR.or {r r' : R2} {g g' : D → D → Option D} (h : BinR X r g r1 r2 rf) (h' : BinR X r' g' r1 r2 rf) : BinR X (fun x y H Q => r x y H Q ∨ r' x y H Q) (fun x y => (g x y).or (g' x y)) r1 r2 rf := by
  intro H0 F H x dx y dy d Q t g1 g2 e q
  cases z : g dx dy with
  | some d' =>
    simp only [z, Option.some_or] at e
    cases e
    exact .inl (h H0 F H x dx y dy d Q t g1 g2 z q)
  | none =>
    simp only [z, Option.none_or] at e
    exact .inr (h' H0 F H x dx y dy d Q t g1 g2 e q)
end

/-! ### + - * // % -/
/-- a list's length must lie within the model's line -/
def lineB (n : Nat) : Bool := decide (n ≤ 16777216)
theorem lineB_ok {n : Nat} (h : lineB n = true) : n ≤ sizeLine := by rw [sizeLine_eq]; exact of_decide_eq_true h
def addI : D → D → Option D
  | .int i, .int j => some (.int (i + j))
  | _, _ => none
def addS : D → D → Option D
  | .str i, .str j => if lineB (i.length + j.length) then some (.str (i ++ j)) else none
  | _, _ => none
def addL : D → D → Option D
  | .list i, .list j => if lineB (i.length + j.length) then some (.list (i ++ j)) else none
  | _, _ => none
def subI : D → D → Option D
  | .int i, .int j => some (.int (i - j))
  | _, _ => none
/-- |i| ≤ n; stuck where i is not known -/
def inB (i : Int) (n : Nat) : Bool := match i with
  | .ofNat m => Nat.ble m n
  | .negSucc m => Nat.ble (m + 1) n
theorem inB_iff {i : Int} {n : Nat} : inB i n = true ↔ -(n : Int) ≤ i ∧ i ≤ n := by
  cases i with
  | ofNat m =>
    show Nat.ble m n = true ↔ -(n : Int) ≤ (m : Int) ∧ (m : Int) ≤ n
    rw [Nat.ble_eq]
    omega
  | negSucc m =>
    show Nat.ble (m + 1) n = true ↔ -(n : Int) ≤ Int.negSucc m ∧ Int.negSucc m ≤ n
    rw [Nat.ble_eq]
    omega
def mulOk (i j : Int) : Bool := inB i 18446744073709551615 || inB j 18446744073709551615
theorem mulOk_iff {i j : Int} : mulOk i j = true ↔ (-(2 ^ 64) < i ∧ i < 2 ^ 64) ∨ (-(2 ^ 64) < j ∧ j < 2 ^ 64) := by
  unfold mulOk
  rw [Bool.or_eq_true, inB_iff, inB_iff]
  omega
def mulI : D → D → Option D
  | .int i, .int j => if mulOk i j then some (.int (i * j)) else none
  | _, _ => none
/-- a list times a number -/
def repLn : D → D → Option D
  | .list xs, .int k => if inB k 9223372036854775807 && lineB (xs.length * k.toNat) then some (.list (List.replicate k.toNat xs).flatten) else none
  | _, _ => none
def fdivI : D → D → Option D
  | .int i, .int j => if decide (j ≠ 0 ∧ j.natAbs < 1073741824) then some (.int (i.fdiv j)) else none
  | _, _ => none
def modI : D → D → Option D
  | .int i, .int j => if decide (j ≠ 0) then some (.int (i.fmod j)) else none
  | _, _ => none
def powI : D → D → Option D
  | .int i, .int j => if decide (0 ≤ j ∧ j ≤ 1000000 ∧ i.natAbs < 2 ^ 64) then some (.int (i ^ j.toNat)) else none
  | _, _ => none
section
variable {X : Cx} {r1 r2 : Rf}
theorem bin_addI (g : G) : BinR X (rI0 fun i j => .int (i + j)) addI r1 r2 (.v g) := by
  intro H0 F H x dx y dy d Q t g1 g2 e q
  unfold addI at e
  split at e
  · cases e
    exact ⟨_, _, (g1.now t).int_inv, (g2.now t).int_inv, q _ F H (.refl t) (.at_ (.int _))⟩
  · cases e
theorem bin_subI (g : G) : BinR X (rI0 fun i j => .int (i - j)) subI r1 r2 (.v g) := by
  intro H0 F H x dx y dy d Q t g1 g2 e q
  unfold subI at e
  split at e
  · cases e
    exact ⟨_, _, (g1.now t).int_inv, (g2.now t).int_inv, q _ F H (.refl t) (.at_ (.int _))⟩
  · cases e
theorem bin_mulI (g : G) : BinR X (rI CMul fun i j => .int (i * j)) mulI r1 r2 (.v g) := BinR.int (k := fun i j => .int (i * j)) g rfl fun dx dy d e => by
  unfold mulI at e
  split at e
  · split at e
    · rename_i h
      cases e
      have h' := mulOk_iff.mp h
      exact ⟨_, _, rfl, rfl, h', rfl, .int _⟩
    · cases e
  · cases e
theorem bin_fdivI (g : G) : BinR X (rI CDivN fun i j => .int (i.fdiv j)) fdivI r1 r2 (.v g) := BinR.int (k := fun i j => .int (i.fdiv j)) g rfl fun dx dy d e => by
  unfold fdivI at e
  split at e
  · split at e
    · rename_i h
      cases e
      have h' := of_decide_eq_true h
      exact ⟨_, _, rfl, rfl, h', rfl, .int _⟩
    · cases e
  · cases e
theorem bin_modI (g : G) : BinR X (rI (fun _ j => j ≠ 0) fun i j => .int (i.fmod j)) modI r1 r2 (.v g) := BinR.int (k := fun i j => .int (i.fmod j)) g rfl fun dx dy d e => by
  unfold modI at e
  split at e
  · split at e
    · rename_i h
      cases e
      have h' := of_decide_eq_true h
      exact ⟨_, _, rfl, rfl, h', rfl, .int _⟩
    · cases e
  · cases e
theorem bin_powI (g : G) : BinR X (rI CPow fun i j => .int (i ^ j.toNat)) powI r1 r2 (.v g) := BinR.int (k := fun i j => .int (i ^ j.toNat)) g rfl fun dx dy d e => by
  unfold powI at e
  split at e
  · split at e
    · rename_i h
      cases e
      have h' := of_decide_eq_true h
      exact ⟨_, _, rfl, rfl, h', rfl, .int _⟩
    · cases e
  · cases e
theorem bin_addS (g : G) : BinR X (fun x y H Q => ∃ i j, x = .str i ∧ y = .str j ∧ i.length + j.length ≤ sizeLine ∧ Q (.str (i ++ j)) H) addS r1 r2 (.v g) := by
  intro H0 F H x dx y dy d Q t g1 g2 e q
  unfold addS at e
  split at e
  · split at e
    · rename_i h
      cases e
      exact ⟨_, _, (g1.now t).str_inv, (g2.now t).str_inv, lineB_ok h, q _ F H (.refl t) (.at_ (.str _))⟩
    · cases e
  · cases e
end
section
variable {X : Cx} {r1 r2 : Rf}
/-- a new list of frozen things -/
theorem Res.newL {K : PySem.W.Frag} {F H : Hp} {p : Addr} {xs : List V} {ds : List D} (t : Tp F H) (hp : H p = none) (r : RepL K F xs ds) : Res K H F (upd H p (.lst xs)) (.ref p) (.list ds) (.v (.ow .sh)) :=
  ⟨[p], .lst upd_same (.sh r) (by simp), fun a ha => by
    have e : a = p := by simpa using ha
    subst e
    exact ⟨hp, t.none hp⟩⟩
theorem Res.newT {K : PySem.W.Frag} {F H : Hp} {p : Addr} {xs : List V} {ds : List D} (t : Tp F H) (hp : H p = none) (r : RepL K F xs ds) : Res K H F (upd H p (.tup xs)) (.ref p) (.tuple ds) (.v (.ow .sh)) :=
  ⟨[p], .tup upd_same (.sh r) (by simp), fun a ha => by
    have e : a = p := by simpa using ha
    subst e
    exact ⟨hp, t.none hp⟩⟩
theorem bin_addL (h1 : ksh r1 = true) (h2 : ksh r2 = true) : BinR X rCat addL r1 r2 (.v (.ow .sh)) := by
  intro H0 F H x dx y dy d Q t g1 g2 e q
  unfold addL at e
  split at e
  · split at e
    · rename_i h
      cases e
      obtain ⟨a, xs, rfl, ha, ra⟩ := g1.kidsL h1 t
      obtain ⟨b, ys, rfl, hb, rb⟩ := g2.kidsL h2 t
      have l := lineB_ok h
      have l2 : xs.length + ys.length ≤ sizeLine := by rw [ra.length, rb.length]; exact l
      refine ⟨a, b, xs, ys, rfl, rfl, ha, hb, l2, fun p hp => ?_⟩
      exact q _ F _ (.alloc t hp (by show (xs ++ ys).length ≤ sizeLine; rw [List.length_append]; exact l2)) (.newL t hp (ra.append rb))
    · cases e
  · cases e
theorem RepL.rep {K : PySem.W.Frag} {F : Hp} {xs : List V} {ds : List D} (h : RepL K F xs ds) : ∀ n : Nat, RepL K F (List.replicate n xs).flatten (List.replicate n ds).flatten
  | 0 => .nil
  | n + 1 => by
    rw [List.replicate_succ, List.replicate_succ, List.flatten_cons, List.flatten_cons]
    exact h.append (RepL.rep h n)
theorem bin_repL (h1 : ksh r1 = true) : BinR X rRep repLn r1 r2 (.v (.ow .sh)) := by
  intro H0 F H x dx y dy d Q t g1 g2 e q
  unfold repLn at e
  split at e
  · split at e
    · rename_i h
      cases e
      obtain ⟨a, xs, rfl, ha, ra⟩ := g1.kidsL h1 t
      obtain ⟨h2, h3⟩ := Bool.and_eq_true_iff.mp h
      have h2' := inB_iff.mp h2
      have l := lineB_ok h3
      refine ⟨a, _, xs, rfl, (g2.now t).int_inv, ha, by omega, by omega, by rw [ra.length]; exact l, fun p hp => ?_⟩
      exact q _ F _ (.alloc t hp (by show (List.replicate _ xs).flatten.length ≤ sizeLine; rw [PyProof.Rows.lm_len_rep_flat, Nat.mul_comm, ra.length]; exact l)) (.newL t hp (ra.rep _))
    · cases e
  · cases e
end
end DL

/-! DL4: comparisons, subscripts, slices -/
namespace DL
open PySem PySem.Spec L2
/-! ### data that hold no dict -/
section
variable {K : PySem.W.Frag} {F : Hp}
mutual
theorem Rep.dp : ∀ (d : D) (v : V), Rep K F v d → d.plain = true → Dp K F v d
  | .none, _, h, _ => by cases h; exact .non
  | .bool b, _, h, _ => by cases h; exact .bl b
  | .int b, _, h, _ => by cases h; exact .int b
  | .str b, _, h, _ => by cases h; exact .str b
  | .list ds, _, h, p => by
    cases h with
    | lst a b => exact .lst (SqL.of a) (RepL.dp ds _ b (by simpa [PyData.plain] using p))
  | .tuple ds, _, h, p => by
    cases h with
    | tup a b => exact .tup a (RepL.dp ds _ b (by simpa [PyData.plain] using p))
  | .dict ds, _, h, p => by simp [PyData.plain] at p
theorem RepL.dp : ∀ (ds : List D) (vs : List V), RepL K F vs ds → PyData.plainAll ds = true → DpAll K F vs ds
  | [], _, h, _ => by cases h; exact .nil
  | d :: ds, _, h, p => by
    have p' : d.plain = true ∧ PyData.plainAll ds = true := by simpa [PyData.plainAll] using p
    cases h with
    | cons a b => exact .cons (Rep.dp d _ a p'.1) (RepL.dp ds _ b p'.2)
end
end
/-- how deep data may be nested for a comparison -/
def shal (d : D) : Bool := decide (d.depth ≤ 60)
def okD (d : D) : Bool := d.plain && shal d
theorem okD_iff {d : D} : okD d = true ↔ d.plain = true ∧ d.depth ≤ 60 := by
  unfold okD shal
  rw [Bool.and_eq_true, decide_eq_true_iff]
section
variable {X : Cx}
def rEqP (K : PySem.W.Frag) : R2 := fun x y H Q => ∃ d e, Dp K H x d ∧ Dp K H y e ∧ okD d = true ∧ okD e = true ∧ Q (.bl (PyData.eqv d e)) H
def rNeP (K : PySem.W.Frag) : R2 := fun x y H Q => ∃ d e, Dp K H x d ∧ Dp K H y e ∧ okD d = true ∧ okD e = true ∧ Q (.bl (!PyData.eqv d e)) H
theorem op_eqP (hu : X.A.units + 64 < cLine) : OpR X (compareOp .Eq) (rEqP X.K) := by
  intro pins s σ H x y v u Q I rx ry h
  obtain ⟨d, e, hd, he, sd, se, q⟩ := h
  obtain ⟨as, r1⟩ := Dp.reads I d x v hd rx
  obtain ⟨bs, r2⟩ := Dp.reads I e y u he ry
  obtain ⟨p1, p2⟩ := okD_iff.mp sd
  obtain ⟨p3, p4⟩ := okD_iff.mp se
  exact PySem.SeqAt.eq_plain r1 r2 p1 p3 (by omega) ⟨.bl _, H, I, rfl, q⟩
theorem op_neP (hu : X.A.units + 64 < cLine) : OpR X (compareOp .NotEq) (rNeP X.K) := by
  intro pins s σ H x y v u Q I rx ry h
  obtain ⟨d, e, hd, he, sd, se, q⟩ := h
  obtain ⟨as, r1⟩ := Dp.reads I d x v hd rx
  obtain ⟨bs, r2⟩ := Dp.reads I e y u he ry
  obtain ⟨p1, p2⟩ := okD_iff.mp sd
  obtain ⟨p3, p4⟩ := okD_iff.mp se
  exact PySem.SeqAt.ne_plain r1 r2 p1 p3 (by omega) ⟨.bl _, H, I, rfl, q⟩
/-- data that are ordered -/
def ordOk (d e : D) : Bool := PySem.W.alike d e && (match d with | .none => false | _ => true) && shal d
theorem ordOk_iff {d e : D} (h : ordOk d e = true) : PySem.W.alike d e = true ∧ d ≠ .none ∧ d.depth ≤ 60 := by
  unfold ordOk at h
  rw [Bool.and_eq_true, Bool.and_eq_true] at h
  refine ⟨h.1.1, fun z => ?_, of_decide_eq_true h.2⟩
  subst z
  have := h.1.2
  cases this
def rOrd (K : PySem.W.Frag) (p : D → D → Bool) : R2 := fun x y H Q => ∃ d e, Dp K H x d ∧ Dp K H y e ∧ ordOk d e = true ∧ Q (.bl (p d e)) H
theorem op_ltD (hu : X.A.units + 64 < cLine) : OpR X (compareOp .Lt) (rOrd X.K PySem.W.dataLt) := by
  intro pins s σ H x y v u Q I rx ry h
  obtain ⟨d, e, hd, he, o, q⟩ := h
  obtain ⟨as, r1⟩ := Dp.reads I d x v hd rx
  obtain ⟨bs, r2⟩ := Dp.reads I e y u he ry
  obtain ⟨p1, p2, p3⟩ := ordOk_iff o
  exact PySem.W.lt_data r1 r2 p1 p2 (by omega) ⟨.bl _, H, I, rfl, q⟩
theorem op_gtD (hu : X.A.units + 64 < cLine) : OpR X (compareOp .Gt) (rOrd X.K fun x y => PySem.W.dataLt y x) := by
  intro pins s σ H x y v u Q I rx ry h
  obtain ⟨d, e, hd, he, o, q⟩ := h
  obtain ⟨as, r1⟩ := Dp.reads I d x v hd rx
  obtain ⟨bs, r2⟩ := Dp.reads I e y u he ry
  obtain ⟨p1, p2, p3⟩ := ordOk_iff o
  exact PySem.W.gt_data r1 r2 p1 p2 (by omega) ⟨.bl _, H, I, rfl, q⟩
theorem op_leD (hu : X.A.units + 64 < cLine) : OpR X (compareOp .LtE) (rOrd X.K fun x y => !PySem.W.dataLt y x) := by
  intro pins s σ H x y v u Q I rx ry h
  obtain ⟨d, e, hd, he, o, q⟩ := h
  obtain ⟨as, r1⟩ := Dp.reads I d x v hd rx
  obtain ⟨bs, r2⟩ := Dp.reads I e y u he ry
  obtain ⟨p1, p2, p3⟩ := ordOk_iff o
  exact PySem.W.le_data r1 r2 p1 p2 (by omega) ⟨.bl _, H, I, rfl, q⟩
theorem op_geD (hu : X.A.units + 64 < cLine) : OpR X (compareOp .GtE) (rOrd X.K fun x y => !PySem.W.dataLt x y) := by
  intro pins s σ H x y v u Q I rx ry h
  obtain ⟨d, e, hd, he, o, q⟩ := h
  obtain ⟨as, r1⟩ := Dp.reads I d x v hd rx
  obtain ⟨bs, r2⟩ := Dp.reads I e y u he ry
  obtain ⟨p1, p2, p3⟩ := ordOk_iff o
  exact PySem.W.ge_data r1 r2 p1 p2 (by omega) ⟨.bl _, H, I, rfl, q⟩
/-- in a list or a tuple -/
def rInP (K : PySem.W.Frag) (neg : Bool) : R2 := fun x y H Q => ∃ d ds, Dp K H x d ∧ (Dp K H y (.list ds) ∨ Dp K H y (.tuple ds)) ∧ okD d = true ∧ PyData.plainAll ds = true ∧ Q (.bl (neg ^^ ds.any fun z => PyData.eqv z d)) H
theorem op_inP (hu : X.A.units + 64 < cLine) : OpR X (compareOp .In) (rInP X.K false) := by
  intro pins s σ H x y v u Q I rx ry h
  obtain ⟨d, ds, hd, he, sd, se, q⟩ := h
  obtain ⟨as, r1⟩ := Dp.reads I d x v hd rx
  obtain ⟨p1, p2⟩ := okD_iff.mp sd
  rcases he with he | he
  · obtain ⟨bs, r2⟩ := Dp.reads I _ y u he ry
    exact PySem.SeqAt.in_list_data r2 r1 se p1 (by omega) ⟨.bl _, H, I, rfl, by simpa using q⟩
  · obtain ⟨bs, r2⟩ := Dp.reads I _ y u he ry
    exact PySem.SeqAt.in_tuple_data r2 r1 se p1 (by omega) ⟨.bl _, H, I, rfl, by simpa using q⟩
theorem op_notInP (hu : X.A.units + 64 < cLine) : OpR X (compareOp .NotIn) (rInP X.K true) := by
  intro pins s σ H x y v u Q I rx ry h
  obtain ⟨d, ds, hd, he, sd, se, q⟩ := h
  obtain ⟨as, r1⟩ := Dp.reads I d x v hd rx
  obtain ⟨p1, p2⟩ := okD_iff.mp sd
  rcases he with he | he
  · obtain ⟨bs, r2⟩ := Dp.reads I _ y u he ry
    exact PySem.SeqAt.notIn_list_data r2 r1 se p1 (by omega) ⟨.bl _, H, I, rfl, by simpa using q⟩
  · obtain ⟨bs, r2⟩ := Dp.reads I _ y u he ry
    exact PySem.SeqAt.notIn_tuple_data r2 r1 se p1 (by omega) ⟨.bl _, H, I, rfl, by simpa using q⟩
end
/-! ### data level -/
def eqG (x y : D) : Option D := if okD x && okD y then some (.bool (PyData.eqv x y)) else none
def neG (x y : D) : Option D := if okD x && okD y then some (.bool (!PyData.eqv x y)) else none
def ordG (p : D → D → Bool) (x y : D) : Option D := if ordOk x y && x.plain && y.plain then some (.bool (p x y)) else none
def ltG := ordG PySem.W.dataLt
def gtG := ordG fun x y => PySem.W.dataLt y x
def leG := ordG fun x y => !PySem.W.dataLt y x
def geG := ordG fun x y => !PySem.W.dataLt x y
def seqOf : D → Option (List D)
  | .list ds => some ds
  | .tuple ds => some ds
  | _ => none
def inG (neg : Bool) (x y : D) : Option D := match seqOf y with
  | some ds => if okD x && PyData.plainAll ds then some (.bool (neg ^^ ds.any fun z => PyData.eqv z x)) else none
  | none => none
/-- is, against None, True, False -/
def isG (neg : Bool) (x y : D) : Option D := match y with
  | .none => some (.bool (neg ^^ (match x with | .none => true | _ => false)))
  | .bool b => some (.bool (neg ^^ (match x with | .bool c => c == b | _ => false)))
  | _ => none
section
variable {X : Cx} {r1 r2 : Rf}
theorem bin_eq (g : G) : BinR X (rEqP X.K) eqG r1 r2 (.v g) := by
  intro H0 F H x dx y dy d Q t g1 g2 e q
  unfold eqG at e
  split at e
  · rename_i h
    cases e
    obtain ⟨h1, h2⟩ := Bool.and_eq_true_iff.mp h
    exact ⟨dx, dy, Rep.dp _ _ (g1.now t) (okD_iff.mp h1).1, Rep.dp _ _ (g2.now t) (okD_iff.mp h2).1, h1, h2, q _ F H (.refl t) (.at_ (.bl _))⟩
  · cases e
theorem bin_ne (g : G) : BinR X (rNeP X.K) neG r1 r2 (.v g) := by
  intro H0 F H x dx y dy d Q t g1 g2 e q
  unfold neG at e
  split at e
  · rename_i h
    cases e
    obtain ⟨h1, h2⟩ := Bool.and_eq_true_iff.mp h
    exact ⟨dx, dy, Rep.dp _ _ (g1.now t) (okD_iff.mp h1).1, Rep.dp _ _ (g2.now t) (okD_iff.mp h2).1, h1, h2, q _ F H (.refl t) (.at_ (.bl _))⟩
  · cases e
theorem bin_ord (p : D → D → Bool) (g : G) : BinR X (rOrd X.K p) (ordG p) r1 r2 (.v g) := by
  intro H0 F H x dx y dy d Q t g1 g2 e q
  unfold ordG at e
  split at e
  · rename_i h
    cases e
    obtain ⟨h1, h2⟩ := Bool.and_eq_true_iff.mp h
    obtain ⟨h0, h1⟩ := Bool.and_eq_true_iff.mp h1
    exact ⟨dx, dy, Rep.dp _ _ (g1.now t) h1, Rep.dp _ _ (g2.now t) h2, h0, q _ F H (.refl t) (.at_ (.bl _))⟩
  · cases e
theorem bin_in (neg : Bool) (g : G) : BinR X (rInP X.K neg) (inG neg) r1 r2 (.v g) := by
  intro H0 F H x dx y dy d Q t g1 g2 e q
  unfold inG at e
  split at e
  · rename_i ds hs
    split at e
    · rename_i h
      cases e
      obtain ⟨h1, h2⟩ := Bool.and_eq_true_iff.mp h
      refine ⟨dx, ds, Rep.dp _ _ (g1.now t) (okD_iff.mp h1).1, ?_, h1, h2, q _ F H (.refl t) (.at_ (.bl _))⟩
      unfold seqOf at hs
      split at hs
      · cases hs
        exact .inl (Rep.dp _ _ (g2.now t) (by simpa [PyData.plain] using h2))
      · cases hs
        exact .inr (Rep.dp _ _ (g2.now t) (by simpa [PyData.plain] using h2))
      · cases hs
    · cases e
  · cases e
end
end DL

/-! DL5: subscripts, slices, displays, built-in calls -/
namespace DL
open PySem PySem.Spec L2

/-! ### is -/
section
variable {X : Cx} {r1 r2 : Rf}
def isB (neg : Bool) : D → D → Option D
  | .bool a, .bool b => some (.bool (neg ^^ (a == b)))
  | _, _ => none
def isNn : D → Bool
  | .none => true
  | _ => false
def isN (neg : Bool) : D → D → Option D
  | x, .none => some (.bool (neg ^^ isNn x))
  | _, _ => none
theorem Rep.isNone {K : PySem.W.Frag} {F : Hp} {x : V} {d : D} (h : Rep K F x d) : decide (x = V.non) = isNn d := by
  cases h <;> first | rfl | exact decide_eq_false (fun z => by cases z)
theorem bin_isN (g : G) : BinR X (fun x y H Q => y = .non ∧ Q (.bl (decide (x = .non))) H) (isN false) r1 r2 (.v g) := by
  intro H0 F H x dx y dy d Q t g1 g2 e q
  unfold isN at e
  split at e
  · cases e
    refine ⟨(g2.now t).non_inv, q _ F H (.refl t) ?_⟩
    rw [(g1.now t).isNone]
    rw [Bool.false_xor]
    exact .at_ (.bl _)
  · cases e
theorem bin_notN (g : G) : BinR X (fun x y H Q => y = .non ∧ Q (.bl (!decide (x = .non))) H) (isN true) r1 r2 (.v g) := by
  intro H0 F H x dx y dy d Q t g1 g2 e q
  unfold isN at e
  split at e
  · cases e
    refine ⟨(g2.now t).non_inv, q _ F H (.refl t) ?_⟩
    rw [(g1.now t).isNone]
    rw [Bool.true_xor]
    exact .at_ (.bl _)
  · cases e
theorem bin_isB (g : G) : BinR X rIsB (isB false) r1 r2 (.v g) := by
  intro H0 F H x dx y dy d Q t g1 g2 e q
  unfold isB at e
  split at e
  · cases e
    refine ⟨_, _, (g1.now t).bl_inv, (g2.now t).bl_inv, q _ F H (.refl t) ?_⟩
    rw [Bool.false_xor, Bool.beq_eq_decide_eq]
    exact .at_ (.bl _)
  · cases e
theorem bin_notB (g : G) : BinR X rNotB (isB true) r1 r2 (.v g) := by
  intro H0 F H x dx y dy d Q t g1 g2 e q
  unfold isB at e
  split at e
  · cases e
    refine ⟨_, _, (g1.now t).bl_inv, (g2.now t).bl_inv, q _ F H (.refl t) ?_⟩
    rw [Bool.true_xor, Bool.beq_eq_decide_eq]
    exact .at_ (.bl _)
  · cases e
end

/-! ### x[i] -/
def ixG : D → D → Option D
  | .list ds, .int i => atI ds i
  | .tuple ds, .int i => atI ds i
  | .str z, .int i => if lineB z.length then (atI z.cps.toList i).map fun c => .str ⟨#[c]⟩ else none
  | .dict [(.bool true, .list ds)], .int i => atI ds i
  | _, _ => none
/-- what an item of such a thing is -/
def kid : Rf → Rf
  | .v .sh => .b .sh
  | .v (.ow g) => .b g
  | .b .sh => .b .sh
  | .b (.ow g) => .b g
section
variable {X : Cx} {r1 r2 : Rf}
theorem RepK.keys {K : PySem.W.Frag} {F : Hp} : ∀ {kvs : List (Key × V)} {ds : List (D × D)}, RepK K F kvs ds → ds.map (·.1) = kvs.map (fun p => keyD p.1)
  | _, _, .nil => rfl
  | _, _, .cons _ t => by simp only [List.map_cons, RepK.keys t]
theorem RepT.keys {K : PySem.W.Frag} {F : Hp} : ∀ {kvs : List (List Key × V)} {ds : List (D × D)}, RepT K F kvs ds → ds.map (·.1) = kvs.map (fun p => .tuple (p.1.map keyD))
  | _, _, .nil => rfl
  | _, _, .cons _ t => by simp only [List.map_cons, RepT.keys t]
theorem no_keyK {b : Bool} {x : D} {ds : List (D × D)} {kvs : List (Key × V)} (e : ((PyData.bool b, x) :: ds).map (·.1) = kvs.map (fun p => keyD p.1)) : False := by
  cases kvs with
  | nil => simp at e
  | cons p ps => obtain ⟨k1, v1⟩ := p; cases k1 <;> simp [keyD] at e
theorem no_keyT {b : Bool} {x : D} {ds : List (D × D)} {kvs : List (List Key × V)} (e : ((PyData.bool b, x) :: ds).map (·.1) = kvs.map (fun p => .tuple (p.1.map keyD))) : False := by
  cases kvs with
  | nil => simp at e
  | cons p ps => simp at e
theorem RepL.atI {K : PySem.W.Frag} {F : Hp} {xs : List V} {ds : List D} {i : Int} {d : D} (h : RepL K F xs ds) (e : L2.atI ds i = some d) : ∃ v, L2.atI xs i = some v ∧ Rep K F v d := by
  unfold L2.atI at e ⊢
  rw [h.length]
  cases q : ixN ds.length i with
  | none => rw [q] at e; cases e
  | some j =>
    rw [q] at e
    exact h.get e
theorem RepGL.get {K : PySem.W.Frag} {F H : Hp} : ∀ {vs : List V} {ds : List D} {g : G} {S : List Addr} {i : Nat} {d : D}, RepGL K F H vs ds g S → ds[i]? = some d → ∃ v T, vs[i]? = some v ∧ RepG K F H v d g T
  | _, _, _, _, i, _, .nil, e => by simp at e
  | _, _, _, _, 0, _, .cons r _ _, e => by simp at e; subst e; exact ⟨_, _, rfl, r⟩
  | _, _, _, _, i + 1, d, .cons _ t _, e => by
    obtain ⟨v, T, h1, h2⟩ := RepGL.get (i := i) (d := d) t (by simpa using e)
    exact ⟨v, T, by simpa using h1, h2⟩
theorem RepGL.atI {K : PySem.W.Frag} {F H : Hp} {xs : List V} {ds : List D} {g : G} {S : List Addr} {i : Int} {d : D} (h : RepGL K F H xs ds g S) (e : L2.atI ds i = some d) : ∃ v T, L2.atI xs i = some v ∧ RepG K F H v d g T := by
  unfold L2.atI at e ⊢
  rw [h.length]
  cases q : ixN ds.length i with
  | none => rw [q] at e; cases e
  | some j =>
    rw [q] at e
    exact h.get e
theorem ints_atI {ns : List Int} {i : Int} {d : D} (e : atI (ns.map PyData.int) i = some d) : ∃ n, atI (ns.map V.int) i = some (V.int n) ∧ d = .int n := by
  unfold atI at e ⊢
  rw [List.length_map] at e ⊢
  cases q : ixN ns.length i with
  | none => rw [q] at e; cases e
  | some j =>
    rw [q] at e
    have e' : (ns.map PyData.int)[j]? = some d := e
    rw [List.getElem?_map] at e'
    cases z : ns[j]? with
    | none => rw [z] at e'; cases e'
    | some n =>
      rw [z] at e'
      cases e'
      exact ⟨n, by show (ns.map V.int)[j]? = _; rw [List.getElem?_map, z]; rfl, rfl⟩
/-- an item -/
theorem bin_ix : BinR X (rIx X.K) ixG r1 r2 (kid r1) := by
  intro H0 F H x dx y dy d Q t g1 g2 e q
  have fin : ∀ {g : G} {S : List Addr}, RepG X.K F H x dx g S → (∀ v T, RepG X.K F H v d (match g with | .sh => .sh | .ow g => g) T → Q v H) → rIx X.K x y H Q := by
    intro g S r k
    unfold ixG at e
    split at e
    · obtain rfl := (g2.now t).int_inv
      cases r with
      | sh r =>
        cases r with
        | lst a b =>
          obtain ⟨v, e1, e2⟩ := b.atI e
          exact .inl ⟨_, _, _, v, rfl, rfl, SqL.of (t.lst _ _ a), e1, k v _ (.sh e2)⟩
      | at_ a => cases a
      | lst a b n =>
        obtain ⟨v, T, e1, e2⟩ := b.atI e
        exact .inl ⟨_, _, _, v, rfl, rfl, SqL.of a, e1, k v _ e2⟩
    · obtain rfl := (g2.now t).int_inv
      cases r with
      | sh r =>
        cases r with
        | tup a b =>
          obtain ⟨v, e1, e2⟩ := b.atI e
          exact .inr (.inl ⟨_, _, _, v, rfl, rfl, SqT.le t.toLe a, e1, k v _ (.sh e2)⟩)
      | at_ a => cases a
      | tup a b n =>
        obtain ⟨v, T, e1, e2⟩ := b.atI e
        exact .inr (.inl ⟨_, _, _, v, rfl, rfl, SqT.of a, e1, k v _ e2⟩)
    · rename_i z i
      obtain rfl := (g2.now t).int_inv
      split at e
      · rename_i hl
        cases e2 : L2.atI z.cps.toList i with
        | none => rw [e2] at e; cases e
        | some c =>
          rw [e2] at e
          cases e
          have hx : x = .str z := (r.nowT t).str_inv
          refine .inr (.inr ⟨z, i, c, hx, rfl, lineB_ok hl, e2, ?_⟩)
          cases g with
          | sh => exact k _ [] (.sh (.str _))
          | ow g =>
            cases g with
            | sh => exact k _ [] (.sh (.str _))
            | ow g => exact k _ [] (.at_ (.str _))
      · cases e
    · obtain rfl := (g2.now t).int_inv
      cases r with
      | sh r =>
        cases r with
        | dK a b => exact (no_keyK b.keys).elim
        | dT a b => exact (no_keyT b.keys).elim
        | scr a =>
          obtain ⟨n, e1, rfl⟩ := ints_atI e
          exact .inl ⟨_, _, _, _, rfl, rfl, SqL.le t.toLe a, e1, k _ _ (.sh (.int _))⟩
      | at_ a => cases a
      | dK _ e1 _ _ => exact (no_keyK e1).elim
      | dT _ e1 _ _ => exact (no_keyT e1).elim
    · cases e
  rcases r1 with ⟨_ | g⟩ | ⟨_ | g⟩
  · obtain ⟨S, r, _⟩ := g1
    exact fin r fun v T z => q v F H (.refl t) ⟨_, z⟩
  · obtain ⟨S, r, _⟩ := g1
    exact fin r fun v T z => q v F H (.refl t) ⟨_, z⟩
  · obtain ⟨S, r⟩ := g1
    exact fin r fun v T z => q v F H (.refl t) ⟨_, z⟩
  · obtain ⟨S, r⟩ := g1
    exact fin r fun v T z => q v F H (.refl t) ⟨_, z⟩
end
variable {W : WX} {nn : Nat} {Γ : Gs}
/-- x[i], an item that is frozen (or an atom) -/
theorem pd_at {X : Cx} {a b : Expr} {pos : Pos} {fa fb : ED} {r1 r2 rf : Rf} (ha : PEd X W nn Γ a r1 fa) (hb : PEd X W nn Γ b r2 fb) (hs : PlainIx b) (hk : kid r1 = rf) : PEd X W nn Γ (.Subscript a b pos) rf (binD ixG fa fb) :=
  hk ▸ pd_ix ix_seq bin_ix ha hb hs
end DL

/-! DL6: slices, displays, tests, calls -/
namespace DL
open PySem PySem.Spec L2
variable {X : Cx} {W : WX} {nn : Nat} {Γ : Gs} {a b c : Expr} {pos : Pos} {fa fb fc : ED} {r1 r2 r3 rf : Rf}

/-! ### slices -/
theorem SlR.or {r r' : V → Option Int → Option Int → Hp → VK → Prop} (h : SlR X r) (h' : SlR X r') : SlR X (fun x l u H Q => r x l u H Q ∨ r' x l u H Q) := by
  intro pins s σ H x v vl vu lo hi sl Q I rx hs pl pu q
  rcases q with q | q
  · exact h pins s σ H x v vl vu lo hi sl Q I rx hs pl pu q
  · exact h' pins s σ H x v vl vu lo hi sl Q I rx hs pl pu q
def cutA {α : Type} (xs : List α) (lo hi : Option Int) : List α := (xs.drop (HT.sIx xs.length 0 lo)).take (HT.sIx xs.length xs.length hi - HT.sIx xs.length 0 lo)
def sliceG : D → Option Int → Option Int → Option D
  | .list ds, l, u => some (.list (cutA ds l u))
  | .tuple ds, l, u => some (.tuple (cutA ds l u))
  | .str z, l, u => if lineB z.length then some (.str (cutS z l u)) else none
  | _, _, _ => none
def sliceGL : D → Option Int → Option Int → Option D
  | .list ds, l, u => some (.list (cutA ds l u))
  | _, _, _ => none
def partD : Option ED → DEnv → R (Option Int)
  | none, _ => .ok none
  | some f, e => (f e).bind fun d => match d with
    | .int i => .ok (some i)
    | _ => .bad
def sliceWith (g : D → Option Int → Option Int → Option D) (f : ED) (lo hi : Option ED) : ED := fun e => (f e).bind fun x => (partD lo e).bind fun l => (partD hi e).bind fun u => ofO (g x l u)
def sliceLD := sliceWith sliceGL
def sliceD := sliceWith sliceG
theorem RepL.take {K : PySem.W.Frag} {F : Hp} : ∀ {xs : List V} {ds : List D} (n : Nat), RepL K F xs ds → RepL K F (xs.take n) (ds.take n)
  | _, _, 0, _ => .nil
  | _, _, _ + 1, .nil => .nil
  | _, _, n + 1, .cons r t => .cons r (RepL.take n t)
theorem RepL.drop {K : PySem.W.Frag} {F : Hp} : ∀ {xs : List V} {ds : List D} (n : Nat), RepL K F xs ds → RepL K F (xs.drop n) (ds.drop n)
  | _, _, 0, r => r
  | _, _, _ + 1, .nil => .nil
  | _, _, n + 1, .cons _ t => RepL.drop n t
theorem RepL.cut {K : PySem.W.Frag} {F : Hp} {xs : List V} {ds : List D} (h : RepL K F xs ds) (lo hi : Option Int) : RepL K F (cutV xs lo hi) (cutA ds lo hi) := by
  unfold cutV cutA
  rw [h.length]
  exact (h.drop _).take _
theorem cutA_whole {α : Type} {xs : List α} {lo hi : Option Int} (h : HT.sIx xs.length 0 lo = 0 ∧ HT.sIx xs.length xs.length hi = xs.length) : cutA xs lo hi = xs := by
  unfold cutA
  rw [h.1, h.2]
  simp
/-- a part of a slice -/
def PartOk (X : Cx) (W : WX) (nn : Nat) (Γ : Gs) (o : Option Expr) (f : Option ED) (t : TO) : Prop :=
  PO X o t ∧ ∀ (B F H : Hp) (σ : St) (env : DEnv) (S : Nat → List Addr) (Q : Option Int → Hp → Prop), Rel X.K nn B F H Γ σ env S → Out X.K (fun c d H' => W c d σ H') F H (partD f env) (fun d x _ _ => x = d) Q → t σ H Q
theorem part_none : PartOk X W nn Γ none none tNoPart := ⟨po_none, fun B F H σ env S Q r o => o none H F (.refl r.top) rfl⟩
theorem part_some (h : PEd X W nn Γ a r1 fa) : PartOk X W nn Γ (some a) (some fa) (tPart (tE X.K W nn Γ r1 fa)) := by
  refine ⟨po_some h, fun B F H σ env S Q r o => ?_⟩
  refine ⟨B, F, env, S, r, Out.bind o fun d v H1 F1 e p g o1 => ?_⟩
  split at o1
  · exact ⟨_, (g.now p.top).int_inv, o1 _ H1 F1 p rfl⟩
  · exact o1.elim
theorem tE_slice {gg : D → Option Int → Option Int → Option D} {t : V → Option Int → Option Int → Hp → VK → Prop} {lo hi : Option Expr} {fl fh : Option ED} {tl th : TO} (hl : PartOk X W nn Γ lo fl tl) (hh : PartOk X W nn Γ hi fh th)
    (ht : ∀ H0 F H x dx l u d Q, Tp F H → Res X.K H0 F H x dx r1 → gg dx l u = some d → (∀ v F' H', Pg F H F' H' → Res X.K H F' H' v d rf → Q v H') → t x l u H Q) (σ : St) (H : Hp) (Q : VK) (h : tE X.K W nn Γ rf (sliceWith gg fa fl fh) σ H Q) :
    tSl t (tE X.K W nn Γ r1 fa) tl th σ H Q := by
  obtain ⟨B, F, env, S, rel, o⟩ := h
  refine ⟨B, F, env, S, rel, Out.bind o fun dx x H1 F1 e1 p1 g1 o1 => ?_⟩
  refine hl.2 B F1 H1 σ env S _ (rel.pg p1) (Out.bind (Out.later p1 (fun d b F' H' p' z => Res.older p1.ext z) o1) fun l l' H2 F2 e2 p2 g2 o2 => ?_)
  subst g2
  have p12 := p1.trans p2
  refine hh.2 B F2 H2 σ env S _ (rel.pg p12) (Out.bind (Out.later p2 (fun d b F' H' p' z => Res.older p2.ext z) o2) fun u u' H3 F3 e3 p3 g3 o3 => ?_)
  subst g3
  cases e : gg dx l' u' with
  | none => rw [e] at o3; exact o3.elim
  | some d =>
    rw [e] at o3
    exact ht H F3 H3 x dx l' u' d Q p3.top (Res.pg (p2.trans p3) g1) e fun v F' H' p' z => o3 v H' F' (p3.trans p') (Res.older p3.ext z)
/-- list, tuple or text, frozen; what comes out is frozen -/
def fzn : Rf → Bool
  | .v .sh => true
  | .b .sh => true
  | _ => false
theorem Res.rep {K : PySem.W.Frag} {H0 F H : Hp} {x : V} {d : D} {r : Rf} (hk : fzn r = true) (h : Res K H0 F H x d r) : Rep K F x d := by
  rcases r with ⟨_ | g⟩ | ⟨_ | g⟩
  · obtain ⟨S, q, _⟩ := h; exact q.sh_nil.2
  · cases hk
  · obtain ⟨S, q⟩ := h; exact q.sh_nil.2
  · cases hk
/-- frozen at once -/
theorem Res.newLF {K : PySem.W.Frag} {F H H0 : Hp} {p : Addr} {xs : List V} {ds : List D} (t : Tp F H) (hp : H p = none) (r : RepL K F xs ds) : Res K H0 (upd F p (.lst xs)) (upd H p (.lst xs)) (.ref p) (.list ds) (.v .sh) :=
  .sh (.lst upd_same (RepL.le (ext_upd (t.none hp)).le _ _ r))
theorem Res.newTF {K : PySem.W.Frag} {F H H0 : Hp} {p : Addr} {xs : List V} {ds : List D} (t : Tp F H) (hp : H p = none) (r : RepL K F xs ds) : Res K H0 (upd F p (.tup xs)) (upd H p (.tup xs)) (.ref p) (.tuple ds) (.v .sh) :=
  .sh (.tup (SqT.of upd_same) (RepL.le (ext_upd (t.none hp)).le _ _ r))
theorem pd_slice {lo hi : Option Expr} {fl fh : Option ED} {tl th : TO} {p2 : Pos} (ha : PEd X W nn Γ a r1 fa) (hl : PartOk X W nn Γ lo fl tl) (hh : PartOk X W nn Γ hi fh th) (hk : fzn r1 = true) :
    PEd X W nn Γ (.Subscript a (.Slice lo hi none p2) pos) (.v .sh) (sliceD fa fl fh) := by
  refine PE.imp (pe_slice (SlR.or sl_list (SlR.or sl_tupA sl_str)) ha hl.1 hh.1) (tE_slice hl hh ?_)
  intro H0 F H x dx l u d Q t g1 e q
  have r := g1.rep hk
  unfold sliceG at e
  split at e
  · cases e
    cases r with
    | lst a b => exact .inl ⟨_, _, rfl, SqL.of (t.lst _ _ a), fun p hp => q _ _ _ (.allocF t hp (Nat.le_trans (cutV_length _ _ _) (t.lenL (t.lst _ _ a)))) (.newLF t hp (b.cut _ _))⟩
  · cases e
    cases r with
    | tup a b =>
      refine .inr (.inl ⟨_, _, rfl, SqT.le t.toLe a, fun w => q _ F H (.refl t) ?_, fun _ p hp => q _ _ _ (.allocF t hp (Nat.le_trans (cutV_length _ _ _) (t.sz.tup (SqT.le t.toLe a)))) (.newTF t hp (b.cut _ _))⟩)
      rw [b.length] at w
      rw [cutA_whole w]
      exact .sh (.tup a b)
  · split at e
    · rename_i hz
      cases e
      exact .inr (.inr ⟨_, r.str_inv, lineB_ok hz, q _ F H (.refl t) (.at_ (.str _))⟩)
    · cases e
  · cases e
/-- a list's slice, ours -/
theorem pd_sliceL {lo hi : Option Expr} {fl fh : Option ED} {tl th : TO} {p2 : Pos} (ha : PEd X W nn Γ a r1 fa) (hl : PartOk X W nn Γ lo fl tl) (hh : PartOk X W nn Γ hi fh th) (hk : ksh r1 = true) :
    PEd X W nn Γ (.Subscript a (.Slice lo hi none p2) pos) (.v (.ow .sh)) (sliceLD fa fl fh) := by
  refine PE.imp (pe_slice sl_list ha hl.1 hh.1) (tE_slice hl hh ?_)
  intro H0 F H x dx l u d Q t g1 e q
  unfold sliceGL at e
  split at e
  · cases e
    obtain ⟨a, xs, rfl, ha, ra⟩ := g1.kidsL hk t
    exact ⟨_, _, rfl, SqL.of ha, fun p hp => q _ _ _ (.alloc t hp (Nat.le_trans (cutV_length _ _ _) (t.lenL ha))) (.newL t hp (ra.cut _ _))⟩
  · cases e

/-! ### arguments, displays -/
def nilD : AD := fun _ => .ok []
def consD (f : ED) (fs : AD) : AD := fun e => (f e).bind fun d => (fs e).bind fun ds => .ok (d :: ds)
theorem ad_nil (g : G) : PAd X W nn Γ [] g 0 nilD := by
  refine ⟨PA.imp pa_nil fun σ H Q h => ?_, fun e ds h => by cases h; rfl⟩
  obtain ⟨B, F, env, S, rel, o⟩ := h
  exact o [] H F (.refl rel.top) ⟨[], .nil, fun _ z => by simp at z⟩
theorem ad_cons {g : G} {es : List Expr} {n : Nat} {fs : AD} (ha : PEd X W nn Γ a (.v g) fa) (hr : PAd X W nn Γ es g n fs) (hs : starEach (a :: es) X.env = (false, eval a X.env) :: starEach es X.env := by rfl) :
    PAd X W nn Γ (a :: es) g (n + 1) (consD fa fs) := by
  refine ⟨PA.imp (pa_cons ha hr.pa hs) fun σ H Q h => ?_, fun e ds h => ?_⟩
  · obtain ⟨B, F, env, S, rel, o⟩ := h
    refine ⟨B, F, env, S, rel, Out.bind o fun dx x H1 F1 e1 p1 g1 o1 => ?_⟩
    refine ⟨B, F1, env, S, rel.pg p1, Out.bind (Out.later p1 (good' := fun d b F' H' => gA X.K g H d b F' H') (fun d b F' H' p' z => z) o1) fun ds xs H2 F2 e2 p2 g2 o2 => ?_⟩
    obtain ⟨S1, q1, n1⟩ := g1
    obtain ⟨S2, q2, n2⟩ := g2
    refine o2 (x :: xs) H2 F2 p2 ⟨S1 ++ S2, .cons (q1.mv p2.le fun a _ o z => p2.ext a o z) q2 fun z hz hz2 => ?_, fun z hz => ?_⟩
    · exact q1.dom z hz (n2 z hz2).1
    · rcases List.mem_append.mp hz with hz | hz
      · exact ⟨(n1 z hz).1, p2.fnone (n1 z hz).2 (q1.dom z hz)⟩
      · exact ⟨p1.ext.none (n2 z hz).1, (n2 z hz).2⟩
  · unfold consD at h
    cases e1 : fa e with
    | ok d =>
      rw [e1] at h
      cases e2 : fs e with
      | ok ds' =>
        rw [e2] at h
        cases h
        exact congrArg Nat.succ (hr.len e ds' e2)
      | _ => rw [e2] at h; cases h
    | _ => rw [e1] at h; cases h
def lstD (fs : AD) : ED := fun e => (fs e).bind fun ds => .ok (.list ds)
def tupD (fs : AD) : ED := fun e => (fs e).bind fun ds => .ok (.tuple ds)
theorem pd_lst {g : G} {es : List Expr} {n : Nat} {fs : AD} (h : PAd X W nn Γ es g n fs) (hn : n ≤ 1000) : PEd X W nn Γ (.List es pos) (.v (.ow g)) (lstD fs) := by
  refine PE.imp (pe_lst h.pa) fun σ H Q hh => ?_
  obtain ⟨B, F, env, S, rel, o⟩ := hh
  refine ⟨B, F, env, S, rel, Out.bind o fun ds xs H1 F1 e1 p1 g1 o1 => ?_⟩
  obtain ⟨T, q, nw⟩ := g1
  have hz : xs.length ≤ sizeLine := by rw [q.length, h.len env ds e1, sizeLine_eq]; omega
  refine ⟨hz, fun p hp => ?_⟩
  refine o1 _ _ F1 (p1.trans (.alloc p1.top hp hz)) ⟨p :: T, .lst upd_same (RepGL.mv .refl q fun a ha o z => by rw [upd_ne (ne_of_none z hp)]; exact z) (fun z => q.dom p z hp), fun z hz => ?_⟩
  rcases List.mem_cons.mp hz with rfl | hz
  · exact ⟨p1.ext.none hp, p1.top.none hp⟩
  · exact nw z hz
theorem pd_tup {g : G} {es : List Expr} {n : Nat} {fs : AD} {x1} (h : PAd X W nn Γ es g n fs) (hn : n ≤ 1000) : PEd X W nn Γ (.Tuple es x1 pos) (.v (.ow g)) (tupD fs) := by
  refine PE.imp (pe_tup h.pa) fun σ H Q hh => ?_
  obtain ⟨B, F, env, S, rel, o⟩ := hh
  refine ⟨B, F, env, S, rel, Out.bind o fun ds xs H1 F1 e1 p1 g1 o1 => ?_⟩
  obtain ⟨T, q, nw⟩ := g1
  have hz : xs.length ≤ sizeLine := by rw [q.length, h.len env ds e1, sizeLine_eq]; omega
  refine ⟨hz, fun p hp => ?_⟩
  refine o1 _ _ F1 (p1.trans (.alloc p1.top hp hz)) ⟨p :: T, .tup upd_same (RepGL.mv .refl q fun a ha o z => by rw [upd_ne (ne_of_none z hp)]; exact z) (fun z => q.dom p z hp), fun z hz => ?_⟩
  rcases List.mem_cons.mp hz with rfl | hz
  · exact ⟨p1.ext.none hp, p1.top.none hp⟩
  · exact nw z hz
end DL

/-! DL7: truth, tests, bool operators, calls -/
namespace DL
open PySem PySem.Spec L2
variable {X : Cx} {W : WX} {nn : Nat} {Γ : Gs} {a b c : Expr} {pos : Pos} {fa fb fc : ED} {ga gb gc : TD} {r1 r2 r3 rf : Rf}

/-! ### truth -/
def truD : D → Option Bool
  | .none => some false
  | .bool b => some b
  | .int i => some (i != 0)
  | .str z => if lineB z.length then some ((z.length : Int) != 0) else none
  | .list ds => some (!ds.isEmpty)
  | .tuple ds => some (!ds.isEmpty)
  | .dict _ => none
theorem RepL.isEmpty {K : PySem.W.Frag} {F : Hp} {xs : List V} {ds : List D} (h : RepL K F xs ds) : xs.isEmpty = ds.isEmpty := by cases h <;> rfl
theorem Rep.tru {K : PySem.W.Frag} {H : Hp} {x : V} {d : D} {k : Bool} (h : Rep K H x d) (e : truD d = some k) : TruV K x H k := by
  cases h with
  | non => cases e; rfl
  | bl b => cases e; rfl
  | int i => cases e; rfl
  | str z =>
    simp only [truD] at e
    split at e
    · rename_i h
      cases e
      exact ⟨lineB_ok h, rfl⟩
    · cases e
  | lst a b =>
    cases e
    exact .inl ⟨_, SqL.of a, by rw [b.isEmpty]⟩
  | tup a b =>
    cases e
    exact .inr (.inl ⟨_, a, by rw [b.isEmpty]⟩)
  | dK a b => cases e
  | dT a b => cases e
  | obj a b => cases e
  | scr a => cases e
def trD (f : ED) : TD := fun e => (f e).bind fun d => ofO (truD d)
/-- any expression as a test, by its truth -/
theorem td_tru (ha : PEd X W nn Γ a r1 fa) (he : ∀ whole, isTrue a X.env whole = (do let v ← whole; standAt a.pos; holding [v] (truthy v))) : PTd X W nn Γ a (trD fa) := by
  refine PT.imp (pt_truth ha he) fun σ H Q h => ?_
  obtain ⟨B, F, env, S, rel, o⟩ := h
  refine ⟨B, F, env, S, rel, Out.bind o fun dx x H1 F1 e1 p1 g1 o1 => ?_⟩
  cases e : truD dx with
  | none => rw [e] at o1; exact o1.elim
  | some k =>
    rw [e] at o1
    exact ⟨k, (g1.now p1.top).tru e, o1 k H1 F1 p1 rfl⟩
/-- a value that is a bool -/
def blD (f : ED) : TD := fun e => (f e).bind fun d => match d with
  | .bool b => .ok b
  | _ => .bad
theorem tE_bl {t : TE} (i : ∀ σ H Q, tE X.K W nn Γ (.v .sh) fa σ H Q → t σ H Q) (mono : True) (σ : St) (H : Hp) (Q : Bool → Hp → Prop) (h : tT X.K W nn Γ (blD fa) σ H Q) : tTest t σ H Q := by
  obtain ⟨B, F, env, S, rel, o⟩ := h
  refine i σ H _ ⟨B, F, env, S, rel, Out.bind o fun dx x H1 F1 e1 p1 g1 o1 => ?_⟩
  split at o1
  · exact ⟨_, (g1.now p1.top).bl_inv, o1 _ H1 F1 p1 rfl⟩
  · exact o1.elim
/-- a comparison as a test -/
theorem td_cmp {op : CmpOp} {r : R2} {g : D → D → Option D} (ho : OpR X (compareOp op) r) (hr : BinR X r g r1 r2 (.v .sh)) (ha : PEd X W nn Γ a r1 fa) (hb : PEd X W nn Γ b r2 fb) (hm : behindInMarks op b = false) : PTd X W nn Γ (.Compare a [op] [b] pos) (blD (binD g fa fb)) :=
  PT.imp (pt_cmpR ho ha hb hm) (tE_bl (tE_bin hr) trivial)
/-- a < b < c -/
def chainD (g h : D → D → Option D) (a b c : ED) : ED := fun e => (a e).bind fun x => (b e).bind fun y => (ofO (g x y)).bind fun k => match k with
  | .bool true => (c e).bind fun z => ofO (h y z)
  | .bool false => .ok (.bool false)
  | _ => .bad
theorem tE_chain {r r' : R2} {g g' : D → D → Option D} (hr : BinR X r g r1 r2 (.v .sh)) (hr' : BinR X r' g' r2 r3 (.v .sh)) (σ : St) (H : Hp) (Q : VK) (h : tE X.K W nn Γ (.v .sh) (chainD g g' fa fb fc) σ H Q) :
    tChain r r' (tE X.K W nn Γ r1 fa) (tE X.K W nn Γ r2 fb) (tE X.K W nn Γ r3 fc) σ H Q := by
  obtain ⟨B, F, env, S, rel, o⟩ := h
  refine ⟨B, F, env, S, rel, Out.bind o fun dx x H1 F1 e1 p1 g1 o1 => ?_⟩
  refine ⟨B, F1, env, S, rel.pg p1, Out.bind (Out.later p1 (fun d b F' H' p' z => Res.older p1.ext z) o1) fun dy y H2 F2 e2 p2 g2 o2 => ?_⟩
  cases e : g dx dy with
  | none => rw [e] at o2; exact o2.elim
  | some d =>
    rw [e, ofO_some, R.bind_ok] at o2
    refine hr H F2 H2 x dx y dy d _ p2.top (Res.pg p2 g1) (Res.older p1.ext g2) e fun v F3 H3 p3 z => ?_
    split at o2
    · refine ⟨true, (z.now p3.top).bl_inv, ?_⟩
      rw [if_pos rfl]
      have p23 := p2.trans p3
      refine ⟨B, F3, env, S, (rel.pg p1).pg p23, Out.bind (Out.later p23 (fun d b F' H' p' z => Res.older p23.ext z) o2) fun dz zz H4 F4 e4 p4 g4 o4 => ?_⟩
      cases e' : g' dy dz with
      | none => rw [e'] at o4; exact o4.elim
      | some d' =>
        rw [e'] at o4
        exact hr' H1 F4 H4 y dy zz dz d' Q p4.top (Res.pg p4 (Res.pg p3 g2)) (Res.older p23.ext g4) e' fun v F' H' p' z => o4 v H' F' (p4.trans p') (Res.older p4.ext z)
    · refine ⟨false, (z.now p3.top).bl_inv, ?_⟩
      rw [if_neg (by decide)]
      exact o2 _ H3 F3 (p2.trans p3) (.at_ (.bl _))
    · exact o2.elim
theorem pd_chain {op op' : CmpOp} {r r' : R2} {g g' : D → D → Option D} (ho : OpR X (compareOp op) r) (ho' : OpR X (compareOp op') r') (hr : BinR X r g r1 r2 (.v .sh)) (hr' : BinR X r' g' r2 r3 (.v .sh)) (ha : PEd X W nn Γ a r1 fa) (hb : PEd X W nn Γ b r2 fb) (hc : PEd X W nn Γ c r3 fc)
    (hm : lastMarks [op, op'] [b, c] = false := by rfl) : PEd X W nn Γ (.Compare a [op, op'] [b, c] pos) (.v .sh) (chainD g g' fa fb fc) :=
  PE.imp (pe_chain ho ho' ha hb hc hm) (tE_chain hr hr')
theorem td_chain {op op' : CmpOp} {r r' : R2} {g g' : D → D → Option D} (ho : OpR X (compareOp op) r) (ho' : OpR X (compareOp op') r') (hr : BinR X r g r1 r2 (.v .sh)) (hr' : BinR X r' g' r2 r3 (.v .sh)) (ha : PEd X W nn Γ a r1 fa) (hb : PEd X W nn Γ b r2 fb) (hc : PEd X W nn Γ c r3 fc)
    (hm : lastMarks [op, op'] [b, c] = false := by rfl) : PTd X W nn Γ (.Compare a [op, op'] [b, c] pos) (blD (chainD g g' fa fb fc)) :=
  PT.imp (pt_chain ho ho' ha hb hc hm) (tE_bl (tE_chain hr hr') trivial)
/-! ### and, or, not -/
def andT (f g : TD) : TD := fun e => (f e).bind fun b => if b = true then g e else .ok false
def orT (f g : TD) : TD := fun e => (f e).bind fun b => if b = true then .ok true else g e
def notT (f : TD) : TD := fun e => (f e).bind fun b => .ok (!b)
abbrev PWd (X : Cx) (W : WX) (nn : Nat) (Γ : Gs) (e : Expr) (f : TD) : Prop := PW X e (tT X.K W nn Γ f)
theorem PW.imp {X : Cx} {e : Expr} {t t' : TT} (h : PW X e t) (i : ∀ σ H Q, t' σ H Q → t σ H Q) : PW X e t' := ⟨fun w pins s σ H Q I q => h.run w pins s σ H Q I (i σ H Q q)⟩
theorem wd_and1 (ha : PTd X W nn Γ a ga) : PWd X W nn Γ (.BoolOp .And [a] pos) ga := pw_and1 ha
theorem wd_or1 (ha : PTd X W nn Γ a ga) : PWd X W nn Γ (.BoolOp .Or [a] pos) ga := pw_or1 ha
theorem wd_and {rest : List Expr} (ha : PTd X W nn Γ a ga) (hb : PWd X W nn Γ (.BoolOp .And (b :: rest) pos) gb) : PWd X W nn Γ (.BoolOp .And (a :: b :: rest) pos) (andT ga gb) := by
  refine PW.imp (pw_and ha hb) fun σ H Q h => ?_
  obtain ⟨B, F, env, S, rel, o⟩ := h
  refine ⟨B, F, env, S, rel, Out.bind o fun dx x H1 F1 e1 p1 g1 o1 => ?_⟩
  subst g1
  cases x with
  | true => exact ⟨B, F1, env, S, rel.pg p1, Out.later p1 (fun d b F' H' p' z => z) o1⟩
  | false => exact o1 _ H1 F1 p1 rfl
theorem wd_or {rest : List Expr} (ha : PTd X W nn Γ a ga) (hb : PWd X W nn Γ (.BoolOp .Or (b :: rest) pos) gb) : PWd X W nn Γ (.BoolOp .Or (a :: b :: rest) pos) (orT ga gb) := by
  refine PW.imp (pw_or ha hb) fun σ H Q h => ?_
  obtain ⟨B, F, env, S, rel, o⟩ := h
  refine ⟨B, F, env, S, rel, Out.bind o fun dx x H1 F1 e1 p1 g1 o1 => ?_⟩
  subst g1
  cases x with
  | false => exact ⟨B, F1, env, S, rel.pg p1, Out.later p1 (fun d b F' H' p' z => z) o1⟩
  | true => exact o1 _ H1 F1 p1 rfl
theorem td_w (h : PWd X W nn Γ a ga) : PTd X W nn Γ a ga := h.pt
theorem td_not (ha : PTd X W nn Γ a ga) : PTd X W nn Γ (.UnaryOp .Not a pos) (notT ga) := by
  refine PT.imp (pt_not ha) fun σ H Q h => ?_
  obtain ⟨B, F, env, S, rel, o⟩ := h
  refine ⟨B, F, env, S, rel, Out.bind o fun dx x H1 F1 e1 p1 g1 o1 => ?_⟩
  subst g1
  exact o1 _ H1 F1 p1 rfl
/-- as values -/
def andD (f g : ED) : ED := fun e => (f e).bind fun x => (ofO (truD x)).bind fun b => if b = true then g e else .ok x
def orD (f g : ED) : ED := fun e => (f e).bind fun x => (ofO (truD x)).bind fun b => if b = true then .ok x else g e
def notD (f : ED) : ED := fun e => (f e).bind fun x => (ofO (truD x)).bind fun b => .ok (.bool (!b))
theorem pd_one {op} (h : PEd X W nn Γ a rf fa) : PEd X W nn Γ (.BoolOp op [a] pos) rf fa := pe_one h
theorem pd_and {rest : List Expr} (ha : PEd X W nn Γ a (.v .sh) fa) (hb : PEd X W nn Γ (.BoolOp .And (b :: rest) pos) (.v .sh) fb) : PEd X W nn Γ (.BoolOp .And (a :: b :: rest) pos) (.v .sh) (andD fa fb) := by
  refine PE.imp (pe_andT ha hb) fun σ H Q h => ?_
  obtain ⟨B, F, env, S, rel, o⟩ := h
  refine ⟨B, F, env, S, rel, Out.bind o fun dx x H1 F1 e1 p1 g1 o1 => ?_⟩
  cases e : truD dx with
  | none => rw [e] at o1; exact o1.elim
  | some k =>
    rw [e, ofO_some, R.bind_ok] at o1
    refine ⟨k, (g1.now p1.top).tru e, ?_⟩
    cases k with
    | true => exact ⟨B, F1, env, S, rel.pg p1, Out.later p1 (fun d b F' H' p' z => Res.older p1.ext z) o1⟩
    | false => exact o1 _ H1 F1 p1 g1
theorem pd_or {rest : List Expr} (ha : PEd X W nn Γ a (.v .sh) fa) (hb : PEd X W nn Γ (.BoolOp .Or (b :: rest) pos) (.v .sh) fb) : PEd X W nn Γ (.BoolOp .Or (a :: b :: rest) pos) (.v .sh) (orD fa fb) := by
  refine PE.imp (pe_orT ha hb) fun σ H Q h => ?_
  obtain ⟨B, F, env, S, rel, o⟩ := h
  refine ⟨B, F, env, S, rel, Out.bind o fun dx x H1 F1 e1 p1 g1 o1 => ?_⟩
  cases e : truD dx with
  | none => rw [e] at o1; exact o1.elim
  | some k =>
    rw [e, ofO_some, R.bind_ok] at o1
    refine ⟨k, (g1.now p1.top).tru e, ?_⟩
    cases k with
    | false => exact ⟨B, F1, env, S, rel.pg p1, Out.later p1 (fun d b F' H' p' z => Res.older p1.ext z) o1⟩
    | true => exact o1 _ H1 F1 p1 g1
theorem pd_not (g : G) (ha : PEd X W nn Γ a r1 fa) : PEd X W nn Γ (.UnaryOp .Not a pos) (.v g) (notD fa) := by
  refine PE.imp (pe_notT ha) fun σ H Q h => ?_
  obtain ⟨B, F, env, S, rel, o⟩ := h
  refine ⟨B, F, env, S, rel, Out.bind o fun dx x H1 F1 e1 p1 g1 o1 => ?_⟩
  cases e : truD dx with
  | none => rw [e] at o1; exact o1.elim
  | some k =>
    rw [e, ofO_some, R.bind_ok] at o1
    exact ⟨k, (g1.now p1.top).tru e, o1 _ H1 F1 p1 (.at_ (.bl _))⟩
def ifD (t : TD) (f g : ED) : ED := fun e => (t e).bind fun b => if b = true then f e else g e
theorem pd_ifExp (hc : PTd X W nn Γ c gc) (ha : PEd X W nn Γ a rf fa) (hb : PEd X W nn Γ b rf fb) : PEd X W nn Γ (.IfExp c a b pos) rf (ifD gc fa fb) := by
  refine PE.imp (pe_ifExp hc ha hb) fun σ H Q h => ?_
  obtain ⟨B, F, env, S, rel, o⟩ := h
  refine ⟨B, F, env, S, rel, Out.bind o fun dx x H1 F1 e1 p1 g1 o1 => ?_⟩
  subst g1
  cases x with
  | true => exact ⟨B, F1, env, S, rel.pg p1, Out.later p1 (fun d b F' H' p' z => Res.older p1.ext z) o1⟩
  | false => exact ⟨B, F1, env, S, rel.pg p1, Out.later p1 (fun d b F' H' p' z => Res.older p1.ext z) o1⟩

/-! ### -x -/
def negG : D → Option D
  | .int i => some (.int (-i))
  | _ => none
theorem pd_neg (g : G) (ha : PEd X W nn Γ a r1 fa) : PEd X W nn Γ (.UnaryOp .USub a pos) (.v g) (unD negG fa) := by
  refine PE.imp (pe_un un_neg ha) fun σ H Q h => ?_
  obtain ⟨B, F, env, S, rel, o⟩ := h
  refine ⟨B, F, env, S, rel, Out.bind o fun dx x H1 F1 e1 p1 g1 o1 => ?_⟩
  cases dx <;> try exact o1.elim
  exact ⟨_, (g1.now p1.top).int_inv, o1 _ H1 F1 p1 (.at_ (.int _))⟩

/-! ### built-in calls, by values -/
def Un1R (X : Cx) (r : List V → Hp → VK → Prop) (g : D → Option D) (r1 rf : Rf) : Prop :=
  ∀ (H0 F H : Hp) (x : V) (dx d : D) (Q : VK), Tp F H → Res X.K H0 F H x dx r1 → g dx = some d → (∀ v F' H', Pg F H F' H' → Res X.K H F' H' v d rf → Q v H') → r [x] H Q
theorem tE_call1 {r : List V → Hp → VK → Prop} {g : D → Option D} (hr : Un1R X r g r1 rf) (σ : St) (H : Hp) (Q : VK) (h : tE X.K W nn Γ rf (unD g fa) σ H Q) : tCB r (tCons (tE X.K W nn Γ r1 fa) tNil) σ H Q := by
  obtain ⟨B, F, env, S, rel, o⟩ := h
  refine ⟨B, F, env, S, rel, Out.bind o fun dx x H1 F1 e1 p1 g1 o1 => ?_⟩
  cases e : g dx with
  | none => rw [e] at o1; exact o1.elim
  | some d =>
    rw [e] at o1
    exact hr H F1 H1 x dx d Q p1.top g1 e fun v F' H' p' z => o1 v H' F' (p1.trans p') (Res.older p1.ext z)
theorem tE_call2 {r : List V → Hp → VK → Prop} {g : D → D → Option D} (hr : BinR X (fun x y => r [x, y]) g r1 r2 rf) (σ : St) (H : Hp) (Q : VK) (h : tE X.K W nn Γ rf (binD g fa fb) σ H Q) :
    tCB r (tCons (tE X.K W nn Γ r1 fa) (tCons (tE X.K W nn Γ r2 fb) tNil)) σ H Q := tE_bin hr σ H Q h
section
variable {x : Str} {p : Pos} {id T : String} {r : List V → Hp → VK → Prop} {g : D → Option D} {g2 : D → D → Option D}
theorem pd_callB1 (hc : CallR X (.builtin id) r) (hr : Un1R X r g r1 rf) (hg : Gl X x) (hm : X.mg x = none) (hv : bootBuiltins x = some (.builtin id)) (ha : PEd X W nn Γ a r1 fa) (hn : x ≠ "__name__" := by decide) (hdb : (x == ("__debug__" : Str)) = false := by decide)
    (hs : starEach [a] X.env = (false, eval a X.env) :: starEach [] X.env := by rfl) (hpl : (backTo pos (starEach [] X.env)).any (·.1) = false := by rfl) : PEd X W nn Γ (.Call (.Name x p) [a] [] pos) rf (unD g fa) :=
  PE.imp (pe_callB hc hg hm hv (pa_cons ha pa_nil hs) hn hdb hs hpl) (tE_call1 hr)
theorem pd_callT1 (hc : CallR X (.type T) r) (hr : Un1R X r g r1 rf) (hg : Gl X x) (hm : X.mg x = none) (hv : bootBuiltins x = some (.type T)) (ha : PEd X W nn Γ a r1 fa) (hn : x ≠ "__name__" := by decide) (hdb : (x == ("__debug__" : Str)) = false := by decide)
    (hs : starEach [a] X.env = (false, eval a X.env) :: starEach [] X.env := by rfl) (hpl : (backTo pos (starEach [] X.env)).any (·.1) = false := by rfl) : PEd X W nn Γ (.Call (.Name x p) [a] [] pos) rf (unD g fa) :=
  PE.imp (pe_callTy hc hg hm hv (pa_cons ha pa_nil hs) hn hdb hs hpl) (tE_call1 hr)
theorem pd_callB2 (hc : CallR X (.builtin id) r) (hr : BinR X (fun x y => r [x, y]) g2 r1 r2 rf) (hg : Gl X x) (hm : X.mg x = none) (hv : bootBuiltins x = some (.builtin id)) (ha : PEd X W nn Γ a r1 fa) (hb : PEd X W nn Γ b r2 fb) (hn : x ≠ "__name__" := by decide) (hdb : (x == ("__debug__" : Str)) = false := by decide)
    (hs : starEach [a, b] X.env = (false, eval a X.env) :: starEach [b] X.env := by rfl) (hs2 : starEach [b] X.env = (false, eval b X.env) :: starEach [] X.env := by rfl) (hpl : (backTo pos (starEach [b] X.env)).any (·.1) = false := by rfl) : PEd X W nn Γ (.Call (.Name x p) [a, b] [] pos) rf (binD g2 fa fb) :=
  PE.imp (pe_callB hc hg hm hv (pa_cons ha (pa_cons hb pa_nil hs2) hs) hn hdb hs hpl) (tE_call2 hr)
end
def lenG : D → Option D
  | .list ds => some (.int ds.length)
  | .tuple ds => some (.int ds.length)
  | .str z => if lineB z.length then some (.int z.length) else none
  | .dict [(.bool true, .list ds)] => some (.int ds.length)
  | _ => none
theorem un_len (g : G) : Un1R X (fun xs H Q => ∃ x n, xs = [x] ∧ LenV X.K x H n ∧ Q (.int n) H) lenG r1 (.v g) := by
  intro H0 F H x dx d Q t g1 e q
  have r := g1.now t
  unfold lenG at e
  split at e
  · cases e
    cases r with
    | lst a b => exact ⟨_, _, rfl, .inl ⟨_, SqL.of a, rfl⟩, by rw [b.length]; exact q _ F H (.refl t) (.at_ (.int _))⟩
  · cases e
    cases r with
    | tup a b => exact ⟨_, _, rfl, .inr ⟨_, a, rfl⟩, by rw [b.length]; exact q _ F H (.refl t) (.at_ (.int _))⟩
  · split at e
    · rename_i h
      cases e
      cases r
      exact ⟨_, _, rfl, ⟨lineB_ok h, rfl⟩, q _ F H (.refl t) (.at_ (.int _))⟩
    · cases e
  · cases e
    cases r with
    | dK a b => exact (no_keyK b.keys).elim
    | dT a b => exact (no_keyT b.keys).elim
    | scr a => exact ⟨_, _, rfl, .inl ⟨_, a, rfl⟩, by rw [List.length_map, ← List.length_map (as := _) (f := PyData.int)]; exact q _ F H (.refl t) (.at_ (.int _))⟩
  · cases e
def intG : D → Option D
  | .int i => some (.int i)
  | .bool b => some (.int (if b then 1 else 0))
  | _ => none
theorem un_int (g : G) : Un1R X (fun xs H Q => (∃ i, xs = [.int i] ∧ Q (.int i) H) ∨ ∃ k, xs = [.bl k] ∧ Q (.int (if k then 1 else 0)) H) intG r1 (.v g) := by
  intro H0 F H x dx d Q t g1 e q
  have r := g1.now t
  unfold intG at e
  split at e
  · cases e; cases r
    exact .inl ⟨_, rfl, q _ F H (.refl t) (.at_ (.int _))⟩
  · cases e; cases r
    exact .inr ⟨_, rfl, q _ F H (.refl t) (.at_ (.int _))⟩
  · cases e
def intsOf : List D → Option (List Int)
  | [] => some []
  | .int i :: ds => (intsOf ds).map (i :: ·)
  | _ :: _ => none
theorem intsOf_rep {K : PySem.W.Frag} {F : Hp} : ∀ {ds : List D} {xs : List V} {ns : List Int}, RepL K F xs ds → intsOf ds = some ns → xs = ns.map V.int
  | [], _, _, h, e => by cases h; cases e; rfl
  | .int i :: ds, _, _, h, e => by
    cases h with
    | cons a b =>
      cases a
      unfold intsOf at e
      cases z : intsOf ds with
      | none => rw [z] at e; cases e
      | some ns =>
        rw [z] at e
        cases e
        rw [intsOf_rep b z]
        rfl
  | .none :: _, _, _, _, e => by cases e
  | .bool _ :: _, _, _, _, e => by cases e
  | .str _ :: _, _, _, _, e => by cases e
  | .list _ :: _, _, _, _, e => by cases e
  | .tuple _ :: _, _, _, _, e => by cases e
  | .dict _ :: _, _, _, _, e => by cases e
def blsOf : List D → Option (List Bool)
  | [] => some []
  | .bool i :: ds => (blsOf ds).map (i :: ·)
  | _ :: _ => none
theorem blsOf_rep {K : PySem.W.Frag} {F : Hp} : ∀ {ds : List D} {xs : List V} {ns : List Bool}, RepL K F xs ds → blsOf ds = some ns → xs = ns.map V.bl
  | [], _, _, h, e => by cases h; cases e; rfl
  | .bool i :: ds, _, _, h, e => by
    cases h with
    | cons a b =>
      cases a
      unfold blsOf at e
      cases z : blsOf ds with
      | none => rw [z] at e; cases e
      | some ns =>
        rw [z] at e
        cases e
        rw [blsOf_rep b z]
        rfl
  | .none :: _, _, _, _, e => by cases e
  | .int _ :: _, _, _, _, e => by cases e
  | .str _ :: _, _, _, _, e => by cases e
  | .list _ :: _, _, _, _, e => by cases e
  | .tuple _ :: _, _, _, _, e => by cases e
  | .dict _ :: _, _, _, _, e => by cases e
def sumG : D → Option D
  | .list ds => (intsOf ds).map fun ns => .int ns.sum
  | _ => none
theorem un_sum (g : G) : Un1R X (rSum X.K) sumG r1 (.v g) := by
  intro H0 F H x dx d Q t g1 e q
  have r := g1.now t
  unfold sumG at e
  split at e
  · rename_i ds
    cases z : intsOf ds with
    | none => rw [z] at e; cases e
    | some ns =>
      rw [z] at e
      cases e
      cases r with
      | lst a b =>
        rw [intsOf_rep b z] at a
        exact ⟨_, ns, rfl, SqL.of a, q _ F H (.refl t) (.at_ (.int _))⟩
  · cases e
def allG : D → Option D
  | .list ds => (blsOf ds).map fun ns => .bool (ns.all id)
  | _ => none
theorem un_all (g : G) : Un1R X (rAll X.K) allG r1 (.v g) := by
  intro H0 F H x dx d Q t g1 e q
  have r := g1.now t
  unfold allG at e
  split at e
  · rename_i ds
    cases z : blsOf ds with
    | none => rw [z] at e; cases e
    | some ns =>
      rw [z] at e
      cases e
      cases r with
      | lst a b =>
        rw [blsOf_rep b z] at a
        exact ⟨_, ns, rfl, SqL.of a, q _ F H (.refl t) (.at_ (.bl _))⟩
  · cases e
def anyG : D → Option D
  | .list ds => (blsOf ds).map fun ns => .bool (ns.any id)
  | _ => none
theorem un_any (g : G) : Un1R X (rAny X.K) anyG r1 (.v g) := by
  intro H0 F H x dx d Q t g1 e q
  have r := g1.now t
  unfold anyG at e
  split at e
  · rename_i ds
    cases z : blsOf ds with
    | none => rw [z] at e; cases e
    | some ns =>
      rw [z] at e
      cases e
      cases r with
      | lst a b =>
        rw [blsOf_rep b z] at a
        exact ⟨_, ns, rfl, SqL.of a, q _ F H (.refl t) (.at_ (.bl _))⟩
  · cases e
/-- list(xs) of a list or a tuple -/
def listG : D → Option D
  | .list ds => some (.list ds)
  | .tuple ds => some (.list ds)
  | _ => none
theorem un_list (hk : ksh r1 = true) : Un1R X (fun xs H Q => ∃ p ys, xs = [.ref p] ∧ (SqL X.K H p ys ∨ SqT X.K H p ys) ∧ ∀ l, H l = none → Q (.ref l) (upd H l (.lst ys))) listG r1 (.v (.ow .sh)) := by
  intro H0 F H x dx d Q t g1 e q
  unfold listG at e
  split at e
  · cases e
    obtain ⟨a, xs, rfl, ha, ra⟩ := g1.kidsL hk t
    exact ⟨a, xs, rfl, .inl (SqL.of ha), fun l hl => q _ _ _ (.alloc t hl (t.lenL ha)) (.newL t hl ra)⟩
  · cases e
    obtain ⟨a, xs, rfl, ha, ra⟩ := g1.kidsT hk t
    exact ⟨a, xs, rfl, .inr ha, fun l hl => q _ _ _ (.alloc t hl (t.sz.tup ha)) (.newL t hl ra)⟩
  · cases e
/-- tuple(xs) of a list or a tuple -/
def tupleG : D → Option D
  | .list ds => some (.tuple ds)
  | .tuple ds => some (.tuple ds)
  | _ => none
theorem un_tuple (hf : fzn r1 = true) : Un1R X (fun xs H Q => ∃ p ys, xs = [.ref p] ∧ ((SqL X.K H p ys ∧ ∀ l, H l = none → Q (.ref l) (upd H l (.tup ys))) ∨ (SqT X.K H p ys ∧ Q (.ref p) H))) tupleG r1 (.v .sh) := by
  intro H0 F H x dx d Q t g1 e q
  unfold tupleG at e
  split at e
  · cases e
    have r := g1.rep hf
    cases r with
    | lst a b => exact ⟨_, _, rfl, .inl ⟨SqL.of (t.lst _ _ a), fun l hl => q _ _ _ (.allocF t hl (t.lenL (t.lst _ _ a))) (.newTF t hl b)⟩⟩
  · cases e
    have r := g1.rep hf
    cases r with
    | tup a b => exact ⟨_, _, rfl, .inr ⟨SqT.le t.toLe a, q _ F H (.refl t) (.sh (.tup a b))⟩⟩
  · cases e
end DL

/-! DL8: isinstance, defs' calls, statements -/
namespace DL
open PySem PySem.Spec L2
variable {X : Cx} {W : WX} {nn : Nat} {Γ Γ1 Γ2 : Gs} {a b c : Expr} {pos : Pos} {fa fb fc : ED} {ga gb gc : TD} {r1 r2 r3 rf : Rf}

/-! ### isinstance(x, T), T a built-in type -/
def tyName : D → Option String
  | .none => some "NoneType"
  | .bool _ => some "bool"
  | .int _ => some "int"
  | .str _ => some "str"
  | .list _ => some "list"
  | .tuple _ => some "tuple"
  | .dict _ => none
theorem Rep.ty {K : PySem.W.Frag} {H : Hp} {x : V} {d : D} {t : String} (h : Rep K H x d) (e : tyName d = some t) : TyX K H x (.type t) := by
  cases h with
  | non => cases e; exact .base .non
  | bl b => cases e; exact .base (.bl b)
  | int i => cases e; exact .base (.int i)
  | str z => cases e; exact .base (.str z)
  | lst a b => cases e; exact .base (.lst a)
  | tup a b =>
    cases e
    rcases a with (a | ⟨o, a⟩) | ⟨o, its, n, h1, h2, _⟩
    · exact .base (.tup a)
    · exact .fTuple a
    · exact .kTuple h1 h2
  | _ => cases e
def isiG (T : String) (d : D) : Option D := (tyName d).bind fun t => (kitB t T).map .bool
theorem pd_isi {T : String} {x : Str} {p p2 : Pos} (g : G) (ha : PEd X W nn Γ a r1 fa) (hg : Gl X "isinstance") (hm : X.mg "isinstance" = none) (hv : bootBuiltins "isinstance" = some (.builtin "isinstance"))
    (hgT : Gl X x) (hmT : X.mg x = none) (hvT : bootBuiltins x = some (.type T)) (hn : x ≠ "__name__" := by decide) (hdb : (x == ("__debug__" : Str)) = false := by decide)
    (hs : starEach [a, .Name x p2] X.env = (false, eval a X.env) :: starEach [.Name x p2] X.env := by rfl) (hs2 : starEach [.Name x p2] X.env = (false, eval (.Name x p2) X.env) :: starEach [] X.env := by rfl) (hpl : (backTo pos (starEach [.Name x p2] X.env)).any (·.1) = false := by rfl) :
    PEd X W nn Γ (.Call (.Name "isinstance" p) [a, .Name x p2] [] pos) (.v g) (unD (isiG T) fa) := by
  refine PE.imp (pe_callB call_isi hg hm hv (pa_cons ha (pa_cons (pe_bltn (v := .ty T) hgT hmT hvT rfl hn hdb) pa_nil hs2) hs) (by decide) (by decide) hs hpl) fun σ H Q h => ?_
  obtain ⟨B, F, env, S, rel, o⟩ := h
  refine ⟨B, F, env, S, rel, Out.bind o fun dx x H1 F1 e1 p1 g1 o1 => ?_⟩
  unfold isiG at o1
  cases e : tyName dx with
  | none => rw [e] at o1; exact o1.elim
  | some t =>
    rw [e, Option.bind_some] at o1
    cases e2 : kitB t T with
    | none => rw [e2] at o1; exact o1.elim
    | some b =>
      rw [e2] at o1
      exact ⟨_, _, _, _, b, rfl, .ty T, (g1.now p1.top).ty e, kit_ty e2, o1 _ H1 F1 p1 (.at_ (.bl _))⟩

/-! ### a def -/
/-- the promise of a def by its function on data -/
def spD (K : PySem.W.Frag) (n : Nat) (rg : G) (f : List D → R D) : Sp := fun vs H Q E =>
  ∃ F ds, Tp F H ∧ RepL K F vs ds ∧ ds.length = n ∧ Out K (fun c d H' => E c d H') F H (f ds) (gV K (.v rg) H) Q
structure Def1 (P : Program) (w : World) (K : PySem.W.Frag) (mg : Str → Option Value) (base : Heap) (k : Nat) (x : Str) (n : Nat) (rg : G) (f : List D → R D) : Prop where
  ex : ∃ (a : Addr) (fd : FuncData) (ps : List Str), mg x = some (.ref a) ∧ PySem.W.keepIn K (.ref a) = true ∧ Binds K fd ps [] ∧ FnOk P w K mg base (L2.CX P w) k a fd ps (spD K n rg f)
/-- what a callee lets out is taken -/
def Pass (X : Cx) (W : WX) : Prop := ∀ σ, PassesAt (L2.CX X.prog X.w) X σ (WE W σ)
theorem pass_never {X : Cx} : Pass X (fun _ _ _ _ => False) := fun σ pins H s e s' I c => by
  obtain ⟨_, _, _, _, _, _, _, _, _, _, _, _, z⟩ := c
  exact z.elim
theorem pass_of (tk : Takes X W) : Pass X W := fun σ => passAt tk σ
def callD (f : List D → R D) (fs : AD) : ED := fun e => (fs e).bind f
theorem tE_call {n : Nat} {rg : G} {f : List D → R D} {fs : AD} (hl : ∀ e ds, fs e = .ok ds → ds.length = n) (σ : St) (H : Hp) (Q : VK) (h : tE X.K W nn Γ (.v rg) (callD f fs) σ H Q) :
    tCallS (spD X.K n rg f) (WE W) (tA X.K W nn Γ .sh fs) σ H Q := by
  obtain ⟨B, F, env, S, rel, o⟩ := h
  refine ⟨B, F, env, S, rel, Out.bind o fun ds xs H1 F1 e1 p1 g1 o1 => ?_⟩
  obtain ⟨T, q, _⟩ := g1
  exact ⟨F1, ds, p1.top, q.sh_nil.2, hl env ds e1, Out.later p1 (fun d b F' H' p' z => Res.older p1.ext z) o1⟩
theorem pd_call {k n : Nat} {x : Str} {rg : G} {f : List D → R D} {e : Expr} {es : List Expr} {fs : AD} {p : Pos} (F : Def1 X.prog X.w X.K X.mg X.base k x n rg f) (hr : Room k X.A) (hg : Gl X x) (hx : Pass X W) (ha : PAd X W nn Γ (e :: es) .sh n fs)
    (hdb : (x == ("__debug__" : Str)) = false := by decide) (he : starEach (e :: es) X.env = (false, eval e X.env) :: starEach es X.env := by rfl) (hpl : (backTo pos (starEach es X.env)).any (·.1) = false := by rfl) :
    PEd X W nn Γ (.Call (.Name x p) (e :: es) [] pos) (.v rg) (callD f fs) := by
  obtain ⟨a, fd, ps, hm, hk, hb, F⟩ := F.ex
  exact PE.imp (pe_callS F hr hg hm hk hb hx ha.pa hdb he hpl) (tE_call ha.len)

/-! ### statements -/
def Sg (B F F' : Hp) : Prop := Le F F' ∧ ∀ a, F' a ≠ none → F a ≠ none ∨ B a = none
theorem Sg.refl {B F : Hp} : Sg B F F := ⟨.refl, fun _ h => .inl h⟩
theorem Sg.trans {B F G J : Hp} (a : Sg B F G) (b : Sg B G J) : Sg B F J := ⟨a.1.trans b.1, fun x h => (b.2 x h).elim (fun h => a.2 x h) .inr⟩
theorem Pg.sg {B F H F' H' : Hp} (p : Pg F H F' H') (e : Ext B H) : Sg B F F' := ⟨p.le, fun a h => (p.new a h).imp id fun h => e.none h⟩
structure Post where
  nx : Gs
  bk : Gs := []
  ct : Gs := []
  ex : Gs := []
  rt : G := .sh
def OutS (K : PySem.W.Frag) (W : WX) (nn : Nat) (P : Post) (B F : Hp) (fl : Flow) (D : Ends) : Prop :=
  match fl with
  | .nx e => ∀ σ H F' S, Sg B F F' → Rel K nn B F' H P.nx σ e S → D.nx σ H
  | .bk e => ∀ σ H F' S, Sg B F F' → Rel K nn B F' H P.bk σ e S → D.bk σ H
  | .ct e => ∀ σ H F' S, Sg B F F' → Rel K nn B F' H P.ct σ e S → D.ct σ H
  | .rt d => ∀ v H F', Sg B F F' → Ext B H → Tp F' H → (∃ T, RepG K F' H v d P.rt T ∧ ∀ a ∈ T, B a = none ∧ F' a = none) → D.rt v H
  | .ex c fs e => ∀ dd σ H F' S, Sg B F F' → Rel K nn B F' H P.ex σ e S → ExAt K F' H dd fs → W (.ref (He.ga K c)) dd σ H
  | .bad => False
def tS (K : PySem.W.Frag) (W : WX) (nn : Nat) (Γ : Gs) (P : Post) (f : SD) : TS := fun D σ H => ∃ B F env S, Rel K nn B F H Γ σ env S ∧ OutS K W nn P B F (f env) D
abbrev PSd (X : Cx) (W : WX) (nn : Nat) (Γ : Gs) (P : Post) (st : Stmt) (f : SD) : Prop := PS X st (tS X.K W nn Γ P f)
abbrev PSsd (X : Cx) (W : WX) (nn : Nat) (Γ : Gs) (P : Post) (st : List Stmt) (f : SD) : Prop := PSs X st (tS X.K W nn Γ P f)
theorem OutS.sg {K : PySem.W.Frag} {P : Post} {B F F1 : Hp} {fl : Flow} {D : Ends} (s : Sg B F F1) (h : OutS K W nn P B F fl D) : OutS K W nn P B F1 fl D := by
  cases fl with
  | nx e => exact fun σ H F' S q r => h σ H F' S (s.trans q) r
  | bk e => exact fun σ H F' S q r => h σ H F' S (s.trans q) r
  | ct e => exact fun σ H F' S q r => h σ H F' S (s.trans q) r
  | rt d => exact fun v H F' q e l r => h v H F' (s.trans q) e l r
  | ex c fs e => exact fun dd σ H F' S q r x => h dd σ H F' S (s.trans q) r x
  | bad => exact h
/-! ### weakening -/
def wk1 : Option G → Option G → Bool
  | _, none => true
  | some (.ow _), some .sh => true
  | x, y => decide (x = y)
/-- the slots' flags may be weakened: forgotten, or frozen -/
def wkB (Γ Γ' : Gs) : Bool := (List.range Γ'.length).all fun i => wk1 (Γ[i]?.getD none) (Γ'[i]?.getD none)
theorem wkB_at {Γ Γ' : Gs} (h : wkB Γ Γ' = true) {i : Nat} {g : G} (e : Γ'[i]? = some (some g)) : Γ[i]? = some (some g) ∨ (g = .sh ∧ ∃ g', Γ[i]? = some (some (.ow g'))) := by
  have hi : i < Γ'.length := (List.getElem?_eq_some_iff.mp e).1
  have z := List.all_eq_true.mp h i (List.mem_range.mpr hi)
  rw [e] at z
  cases q : Γ[i]? with
  | none =>
    rw [q] at z
    simp [wk1] at z
  | some o =>
    rw [q] at z
    cases o with
    | none => simp [wk1] at z
    | some g' =>
      cases g' with
      | sh =>
        cases g with
        | sh => exact .inl rfl
        | ow g => simp [wk1] at z
      | ow g1 =>
        cases g with
        | sh => exact .inr ⟨rfl, _, rfl⟩
        | ow g =>
          have z' : (some (G.ow g1)) = some (G.ow g) := by simpa [wk1] using z
          rw [z']
          exact .inl rfl
theorem Rel.wk {K : PySem.W.Frag} {B F H : Hp} {σ : St} {env : DEnv} {S : Nat → List Addr} (r : Rel K nn B F H Γ σ env S) (h : wkB Γ Γ1 = true) : ∃ F' S', Sg B F F' ∧ Rel K nn B F' H Γ1 σ env S' := by
  -- the footprints of the slots that are frozen
  classical
  let fz : Nat → Bool := fun i => decide (Γ1[i]? = some (some .sh) ∧ Γ[i]? ≠ some (some .sh))
  let A : List Addr := (List.range Γ1.length).flatMap fun i => if fz i = true then S i else []
  have inA : ∀ a, a ∈ A ↔ ∃ i, i < Γ1.length ∧ fz i = true ∧ a ∈ S i := fun a => by
    constructor
    · intro hm
      obtain ⟨i, hi, hm⟩ := List.mem_flatMap.mp hm
      split at hm
      · exact ⟨i, List.mem_range.mp hi, by assumption, hm⟩
      · simp at hm
    · rintro ⟨i, hi, hf, hm⟩
      exact List.mem_flatMap.mpr ⟨i, List.mem_range.mpr hi, by rw [if_pos hf]; exact hm⟩
  have nA : ∀ a ∈ A, F a = none := fun a ha => by
    obtain ⟨i, _, _, hm⟩ := (inA a).mp ha
    exact (r.fr i a hm).1
  refine ⟨addF F H A, fun i => if fz i = true then [] else S i, ⟨addF_le nA, fun a ha => ?_⟩, ⟨⟨addF_top r.top.toLe, r.top.sz⟩, r.base, fun i g d h1 h2 => ?_, fun i a ha => ?_, fun i j a hij ha => ?_, r.ls, r.le⟩⟩
  · by_cases z : a ∈ A
    · obtain ⟨i, _, _, hm⟩ := (inA a).mp z
      exact .inr (r.fr i a hm).2.1
    · rw [addF_out z] at ha
      exact .inl ha
  · have hi : i < Γ1.length := (List.getElem?_eq_some_iff.mp h1).1
    rcases wkB_at h h1 with q | ⟨rfl, g', q⟩
    · obtain ⟨v, e, rg⟩ := r.slot i g d q h2
      have nf : ¬ fz i = true := fun z => by
        have z := of_decide_eq_true z
        rw [h1] at z
        exact z.2 (by rw [q]; exact z.1)
      refine ⟨v, e, ?_⟩
      rw [if_neg nf]
      exact rg.mv (addF_le nA) fun _ _ _ z => z
    · obtain ⟨v, e, rg⟩ := r.slot i _ d q h2
      have yf : fz i = true := decide_eq_true ⟨h1, by rw [q]; simp⟩
      refine ⟨v, e, ?_⟩
      rw [if_pos yf]
      exact .sh (rg.rep (addF_le nA) fun a ha o z => by rw [addF_in ((inA a).mpr ⟨i, hi, yf, ha⟩)]; exact z)
  · by_cases z : fz i = true
    · rw [if_pos z] at ha; simp at ha
    · rw [if_neg z] at ha
      obtain ⟨h1, h2, h3⟩ := r.fr i a ha
      refine ⟨?_, h2, h3⟩
      rw [addF_out]
      · exact h1
      · intro q
        obtain ⟨j, _, hf, hm⟩ := (inA a).mp q
        have hij : i ≠ j := fun e => z (e ▸ hf)
        exact r.dj i j a hij ha hm
  · by_cases z : fz i = true
    · rw [if_pos z] at ha; simp at ha
    · rw [if_neg z] at ha
      by_cases z2 : fz j = true
      · rw [if_pos z2]; simp
      · rw [if_neg z2]
        exact r.dj i j a hij ha
/-- a block ahead of which slots are frozen or forgotten -/
theorem sd_wk {P : Post} {sts : List Stmt} {f : SD} (h : PSsd X W nn Γ1 P sts f) (w : wkB Γ Γ1 = true) : PSsd X W nn Γ P sts f := by
  refine PSs.imp h fun D σ H q => ?_
  obtain ⟨B, F, env, S, r, o⟩ := q
  obtain ⟨F', S', s, r'⟩ := r.wk w
  exact ⟨B, F', env, S', r', o.sg s⟩

/-! ### blocks -/
def nxF : SD := fun e => .nx e
def seqF (f g : SD) : SD := fun e => match f e with
  | .nx e' => g e'
  | .rt d => .rt d
  | .bk e => .bk e
  | .ct e => .ct e
  | .ex c fs e => .ex c fs e
  | .bad => .bad
theorem sd_nil {P : Post} (w : wkB Γ P.nx = true) : PSsd X W nn Γ P [] nxF := by
  refine PSs.imp pss_nil fun D σ H q => ?_
  obtain ⟨B, F, env, S, r, o⟩ := q
  obtain ⟨F', S', s, r'⟩ := r.wk w
  exact o σ H F' S' s r'
theorem sd_cons {P : Post} {st : Stmt} {sts : List Stmt} {f g : SD} (h1 : PSd X W nn Γ { P with nx := Γ1 } st f) (h2 : PSsd X W nn Γ1 P sts g) : PSsd X W nn Γ P (st :: sts) (seqF f g) := by
  refine PSs.imp (pss_cons h1 h2) fun D σ H q => ?_
  obtain ⟨B, F, env, S, r, o⟩ := q
  refine ⟨B, F, env, S, r, ?_⟩
  unfold seqF at o
  cases e : f env with
  | nx e' =>
    rw [e] at o
    exact fun σ' H' F' S' s r' => ⟨B, F', e', S', r', OutS.sg s o⟩
  | rt d => rw [e] at o; exact o
  | bk e' => rw [e] at o; exact o
  | ct e' => rw [e] at o; exact o
  | ex c fs e' => rw [e] at o; exact o
  | bad => rw [e] at o; exact o
/-! ### from expressions to statements -/
def liftF {α : Type} (x : R α) (env : DEnv) (k : α → Flow) : Flow := match x with
  | .ok a => k a
  | .exc c fs => .ex c fs env
  | .bad => .bad
@[simp] theorem liftF_ok {α : Type} (a : α) (env : DEnv) (k : α → Flow) : liftF (.ok a) env k = k a := rfl
@[simp] theorem liftF_exc {α : Type} (c : Str) (fs : List (Str × D)) (env : DEnv) (k : α → Flow) : liftF (.exc c fs : R α) env k = .ex c fs env := rfl
@[simp] theorem liftF_bad {α : Type} (env : DEnv) (k : α → Flow) : liftF (.bad : R α) env k = .bad := rfl
/-- the expression ahead of a statement's rest -/
theorem OutS.lift {α β : Type} {P : Post} {B F H : Hp} {σ : St} {env : DEnv} {S : Nat → List Addr} {x : R α} {k : α → Flow} {D : Ends} {good : α → β → Hp → Hp → Prop} {Q : β → Hp → Prop} (r : Rel X.K nn B F H Γ σ env S) (w : wkB Γ P.ex = true)
    (o : OutS X.K W nn P B F (liftF x env k) D) (hk : ∀ d b H1 F1, x = .ok d → Pg F H F1 H1 → good d b F1 H1 → OutS X.K W nn P B F1 (k d) D → Q b H1) : Out X.K (fun c d H' => W c d σ H') F H x good Q := by
  cases x with
  | ok d => exact fun b H1 F1 p g => hk d b H1 F1 rfl p g (OutS.sg (p.sg r.base) o)
  | exc c fs =>
    intro dd H1 F1 p xa
    obtain ⟨F2, S2, s2, r2⟩ := (r.pg p).wk w
    refine o dd σ H1 F2 S2 ((p.sg r.base).trans s2) r2 ?_
    rcases xa with xa | ⟨a, xs, e, h, rr⟩
    · exact .inl xa
    · exact .inr ⟨a, xs, e, h, RepF.le s2.1 _ _ rr⟩
  | bad => exact o
/-! ### assignment to a name -/
theorem Rel.set {K : PySem.W.Frag} {B F H F1 H1 : Hp} {σ : St} {env : DEnv} {S : Nat → List Addr} {i : Nat} {x : V} {d : D} {g : G} {T : List Addr} (r : Rel K nn B F H Γ σ env S) (p : Pg F H F1 H1) (hi : i < nn)
    (q : RepG K F1 H1 x d g T) (n : ∀ a ∈ T, H a = none ∧ F1 a = none) : Rel K nn B F1 H1 (Γ.set i (some g)) (σ.set i (some x)) (env.set i (some d)) (fun j => if j = i then T else S j) := by
  have r1 := r.pg p
  refine ⟨r1.top, r1.base, fun j g' d' h1 h2 => ?_, fun j a ha => ?_, fun j k a hjk ha => ?_, by rw [List.length_set]; exact r.ls, by rw [List.length_set]; exact r.le⟩
  · by_cases e : j = i
    · subst e
      have hj : j < Γ.length := by
        have := (List.getElem?_eq_some_iff.mp h1).1
        rwa [List.length_set] at this
      rw [List.getElem?_set_self hj] at h1
      cases h1
      rw [List.getElem?_set_self (by rw [r.le]; exact hi)] at h2
      cases h2
      exact ⟨x, List.getElem?_set_self (by rw [r.ls]; exact hi), by simpa using q⟩
    · rw [List.getElem?_set_ne (Ne.symm e)] at h1 h2
      obtain ⟨v, e1, q1⟩ := r1.slot j g' d' h1 h2
      exact ⟨v, by rw [List.getElem?_set_ne (Ne.symm e)]; exact e1, by simpa [e] using q1⟩
  · by_cases e : j = i
    · subst e
      simp only [if_pos] at ha
      exact ⟨(n a ha).2, r.base.none (n a ha).1, q.dom a ha⟩
    · simp only [if_neg e] at ha
      exact r1.fr j a ha
  · by_cases e : j = i
    · subst e
      simp only [if_pos] at ha
      rw [if_neg (Ne.symm hjk)]
      exact fun z => (r.fr k a z).2.2 (n a ha).1
    · simp only [if_neg e] at ha
      by_cases e2 : k = i
      · subst e2
        simp only [if_pos]
        exact fun z => (r.fr j a ha).2.2 (n a z).1
      · rw [if_neg e2]
        exact r.dj j k a hjk ha
def asgF (i : Nat) (f : ED) : SD := fun e => liftF (f e) e fun d => .nx (e.set i (some d))
theorem sd_set {P : Post} {x : Str} {pos' : Pos} {g : G} (i : Nat) (hN : X.N.Nodup) (hi : X.N[i]? = some x) (hx : Loc X.env.scope x) (hl : i < nn) (he : PEd X W nn Γ a (.v g) fa) (hP : P.nx = Γ.set i (some g)) (w : wkB Γ P.ex = true)
    (hs : swapsWith a (some (.Name x pos')) pos.line X.env = pure false := by rfl) (hf : X.fn x = true ∨ X.env.scope.names.lookup x = some .local := by first | exact .inl rfl | exact .inr rfl | assumption) :
    PSd X W nn Γ P (.Assign [.Name x pos'] a pos) (asgF i fa) := by
  refine PS.imp (ps_set hN hi hx he hs hf) fun D σ H q => ?_
  obtain ⟨B, F, env, S, r, o⟩ := q
  refine ⟨B, F, env, S, r, OutS.lift r w o fun d v H1 F1 e1 p1 g1 o1 => ?_⟩
  obtain ⟨T, q, n⟩ := g1
  have rr := r.set (i := i) p1 hl q n
  rw [← hP] at rr
  exact o1 _ H1 F1 _ .refl rr
/-- an expression as a statement -/
def dropF (f : ED) : SD := fun e => liftF (f e) e fun _ => .nx e
theorem sd_expr {P : Post} (he : PEd X W nn Γ a r1 fa) (hP : P.nx = Γ) (w : wkB Γ P.ex = true) (hs : swapsWith a none pos.line X.env = pure false := by rfl) : PSd X W nn Γ P (.Expr a pos) (dropF fa) := by
  refine PS.imp (ps_expr he hs) fun D σ H q => ?_
  obtain ⟨B, F, env, S, r, o⟩ := q
  refine ⟨B, F, env, S, r, OutS.lift r w o fun d v H1 F1 e1 p1 g1 o1 => ?_⟩
  have rr := r.pg p1
  rw [← hP] at rr
  exact o1 _ H1 F1 _ .refl rr
/-! ### return -/
def retF (f : ED) : SD := fun e => liftF (f e) e fun d => .rt d
theorem sd_ret {P : Post} {g : G} (he : PEd X W nn Γ a (.v g) fa) (hP : P.rt = g) (w : wkB Γ P.ex = true) : PSd X W nn Γ P (.Return (some a) pos) (retF fa) := by
  refine PS.imp (ps_ret he) fun D σ H q => ?_
  obtain ⟨B, F, env, S, r, o⟩ := q
  refine ⟨B, F, env, S, r, OutS.lift r w o fun d v H1 F1 e1 p1 g1 o1 => ?_⟩
  obtain ⟨T, q, n⟩ := g1
  subst hP
  exact o1 v H1 F1 .refl (r.base.trans p1.ext) p1.top ⟨T, q, fun a ha => ⟨r.base.none (n a ha).1, (n a ha).2⟩⟩
/-- return x, x an owned slot -/
theorem sd_retv {P : Post} {x : Str} {g : G} {p : Pos} (i : Nat) (hN : X.N[i]? = some x) (hv : Vis X.env.scope x) (hg : Γ[i]? = some (some g)) (hP : P.rt = g) (hd : (x == ("__debug__" : Str)) = false := by decide) (hcd : (x == ("__classdict__" : Str)) = false := by decide) :
    PSd X W nn Γ P (.Return (some (.Name x p)) pos) (retF (vD i)) := by
  refine PS.imp (ps_ret (pe_var hN hv hd hcd)) fun D σ H q => ?_
  obtain ⟨B, F, env, S, r, o⟩ := q
  unfold retF vD at o
  split at o
  · rename_i d e
    obtain ⟨v, hv, q⟩ := r.slot i g d hg e
    subst hP
    exact ⟨v, hv, o v H F .refl r.base r.top ⟨S i, q, fun a ha => ⟨(r.fr i a ha).2.1, (r.fr i a ha).1⟩⟩⟩
  · exact o.elim
def retN : SD := fun _ => .rt .none
theorem sd_retN {P : Post} : PSd X W nn Γ P (.Return none pos) retN := by
  refine PS.imp ps_retN fun D σ H q => ?_
  obtain ⟨B, F, env, S, r, o⟩ := q
  refine o .non H F .refl r.base r.top ⟨[], ?_, fun _ z => by simp at z⟩
  cases P.rt with
  | sh => exact .sh .non
  | ow g => exact .at_ .non
/-! ### if, pass, break, continue -/
def ifF (t : TD) (f g : SD) : SD := fun e => liftF (t e) e fun b => if b = true then f e else g e
theorem sd_if {P : Post} {c : Expr} {as bs : List Stmt} {f g : SD} (hc : PTd X W nn Γ c gc) (ha : PSsd X W nn Γ P as f) (hb : PSsd X W nn Γ P bs g) (w : wkB Γ P.ex = true) : PSd X W nn Γ P (.If c as bs pos) (ifF gc f g) := by
  refine PS.imp (ps_if hc ha hb) fun D σ H q => ?_
  obtain ⟨B, F, env, S, r, o⟩ := q
  refine ⟨B, F, env, S, r, OutS.lift r w o fun d v H1 F1 e1 p1 g1 o1 => ?_⟩
  subst g1
  cases v with
  | true => exact ⟨B, F1, env, S, r.pg p1, o1⟩
  | false => exact ⟨B, F1, env, S, r.pg p1, o1⟩
theorem sd_pass {P : Post} (w : wkB Γ P.nx = true) : PSd X W nn Γ P (.Pass pos) nxF := by
  refine PS.imp ps_pass fun D σ H q => ?_
  obtain ⟨B, F, env, S, r, o⟩ := q
  obtain ⟨F', S', s, r'⟩ := r.wk w
  exact o σ H F' S' s r'
def bkF : SD := fun e => .bk e
def ctF : SD := fun e => .ct e
theorem sd_break {P : Post} (w : wkB Γ P.bk = true) : PSd X W nn Γ P (.Break pos) bkF := by
  refine PS.imp ps_break fun D σ H q => ?_
  obtain ⟨B, F, env, S, r, o⟩ := q
  obtain ⟨F', S', s, r'⟩ := r.wk w
  exact o σ H F' S' s r'
theorem sd_continue {P : Post} (w : wkB Γ P.ct = true) : PSd X W nn Γ P (.Continue pos) ctF := by
  refine PS.imp ps_continue fun D σ H q => ?_
  obtain ⟨B, F, env, S, r, o⟩ := q
  obtain ⟨F', S', s, r'⟩ := r.wk w
  exact o σ H F' S' s r'
end DL

/-! DL9: targets, what is walked, for, while, comprehensions -/
namespace DL
open PySem PySem.Spec L2
variable {X : Cx} {W : WX} {nn : Nat} {Γ Γ0 Γ1 Γ2 : Gs} {a b c : Expr} {pos : Pos} {fa fb fc : ED} {ga gb gc : TD} {r1 r2 r3 rf : Rf}

/-! ### targets -/
abbrev PD := D → DEnv → Option DEnv
abbrev PDs := List D → DEnv → Option DEnv
/-- what a store to targets hands on: the slots is alone are written -/
def tG (K : PySem.W.Frag) (nn : Nat) (Γ Γ' : Gs) (is : List Nat) (p : PD) : TG := fun v σ H Q => ∃ B F env env' S d, Rel K nn B F H Γ σ env S ∧ Rep K F v d ∧ p d env = some env' ∧
  ∀ σ' S', Rel K nn B F H Γ' σ' env' S' → (∀ vs : List Nat, (∀ i ∈ is, i ∈ vs) → L2.wipe σ' vs = L2.wipe σ vs) → Q σ' H
def tGs (K : PySem.W.Frag) (nn : Nat) (Γ Γ' : Gs) (is : List Nat) (p : PDs) : TGs := fun v σ H Q => ∃ B F env env' S d, Rel K nn B F H Γ σ env S ∧ RepL K F v d ∧ p d env = some env' ∧
  ∀ σ' S', Rel K nn B F H Γ' σ' env' S' → (∀ vs : List Nat, (∀ i ∈ is, i ∈ vs) → L2.wipe σ' vs = L2.wipe σ vs) → Q σ' H
abbrev PGd (X : Cx) (nn : Nat) (Γ Γ' : Gs) (is : List Nat) (tg : Expr) (p : PD) : Prop := PG X tg (tG X.K nn Γ Γ' is p)
abbrev PGsd (X : Cx) (nn : Nat) (Γ Γ' : Gs) (is : List Nat) (tgs : List Expr) (p : PDs) : Prop := PGs X tgs (tGs X.K nn Γ Γ' is p)
theorem PG.imp {X : Cx} {e : Expr} {t t' : TG} (h : PG X e t) (i : ∀ v σ H Q, t' v σ H Q → t v σ H Q) : PG X e t' := ⟨fun pins s σ H v u Q I r q => h.run pins s σ H v u Q I r (i v σ H Q q)⟩
theorem PGs.imp {X : Cx} {e : List Expr} {t t' : TGs} (h : PGs X e t) (i : ∀ v σ H Q, t' v σ H Q → t v σ H Q) : PGs X e t' := ⟨fun pins s σ H v u Q I r q => h.run pins s σ H v u Q I r (i v σ H Q q)⟩
def pName (i : Nat) : PD := fun d e => some (e.set i (some d))
theorem wipe_set {σ : St} {i : Nat} {x : Option V} : ∀ {vs : List Nat}, i ∈ vs → L2.wipe (σ.set i x) vs = L2.wipe σ vs
  | [], h => by simp at h
  | v :: vs, h => by
    show (L2.wipe (σ.set i x) vs).set v none = (L2.wipe σ vs).set v none
    by_cases e : i ∈ vs
    · rw [wipe_set e]
    · have ev : i = v := by
        rcases List.mem_cons.mp h with h | h
        · exact h
        · exact absurd h e
      subst ev
      apply List.ext_getElem?
      intro k
      by_cases hk : i = k
      · subst hk
        rw [List.getElem?_set, List.getElem?_set, wipe_length, wipe_length, List.length_set, if_pos rfl, if_pos rfl]
      · rw [List.getElem?_set_ne hk, List.getElem?_set_ne hk]
        by_cases hm : k ∈ vs
        · have w1 : ∀ (τ : St) {ws : List Nat}, k ∈ ws → (L2.wipe τ ws)[k]? = if k < τ.length then some none else none := by
            intro τ ws
            induction ws with
            | nil => intro h; simp at h
            | cons w ws ih =>
              intro h
              show ((L2.wipe τ ws).set w none)[k]? = _
              by_cases hw : w = k
              · subst hw
                rw [List.getElem?_set, wipe_length]
                simp
              · rw [List.getElem?_set_ne hw]
                rcases List.mem_cons.mp h with h | h
                · exact absurd h.symm hw
                · exact ih h
          rw [w1 _ hm, w1 _ hm, List.length_set]
        · rw [wipe_out hm, wipe_out hm, List.getElem?_set_ne hk]
theorem gd_name {x : Str} (i : Nat) (hN : X.N.Nodup) (hi : X.N[i]? = some x) (hx : Loc X.env.scope x) (hl : i < nn) (hΓ : Γ1 = Γ.set i (some .sh)) (hf : X.fn x = true ∨ X.env.scope.names.lookup x = some .local := by first | exact .inl rfl | exact .inr rfl | assumption) :
    PGd X nn Γ Γ1 [i] (.Name x pos) (pName i) := by
  refine PG.imp (pg_name hN hi hx hf) fun v σ H Q h => ?_
  obtain ⟨B, F, env, env', S, d, r, rd, e, k⟩ := h
  cases e
  subst hΓ
  exact k _ _ (r.set (.refl r.top) hl (.sh rd) (fun _ z => by simp at z)) fun vs h => wipe_set (h i (by simp))
def psNil : PDs := fun ds e => match ds with
  | [] => some e
  | _ => none
def psCons (p : PD) (ps : PDs) : PDs := fun ds e => match ds with
  | d :: ds => (p d e).bind fun e => ps ds e
  | _ => none
theorem gsd_nil : PGsd X nn Γ Γ [] [] psNil := by
  refine PGs.imp pgs_nil fun v σ H Q h => ?_
  obtain ⟨B, F, env, env', S, d, r, rd, e, k⟩ := h
  cases rd with
  | nil => cases e; exact ⟨rfl, k σ S r fun _ _ => rfl⟩
  | cons _ _ => cases e
theorem gsd_cons {e : Expr} {es : List Expr} {p : PD} {ps : PDs} {is js : List Nat} (h1 : PGd X nn Γ Γ1 is e p) (h2 : PGsd X nn Γ1 Γ2 js es ps) (hs : (assignEach (e :: es) X.env).map (·.2) = assign e X.env :: (assignEach es X.env).map (·.2) := by rfl) : PGsd X nn Γ Γ2 (is ++ js) (e :: es) (psCons p ps) := by
  refine PGs.imp (pgs_cons h1 h2 hs) fun v σ H Q h => ?_
  obtain ⟨B, F, env, env', S, ds, r, rd, e, k⟩ := h
  cases rd with
  | nil => cases e
  | cons a b =>
    rename_i v vs d ds
    have e' : (p d env).bind (fun e => ps ds e) = some env' := e
    cases z : p d env with
    | none => rw [z] at e'; cases e'
    | some env1 =>
      rw [z] at e'
      refine ⟨v, vs, rfl, B, F, env, env1, S, d, r, a, z, fun σ1 S1 r1' l1 => ⟨B, F, env1, env', S1, ds, r1', b, e', fun σ2 S2 r2' l2 => k σ2 S2 r2' fun ws hw => ?_⟩⟩
      rw [l2 ws fun i hi => hw i (List.mem_append_right _ hi), l1 ws fun i hi => hw i (List.mem_append_left _ hi)]
def pTup (n : Nat) (ps : PDs) : PD := fun d e => match d with
  | .tuple ds => if ds.length = n then ps ds e else none
  | _ => none
theorem gd_tup {es : List Expr} {k : Nat} {n : Nat} {ps : PDs} {is : List Nat} (hc : X.calm = true) (h : PGsd X nn Γ Γ1 is es ps) (hn : (assignEach es X.env).length = n := by rfl) (hst : (assignEach es X.env).findIdx? (·.1) = none := by rfl) : PGd X nn Γ Γ1 is (.Tuple es k pos) (pTup n ps) := by
  refine PG.imp (pg_tup hc h hn hst) fun v σ H Q h => ?_
  obtain ⟨B, F, env, env', S, d, r, rd, e, k⟩ := h
  unfold pTup at e
  split at e
  · split at e
    · rename_i hl
      cases rd with
      | tup a b => exact ⟨_, _, rfl, SqT.le r.top.toLe a, by rw [b.length]; exact hl, B, F, env, env', S, _, r, b, e, k⟩
    · cases e
  · cases e
/-- the same of a list -/
def pLst (n : Nat) (ps : PDs) : PD := fun d e => match d with
  | .list ds => if ds.length = n then ps ds e else none
  | _ => none
theorem gd_lst {es : List Expr} {k : Nat} {n : Nat} {ps : PDs} {is : List Nat} (hc : X.calm = true) (h : PGsd X nn Γ Γ1 is es ps) (hn : (assignEach es X.env).length = n := by rfl) (hst : (assignEach es X.env).findIdx? (·.1) = none := by rfl) : PGd X nn Γ Γ1 is (.Tuple es k pos) (pLst n ps) := by
  refine PG.imp (pg_lst hc h hn hst) fun v σ H Q h => ?_
  obtain ⟨B, F, env, env', S, d, r, rd, e, k⟩ := h
  unfold pLst at e
  split at e
  · split at e
    · rename_i hl
      cases rd with
      | lst a b => exact ⟨_, _, rfl, SqL.of (r.top.lst _ _ a), by rw [b.length]; exact hl, B, F, env, env', S, _, r, b, e, k⟩
    · cases e
  · cases e
/-- a, b = e -/
def asgP (p : PD) (f : ED) : SD := fun e => liftF (f e) e fun d => match p d e with
  | some e' => .nx e'
  | none => .bad
theorem sd_asgP {P : Post} {tg : Expr} {p : PD} {is : List Nat} (he : PEd X W nn Γ a (.v .sh) fa) (hg : PGd X nn Γ Γ1 is tg p) (hP : P.nx = Γ1) (w : wkB Γ P.ex = true) (hs : swapsWithSole [tg] a pos.line X.env = pure false := by rfl) (hw : swappedStores [tg] a X.env = pure none := by rfl)
    (h1 : (assignEach [tg] X.env).map (·.2) = [assign tg X.env] := by rfl) : PSd X W nn Γ P (.Assign [tg] a pos) (asgP p fa) := by
  refine PS.imp (ps_asg he hg hs hw h1) fun D σ H q => ?_
  obtain ⟨B, F, env, S, r, o⟩ := q
  refine ⟨B, F, env, S, r, OutS.lift r w o fun d v H1 F1 e1 p1 g1 o1 => ?_⟩
  obtain ⟨T, q, _⟩ := g1
  split at o1
  · rename_i e' he'
    subst hP
    exact ⟨B, F1, env, e', S, d, r.pg p1, q.sh_nil.2, he', fun σ' S' r' _ => o1 σ' H1 F1 S' .refl r'⟩
  · exact o1.elim

/-! ### what is walked -/
/-- a walk over data -/
def WalkD (K : PySem.W.Frag) (F1 : Hp) (J : It) (ds : List D) : Prop := ∃ (Gp : Hp → Prop) (Y : Nat → Hp → V → Hp → Prop), Walk J ds.length Gp Y ∧ (∀ F' H', Le F1 F' → Le F' H' → Gp H') ∧
  (∀ i F' H' x H'', i < ds.length → Le F1 F' → Tp F' H' → Y i H' x H'' → ∃ F'', Pg F' H' F'' H'' ∧ ∃ d, ds[i]? = some d ∧ Rep K F'' x d) ∧ ds.length ≤ sizeLine
structure PId (X : Cx) (W : WX) (nn : Nat) (Γ : Gs) (tg iter : Expr) (f : DEnv → R (List D)) : Prop where
  ex : ∃ wi : TI, PI X tg iter wi ∧ ∀ (σ : St) (H : Hp) (Q : It → Hp → Prop), tX X.K W nn Γ f (fun _ ds J F1 _ => WalkD X.K F1 J ds) σ H Q → wi σ H Q
theorem walk_frozen {K : PySem.W.Frag} {F1 : Hp} {J : It} {ds : List D} {xs : List V} {Gp : Hp → Prop} {Y : Nat → Hp → V → Hp → Prop} (w : Walk J xs.length Gp Y) (r : RepL K F1 xs ds) (hG : ∀ F' H', Le F1 F' → Le F' H' → Gp H')
    (hY : ∀ i H' x H'', Y i H' x H'' → H'' = H' ∧ xs[i]? = some x) (hz : xs.length ≤ sizeLine) : WalkD K F1 J ds := by
  refine ⟨Gp, Y, r.length ▸ w, hG, fun i F' H' x H'' hi l1 l2 y => ?_, by rw [← r.length]; exact hz⟩
  obtain ⟨rfl, e⟩ := hY i H' x H'' y
  obtain ⟨v, e2, q⟩ := r.get (i := i) (d := ds[i]) (by simp [hi])
  rw [e] at e2
  cases e2
  exact ⟨F', .refl l2, ds[i], by simp [hi], Rep.le l1 _ _ q⟩
def seqD (f : ED) : DEnv → R (List D) := fun e => (f e).bind fun d => ofO (seqOf d)
def iOr (w1 w2 : TI) : TI := fun σ H R => w1 σ H R ∨ w2 σ H R
/-- over a list or a tuple, frozen: which one must be known -/
def lsOf : D → Option (List D)
  | .list ds => some ds
  | _ => none
def tuOf : D → Option (List D)
  | .tuple ds => some ds
  | _ => none
def itL (f : ED) : DEnv → R (List D) := fun e => (f e).bind fun d => ofO (lsOf d)
def itT (f : ED) : DEnv → R (List D) := fun e => (f e).bind fun d => ofO (tuOf d)
theorem id_list {tg : Expr} (ha : PEd X W nn Γ a (.v .sh) fa) : PId X W nn Γ tg a (itL fa) := by
  refine ⟨iList X.K _, pi_list ha, fun σ H Q h => ?_⟩
  obtain ⟨B, F, env, S, rel, o⟩ := h
  refine ⟨B, F, env, S, rel, Out.bind o fun dx x H1 F1 e1 p1 g1 o1 => ?_⟩
  obtain ⟨T, q, _⟩ := g1
  cases dx <;> try exact o1.elim
  cases q.sh_nil.2 with
  | lst a b => exact ⟨_, rfl, ⟨_, SqL.of (p1.top.lst _ _ a)⟩, o1 _ H1 F1 p1 (walk_frozen walk_list b (fun F' H' l1 l2 => SqL.of (l2.lst _ _ (l1.lst _ _ a))) (fun _ _ _ _ y => y) (p1.top.lenL (p1.top.lst _ _ a)))⟩
theorem id_tup {tg : Expr} (ha : PEd X W nn Γ a (.v .sh) fa) : PId X W nn Γ tg a (itT fa) := by
  refine ⟨iTup X.K _, pi_tup ha, fun σ H Q h => ?_⟩
  obtain ⟨B, F, env, S, rel, o⟩ := h
  refine ⟨B, F, env, S, rel, Out.bind o fun dx x H1 F1 e1 p1 g1 o1 => ?_⟩
  obtain ⟨T, q, _⟩ := g1
  cases dx <;> try exact o1.elim
  cases q.sh_nil.2 with
  | tup a b => exact ⟨_, rfl, ⟨_, SqT.le p1.top.toLe a⟩, o1 _ H1 F1 p1 (walk_frozen walk_tup b (fun F' H' l1 l2 => SqT.le l2 (SqT.le l1 a)) (fun _ _ _ _ y => y) (p1.top.sz.tup (SqT.le p1.top.toLe a)))⟩
/-- range(n), range(a, b) -/
def rgList (lo : Int) (n : Nat) : List D := (List.range n).map fun (i : Nat) => .int (lo + i)
def rgOk (i : Int) : Bool := inB i 8000000
def itR1 (f : ED) : DEnv → R (List D) := fun e => (f e).bind fun d => match d with
  | .int j => if rgOk j then .ok (rgList 0 j.toNat) else .bad
  | _ => .bad
def itR2 (f g : ED) : DEnv → R (List D) := fun e => (f e).bind fun d => (g e).bind fun d' => match d, d' with
  | .int i, .int j => if rgOk i && rgOk j then .ok (rgList i (j - i).toNat) else .bad
  | _, _ => .bad
theorem walkD_range {K : PySem.W.Frag} {F1 : Hp} {lo : Int} {n : Nat} (hz : n ≤ 16777216) : WalkD K F1 (Itr lo n) (rgList lo n) := by
  refine ⟨_, _, (by unfold rgList; rw [List.length_map, List.length_range]; exact walk_range), fun _ _ _ _ => trivial, fun i F' H' x H'' hi l1 l2 y => ?_, by unfold rgList; rw [List.length_map, List.length_range, sizeLine_eq]; exact hz⟩
  obtain ⟨rfl, rfl⟩ := y
  unfold rgList at hi
  rw [List.length_map, List.length_range] at hi
  exact ⟨F', .refl l2, _, by unfold rgList; rw [List.getElem?_map, List.getElem?_range hi]; rfl, .int _⟩
theorem id_range1 {tg : Expr} {p : Pos} (hg : Gl X "range") (hm : X.mg "range" = none) (ha : PEd X W nn Γ a r1 fa) (hs : starEach [a] X.env = (false, eval a X.env) :: starEach [] X.env := by rfl) (hs2 : starEach [a] X.env = [(false, eval a X.env)] := by rfl) : PId X W nn Γ tg (.Call (.Name "range" p) [a] [] pos) (itR1 fa) := by
  refine ⟨iRng1 _, pi_range1 hg hm (pa_cons ha pa_nil hs) hs2, fun σ H Q h => ?_⟩
  obtain ⟨B, F, env, S, rel, o⟩ := h
  refine ⟨B, F, env, S, rel, Out.bind o fun dx x H1 F1 e1 p1 g1 o1 => ?_⟩
  split at o1
  · split at o1
    · rename_i hj
      have hj := inB_iff.mp hj
      exact ⟨_, by rw [(g1.now p1.top).int_inv], by omega, by omega, o1 _ H1 F1 p1 (walkD_range (by omega))⟩
    · exact o1.elim
  · exact o1.elim
theorem id_range2 {tg : Expr} {p : Pos} (hg : Gl X "range") (hm : X.mg "range" = none) (ha : PEd X W nn Γ a r1 fa) (hb : PEd X W nn Γ b r2 fb) (hs : starEach [a, b] X.env = (false, eval a X.env) :: starEach [b] X.env := by rfl) (hs2 : starEach [b] X.env = (false, eval b X.env) :: starEach [] X.env := by rfl)
    (hs3 : starEach [a, b] X.env = [(false, eval a X.env), (false, eval b X.env)] := by rfl) (hs4 : starEach [b] X.env = [(false, eval b X.env)] := by rfl) : PId X W nn Γ tg (.Call (.Name "range" p) [a, b] [] pos) (itR2 fa fb) := by
  refine ⟨iRng2 _, pi_range2 hg hm (pa_cons ha (pa_cons hb pa_nil hs2) hs) hs3 hs4, fun σ H Q h => ?_⟩
  obtain ⟨B, F, env, S, rel, o⟩ := h
  refine ⟨B, F, env, S, rel, Out.bind o fun dx x H1 F1 e1 p1 g1 o1 => ?_⟩
  refine ⟨B, F1, env, S, rel.pg p1, Out.bind (Out.later (good' := fun ds J F1 _ => WalkD X.K F1 J ds) p1 (fun d b F' H' p' z => z) o1) fun dy y H2 F2 e2 p2 g2 o2 => ?_⟩
  split at o2
  · split at o2
    · rename_i hj
      obtain ⟨h1, h2⟩ := Bool.and_eq_true_iff.mp hj
      have h1 := inB_iff.mp h1
      have h2 := inB_iff.mp h2
      exact ⟨_, _, by rw [((Res.pg p2 g1).now p2.top).int_inv, (g2.now p2.top).int_inv], ⟨by omega, by omega, by omega, by omega⟩, o2 _ H2 F2 p2 (walkD_range (by omega))⟩
    · exact o2.elim
  · exact o2.elim
/-- enumerate(xs) -/
def enumL : Nat → List D → List D
  | _, [] => []
  | i, d :: ds => .tuple [.int i, d] :: enumL (i + 1) ds
theorem enumL_length : ∀ (i : Nat) (ds : List D), (enumL i ds).length = ds.length
  | _, [] => rfl
  | i, _ :: ds => congrArg Nat.succ (enumL_length (i + 1) ds)
theorem enumL_get : ∀ (i : Nat) (ds : List D) (j : Nat), (enumL i ds)[j]? = (ds[j]?).map fun d => .tuple [.int ((i + j : Nat) : Int), d]
  | _, [], j => by simp [enumL]
  | i, d :: ds, 0 => by simp [enumL]
  | i, d :: ds, j + 1 => by
    show (enumL (i + 1) ds)[j]? = _
    rw [enumL_get (i + 1) ds j]
    have : i + 1 + j = i + (j + 1) := by omega
    rw [this]
    simp
def itE (f : ED) : DEnv → R (List D) := fun e => (f e).bind fun d => (ofO (lsOf d)).bind fun ds => .ok (enumL 0 ds)
theorem pair_new {K : PySem.W.Frag} {F' H' : Hp} {T : Addr} {x y : V} {d e : D} (l : Tp F' H') (hT : H' T = none) (rx : Rep K F' x d) (ry : Rep K F' y e) : Pg F' H' (upd F' T (.tup [x, y])) (upd H' T (.tup [x, y])) ∧ Rep K (upd F' T (.tup [x, y])) (.ref T) (.tuple [d, e]) :=
  ⟨.allocF l hT (by show 2 ≤ sizeLine; rw [sizeLine_eq]; decide), .tup (SqT.of upd_same) (.cons (Rep.le (ext_upd (l.none hT)).le _ _ rx) (.cons (Rep.le (ext_upd (l.none hT)).le _ _ ry) .nil))⟩
theorem id_enum {elts : List Expr} {kk : Nat} {tpos p : Pos} (hg : Gl X "enumerate") (hm : X.mg "enumerate" = none) (ha : PEd X W nn Γ a (.v .sh) fa) (hs : starEach [a] X.env = (false, eval a X.env) :: starEach [] X.env := by rfl) (hs2 : starEach [a] X.env = [(false, eval a X.env)] := by rfl) :
    PId X W nn Γ (.Tuple elts kk tpos) (.Call (.Name "enumerate" p) [a] [] pos) (itE fa) := by
  refine ⟨iEnum X.K _, pi_enum hg hm (pa_cons ha pa_nil hs) hs2, fun σ H Q h => ?_⟩
  obtain ⟨B, F, env, S, rel, o⟩ := h
  refine ⟨B, F, env, S, rel, Out.bind o fun dx x H1 F1 e1 p1 g1 o1 => ?_⟩
  obtain ⟨T, q, _⟩ := g1
  cases dx <;> try exact o1.elim
  cases q.sh_nil.2 with
  | @lst a1 xs1 ds1 a b =>
    have w := walk_enum (K := X.K) (a := a1) (xs := xs1)
    rw [b.length, ← enumL_length 0] at w
    refine ⟨_, _, rfl, SqL.of (p1.top.lst _ _ a), o1 _ H1 F1 p1 ⟨_, _, w, ?_, ?_, ?_⟩⟩
    · exact fun F' H' l1 l2 => SqL.of (l2.lst _ _ (l1.lst _ _ a))
    · rintro i F' H' x H'' hi l1 l2 ⟨T, x0, y0, rfl, hT, rfl, h3, h4⟩
      cases h3
      have h4 : xs1[i]? = some y0 := h4
      rw [enumL_length] at hi
      obtain ⟨v, e2, q2⟩ := b.get (i := i) (List.getElem?_eq_getElem hi)
      rw [h4] at e2
      cases e2
      obtain ⟨pg, rp⟩ := pair_new l2 hT (.int (i : Nat)) (Rep.le l1 _ _ q2)
      exact ⟨_, pg, _, by rw [enumL_get, List.getElem?_eq_getElem hi, Nat.zero_add]; rfl, rp⟩
    · rw [enumL_length, ← b.length]; exact p1.top.lenL (p1.top.lst _ _ a)
/-- zip(xs, ys) of two lists -/
def zipL (xs ys : List D) : List D := (xs.zip ys).map fun p => .tuple [p.1, p.2]
def itZ (f g : ED) : DEnv → R (List D) := fun e => (f e).bind fun d => (g e).bind fun d' => (ofO (lsOf d)).bind fun xs => (ofO (lsOf d')).bind fun ys => .ok (zipL xs ys)
theorem id_zip {elts : List Expr} {kk : Nat} {tpos p : Pos} (hg : Gl X "zip") (hm : X.mg "zip" = none) (ha : PEd X W nn Γ a (.v .sh) fa) (hb : PEd X W nn Γ b (.v .sh) fb)
    (hs : starEach [a, b] X.env = (false, eval a X.env) :: starEach [b] X.env := by rfl) (hs2 : starEach [b] X.env = (false, eval b X.env) :: starEach [] X.env := by rfl) (hpl : (backTo pos (starEach [b] X.env)).any (·.1) = false := by rfl) :
    PId X W nn Γ (.Tuple elts kk tpos) (.Call (.Name "zip" p) [a, b] [] pos) (itZ fa fb) := by
  refine ⟨iZip X.K _, pi_zip hg hm (pa_cons ha (pa_cons hb pa_nil hs2) hs) hs hpl, fun σ H Q h => ?_⟩
  obtain ⟨B, F, env, S, rel, o⟩ := h
  refine ⟨B, F, env, S, rel, Out.bind o fun dx x H1 F1 e1 p1 g1 o1 => ?_⟩
  refine ⟨B, F1, env, S, rel.pg p1, Out.bind (Out.later (good' := fun ds J F1 _ => WalkD X.K F1 J ds) p1 (fun d b F' H' p' z => z) o1) fun dy y H2 F2 e2 p2 g2 o2 => ?_⟩
  obtain ⟨T, q, _⟩ := Res.pg p2 g1
  obtain ⟨T', q', _⟩ := g2
  obtain ⟨ds0, rfl⟩ : ∃ ds0, dx = .list ds0 := by cases dx <;> first | exact ⟨_, rfl⟩ | exact o2.elim
  obtain ⟨ds1, rfl⟩ : ∃ ds1, dy = .list ds1 := by cases dy <;> first | exact ⟨_, rfl⟩ | exact o2.elim
  cases q.sh_nil.2 with
  | @lst a0 xs0 _ a b =>
    cases q'.sh_nil.2 with
    | @lst a1 xs1 _ a' b' =>
      refine ⟨_, _, _, _, rfl, SqL.of (p2.top.lst _ _ a), SqL.of (p2.top.lst _ _ a'), o2 _ H2 F2 p2 ⟨_, _, walk_zip (K := X.K) (a := a0) (b := a1) (xs := xs0) (ys := xs1) ?_, ?_, ?_, ?_⟩⟩
      · unfold zipL; rw [List.length_map, List.length_zip, b.length, b'.length]
      · exact fun F' H' l1 l2 => ⟨SqL.of (l2.lst _ _ (l1.lst _ _ a)), SqL.of (l2.lst _ _ (l1.lst _ _ a'))⟩
      · rintro i F' H' x H'' hi l1 l2 ⟨T, x0, y0, rfl, hT, rfl, h3, h4⟩
        have h3 : xs0[i]? = some x0 := h3
        have h4 : xs1[i]? = some y0 := h4
        unfold zipL at hi ⊢
        rw [List.length_map, List.length_zip] at hi
        have i1 : i < ds0.length := by omega
        have i2 : i < ds1.length := by omega
        obtain ⟨v, e2, q2⟩ := b.get (i := i) (List.getElem?_eq_getElem i1)
        obtain ⟨v', e2', q2'⟩ := b'.get (i := i) (List.getElem?_eq_getElem i2)
        rw [h3] at e2
        cases e2
        rw [h4] at e2'
        cases e2'
        obtain ⟨pg, rp⟩ := pair_new l2 hT (Rep.le l1 _ _ q2) (Rep.le l1 _ _ q2')
        refine ⟨_, pg, _, ?_, rp⟩
        rw [List.getElem?_map, (List.getElem?_zip_eq_some (z := (ds0[i], ds1[i]))).mpr ⟨List.getElem?_eq_getElem i1, List.getElem?_eq_getElem i2⟩]
        rfl
      · unfold zipL
        rw [List.length_map, List.length_zip, ← b.length]
        exact Nat.le_trans (Nat.min_le_left _ _) (p2.top.lenL (p2.top.lst _ _ a))
end DL

/-! DL10: for, while, comprehensions, stores -/
namespace DL
open PySem PySem.Spec L2
variable {X : Cx} {W : WX} {nn : Nat} {Γ Γ0 Γ1 Γ2 : Gs} {a b c : Expr} {pos : Pos} {fa fb fc : ED} {ga gb gc : TD} {r1 r2 r3 rf : Rf}

/-! ### for -/
/-- a turn's end -/
def goF (x : Flow) (k : DEnv → Flow) : Flow := match x with
  | .nx e => k e
  | .ct e => k e
  | .bk e => .nx e
  | .rt v => .rt v
  | .ex c fs e => .ex c fs e
  | .bad => .bad
@[simp] theorem goF_nx (e : DEnv) (k : DEnv → Flow) : goF (.nx e) k = k e := rfl
@[simp] theorem goF_ct (e : DEnv) (k : DEnv → Flow) : goF (.ct e) k = k e := rfl
@[simp] theorem goF_bk (e : DEnv) (k : DEnv → Flow) : goF (.bk e) k = .nx e := rfl
@[simp] theorem goF_rt (d : D) (k : DEnv → Flow) : goF (.rt d) k = .rt d := rfl
@[simp] theorem goF_ex (c : Str) (fs : List (Str × D)) (e : DEnv) (k : DEnv → Flow) : goF (.ex c fs e) k = .ex c fs e := rfl
@[simp] theorem goF_bad (k : DEnv → Flow) : goF .bad k = .bad := rfl
/-- a turn -/
def turnF (o : Option DEnv) (body : SD) (k : DEnv → Flow) : Flow := match o with
  | none => .bad
  | some e1 => goF (body e1) k
@[simp] theorem turnF_some (e : DEnv) (body : SD) (k : DEnv → Flow) : turnF (some e) body k = goF (body e) k := rfl
@[simp] theorem turnF_none (body : SD) (k : DEnv → Flow) : turnF none body k = .bad := rfl
def loopF (p : PD) (body : SD) : List D → SD
  | [], e => .nx e
  | d :: ds, e => turnF (p d e) body (loopF p body ds)
theorem loopF_nil (p : PD) (body : SD) (e : DEnv) : loopF p body [] e = .nx e := rfl
theorem loopF_cons (p : PD) (body : SD) (d : D) (ds : List D) (e : DEnv) : loopF p body (d :: ds) e = turnF (p d e) body (loopF p body ds) := rfl
def forF (it : DEnv → R (List D)) (p : PD) (body : SD) : SD := fun e => liftF (it e) e fun ds => loopF p body ds e
theorem sd_for {P : Post} {tg iter : Expr} {body : List Stmt} {it : DEnv → R (List D)} {p : PD} {f : SD} {is : List Nat} (hp : PassesOwn (model X.prog X.w) X.A X.env X.xe) (hc : X.calm = true) (hi : PId X W nn Γ tg iter it) (hg : PGd X nn Γ Γ1 is tg p)
    (hb : PSsd X W nn Γ1 { nx := Γ, ct := Γ, bk := P.nx, ex := P.ex, rt := P.rt } body f) (w : wkB Γ P.ex = true) (w2 : wkB Γ P.nx = true) (hs : ∀ x, foldedSetIterable iter X.env x = pure x := by intro _; rfl) : PSd X W nn Γ P (.For tg iter body [] pos) (forF it p f) := by
  obtain ⟨wi, hwi, ki⟩ := hi.ex
  refine PS.imp (ps_for hp hc hwi hg hb hs) fun D σ H q => ?_
  obtain ⟨B, F, env, S, r, o⟩ := q
  refine ki σ H _ ⟨B, F, env, S, r, OutS.lift r w o fun ds J H1 F1 e1 p1 g1 o1 => ?_⟩
  obtain ⟨Gp, Y, wk, hG, hY, _⟩ := g1
  refine for_it wk (fun i σ H => ∃ F' S' env', Sg B F1 F' ∧ Le F1 F' ∧ Rel X.K nn B F' H Γ σ env' S' ∧ OutS X.K W nn P B F' (loopF p f (ds.drop i) env') D) ?_ ?_ ?_ ?_
  · exact ⟨F1, S, env, .refl, .refl, r.pg p1, by simpa using o1⟩
  · rintro i σ H hi ⟨F', S', env', s, l, r', o'⟩
    exact hG F' H l r'.top.toLe
  · rintro i x σ H H' hi ⟨F', S', env', s, l, r', o'⟩ y
    obtain ⟨F2, p2, d, hd, rx⟩ := hY i F' H x H' hi l r'.top y
    have hlt : i < ds.length := hi
    have ed : ds.drop i = d :: ds.drop (i + 1) := by
      rw [List.drop_eq_getElem_cons hlt]
      rw [List.getElem?_eq_getElem hlt] at hd
      cases hd
      rfl
    rw [ed] at o'
    rw [loopF_cons] at o'
    cases ep : p d env' with
    | none => rw [ep] at o'; exact o'.elim
    | some e2 =>
      rw [ep, turnF_some] at o'
      refine ⟨B, F2, env', e2, S', d, r'.pg p2, rx, ep, fun σ2 S2 r2 _ => ?_⟩
      have o2 := OutS.sg (p2.sg r'.base) o'
      have l2 : Le F1 F2 := l.trans p2.le
      have s2 : Sg B F1 F2 := s.trans (p2.sg r'.base)
      refine ⟨B, F2, e2, S2, r2, ?_⟩
      cases eb : f e2 with
      | nx e3 =>
        rw [eb] at o2; dsimp only [goF] at o2
        exact fun σ3 H3 F3 S3 s3 r3 => ⟨F3, S3, e3, s2.trans s3, l2.trans s3.1, r3, OutS.sg s3 o2⟩
      | ct e3 =>
        rw [eb] at o2; dsimp only [goF] at o2
        exact fun σ3 H3 F3 S3 s3 r3 => ⟨F3, S3, e3, s2.trans s3, l2.trans s3.1, r3, OutS.sg s3 o2⟩
      | bk e3 => rw [eb] at o2; dsimp only [goF] at o2; exact o2
      | rt v => rw [eb] at o2; dsimp only [goF] at o2; exact o2
      | ex c fs e3 => rw [eb] at o2; dsimp only [goF] at o2; exact o2
      | bad => rw [eb] at o2; dsimp only [goF] at o2; exact o2
  · rintro σ H ⟨F', S', env', s, l, r', o'⟩
    rw [List.drop_length] at o'
    obtain ⟨F2, S2, s2, r2⟩ := r'.wk w2
    exact o' σ H F2 S2 s2 r2

/-! ### while -/
def whileF (c : TD) (body : SD) : Nat → SD
  | 0, _ => .bad
  | n + 1, e => liftF (c e) e fun b => if b = true then goF (body e) (whileF c body n) else .nx e
theorem whileF_succ (c : TD) (body : SD) (n : Nat) (e : DEnv) : whileF c body (n + 1) e = liftF (c e) e fun b => if b = true then goF (body e) (whileF c body n) else .nx e := rfl
theorem sd_while {P : Post} {test : Expr} {body : List Stmt} {f : SD} (n : Nat) (hp : PassesOwn (model X.prog X.w) X.A X.env X.xe) (hc : PTd X W nn Γ test gc)
    (hb : PSsd X W nn Γ { nx := Γ, ct := Γ, bk := P.nx, ex := P.ex, rt := P.rt } body f) (w : wkB Γ P.ex = true) (w2 : wkB Γ P.nx = true) : PSd X W nn Γ P (.While test body [] pos) (whileF gc f n) := by
  refine PS.imp (ps_while hp hc hb) fun D σ H q => ?_
  obtain ⟨B, F, env, S, r, o⟩ := q
  refine ⟨fun m σ H => ∃ F' S' env', Rel X.K nn B F' H Γ σ env' S' ∧ OutS X.K W nn P B F' (whileF gc f m env') D, ⟨n, F, S, env, r, o⟩, ?_⟩
  rintro m σ H ⟨F', S', env', r', o'⟩
  cases m with
  | zero => exact o'.elim
  | succ m =>
    rw [whileF_succ] at o'
    refine ⟨B, F', env', S', r', OutS.lift r' w o' fun bb k H1 F1 e1 p1 g1 o1 => ?_⟩
    subst g1
    cases k with
    | false =>
      rw [if_neg (by decide)]
      obtain ⟨F2, S2, s2, r2⟩ := (r'.pg p1).wk w2
      exact o1 σ H1 F2 S2 s2 r2
    | true =>
      rw [if_pos rfl] at o1 ⊢
      refine ⟨fun σ H => ∃ F' S' env', Rel X.K nn B F' H Γ σ env' S' ∧ OutS X.K W nn P B F' (whileF gc f m env') D, fun σ' H' h => ⟨m, Nat.lt_succ_self m, h⟩, B, F1, env', S', r'.pg p1, ?_⟩
      cases eb : f env' with
      | nx e3 =>
        rw [eb] at o1; dsimp only [goF] at o1
        exact fun σ3 H3 F3 S3 s3 r3 => ⟨F3, S3, e3, r3, OutS.sg s3 o1⟩
      | ct e3 =>
        rw [eb] at o1; dsimp only [goF] at o1
        exact fun σ3 H3 F3 S3 s3 r3 => ⟨F3, S3, e3, r3, OutS.sg s3 o1⟩
      | bk e3 => rw [eb] at o1; dsimp only [goF] at o1; exact o1
      | rt v => rw [eb] at o1; dsimp only [goF] at o1; exact o1
      | ex c fs e3 => rw [eb] at o1; dsimp only [goF] at o1; exact o1
      | bad => rw [eb] at o1; dsimp only [goF] at o1; exact o1

/-! ### comprehensions -/
/-- tests of a comprehension -/
def yesT : TD := fun _ => .ok true
structure PTsd (X : Cx) (W : WX) (nn : Nat) (Γ : Gs) (ifs : List Expr) (f : TD) : Prop where
  pt : PTs X ifs (tT X.K W nn Γ f)
theorem tsd_nil : PTsd X W nn Γ [] yesT := by
  refine ⟨⟨fun pins s σ H Q I h => pts_nil.run pins s σ H Q I ?_⟩⟩
  obtain ⟨B, F, env, S, rel, o⟩ := h
  exact o true H F (.refl rel.top) rfl
theorem tsd_one (h : PTd X W nn Γ c gc) : PTsd X W nn Γ [c] gc := ⟨pts_one h⟩
/-- [elt for p in it if t] over data -/
def compL (p : PD) (t : TD) (f : ED) (e : DEnv) : List D → Option (List D)
  | [] => some []
  | d :: ds => (p d e).bind fun e1 => match t e1 with
    | .ok true => (match f e1 with
      | .ok x => (compL p t f e ds).map (x :: ·)
      | _ => none)
    | .ok false => compL p t f e ds
    | _ => none
def compD (it : DEnv → R (List D)) (p : PD) (t : TD) (f : ED) : ED := fun e => (it e).bind fun ds => ofO ((compL p t f e ds).map .list)
/-- the slots of the comprehension's own names forgotten -/
def wipeG (Γ : Gs) : List Nat → Gs
  | [] => Γ
  | i :: is => (wipeG Γ is).set i none
theorem wipeG_at {Γ : Gs} {i : Nat} {g : G} : ∀ {vs : List Nat}, (wipeG Γ vs)[i]? = some (some g) → Γ[i]? = some (some g) ∧ i ∉ vs
  | [], h => ⟨h, by simp⟩
  | v :: vs, h => by
    unfold wipeG at h
    by_cases hi : v = i
    · subst hi
      by_cases hv : v < (wipeG Γ vs).length
      · rw [List.getElem?_set_self hv] at h; cases h
      · rw [List.getElem?_eq_none (by simpa using hv)] at h; cases h
    · rw [List.getElem?_set_ne hi] at h
      obtain ⟨h1, h2⟩ := wipeG_at h
      exact ⟨h1, by simp only [List.mem_cons, not_or]; exact ⟨fun e => hi e.symm, h2⟩⟩
theorem Rel.wipe {K : PySem.W.Frag} {B F H : Hp} {σ : St} {env : DEnv} {S : Nat → List Addr} (vs : List Nat) (r : Rel K nn B F H Γ σ env S) : Rel K nn B F H (wipeG Γ vs) (L2.wipe σ vs) env S :=
  ⟨r.top, r.base, fun i g d h1 h2 => by
    obtain ⟨h1, hn⟩ := wipeG_at h1
    obtain ⟨v, e, q⟩ := r.slot i g d h1 h2
    exact ⟨v, by rw [wipe_out hn]; exact e, q⟩, r.fr, r.dj, by rw [wipe_length]; exact r.ls, r.le⟩
theorem RepGL.snoc {K : PySem.W.Frag} {F H : Hp} : ∀ {vs : List V} {ds : List D} {g : G} {S T : List Addr} {v : V} {d : D}, RepGL K F H vs ds g S → RepG K F H v d g T → (∀ a ∈ S, a ∉ T) → RepGL K F H (vs ++ [v]) (ds ++ [d]) g (S ++ T)
  | _, _, _, _, T, _, _, .nil, q, _ => by
    have z := RepGL.cons (T := []) q .nil (fun a _ h => by simp at h)
    simpa using z
  | _, _, _, _, T, _, _, .cons r t n, q, h => by
    have z := RepGL.cons r (RepGL.snoc t q fun a ha => h a (List.mem_append_right _ ha)) fun a ha hm => by
      rcases List.mem_append.mp hm with hm | hm
      · exact n a ha hm
      · exact h a (List.mem_append_left _ ha) hm
    rw [List.append_assoc]
    exact z
theorem wipe_wipe (σ : St) (vs : List Nat) : L2.wipe (L2.wipe σ vs) vs = L2.wipe σ vs := by
  apply List.ext_getElem?
  intro k
  have w1 : ∀ (τ : St) {ws : List Nat}, k ∈ ws → (L2.wipe τ ws)[k]? = if k < τ.length then some none else none := by
    intro τ ws
    induction ws with
    | nil => intro h; simp at h
    | cons w ws ih =>
      intro h
      show ((L2.wipe τ ws).set w none)[k]? = _
      by_cases hw : w = k
      · subst hw
        rw [List.getElem?_set, wipe_length]
        simp
      · rw [List.getElem?_set_ne hw]
        rcases List.mem_cons.mp h with h | h
        · exact absurd h.symm hw
        · exact ih h
  by_cases hm : k ∈ vs
  · rw [w1 _ hm, w1 _ hm, wipe_length]
  · rw [wipe_out hm, wipe_out hm]
theorem lc_imp {wi : TI} {own : List (Str × Nat)} {it : DEnv → R (List D)} {p : PD} {t : TD} {f : ED} {g : G} {is : List Nat} (ki : ∀ (σ : St) (H : Hp) (Q : It → Hp → Prop), tX X.K W nn Γ it (fun _ ds J F1 _ => WalkD X.K F1 J ds) σ H Q → wi σ H Q) (hw : ∀ i ∈ is, i ∈ own.map (·.2))
    (σ : St) (H : Hp) (Q : VK) (q : tE X.K W nn Γ (.v (.ow g)) (compD it p t f) σ H Q) : tLc wi (tG X.K nn (wipeG Γ (own.map (·.2))) Γ1 is p) (tT X.K (fun _ _ _ _ => False) nn Γ1 t) (tE X.K (fun _ _ _ _ => False) nn Γ1 (.v g) f) (own.map (·.2)) σ H Q := by
  obtain ⟨B, F, env, S, r, o⟩ := q
  refine ki σ H _ ⟨B, F, env, S, r, Out.bind o fun ds J H1 F1 e1 p1 g1 o1 => ?_⟩
  obtain ⟨Gp, Y, wk, hG, hY, hZ⟩ := g1
  cases ec : compL p t f env ds with
  | none => rw [ec] at o1; exact o1.elim
  | some xs =>
    rw [ec] at o1
    intro D hD
    have r1 := r.pg p1
    have nD : F1 D = none := p1.top.none hD
    refine lc_it wk (fun i H => ∃ F' acc ys T rest, Pg F1 H1 F' H ∧ H D = some (.lst acc) ∧ F' D = none ∧ RepGL X.K F' H acc ys g T ∧ D ∉ T ∧ (∀ a ∈ T, H1 a = none ∧ F' a = none) ∧ acc.length ≤ i ∧ compL p t f env (ds.drop i) = some rest ∧ xs = ys ++ rest) ?_ ?_ ?_ ?_
    · refine ⟨F1, [], [], [], xs, .alloc p1.top hD (Nat.zero_le _), upd_same, nD, .nil, by simp, by simp, Nat.le_refl _, by simpa using ec, rfl⟩
    · rintro i H _ ⟨F', acc, ys, T, rest, pg, _⟩
      exact hG F' H pg.le pg.top.toLe
    · rintro i x H2 H3 hlt ⟨F', acc, ys, T, rest, pg, eD, fD, ra, nT, fT, la, er, exs⟩ y
      obtain ⟨F3, p3, d, hd, rx⟩ := hY i F' H2 x H3 hlt pg.le pg.top y
      have hlt' : i < ds.length := hlt
      have ed : ds.drop i = d :: ds.drop (i + 1) := by
        rw [List.drop_eq_getElem_cons hlt']
        rw [List.getElem?_eq_getElem hlt'] at hd
        cases hd
        rfl
      rw [ed] at er
      unfold compL at er
      cases ep : p d env with
      | none => rw [ep] at er; cases er
      | some env1 =>
        rw [ep, Option.bind_some] at er
        have rw_ := (r1.pg (pg.trans p3)).wipe (own.map (·.2))
        have dD : ∀ {a : Addr}, a ∈ T → H2 a ≠ none := fun {a} ha => ra.dom a ha
        refine ⟨B, F3, env, env1, S, d, rw_, rx, ep, fun σ2 S2 r2 hwp => ⟨hwp _ hw |>.trans ?_, ?_⟩⟩
        · exact wipe_wipe _ _
        refine ⟨B, F3, env1, S2, r2, ?_⟩
        cases et : t env1 with
        | exc c fs => rw [et] at er; cases er
        | bad => rw [et] at er; cases er
        | ok b =>
          rw [et] at er
          intro b' H4 F4 p4 eb
          have eb' : b' = b := eb
          subst eb'
          have p34 := p3.trans p4
          cases b' with
          | false =>
            rw [if_neg (by decide)]
            exact ⟨F4, acc, ys, T, rest, pg.trans p34, p34.ext _ _ eD, p34.fnone fD (by rw [eD]; simp), RepGL.mv p34.le ra fun a _ o z => p34.ext a o z, nT, fun a ha => ⟨(fT a ha).1, p34.fnone (fT a ha).2 (dD ha)⟩, Nat.le_succ_of_le la, er, exs⟩
          | true =>
            rw [if_pos rfl]
            refine ⟨B, F4, env1, S2, r2.pg p4, ?_⟩
            dsimp only at er
            cases ef : f env1 with
            | exc c fs => rw [ef] at er; cases er
            | bad => rw [ef] at er; cases er
            | ok z =>
              rw [ef] at er
              dsimp only at er
              cases er2 : compL p t f env (ds.drop (i + 1)) with
              | none => rw [er2] at er; cases er
              | some rest2 =>
                rw [er2] at er
                cases er
                intro v H5 F5 p5 gv
                obtain ⟨T2, q2, n2⟩ := gv
                have p35 := p34.trans p5
                have eD5 := p35.ext _ _ eD
                have hDn : D ∉ T2 := fun hm => by
                  have z := (n2 D hm).1
                  rw [p34.ext _ _ eD] at z
                  cases z
                have la2 : acc.length < sizeLine := Nat.lt_of_lt_of_le (Nat.lt_of_le_of_lt la hlt') hZ
                have dis : ∀ a ∈ T, a ∉ T2 := fun a ha hm => by
                  have z := (n2 a hm).1
                  exact dD ha (p34.ext.none z)
                have keep : ∀ (a : Addr), a ≠ D → ∀ o, H5 a = some o → (upd H5 D (.lst (acc ++ [v]))) a = some o := fun a ha o z => by rw [upd_ne ha]; exact z
                refine ⟨acc, eD5, la2, F5, acc ++ [v], ys ++ [z], T ++ T2, rest2, ?_, upd_same, p35.fnone fD (by rw [eD]; simp), ?_, ?_, ?_, ?_, rfl, ?_⟩
                · have p5' := pg.trans p35
                  refine ⟨fun a o ha => ?_, p5'.le, ⟨⟨fun a u hu => ?_, fun a C dx fs hu => ?_, fun a us hu => ?_⟩, ?_⟩, p5'.new⟩
                  · have hne : a ≠ D := fun e => by rw [e, hD] at ha; cases ha
                    rw [upd_ne hne]; exact p5'.ext a o ha
                  · have hne : a ≠ D := fun e => Rd.some hu (e ▸ p35.fnone fD (by rw [eD]; simp))
                    exact (p5'.top.rd a u hu).imp (fun z => by rw [upd_ne hne]; exact z) fun ⟨o, z⟩ => ⟨o, by rw [upd_ne hne]; exact z⟩
                  · have hne : a ≠ D := fun e => by rw [e, p35.fnone fD (by rw [eD]; simp)] at hu; cases hu
                    rw [upd_ne hne]; exact p5'.top.ins a C dx fs hu
                  · have hne : a ≠ D := fun e => by rw [e, p35.fnone fD (by rw [eD]; simp)] at hu; cases hu
                    rw [upd_ne hne]; exact p5'.top.lst a us hu
                  · exact p5'.top.sz.upd (by show (acc ++ [v]).length ≤ sizeLine; rw [List.length_append]; exact la2)
                · refine RepGL.snoc (RepGL.mv p35.le ra fun a ha o z => keep a (fun e => nT (e ▸ ha)) o (p35.ext a o z)) (q2.mv .refl fun a ha o z => keep a (fun e => hDn (e ▸ ha)) o z) dis
                · intro hm
                  rcases List.mem_append.mp hm with hm | hm
                  · exact nT hm
                  · exact hDn hm
                · intro a ha
                  rcases List.mem_append.mp ha with ha | ha
                  · exact ⟨(fT a ha).1, p35.fnone (fT a ha).2 (dD ha)⟩
                  · exact ⟨(pg.trans p34).ext.none (n2 a ha).1, (n2 a ha).2⟩
                · rw [List.length_append]; exact Nat.succ_le_succ la
                · rw [exs]; simp
    · rintro H2 ⟨F', acc, ys, T, rest, pg, eD, fD, ra, nT, fT, la, er, exs⟩
      rw [List.drop_length] at er
      cases er
      rw [List.append_nil] at exs
      subst exs
      refine o1 (.ref D) H2 F' (p1.trans pg) ⟨D :: T, .lst eD ra nT, fun a ha => ?_⟩
      rcases List.mem_cons.mp ha with rfl | ha
      · exact ⟨p1.ext.none hD, fD⟩
      · exact ⟨p1.ext.none (fT a ha).1, (fT a ha).2⟩
theorem pd_lc {elt tg iter : Expr} {ifs : List Expr} {scope : Scope} {own : List (Str × Nat)} {it : DEnv → R (List D)} {p : PD} {t : TD} {f : ED} {g : G} {is : List Nat} (hc : X.calm = true) (hN : X.N.Nodup) (hi : PId X W nn Γ tg iter it) (ok : BlkOk X.N X.env.scope scope own)
    (hg : ∀ (s : Shared) (H : Hp) (C : Addr) (cl : List (Str × Addr)) (fp : List Addr), PGd (X.blk s H scope (compEnvC scope cl C X.env) fp) nn (wipeG Γ (own.map (·.2))) Γ1 is tg p)
    (ht : ∀ (s : Shared) (H : Hp) (C : Addr) (cl : List (Str × Addr)) (fp : List Addr), PTsd (X.blk s H scope (compEnvC scope cl C X.env) fp) (fun _ _ _ _ => False) nn Γ1 ifs t)
    (he : ∀ (s : Shared) (H : Hp) (C : Addr) (cl : List (Str × Addr)) (fp : List Addr), PEd (X.blk s H scope (compEnvC scope cl C X.env) fp) (fun _ _ _ _ => False) nn Γ1 elt (.v g) f)
    (hw : ∀ i ∈ is, i ∈ own.map (·.2)) (hs : ∀ x, foldedSetIterable iter X.env x = pure x := by intro _; rfl) : PEd X W nn Γ (.ListComp elt [⟨tg, iter, ifs, 0⟩] scope pos) (.v (.ow g)) (compD it p t f) := by
  obtain ⟨wi, hwi, ki⟩ := hi.ex
  exact PE.imp (pe_lc (g := tG X.K nn (wipeG Γ (own.map (·.2))) Γ1 is p) (tt := tT X.K (fun _ _ _ _ => False) nn Γ1 t) (te := tE X.K (fun _ _ _ _ => False) nn Γ1 (.v g) f) hc hN hwi ok hg (fun s H C cl fp => (ht s H C cl fp).pt) he hs) (lc_imp ki hw)
/-- y = [..] -/
theorem sd_setLc {P : Post} {y : Str} {py spos : Pos} (i : Nat) {elt tg iter : Expr} {ifs : List Expr} {scope : Scope} {own : List (Str × Nat)} {it : DEnv → R (List D)} {p : PD} {t : TD} {f : ED} {g : G} {is : List Nat} (hy : X.N[i]? = some y) (hyl : X.env.scope.names.lookup y = some .local) (hl : i < nn) (hP : P.nx = Γ.set i (some (.ow g))) (w : wkB Γ P.ex = true)
    (hsw : swapsWith (.ListComp elt [⟨tg, iter, ifs, 0⟩] scope pos) (some (.Name y py)) spos.line X.env = pure true) (hc : X.calm = true) (hN : X.N.Nodup) (hi : PId X W nn Γ tg iter it) (ok : BlkOk X.N X.env.scope scope own)
    (hg : ∀ (s : Shared) (H : Hp) (C : Addr) (cl : List (Str × Addr)) (fp : List Addr), PGd (X.blk s H scope (compEnvC scope cl C X.env) fp) nn (wipeG Γ (own.map (·.2))) Γ1 is tg p)
    (ht : ∀ (s : Shared) (H : Hp) (C : Addr) (cl : List (Str × Addr)) (fp : List Addr), PTsd (X.blk s H scope (compEnvC scope cl C X.env) fp) (fun _ _ _ _ => False) nn Γ1 ifs t)
    (he : ∀ (s : Shared) (H : Hp) (C : Addr) (cl : List (Str × Addr)) (fp : List Addr), PEd (X.blk s H scope (compEnvC scope cl C X.env) fp) (fun _ _ _ _ => False) nn Γ1 elt (.v g) f)
    (hw : ∀ i ∈ is, i ∈ own.map (·.2)) (hs : ∀ x, foldedSetIterable iter X.env x = pure x := by intro _; rfl) : PSd X W nn Γ P (.Assign [.Name y py] (.ListComp elt [⟨tg, iter, ifs, 0⟩] scope pos) spos) (asgF i (compD it p t f)) := by
  obtain ⟨wi, hwi, ki⟩ := hi.ex
  refine PS.imp (ps_setLc (g := tG X.K nn (wipeG Γ (own.map (·.2))) Γ1 is p) (tt := tT X.K (fun _ _ _ _ => False) nn Γ1 t) (te := tE X.K (fun _ _ _ _ => False) nn Γ1 (.v g) f) hc hN hy hyl hsw hwi ok hg (fun s H C cl fp => (ht s H C cl fp).pt) he hs) fun D σ H q => ?_
  obtain ⟨B, F, env, S, r, o⟩ := q
  refine lc_imp ki hw σ H _ ⟨B, F, env, S, r, OutS.lift r w o fun d v H1 F1 e1 p1 g1 o1 => ?_⟩
  obtain ⟨T, q, n⟩ := g1
  have rr := r.set (i := i) p1 hl q n
  rw [← hP] at rr
  exact o1 _ H1 F1 _ .refl rr
/-- the same, frozen at once -/
theorem PEd.fz {f : ED} {g : G} (h : PEd X W nn Γ a (.v g) f) : PEd X W nn Γ a (.v .sh) f := pd_fz h
end DL

/-! DL11: stores: methods of lists that are ours, items, name op= e, a, b = x, y -/
namespace DL
open PySem PySem.Spec L2
variable {X : Cx} {W : WX} {nn : Nat} {Γ Γ0 Γ1 Γ2 : Gs} {a b c : Expr} {pos : Pos} {fa fb fc : ED} {ga gb gc : TD} {r1 r2 r3 rf : Rf}

/-- an owned object is rewritten -/
theorem Rel.write {K : PySem.W.Frag} {B F H : Hp} {σ : St} {env : DEnv} {S : Nat → List Addr} {i : Nat} {p : Addr} {o : HO} {v : V} {d : D} {g : G} {T : List Addr} (r : Rel K nn B F H Γ σ env S) (hΓ : Γ[i]? = some (some g)) (hv : σ[i]? = some (some v))
    (hp : p ∈ S i) (z : szO o) (q : RepG K F (upd H p o) v d g T) (hT : ∀ b ∈ T, b ∈ S i ∨ (F b = none ∧ B b = none ∧ H b ≠ none ∧ ∀ j, b ∉ S j)) : Rel K nn B F (upd H p o) Γ σ (env.set i (some d)) (fun j => if j = i then T else S j) := by
  obtain ⟨f1, f2, f3⟩ := r.fr i p hp
  have ne : ∀ {x : Addr} {u : HO}, Rd F x u → x ≠ p := fun h e => by subst e; exact Rd.some h f1
  refine ⟨⟨⟨fun x u h => ?_, fun x C dx fs h => ?_, fun x xs h => ?_⟩, r.top.sz.upd z⟩, fun x u h => ?_, fun j g' d' h1 h2 => ?_, fun j x hx => ?_, fun j k x hjk hx => ?_, r.ls, by rw [List.length_set]; exact r.le⟩
  · have e := ne h
    exact (r.top.rd x u h).imp (fun h => by rw [upd_ne e]; exact h) fun ⟨o, h⟩ => ⟨o, by rw [upd_ne e]; exact h⟩
  · rw [upd_ne (ne (.inl h))]; exact r.top.ins x C dx fs h
  · rw [upd_ne (ne (.inl h))]; exact r.top.lst x xs h
  · rw [upd_ne (fun e => by subst e; rw [f2] at h; cases h)]; exact r.base x u h
  · by_cases e : j = i
    · subst e
      rw [hΓ] at h1; cases h1
      have hl : j < env.length := by
        have := (List.getElem?_eq_some_iff.mp h2).1
        rwa [List.length_set] at this
      rw [List.getElem?_set_self hl] at h2
      cases h2
      exact ⟨v, hv, by simpa using q⟩
    · rw [List.getElem?_set_ne (Ne.symm e)] at h2
      obtain ⟨w, e1, q1⟩ := r.slot j g' d' h1 h2
      refine ⟨w, e1, ?_⟩
      rw [if_neg e]
      exact q1.mv .refl fun x hx u hu => by
        rw [upd_ne (fun e2 => by subst e2; exact r.dj j i x e hx hp)]; exact hu
  · by_cases e : j = i
    · subst e
      simp only [if_pos] at hx
      rcases hT x hx with h | ⟨h1, h2, h3, _⟩
      · obtain ⟨g1, g2, g3⟩ := r.fr j x h
        refine ⟨g1, g2, ?_⟩
        by_cases e2 : x = p
        · subst e2; rw [upd_same]; simp
        · rw [upd_ne e2]; exact g3
      · refine ⟨h1, h2, ?_⟩
        by_cases e2 : x = p
        · subst e2; rw [upd_same]; simp
        · rw [upd_ne e2]; exact h3
    · simp only [if_neg e] at hx
      obtain ⟨g1, g2, g3⟩ := r.fr j x hx
      refine ⟨g1, g2, ?_⟩
      rw [upd_ne (fun e2 => by subst e2; exact r.dj j i x e hx hp)]
      exact g3
  · by_cases e : j = i
    · subst e
      simp only [if_pos] at hx
      rw [if_neg (Ne.symm hjk)]
      rcases hT x hx with h | ⟨_, _, _, h⟩
      · exact r.dj j k x hjk h
      · exact h k
    · simp only [if_neg e] at hx
      by_cases e2 : k = i
      · subst e2
        simp only [if_pos]
        intro h
        rcases hT x h with h | ⟨_, _, _, h⟩
        · exact r.dj j k x hjk hx h
        · exact h j hx
      · rw [if_neg e2]
        exact r.dj j k x hjk hx
/-- what a slot's owned list is -/
theorem RepG.lst_inv {K : PySem.W.Frag} {F H : Hp} {v : V} {ds : List D} {g : G} {S : List Addr} (q : RepG K F H v (.list ds) (.ow g) S) : ∃ p xs S0, v = .ref p ∧ S = p :: S0 ∧ H p = some (.lst xs) ∧ RepGL K F H xs ds g S0 ∧ p ∉ S0 := by
  cases q with
  | at_ a => cases a
  | lst e r n => exact ⟨_, _, _, rfl, rfl, e, r, n⟩
theorem RepGL.keep {K : PySem.W.Frag} {F H : Hp} {xs : List V} {ds : List D} {g : G} {S : List Addr} {p : Addr} {o : HO} (r : RepGL K F H xs ds g S) (n : p ∉ S) : RepGL K F (upd H p o) xs ds g S :=
  RepGL.mv .refl r fun a ha u hu => by
    have e : a ≠ p := fun e => by subst e; exact n ha
    rw [upd_ne e]; exact hu
theorem RepG.keep {K : PySem.W.Frag} {F H : Hp} {xs : V} {ds : D} {g : G} {S : List Addr} {p : Addr} {o : HO} (r : RepG K F H xs ds g S) (n : p ∉ S) : RepG K F (upd H p o) xs ds g S :=
  RepG.mv .refl r fun a ha u hu => by
    have e : a ≠ p := fun e => by subst e; exact n ha
    rw [upd_ne e]; exact hu
/-! ### x.append(e), x.extend(e) -/
def modF (i : Nat) (f : ED) (k : List D → D → Option (List D)) : SD := fun e => match e[i]? with
  | some (some (.list ds)) => liftF (f e) e fun d => (match k ds d with
    | some y => .nx (e.set i (some (.list y)))
    | none => .bad)
  | _ => .bad
/-- the slot's list, the value, then the new list -/
def ModOk (X : Cx) (g : G) (r1 : Rf) (r : V → List V → Hp → VK → Prop) (k : List D → D → Option (List D)) : Prop :=
  ∀ (H0 F H : Hp) (p : Addr) (xs : List V) (ds ys : List D) (S0 : List Addr) (y : V) (d : D) (Q : VK), Tp F H → H p = some (.lst xs) → RepGL X.K F H xs ds g S0 → p ∉ S0 → F p = none → Res X.K H0 F H y d r1 → k ds d = some ys → (∀ b ∈ p :: S0, H0 b ≠ none) →
    (∀ o T, szO o → RepG X.K F (upd H p o) (.ref p) (.list ys) (.ow g) T → (∀ b ∈ T, b ∈ p :: S0 ∨ (F b = none ∧ H0 b = none ∧ H b ≠ none)) → Q .non (upd H p o)) → r (.ref p) [y] H Q
theorem sd_mod {P : Post} {x meth : Str} {id : String} {g : G} {r : V → List V → Hp → VK → Prop} {k : List D → D → Option (List D)} {p1 apos cpos : Pos} (i : Nat) (slot : Slot "list" meth id) (hty : typeOf (.builtin id) = pure (.type "method_descriptor")) (hm : MtR X id r) (hk : ModOk X g r1 r k)
    (hN : X.N[i]? = some x) (hv : Vis X.env.scope x) (hg : Γ[i]? = some (some (.ow g))) (he : PEd X W nn Γ a r1 fa) (hP : P.nx = Γ) (w : wkB Γ P.ex = true)
    (hbase : attributeBase (.Name x p1) meth X.env (eval (.Name x p1) X.env) = eval (.Name x p1) X.env := by rfl)
    (hfew : ((backTo cpos (starEach [a] X.env)).all (fun x => !x.1) && (backToKw cpos (keywordEach [] X.env)).all (fun x => x.1.isSome)
      && decide (([a] : List Expr).length + ([] : List Keyword).length + (if ([] : List Keyword).isEmpty then 0 else 1) < 30)) = true := by rfl)
    (hline : (apos.endLine == cpos.line) = true := by rfl) (hs : starEach [a] X.env = (false, eval a X.env) :: starEach [] X.env := by rfl) (hplain : (backTo cpos (starEach [] X.env)).any (·.1) = false := by rfl)
    (hd : (x == ("__debug__" : Str)) = false := by decide) (hcd : (x == ("__classdict__" : Str)) = false := by decide)
    (hsw : swapsWith (.Call (.Attribute (.Name x p1) meth apos) [a] [] cpos) none pos.line X.env = pure false := by rfl) : PSd X W nn Γ P (.Expr (.Call (.Attribute (.Name x p1) meth apos) [a] [] cpos) pos) (modF i fa k) := by
  refine PS.imp (ps_expr (pe_bm PySem.F.plainAttrs_list slot hty hm (pe_var hN hv hd hcd) (pa_cons he pa_nil hs) hbase hfew hline hs hplain) hsw) fun D σ H q => ?_
  obtain ⟨B, F, env, S, rel, o⟩ := q
  unfold modF at o
  split at o
  · rename_i ds hds
    obtain ⟨v, e1, q1⟩ := rel.slot i _ _ hg hds
    obtain ⟨p, xs, S0, rfl, eS, e2, q2, nS⟩ := q1.lst_inv
    refine ⟨.ref p, e1, .inl ⟨rfl, xs, SqL.of e2⟩, ?_⟩
    refine ⟨B, F, env, S, rel, OutS.lift rel w o fun d y H1 F1 e p1 g1 o1 => ?_⟩
    split at o1
    · rename_i ys hy
      have rel1 := rel.pg p1
      have hpS : p ∈ S i := by rw [eS]; simp
      have n0 : ∀ b ∈ p :: S0, H b ≠ none := fun b hb => (rel.fr i b (by rw [eS]; exact hb)).2.2
      refine hk H F1 H1 p xs ds ys S0 y d _ p1.top (p1.ext _ _ e2) (q2.mv p1.le fun a _ o h => p1.ext a o h) nS (rel1.fr i p hpS).1 g1 hy n0 fun o T zo qo hT => ?_
      have rw1 := rel1.write hg e1 hpS zo qo fun b hb => (hT b hb).imp (fun h => by rw [eS]; exact h) fun ⟨h1, h2, h3⟩ => ⟨h1, rel.base.none h2, h3, fun j hj => (rel.fr j b hj).2.2 h2⟩
      rw [← hP] at rw1
      exact o1 σ _ F1 _ .refl rw1
    · exact o1.elim
  · exact o.elim
def appG : List D → D → Option (List D) := fun ds d => if lineB (ds.length + 1) then some (ds ++ [d]) else none
def appF (i : Nat) (f : ED) : SD := modF i f appG
theorem mod_append {g : G} : ModOk X g (.v g) rAppend appG := by
  intro H0 F H p xs ds ys S0 y d Q t e2 q2 nS fp g1 hy n0 k
  unfold appG at hy
  split at hy
  · rename_i hl
    cases hy
    have hl := lineB_ok hl
    obtain ⟨T, qd, nd⟩ := g1
    have hlen := q2.length
    have np : p ∉ T := fun h => n0 p (by simp) (nd p h).1
    have dj : ∀ b ∈ S0, b ∉ T := fun b hb hb2 => n0 b (by simp [hb]) (nd b hb2).1
    refine ⟨p, xs, y, rfl, rfl, e2, by omega, k _ (p :: (S0 ++ T)) (by show (xs ++ [y]).length ≤ sizeLine; rw [List.length_append, List.length_singleton]; omega) (.lst upd_same ((q2.keep nS).snoc (qd.keep np) dj) ?_) fun b hb => ?_⟩
    · simp only [List.mem_append, not_or]; exact ⟨nS, np⟩
    · rcases List.mem_cons.mp hb with rfl | hb
      · exact .inl (by simp)
      · rcases List.mem_append.mp hb with hb | hb
        · exact .inl (by simp [hb])
        · exact .inr ⟨(nd b hb).2, (nd b hb).1, qd.dom b hb⟩
  · cases hy
/-- x.extend(e), e a list -/
def extG : List D → D → Option (List D)
  | ds, .list es => if lineB (ds.length + es.length) then some (ds ++ es) else none
  | _, _ => none
theorem mod_extend (hk : ksh r1 = true) : ModOk X .sh r1 rExtend extG := by
  intro H0 F H p xs ds ys S0 y d Q t e2 q2 nS fp g1 hy n0 k
  unfold extG at hy
  split at hy
  · split at hy
    · rename_i hl
      cases hy
      have hl := lineB_ok hl
      obtain ⟨b, zs, rfl, hb, rb⟩ := g1.kidsL hk t
      obtain ⟨eS, ra⟩ := q2.sh_nil
      subst eS
      have h1 := ra.length
      have h2 := rb.length
      refine ⟨p, b, xs, zs, rfl, rfl, e2, hb, by omega, k _ [p] (by show (xs ++ zs).length ≤ sizeLine; rw [List.length_append]; omega) (.lst upd_same (RepGL.sh (ra.append rb)) (by simp)) fun b hb => .inl (by simpa using hb)⟩
    · cases hy
  · cases hy
/-! ### x.reverse() -/
def revF (i : Nat) : SD := fun e => match e[i]? with
  | some (some (.list ds)) => .nx (e.set i (some (.list ds.reverse)))
  | _ => .bad
theorem RepL.reverse {K : PySem.W.Frag} {F : Hp} : ∀ {vs : List V} {ds : List D}, RepL K F vs ds → RepL K F vs.reverse ds.reverse
  | _, _, .nil => .nil
  | _, _, .cons r t => by rw [List.reverse_cons, List.reverse_cons]; exact (RepL.reverse t).append (.cons r .nil)
theorem sd_reverse {P : Post} {x : Str} {p1 apos cpos : Pos} (i : Nat) (hN : X.N[i]? = some x) (hv : Vis X.env.scope x) (hg : Γ[i]? = some (some (.ow .sh))) (hP : P.nx = Γ)
    (hbase : attributeBase (.Name x p1) "reverse" X.env (eval (.Name x p1) X.env) = eval (.Name x p1) X.env := by rfl) (hline : (apos.endLine == cpos.line) = true := by rfl)
    (hd : (x == ("__debug__" : Str)) = false := by decide) (hcd : (x == ("__classdict__" : Str)) = false := by decide)
    (hsw : swapsWith (.Call (.Attribute (.Name x p1) "reverse" apos) [] [] cpos) none pos.line X.env = pure false := by rfl) : PSd X W nn Γ P (.Expr (.Call (.Attribute (.Name x p1) "reverse" apos) [] [] cpos) pos) (revF i) := by
  refine PS.imp (ps_expr (pe_bm0 PySem.F.plainAttrs_list PySem.F.slot_list_reverse PySem.F.type_list_reverse mt_reverse (pe_var hN hv hd hcd) hbase hline) hsw) fun D σ H q => ?_
  obtain ⟨B, F, env, S, rel, o⟩ := q
  unfold revF at o
  split at o
  · rename_i ds hds
    obtain ⟨v, e1, q1⟩ := rel.slot i _ _ hg hds
    obtain ⟨p, xs, S0, rfl, eS, e2, q2, nS⟩ := q1.lst_inv
    obtain ⟨e0, ra⟩ := q2.sh_nil
    subst e0
    have hz := rel.top.lenL e2
    refine ⟨.ref p, e1, .inl ⟨rfl, xs, SqL.of e2⟩, p, xs, rfl, rfl, e2, ?_⟩
    refine o σ _ F _ .refl (hP ▸ rel.write (o := .lst xs.reverse) (T := [p]) hg e1 (by rw [eS]; simp) (by show xs.reverse.length ≤ sizeLine; rw [List.length_reverse]; exact hz) (.lst upd_same (RepGL.sh ra.reverse) (by simp)) fun b hb => .inl (by rw [eS]; exact hb))
  · exact o.elim
/-! ### x[k] = e -/
def setF (i : Nat) (f k : ED) : SD := fun e => liftF (f e) e fun d => match e[i]? with
  | some (some (.list ds)) => liftF (k e) e fun j => (match j with
    | .int j => (match ixN ds.length j with
      | some j => .nx (e.set i (some (.list (ds.set j d))))
      | none => .bad)
    | _ => .bad)
  | _ => .bad
theorem RepL.set {K : PySem.W.Frag} {F : Hp} : ∀ {vs : List V} {ds : List D} (j : Nat) {v : V} {d : D}, RepL K F vs ds → Rep K F v d → RepL K F (vs.set j v) (ds.set j d)
  | _, _, _, _, _, .nil, _ => by simpa using RepL.nil
  | _, _, 0, _, _, .cons _ t, r => .cons r t
  | _, _, j + 1, _, _, .cons q t, r => .cons q (RepL.set j t r)
theorem sd_setI {P : Post} {x : Str} {p1 p2 : Pos} (i : Nat) (hN : X.N[i]? = some x) (hv : Vis X.env.scope x) (hg : Γ[i]? = some (some (.ow .sh))) (he : PEd X W nn Γ a (.v .sh) fa) (hb : PEd X W nn Γ b r1 fb) (hP : P.nx = Γ) (w : wkB Γ P.ex = true)
    (hd : (x == ("__debug__" : Str)) = false := by decide) (hcd : (x == ("__classdict__" : Str)) = false := by decide)
    (ha : ∀ v, assign (.Subscript (.Name x p1) b p2) X.env v = (do
      let ov ← holding [v] (eval (.Name x p1) X.env)
      let iv ← holding [v, ov] (eval b X.env)
      standAt p2
      holding [v, ov, iv] (setItem ov iv v)
      release [v, ov, iv] []) := by intro _; rfl) (hs : swapsWithSole [.Subscript (.Name x p1) b p2] a pos.line X.env = pure false := by rfl) (hw : swappedStores [.Subscript (.Name x p1) b p2] a X.env = pure none := by rfl)
    (h1 : (assignEach [.Subscript (.Name x p1) b p2] X.env).map (·.2) = [assign (.Subscript (.Name x p1) b p2) X.env] := by rfl) : PSd X W nn Γ P (.Assign [.Subscript (.Name x p1) b p2] a pos) (setF i fa fb) := by
  refine PS.imp (ps_asg he (pg_sub (pe_var hN hv hd hcd) hb set_list ha) hs hw h1) fun D σ H q => ?_
  obtain ⟨B, F, env, S, rel, o⟩ := q
  refine ⟨B, F, env, S, rel, OutS.lift rel w o fun d y H1 F1 e p1 g1 o1 => ?_⟩
  split at o1
  · rename_i ds hds
    have rel1 := rel.pg p1
    obtain ⟨v, e1, q1⟩ := rel1.slot i _ _ hg hds
    obtain ⟨p, xs, S0, rfl, eS, e2, q2, nS⟩ := q1.lst_inv
    obtain ⟨e0, ra⟩ := q2.sh_nil
    subst e0
    refine ⟨.ref p, e1, ?_⟩
    refine ⟨B, F1, env, S, rel1, OutS.lift rel1 w o1 fun j yj H2 F2 ej p2 g2 o2 => ?_⟩
    split at o2
    · rename_i j
      split at o2
      · rename_i j' hj
        have rel2 := rel1.pg p2
        have e22 := p2.ext _ _ e2
        have hz := rel2.top.lenL e22
        have rd := (RepG.sh_nil (Res.pg p2 g1).choose_spec.1).2
        refine ⟨p, xs, j, j', rfl, (g2.now p2.top).int_inv, e22, by rw [ra.length]; exact hj, ?_⟩
        refine o2 σ _ F2 _ .refl (hP ▸ rel2.write (o := .lst (xs.set j' y)) (T := [p]) hg e1 (by rw [eS]; simp) (by show (xs.set j' y).length ≤ sizeLine; rw [List.length_set]; exact hz) (.lst upd_same (RepGL.sh ((RepL.le p2.le _ _ ra).set j' rd)) (by simp)) fun b hb => .inl (by rw [eS]; exact hb))
      · exact o2.elim
    · exact o2.elim
  · exact o1.elim
/-! ### x op= e -/
def augF (i : Nat) (g : D → D → Option D) (f : ED) : SD := fun e => match e[i]? with
  | some (some x) => liftF (f e) e fun y => (match g x y with
    | some z => .nx (e.set i (some z))
    | none => .bad)
  | _ => .bad
theorem sd_aug {P : Post} {x : Str} {p1 : Pos} {op : Operator} {r : R2} {g : D → D → Option D} {g0 g1 : G} (i : Nat) (hN : X.N.Nodup) (hi : X.N[i]? = some x) (hx : Loc X.env.scope x) (hl : i < nn) (hg : Γ[i]? = some (some g0)) (he : PEd X W nn Γ a r2 fa) (ho : OpR X (inplaceOp op) r) (hr : BinR X r g (.b g0) r2 (.v g1)) (hP : P.nx = Γ.set i (some g1)) (w : wkB Γ P.ex = true)
    (hf : X.fn x = true ∨ X.env.scope.names.lookup x = some .local := by first | exact .inl rfl | exact .inr rfl | assumption) : PSd X W nn Γ P (.AugAssign (.Name x p1) op a pos) (augF i g fa) := by
  refine PS.imp (ps_aug hN hi hx he ho hf) fun D σ H q => ?_
  obtain ⟨B, F, env, S, rel, o⟩ := q
  unfold augF at o
  split at o
  · rename_i x hx
    obtain ⟨v, e1, q1⟩ := rel.slot i _ _ hg hx
    refine ⟨v, e1, B, F, env, S, rel, OutS.lift rel w o fun d y H1 F1 e p1 gy o1 => ?_⟩
    split at o1
    · rename_i z hz
      refine hr H F1 H1 v x y d z _ p1.top ⟨_, q1.mv p1.le fun a _ o h => p1.ext a o h⟩ gy hz fun zv F2 H2 p2 g2 => ?_
      obtain ⟨T, q, n⟩ := g2
      have rw1 := rel.set (i := i) (p1.trans p2) hl q fun a ha => ⟨p1.ext.none (n a ha).1, (n a ha).2⟩
      rw [← hP] at rw1
      exact o1 _ H2 F2 _ (p2.sg (rel.pg p1).base) rw1
    · exact o1.elim
  · exact o.elim
/-! ### a, b = x, y; a, b, c = x, y, z -/
def parF (is : List Nat) (fs : AD) : SD := fun e => liftF (fs e) e fun ds => .nx ((is.zip ds).foldl (fun e p => e.set p.1 (some p.2)) e)
theorem sd_par2 {P : Post} {x y : Str} {px py pt : Pos} {kt k2 pt2} {fs : AD} (i j : Nat) (hc : X.calm = true) (hN : X.N.Nodup) (hi : X.N[i]? = some x) (hj : X.N[j]? = some y) (hij : i ≠ j) (hil : i < nn) (hjl : j < nn)
    (hx : X.env.scope.names.lookup x = some .local) (hy : X.env.scope.names.lookup y = some .local) (ha : PAd X W nn Γ [a, b] .sh 2 fs) (hP : P.nx = (Γ.set i (some .sh)).set j (some .sh)) (w : wkB Γ P.ex = true)
    (hw : swappedStores [.Tuple [.Name x px, .Name y py] kt pt] (.Tuple [a, b] k2 pt2) X.env = pure (some [x, y]))
    (hs : swapsWithSole [.Tuple [.Name x px, .Name y py] kt pt] (.Tuple [a, b] k2 pt2) pos.line X.env = pure false := by rfl) :
    PSd X W nn Γ P (.Assign [.Tuple [.Name x px, .Name y py] kt pt] (.Tuple [a, b] k2 pt2) pos) (parF [i, j] fs) := by
  refine PS.imp (ps_par hc hN hi hj hij hx hy ha.pa hw hs) fun D σ H q => ?_
  obtain ⟨B, F, env, S, rel, o⟩ := q
  refine ⟨B, F, env, S, rel, OutS.lift rel w o fun ds xs H1 F1 e p1 g1 o1 => ?_⟩
  obtain ⟨T, q, n⟩ := g1
  obtain ⟨_, q⟩ := q.sh_nil
  have hl := ha.len env ds e
  match ds, hl, q with
  | [d1, d2], _, .cons q1 (.cons q2 .nil) =>
    refine ⟨_, _, rfl, ?_⟩
    have r1 := rel.set (i := i) p1 hil (.sh q1) (fun _ z => by simp at z)
    have r2 := r1.set (i := j) (.refl p1.top) hjl (.sh q2) (fun _ z => by simp at z)
    exact o1 _ H1 F1 _ .refl (hP ▸ r2)
theorem sd_par3 {P : Post} {x y z : Str} {px py pz pt : Pos} {kt k2 pt2} {fs : AD} (i j l : Nat) (hc : X.calm = true) (hN : X.N.Nodup) (hi : X.N[i]? = some x) (hj : X.N[j]? = some y) (hl : X.N[l]? = some z) (hij : i ≠ j) (hil : i ≠ l) (hjl : j ≠ l) (hin : i < nn) (hjn : j < nn) (hln : l < nn)
    (hx : X.env.scope.names.lookup x = some .local) (hy : X.env.scope.names.lookup y = some .local) (hz : X.env.scope.names.lookup z = some .local) (ha : PAd X W nn Γ [a, b, c] .sh 3 fs) (hP : P.nx = ((Γ.set i (some .sh)).set j (some .sh)).set l (some .sh)) (w : wkB Γ P.ex = true)
    (hw : swappedStores [.Tuple [.Name x px, .Name y py, .Name z pz] kt pt] (.Tuple [a, b, c] k2 pt2) X.env = pure (some [x, y, z]))
    (hs : swapsWithSole [.Tuple [.Name x px, .Name y py, .Name z pz] kt pt] (.Tuple [a, b, c] k2 pt2) pos.line X.env = pure false := by rfl) :
    PSd X W nn Γ P (.Assign [.Tuple [.Name x px, .Name y py, .Name z pz] kt pt] (.Tuple [a, b, c] k2 pt2) pos) (parF [i, j, l] fs) := by
  refine PS.imp (ps_par3 hc hN hi hj hl hij hil hjl hx hy hz ha.pa hw hs) fun D σ H q => ?_
  obtain ⟨B, F, env, S, rel, o⟩ := q
  refine ⟨B, F, env, S, rel, OutS.lift rel w o fun ds xs H1 F1 e p1 g1 o1 => ?_⟩
  obtain ⟨T, q, n⟩ := g1
  obtain ⟨_, q⟩ := q.sh_nil
  have hl := ha.len env ds e
  match ds, hl, q with
  | [d1, d2, d3], _, .cons q1 (.cons q2 (.cons q3 .nil)) =>
    refine ⟨_, _, _, rfl, ?_⟩
    have r1 := rel.set (i := i) p1 hin (.sh q1) (fun _ z => by simp at z)
    have r2 := r1.set (i := j) (.refl p1.top) hjn (.sh q2) (fun _ z => by simp at z)
    have r3 := r2.set (i := l) (.refl p1.top) hln (.sh q3) (fun _ z => by simp at z)
    exact o1 _ H1 F1 _ .refl (hP ▸ r3)
end DL

/-! DL12: a def from its body -/
namespace DL
open PySem PySem.Spec L2
open PyProof.Rows
variable {X : Cx} {W : WX} {nn : Nat} {Γ Γ0 Γ1 Γ2 : Gs} {a b c : Expr} {pos : Pos} {fa fb fc : ED} {ga gb gc : TD} {r1 r2 r3 rf : Rf}

/-- the next statement, then slots frozen or forgotten -/
theorem sd_consw {P : Post} {st : Stmt} {sts : List Stmt} {f g : SD} (h1 : PSd X W nn Γ { P with nx := Γ1 } st f) (h2 : PSsd X W nn Γ2 P sts g) (w : wkB Γ1 Γ2 = true) : PSsd X W nn Γ P (st :: sts) (seqF f g) := sd_cons h1 (sd_wk h2 w)
/-- the function of a def -/
def fnD (nn : Nat) (body : SD) : List D → R D := fun ds => match body (ds.map some ++ List.replicate (nn - ds.length) none) with
  | .nx _ => .ok .none
  | .rt d => .ok d
  | .ex c fs _ => .exc c fs
  | _ => .bad
def Γ₀ (nn n : Nat) : Gs := List.replicate n (some .sh) ++ List.replicate (nn - n) none
theorem Γ₀_at {nn n i : Nat} {g : G} (h : (Γ₀ nn n)[i]? = some (some g)) : i < n ∧ g = .sh := by
  unfold Γ₀ at h
  by_cases hi : i < n
  · rw [List.getElem?_append_left (by simpa using hi), List.getElem?_replicate, if_pos hi] at h
    cases h
    exact ⟨hi, rfl⟩
  · rw [List.getElem?_append_right (by simpa using hi), List.getElem?_replicate] at h
    split at h <;> cases h
theorem Rel.start {K : PySem.W.Frag} {F H : Hp} {N : List Str} {vs : List V} {ds : List D} {n : Nat} (t : Tp F H) (r : RepL K F vs ds) (hn : ds.length = n) (hN : n ≤ N.length) :
    Rel K N.length H F H (Γ₀ N.length n) (start N vs) (ds.map some ++ List.replicate (N.length - ds.length) none) (fun _ => []) := by
  have hl := r.length
  refine ⟨t, .refl, fun i g d h1 h2 => ?_, fun i a h => by simp at h, fun i j a _ h => by simp at h, ?_, ?_⟩
  · obtain ⟨hi, rfl⟩ := Γ₀_at h1
    rw [List.getElem?_append_left (by simp; omega), List.getElem?_map] at h2
    cases e : ds[i]? with
    | none => rw [e] at h2; cases h2
    | some d' =>
      rw [e] at h2
      cases h2
      obtain ⟨v, e2, q⟩ := r.get e
      refine ⟨v, ?_, .sh q⟩
      unfold L2.start
      rw [List.getElem?_append_left (by simp; omega), List.getElem?_map, e2] <;> rfl
  · unfold L2.start
    rw [List.length_append, List.length_map, List.length_replicate]
    omega
  · rw [List.length_append, List.length_map, List.length_replicate]
    omega
/-- a body's end is the def's -/
theorem Out.of_body {K : PySem.W.Frag} {F H : Hp} {fl : Flow} {g : G} {W : WX} {nn : Nat} {E : XK} {Q : VK} (t : Tp F H) (hW : ∀ c d σ H, E c d H → W c d σ H)
    (h : Out K (fun c d H' => E c d H') F H (match fl with | .nx _ => .ok .none | .rt d => .ok d | .ex c fs _ => .exc c fs | _ => .bad) (gV K (.v g) H) Q) :
    OutS K W nn { nx := [], rt := g } H F fl { nx := fun _ H' => Q .non H', rt := Q } := by
  have pg : ∀ {H' F' : Hp}, Sg H F F' → Ext H H' → Tp F' H' → Pg F H F' H' := fun s e tp => ⟨e, s.1, tp, s.2⟩
  cases fl with
  | nx e =>
    intro σ H' F' S s r
    refine h .non H' F' (pg s r.base r.top) ⟨[], ?_, fun _ z => by simp at z⟩
    cases g with
    | sh => exact .sh .non
    | ow g => exact .at_ .non
  | rt d => exact fun v H' F' s e tp r => h v H' F' (pg s e tp) r
  | bk e => exact h.elim
  | ct e => exact h.elim
  | ex c fs e => exact fun dd σ H' F' S s r x => hW _ _ _ _ (h dd H' F' (pg s r.base r.top) x)
  | bad => exact h.elim
abbrev WF (E : XK) : WX := fun c d _ H => E c d H
theorem def_ok {P : Program} {w : World} {K : PySem.W.Frag} {mg : Str → Option Value} {base : Heap} {x qual : Str} {params : Arguments} {body : List Stmt} {scope : Scope} {kws : List (Str × V)} {f : Addr} {fd : FuncData} {N ps : List Str} {k n : Nat} {rg : G} {bf : SD}
    (F : FunD K x qual params body scope [] kws f fd) (S : FnScope N ps scope) (hn : ps.length = n) (hN : n ≤ N.length)
    (hb : ∀ (cdv : Value) (A : Around) (outer : List Env) (s : Shared) (H : Hp) (E : XK), Room k (A.deeper (envOfC qual scope s.heap.objs.size f cdv)) →
      PSsd (cxOf (L2.CX P w) P w K mg base N qual scope f cdv A outer s H E) (WF E) N.length (Γ₀ N.length n) { nx := [], rt := rg } body bf) :
    FnOk P w K mg base (L2.CX P w) (k + 1) f fd ps (spD K n rg (fnD N.length bf)) := by
  refine F.ok S (fun vs H Q E h => ?_) (fun cdv A outer s H vs Q E hr h => ⟨_, hb cdv A outer s H E hr, ?_⟩)
  · obtain ⟨F, ds, t, r, e, o⟩ := h
    rw [r.length, e, hn]
  · obtain ⟨F, ds, t, r, e, o⟩ := h
    refine ⟨H, F, _, _, Rel.start t r e hN, ?_⟩
    exact Out.of_body t (fun _ _ _ _ z => z) o
/-- a def of the module -/
theorem Def1.mk_ {P : Program} {w : World} {K : PySem.W.Frag} {mg : Str → Option Value} {base : Heap} {x qual : Str} {params : Arguments} {body : List Stmt} {scope : Scope} {kws : List (Str × V)} {f : Addr} {fd : FuncData} {N ps : List Str} {k n : Nat} {rg : G} {bf : SD}
    (F : FunD K x qual params body scope [] kws f fd) (hm : mg x = some (.ref f)) (S : FnScope N ps scope) (hn : ps.length = n) (hN : n ≤ N.length)
    (hbi : ∀ (kV doc pm : Value) (an : Option Addr) (cdv ct : Value) (us : List Value), us.length = ps.length → bindArgs (PySem.W.fnOf x qual params body scope .none kV doc pm an cdv ct) ⟨us, []⟩ = pure (ps.zip us))
    (hb : ∀ (cdv : Value) (A : Around) (outer : List Env) (s : Shared) (H : Hp) (E : XK), Room k (A.deeper (envOfC qual scope s.heap.objs.size f cdv)) →
      PSsd (cxOf (L2.CX P w) P w K mg base N qual scope f cdv A outer s H E) (WF E) N.length (Γ₀ N.length n) { nx := [], rt := rg } body bf) :
    Def1 P w K mg base (k + 1) x n rg (fnD N.length bf) := ⟨⟨f, fd, ps, hm, F.kp, F.bindsN hbi, def_ok F S hn hN hb⟩⟩
theorem Def1.mono {P : Program} {w : World} {K : PySem.W.Frag} {mg : Str → Option Value} {base : Heap} {j k n : Nat} {x : Str} {rg : G} {f : List D → R D} (h : Def1 P w K mg base j x n rg f) (l : j ≤ k) : Def1 P w K mg base k x n rg f := by
  obtain ⟨a, fd, ps, h1, h2, h3, h4⟩ := h.ex
  exact ⟨⟨a, fd, ps, h1, h2, h3, h4.mono l⟩⟩
end DL

/-! DL13: match -/
namespace DL
open PySem PySem.Spec L2
open PyProof.Rows (matchSeq_tuple_hit matchSeq_tuple_miss unpackItems_tuple)
variable {X : Cx} {W : WX} {nn : Nat} {Γ Γ0 Γ1 Γ2 : Gs} {a b c : Expr} {pos : Pos} {fa fb fc : ED} {ga gb gc : TD} {r1 r2 r3 rf : Rf}

/-! ### patterns: none: bad; some none: no match; some (some ds): what is bound -/
abbrev MD := D → Option (Option (List D))
abbrev MsD := List D → Option (Option (List D))
def endM (Q : Option (List V) → Prop) (F : Hp) (K : PySem.W.Frag) : Option (List D) → Prop
  | none => Q none
  | some ds => ∀ xs, RepL K F xs ds → Q (some xs)
def PMd (X : Cx) (p : Pattern) (ns : List Str) (m : MD) : Prop := ∀ (pins : List (Addr × Obj)) (s : Shared) (σ : St) (H F : Hp) (v : V) (u : Value) (d : D) (r : Option (List D)) (Q : Option (List V) → Prop), Inv X pins σ H s → RelV v u → Tp F H → Rep X.K F v d → m d = some r → endM Q F X.K r →
  wpAny (model X.prog X.w) X.A (matchPattern p X.env u) (fun o s' => Inv X pins σ H s' ∧ match o with
    | none => Q none
    | some bs => ∃ xs, bs.map (·.1) = ns ∧ Vals xs (bs.map (·.2)) ∧ Q (some xs)) X.xe s
def PMsd (X : Cx) (ps : List Pattern) (ns : List Str) (m : MsD) : Prop := ∀ (pins : List (Addr × Obj)) (s : Shared) (σ : St) (H F : Hp) (v : List V) (u : List Value) (d : List D) (r : Option (List D)) (Q : Option (List V) → Prop), Inv X pins σ H s → Vals v u → Tp F H → RepL X.K F v d → m d = some r → endM Q F X.K r →
  wpAny (model X.prog X.w) X.A (matchEach ps X.env u) (fun o s' => Inv X pins σ H s' ∧ match o with
    | none => Q none
    | some bs => ∃ xs, bs.map (·.1) = ns ∧ Vals xs (bs.map (·.2)) ∧ Q (some xs)) X.xe s
def mVal (c : D) : MD := fun d => match eqG d c with
  | some (.bool true) => some (some [])
  | some (.bool false) => some none
  | _ => none
def mCap : MD := fun d => some (some [d])
def mWild : MD := fun _ => some (some [])
def msNil : MsD := fun ds => match ds with
  | [] => some (some [])
  | _ => none
def msCons (m : MD) (ms : MsD) : MsD := fun ds => match ds with
  | d :: ds => (match m d with
    | some none => some none
    | some (some as) => (match ms ds with
      | some none => some none
      | some (some bs) => some (some (as ++ bs))
      | none => none)
    | none => none)
  | [] => none
def mSeq (n : Nat) (ms : MsD) : MD := fun d => match d with
  | .tuple ds => if ds.length = n then ms ds else some none
  | _ => none
def mOr (m m' : MD) : MD := fun d => match m d with
  | some none => m' d
  | x => x
theorem m_val {x : Str} {j : Nat} {p1 p2 : Pos} (hu : X.A.units + 64 < cLine) : PMd X (.MatchValue (.Constant (.str x) j p1) p2) [] (mVal (.str x)) := by
  intro pins s σ H F v u d r Q I ru t rv e q
  refine wpAny_matchPattern_Value (thn ((pe_str (X := X) (x := x)).run pins s σ H (fun y H1 => y = .str x ∧ H1 = H) I ⟨rfl, rfl⟩) fun w s1 ⟨y, H1, I1, rw1, e1, e2⟩ => ?_)
  subst e1 e2
  unfold mVal at e
  have key : ∀ k : Bool, eqG d (.str x) = some (.bool k) → (k = true → r = some []) → (k = false → r = none) → wpAny (model X.prog X.w) X.A (compareOp .Eq u w) (fun c s₂ => wpAny (model X.prog X.w) X.A (truthy c) (fun b s₃ => if b = true then Inv X pins σ H1 s₃ ∧ (match (some [] : Option (List (Str × Value))) with | none => Q none | some bs => ∃ xs, bs.map (·.1) = ([] : List Str) ∧ Vals xs (bs.map (·.2)) ∧ Q (some xs)) else Inv X pins σ H1 s₃ ∧ (match (none : Option (List (Str × Value))) with | none => Q none | some bs => ∃ xs, bs.map (·.1) = ([] : List Str) ∧ Vals xs (bs.map (·.2)) ∧ Q (some xs))) X.xe s₂) X.xe s1 := by
    intro k ek h1 h2
    unfold eqG at ek
    split at ek
    · rename_i ho
      obtain ⟨o1, o2⟩ := Bool.and_eq_true_iff.mp ho
      cases ek
      refine thn (op_eqP hu pins s1 σ H1 v (.str x) u w (fun z H2 => z = .bl (PyData.eqv d (.str x)) ∧ H2 = H1) I1 ru rw1 ⟨d, .str x, Rep.dp _ _ (Rep.le t.toLe _ _ rv) (okD_iff.mp o1).1, Rep.dp _ _ (.str x) (okD_iff.mp o2).1, o1, o2, rfl, rfl⟩) fun z s2 ⟨y, H2, I2, rz, e1, e2⟩ => ?_
      subst e1 e2
      have ez : z = .bool (PyData.eqv d (.str x)) := rz
      subst ez
      refine wpAny_truthy_bool ?_
      cases hk : PyData.eqv d (.str x) with
      | true =>
        rw [if_pos rfl]
        have := h1 hk
        subst this
        exact ⟨I2, [], rfl, .nil, q [] .nil⟩
      | false =>
        rw [if_neg (by decide)]
        have := h2 hk
        subst this
        exact ⟨I2, q⟩
    · cases ek
  split at e
  · rename_i h; cases e; exact key true h (fun _ => rfl) (fun z => by cases z)
  · rename_i h; cases e; exact key false h (fun z => by cases z) (fun _ => rfl)
  · cases e
theorem m_cap {x : Str} {p1 : Pos} : PMd X (.MatchAs none (some x) p1) [x] mCap := by
  intro pins s σ H F v u d r Q I ru t rv e q
  cases e
  exact wpAny_matchPattern_Capture ⟨I, [v], rfl, .cons ru .nil, q [v] (.cons rv .nil)⟩
theorem m_wild {p1 : Pos} : PMd X (.MatchAs none none p1) [] mWild := by
  intro pins s σ H F v u d r Q I ru t rv e q
  cases e
  exact wpAny_matchPattern_Capture ⟨I, [], rfl, .nil, q [] .nil⟩
theorem ms_nil : PMsd X [] [] msNil := by
  intro pins s σ H F v u d r Q I ru t rv e q
  cases rv with
  | nil =>
    cases e
    exact wpAny_matchEach_nil ⟨I, [], rfl, .nil, q [] .nil⟩
  | cons _ _ => cases e
theorem ms_cons {p : Pattern} {ps : List Pattern} {ns ms : List Str} {m : MD} {mm : MsD} (h1 : PMd X p ns m) (h2 : PMsd X ps ms mm) (hp : p.isStar = false := by rfl) : PMsd X (p :: ps) (ns ++ ms) (msCons m mm) := by
  intro pins s σ H F v u d r Q I ru t rv e q
  cases rv with
  | nil => cases e
  | cons ra rb =>
    cases ru with
    | cons ua ub =>
      rename_i d ds _ _
      unfold msCons at e
      dsimp only at e
      cases em : m d with
      | none => rw [em] at e; cases e
      | some r1 =>
        rw [em] at e
        cases r1 with
        | none =>
          cases e
          refine wpAny_matchEach_cons (thn (h1 pins s σ H F _ _ d none (fun o => o = none ∧ Q none) I ua t ra em ⟨rfl, q⟩) fun o s1 ⟨I1, ho⟩ => ?_) hp
          cases o with
          | none => exact ⟨I1, ho.2⟩
          | some bs => obtain ⟨_, _, _, z, _⟩ := ho; cases z
        | some as =>
          dsimp only at e
          refine wpAny_matchEach_cons (thn (h1 pins s σ H F _ _ d (some as) (fun o => ∃ xs, o = some xs ∧ RepL X.K F xs as) I ua t ra em (fun xs hx => ⟨xs, rfl, hx⟩)) fun o s1 ⟨I1, ho⟩ => ?_) hp
          cases o with
          | none => obtain ⟨_, z, _⟩ := ho; cases z
          | some bs =>
            obtain ⟨xs, e1, vx, xs', z, rx⟩ := ho
            cases z
            dsimp only
            cases em2 : mm ds with
            | none => rw [em2] at e; cases e
            | some r2 =>
              rw [em2] at e
              cases r2 with
              | none =>
                cases e
                refine thn (h2 pins s1 σ H F _ _ ds none (fun o => o = none ∧ Q none) I1 ub t rb em2 ⟨rfl, q⟩) fun o s2 ⟨I2, ho⟩ => ?_
                cases o with
                | none => exact ⟨I2, ho.2⟩
                | some bs => obtain ⟨_, _, _, z, _⟩ := ho; cases z
              | some cs =>
                cases e
                refine thn (h2 pins s1 σ H F _ _ ds (some cs) (fun o => ∃ xs, o = some xs ∧ RepL X.K F xs cs) I1 ub t rb em2 (fun xs hx => ⟨xs, rfl, hx⟩)) fun o s2 ⟨I2, ho⟩ => ?_
                cases o with
                | none => obtain ⟨_, z, _⟩ := ho; cases z
                | some bs2 =>
                  obtain ⟨ys, e2, vy, ys', z, ry⟩ := ho
                  cases z
                  refine ⟨I2, xs ++ ys, by rw [List.map_append, e1, e2], by rw [List.map_append]; exact vx.append vy, q _ (rx.append ry)⟩
theorem m_seq {ps : List Pattern} {ns : List Str} {ms : MsD} {p1 : Pos} {n : Nat} (hc : X.calm = true) (h : PMsd X ps ns ms) (hn : ps.length = n) (hstar : ps.findIdx? (·.isStar) = none := by rfl)
    (hwild : (ps.all fun p => p.isWildcard || (p.isStar && p.names.isEmpty)) = false := by rfl) : PMd X (.MatchSequence ps p1) ns (mSeq n ms) := by
  intro pins s σ H F v u d r Q I ru t rv e q
  unfold mSeq at e
  split at e
  · cases rv with
    | tup ra rb =>
      obtain ⟨its, rvl, ht, hz⟩ := I.tuple (SqT.le t.toLe ra)
      cases ru
      have hl := rb.length
      have hl2 : its.length = _ := rvl.length.symm
      have hzz : its.length < 2 ^ 63 := by rw [hl2]; rw [sizeLine_eq] at hz; omega
      split at e
      · rename_i hn2
        have e3 : its.toArray.size = ps.length := by rw [List.size_toArray, hl2, hl, hn2, hn]
        refine matchSeq_tuple_hit ht (by rw [List.size_toArray]; omega) e3 ?_ hstar hwild
        rw [← e3]
        refine unpackItems_tuple (I.ok.hd hc) ht fun h' hx => ?_
        have I1 := I.kept (h' := h') (t' := s.toks + 1 + 1) fun b o e => hx b o (Nat.ne_of_lt (Heap.lt_size e)) e
        exact h pins _ σ H F _ _ _ r Q I1 (by simpa using rvl) t rb e q
      · rename_i hn2
        cases e
        refine matchSeq_tuple_miss ht (by rw [List.size_toArray]; omega) (by rw [List.size_toArray, hl2, hl, hn]; exact hn2) ⟨I.tok _, q⟩ hstar hwild
  · cases e
/-- p | p' | .. (nothing bound) -/
theorem m_or2 {p p' : Pattern} {m m' : MD} {p1 : Pos} (h : PMd X p [] m) (h' : PMd X p' [] m') (hn : namesOfAll [p] = [] := by rfl) : PMd X (.MatchOr [p, p'] p1) [] (mOr m m') := by
  intro pins s σ H F v u d r Q I ru t rv e q
  have fin : ∀ {bs : List (Str × Value)} {s' : Shared} {xs : List V}, Inv X pins σ H s' → Q (some []) → (Inv X pins σ H s' ∧ match (some (((namesOfAll (([p, p'] : List Pattern).take 1)).filterMap fun n => (bs.lookup n).map (n, ·))) : Option (List (Str × Value))) with
    | none => Q none
    | some bs => ∃ xs, bs.map (·.1) = ([] : List Str) ∧ Vals xs (bs.map (·.2)) ∧ Q (some xs)) := fun {bs s' xs} I q => by
    have e : namesOfAll (([p, p'] : List Pattern).take 1) = [] := hn
    rw [e]
    exact ⟨I, [], rfl, .nil, q⟩
  have nil_ : ∀ {bs : List (Str × Value)} {xs : List V}, bs.map (·.1) = ([] : List Str) → Vals xs (bs.map (·.2)) → xs = [] := fun {bs xs} e r => by
    cases bs with
    | nil => cases r; rfl
    | cons _ _ => cases e
  unfold mOr at e
  cases em : m d with
  | none => rw [em] at e; cases e
  | some r1 =>
    rw [em] at e
    cases r1 with
    | some as =>
      cases e
      refine wpAny_matchPattern_Or (wpAny_matchFirst_cons (thn (h pins s σ H F v u d (some as) (fun o => ∃ xs, o = some xs ∧ RepL X.K F xs as) I ru t rv em (fun xs hx => ⟨xs, rfl, hx⟩)) fun o s1 ⟨I1, ho⟩ => ?_))
      cases o with
      | none => obtain ⟨_, z, _⟩ := ho; cases z
      | some bs =>
        obtain ⟨xs, e1, vx, xs', z, rx⟩ := ho
        cases z
        have ex := nil_ e1 vx
        subst ex
        exact fin (xs := []) I1 (q [] rx)
    | none =>
      dsimp only at e
      refine wpAny_matchPattern_Or (wpAny_matchFirst_cons (thn (h pins s σ H F v u d none (fun o => o = none) I ru t rv em rfl) fun o s1 ⟨I1, ho⟩ => ?_))
      cases o with
      | some bs => obtain ⟨xs, _, _, z⟩ := ho; cases z
      | none =>
        refine wpAny_matchFirst_cons (thn (h' pins s1 σ H F v u d r Q I1 ru t rv e q) fun o s2 ⟨I2, ho⟩ => ?_)
        cases o with
        | none => exact wpAny_matchFirst_nil ⟨I2, ho⟩
        | some bs =>
          obtain ⟨xs, e1, vx, z⟩ := ho
          have ex := nil_ e1 vx
          subst ex
          exact fin (xs := []) I2 z
/-! ### cases -/
def setAll : List Nat → List D → DEnv → DEnv
  | i :: is, d :: ds, e => setAll is ds (e.set i (some d))
  | _, _, e => e
abbrev CsD := List (MD × List Nat × SD)
def casesF : CsD → D → SD
  | [], _, e => .nx e
  | (m, is, f) :: cs, d, e => match m d with
    | none => .bad
    | some none => casesF cs d e
    | some (some ds) => if ds.length = is.length then f (setAll is ds e) else .bad
def matchF (f : ED) (cs : CsD) : SD := fun e => liftF (f e) e fun d => casesF cs d e
def PCsd (X : Cx) (W : WX) (nn : Nat) (Γ : Gs) (P : Post) (cases_ : List MatchCase) (cs : CsD) : Prop := ∀ (pins : List (Addr × Obj)) (s : Shared) (σ : L2.St) (H : Hp) (En : Ends) (v : V) (u : Value) (first : Bool) (B F : Hp) (env : DEnv) (S : Nat → List Addr) (d : D), Inv X pins σ H s → RelV v u →
  Rel X.K nn B F H Γ σ env S → Rep X.K F v d → OutS X.K W nn P B F (casesF cs d env) En → wpAny (model X.prog X.w) X.A (matchCases cases_ X.env u first) (SP X pins En) X.xe s
theorem cs_nil {P : Post} (w : wkB Γ P.nx = true) : PCsd X W nn Γ P [] [] := by
  intro pins s σ H En v u first B F env S d I ru r rd o
  obtain ⟨F', S', sg, r'⟩ := r.wk w
  exact wpAny_matchCases_nil ⟨σ, H, I, o σ H F' S' sg r'⟩
def setG : List Nat → Gs → Gs
  | [], Γ => Γ
  | i :: is, Γ => setG is (Γ.set i (some .sh))
def StOk (X : Cx) (nn : Nat) : List Nat → List Str → Prop
  | [], [] => True
  | i :: is, x :: xs => i < nn ∧ X.N[i]? = some x ∧ Loc X.env.scope x ∧ (X.fn x = true ∨ X.env.scope.names.lookup x = some .local) ∧ StOk X nn is xs
  | _, _ => False
/-- the captured names are stored -/
theorem store_all {B F : Hp} {pins : List (Addr × Obj)} (hN : X.N.Nodup) {E : Value → Shared → Prop} {Q : Unit → Shared → Prop} : ∀ {is : List Nat} {nm : List Str} {bs : List (Str × Value)} {xs : List V} {ds : List D} {Γ : Gs} {σ : L2.St} {H : Hp} {env : DEnv} {S : Nat → List Addr} {s : Shared}, StOk X nn is nm → bs.map (·.1) = nm → Vals xs (bs.map (·.2)) → RepL X.K F xs ds →
    Inv X pins σ H s → Rel X.K nn B F H Γ σ env S → (∀ s' σ' S', Inv X pins σ' H s' → Rel X.K nn B F H (setG is Γ) σ' (setAll is ds env) S' → Q () s') →
    wpAny (model X.prog X.w) X.A (assignInOrder (bs.map fun (n, _) => bindName X.env n) (bs.map (·.2))) Q E s
  | [], [], [], xs, ds, Γ, σ, H, env, S, s, _, _, hv, hr, I, r, k => by
    cases hv
    cases hr
    exact wpAny_assignInOrder_none (k s σ S I r)
  | [], [], _ :: _, _, _, _, _, _, _, _, _, _, e, _, _, _, _, _ => by cases e
  | [], _ :: _, _, _, _, _, _, _, _, _, _, h, _, _, _, _, _, _ => h.elim
  | _ :: _, [], _, _, _, _, _, _, _, _, _, h, _, _, _, _, _, _ => h.elim
  | _ :: _, _ :: _, [], _, _, _, _, _, _, _, _, _, e, _, _, _, _, _ => by cases e
  | i :: is, x :: nm, (y, u) :: bs, xs, ds, Γ, σ, H, env, S, s, h, e, hv, hr, I, r, k => by
    obtain ⟨h1, h2, h3, h4, h5⟩ := h
    obtain ⟨rfl, e2⟩ : y = x ∧ bs.map (·.1) = nm := by simpa using e
    cases hv with
    | cons va vb =>
      cases hr with
      | cons ra rb =>
        refine wpAny_assignInOrder_more (wpAny_bindName (store_ok I hN h2 h3 va (fun s1 I1 => ?_) h4))
        exact store_all hN h5 e2 vb rb I1 (r.set (i := i) (.refl r.top) h1 (.sh ra) (fun _ z => by simp at z)) k
theorem cs_cons {P : Post} {p : Pattern} {body : List Stmt} {rest : List MatchCase} {nm : List Str} {m : MD} {f : SD} {cs : CsD} (is : List Nat) (hN : X.N.Nodup) (h : PMd X p nm m) (hs : StOk X nn is nm) (hb : PSsd X W nn (setG is Γ) P body f) (hr : PCsd X W nn Γ P rest cs) : PCsd X W nn Γ P (⟨p, none, body⟩ :: rest) ((m, is, f) :: cs) := by
  intro pins s σ H En v u first B F env S d I ru r rd o
  unfold casesF at o
  cases em : m d with
  | none => rw [em] at o; exact o.elim
  | some r1 =>
    rw [em] at o
    cases r1 with
    | none =>
      refine wpAny_matchCases_cons (thn (h pins s σ H F v u d none (fun o => o = none) I ru r.top rd em rfl) fun b s1 ⟨I1, hb⟩ => ?_)
      cases b with
      | some bs => obtain ⟨_, _, _, z⟩ := hb; cases z
      | none => exact hr pins s1 σ H En v u false B F env S d I1 ru r rd o
    | some ds =>
      dsimp only at o
      split at o
      · rename_i hl
        refine wpAny_matchCases_cons (thn (h pins s σ H F v u d (some ds) (fun o => ∃ xs, o = some xs ∧ RepL X.K F xs ds) I ru r.top rd em (fun xs hx => ⟨xs, rfl, hx⟩)) fun b s1 ⟨I1, hb1⟩ => ?_)
        cases b with
        | none => obtain ⟨_, z, _⟩ := hb1; cases z
        | some bs =>
          obtain ⟨xs, e1, vx, xs', z, rx⟩ := hb1
          cases z
          refine store_all (B := B) (F := F) hN hs e1 vx rx I1 r fun s2 σ2 S2 I2 r2 => ?_
          exact hb.run pins s2 σ2 H En I2 ⟨B, F, _, S2, r2, o⟩
      · exact o.elim
theorem sd_match {P : Post} {cs : List MatchCase} {cd : CsD} (ha : PEd X W nn Γ a (.v .sh) fa) (hc : PCsd X W nn Γ P cs cd) (w : wkB Γ P.ex = true) : PSd X W nn Γ P (.Match a cs pos) (matchF fa cd) := by
  refine ⟨fun pins s σ H En I q => ?_⟩
  obtain ⟨B, F, env, S, r, o⟩ := q
  refine wpAny_Match (thn (ha.run pins s σ H (fun v H1 => ∃ F1 d, Rel X.K nn B F1 H1 Γ σ env S ∧ Rep X.K F1 v d ∧ OutS X.K W nn P B F1 (casesF cd d env) En) I ⟨B, F, env, S, r, OutS.lift r w o fun d v H1 F1 e1 p1 g1 o1 => ?_⟩) fun u s1 ⟨v, H1, I1, ru, F1, d, r1, rd, o1⟩ => ?_)
  · obtain ⟨T, q, _⟩ := g1
    exact ⟨F1, d, r.pg p1, q.sh_nil.2, o1⟩
  · exact hc pins s1 σ H1 En v u true B F1 env S d I1 ru r1 rd o1
end DL

/-! DL14: + and * of all kinds, str, max, min -/
namespace DL
open PySem PySem.Spec L2
variable {X : Cx} {W : WX} {nn : Nat} {Γ Γ0 Γ1 Γ2 : Gs} {a b c : Expr} {pos : Pos} {fa fb fc : ED} {ga gb gc : TD} {r1 r2 r3 rf : Rf}

def addG : D → D → Option D
  | .int i, .int j => some (.int (i + j))
  | .str i, .str j => if lineB (i.length + j.length) then some (.str (i ++ j)) else none
  | .list i, .list j => if lineB (i.length + j.length) then some (.list (i ++ j)) else none
  | _, _ => none
def rAddG : R2 := fun x y H Q => rI0 (fun i j => .int (i + j)) x y H Q ∨ ((∃ i j, x = .str i ∧ y = .str j ∧ i.length + j.length ≤ sizeLine ∧ Q (.str (i ++ j)) H) ∨ rCat x y H Q)
theorem op_addG : OpR X (binaryOp .Add) rAddG := OpR.or op_add (OpR.or op_add_str op_cat)
theorem iop_addG : OpR X (inplaceOp .Add) (fun x y H Q => rI0 (fun i j => .int (i + j)) x y H Q ∨ (∃ i j, x = .str i ∧ y = .str j ∧ i.length + j.length ≤ sizeLine ∧ Q (.str (i ++ j)) H)) := OpR.or iop_add iop_add_str
theorem addG_cases {x y d : D} (e : addG x y = some d) : addI x y = some d ∨ addS x y = some d ∨ addL x y = some d := by
  unfold addG at e
  split at e
  · exact .inl e
  · exact .inr (.inl e)
  · exact .inr (.inr e)
  · cases e
theorem bin_addG (h1 : ksh r1 = true) (h2 : ksh r2 = true) : BinR X rAddG addG r1 r2 (.v (.ow .sh)) := by
  intro H0 F H x dx y dy d Q t g1 g2 e q
  rcases addG_cases e with e | e | e
  · exact .inl (bin_addI (.ow .sh) H0 F H x dx y dy d Q t g1 g2 e q)
  · exact .inr (.inl (bin_addS (.ow .sh) H0 F H x dx y dy d Q t g1 g2 e q))
  · exact .inr (.inr (bin_addL h1 h2 H0 F H x dx y dy d Q t g1 g2 e q))
/-- number or text -/
def addN : D → D → Option D
  | .int i, .int j => some (.int (i + j))
  | .str i, .str j => if lineB (i.length + j.length) then some (.str (i ++ j)) else none
  | _, _ => none
theorem bin_addN (g : G) : BinR X (fun x y H Q => rI0 (fun i j => .int (i + j)) x y H Q ∨ (∃ i j, x = .str i ∧ y = .str j ∧ i.length + j.length ≤ sizeLine ∧ Q (.str (i ++ j)) H)) addN r1 r2 (.v g) := by
  intro H0 F H x dx y dy d Q t g1 g2 e q
  have z : addI dx dy = some d ∨ addS dx dy = some d := by
    unfold addN at e
    split at e
    · exact .inl e
    · exact .inr e
    · cases e
  rcases z with e | e
  · exact .inl (bin_addI g H0 F H x dx y dy d Q t g1 g2 e q)
  · exact .inr (bin_addS g H0 F H x dx y dy d Q t g1 g2 e q)
def mulOkW (i j : Int) : Bool := mulOk i j || decide (i.natAbs.log2 + j.natAbs.log2 < 1000000)
def mulG : D → D → Option D
  | .int i, .int j => if mulOkW i j then some (.int (i * j)) else none
  | .list xs, .int k => if inB k 9223372036854775807 && lineB (xs.length * k.toNat) then some (.list (List.replicate k.toNat xs).flatten) else none
  | _, _ => none
def rMulG : R2 := fun x y H Q => rI CMul (fun i j => .int (i * j)) x y H Q ∨ (rI CMulW (fun i j => .int (i * j)) x y H Q ∨ rRep x y H Q)
theorem op_mulG : OpR X (binaryOp .Mult) rMulG := OpR.or op_mul (OpR.or op_mulW op_rep)
theorem bin_mulG (h1 : ksh r1 = true) : BinR X rMulG mulG r1 r2 (.v (.ow .sh)) := by
  intro H0 F H x dx y dy d Q t g1 g2 e q
  unfold mulG at e
  split at e
  · split at e
    · rename_i h
      cases e
      rcases Bool.or_eq_true_iff.mp h with h | h
      · have h' := mulOk_iff.mp h
        exact .inl ⟨_, _, (g1.now t).int_inv, (g2.now t).int_inv, h', q _ F H (.refl t) (.at_ (.int _))⟩
      · have h' := of_decide_eq_true h
        exact .inr (.inl ⟨_, _, (g1.now t).int_inv, (g2.now t).int_inv, h', q _ F H (.refl t) (.at_ (.int _))⟩)
    · cases e
  · exact .inr (.inr (bin_repL h1 H0 F H x _ y _ d Q t g1 g2 e q))
  · cases e
def mulIW : D → D → Option D
  | .int i, .int j => if mulOkW i j then some (.int (i * j)) else none
  | _, _ => none
/-- str(n) -/
def strG : D → Option D
  | .int i => if decide (i.natAbs.log2 < 1920) then some (.str (toString i)) else none
  | _ => none
theorem un_str (g : G) : Un1R X (fun xs H Q => ∃ i, xs = [.int i] ∧ i.natAbs.log2 < 1920 ∧ Q (.str (toString i)) H) strG r1 (.v g) := by
  intro H0 F H x dx d Q t g1 e q
  unfold strG at e
  split at e
  · split at e
    · rename_i h
      cases e
      exact ⟨_, by rw [(g1.now t).int_inv], of_decide_eq_true h, q _ F H (.refl t) (.at_ (.str _))⟩
    · cases e
  · cases e
def max2G : D → D → Option D
  | .int i, .int j => some (.int (if j > i then j else i))
  | _, _ => none
def min2G : D → D → Option D
  | .int i, .int j => some (.int (if j < i then j else i))
  | _, _ => none
theorem bin_max2 (g : G) : BinR X (fun x y H Q => ∃ i j, [x, y] = [.int i, .int j] ∧ Q (.int (if j > i then j else i)) H) max2G r1 r2 (.v g) := by
  intro H0 F H x dx y dy d Q t g1 g2 e q
  unfold max2G at e
  split at e
  · cases e
    exact ⟨_, _, by rw [(g1.now t).int_inv, (g2.now t).int_inv], q _ F H (.refl t) (.at_ (.int _))⟩
  · cases e
theorem bin_min2 (g : G) : BinR X (fun x y H Q => ∃ i j, [x, y] = [.int i, .int j] ∧ Q (.int (if j < i then j else i)) H) min2G r1 r2 (.v g) := by
  intro H0 F H x dx y dy d Q t g1 g2 e q
  unfold min2G at e
  split at e
  · cases e
    exact ⟨_, _, by rw [(g1.now t).int_inv, (g2.now t).int_inv], q _ F H (.refl t) (.at_ (.int _))⟩
  · cases e
end DL

/-! DL15: the law's end -/
namespace DL
open PySem PySem.Spec L2
open PyProof.Rows
def scD (ns : List Int) : D := .dict [(.bool true, .list (ns.map .int))]
theorem spD_law {K : PySem.W.Frag} {f : List D → R D} {a : Addr} {ns : List Int} {H : Hp} (h : f [scD ns] = .ok (.bool true)) (hO : Only H) (hS : SqL K H a (ns.map V.int)) : spD K 1 .sh f [.ref a] H (fun v _ => v = .bl true) fun _ _ _ => False := by
  refine ⟨H, [scD ns], ⟨.refl, fun b o e => ?_⟩, .cons (.scr hS) .nil, rfl, ?_⟩
  · rcases hO b with z | ⟨ob, xs, z⟩
    · rw [z] at e; cases e
    · rw [z] at e; cases e; trivial
  · rw [h]
    intro b H' F' p g
    exact (g.now p.top).bl_inv
theorem walk_dl {l : PySem.W.OpenLaw} {n k : Nat} {q : Program} {loose : List Str} {XP : (Str → Option Value) → Heap → Prop} {YP : World → Heap → Prop} {d : DefRec} {x : Str} {f : List D → R D}
    (hn : l.most = some n) (hn2 : n ≤ sizeLine) (hdf : d.params.defaults = []) (hr : Room k callerA) (hf : ∀ ns : List Int, ns.length ≤ n → f [scD ns] = .ok (.bool true))
    (F : ∀ (w : World) (mg : Str → Option Value) (fa : Addr) (h : Heap), YP w h → h.Ns mainGlobals mg → mg d.name = some (.ref fa) →
      ∃ (K : PySem.W.Frag) (fd : FuncData), K.In h ∧ (∀ (s : Shared) (u : Value), BindsTo s fd ⟨[u], []⟩ [(x, u)]) ∧ ∀ base : Heap, K.In base → base.Ns mainGlobals mg → FnOk l.prog w K mg base (L2.CX l.prog w) k fa fd [x] (spD K 1 .sh f)) :
    PySem.W.WalkO q loose XP YP l.row.toRowW d [] (fun f vs => PySem.call f vs) := by
  refine Att.attach_call hn hdf fun w s₀ s₁ mg mb fa o pm cd doc a vs ns G Y ho hd hcd hmg hobj hints hlen hg => ?_
  obtain ⟨K, fd, KX, hb, hF⟩ := F w mg fa _ Y G.T.g hmg
  exact law_call KX G.T.g G.T.b G.T.builtins G.T.nolimit hg hobj hints (Nat.le_trans hlen hn2) hr hF hb (fun H hO hS => spD_law (hf ns hlen) hO hS) fun H e s' c => by
    obtain ⟨_, _, _, _, _, _, _, _, _, _, _, _, z⟩ := c
    exact z
/-- the law's def -/
theorem Def1.law {P : Program} {w : World} {K : PySem.W.Frag} {mg : Str → Option Value} {base : Heap} {k n : Nat} {x : Str} {rg : G} {f : List D → R D} {fa : Addr} {fd : FuncData} {ps : List Str} (h : FnOk P w K mg base (L2.CX P w) k fa fd ps (spD K n rg f)) : True := trivial
end DL

/-! DM1: evaluation of data functions: rewriting rules, numbers, lists of numbers -/
namespace DL
open PySem PySem.Spec L2

/-! ### combinators -/
@[simp] theorem e_vD (i : Nat) (e : DEnv) : vD i e = (match e[i]? with | some (some d) => .ok d | _ => .bad) := rfl
@[simp] theorem e_cD (d : D) (e : DEnv) : cD d e = .ok d := rfl
@[simp] theorem e_binD (g a b) (e : DEnv) : binD g a b e = (a e).bind fun x => (b e).bind fun y => ofO (g x y) := rfl
@[simp] theorem e_unD (g a) (e : DEnv) : unD g a e = (a e).bind fun x => ofO (g x) := rfl
@[simp] theorem e_callD (f fs) (e : DEnv) : callD f fs e = (fs e).bind f := rfl
@[simp] theorem e_consD (f fs) (e : DEnv) : consD f fs e = (f e).bind fun d => (fs e).bind fun ds => .ok (d :: ds) := rfl
@[simp] theorem e_nilD (e : DEnv) : nilD e = .ok [] := rfl
@[simp] theorem e_lstD (f) (e : DEnv) : lstD f e = (f e).bind fun ds => .ok (.list ds) := rfl
@[simp] theorem e_tupD (f) (e : DEnv) : tupD f e = (f e).bind fun ds => .ok (.tuple ds) := rfl
@[simp] theorem e_andD (f g) (e : DEnv) : andD f g e = (f e).bind fun x => (ofO (truD x)).bind fun b => if b = true then g e else .ok x := rfl
@[simp] theorem e_orD (f g) (e : DEnv) : orD f g e = (f e).bind fun x => (ofO (truD x)).bind fun b => if b = true then .ok x else g e := rfl
@[simp] theorem e_notD (f) (e : DEnv) : notD f e = (f e).bind fun x => (ofO (truD x)).bind fun b => .ok (.bool (!b)) := rfl
@[simp] theorem e_andT (f g : TD) (e : DEnv) : andT f g e = (f e).bind fun b => if b = true then g e else .ok false := rfl
@[simp] theorem e_orT (f g : TD) (e : DEnv) : orT f g e = (f e).bind fun b => if b = true then .ok true else g e := rfl
@[simp] theorem e_notT (f : TD) (e : DEnv) : notT f e = (f e).bind fun b => .ok (!b) := rfl
@[simp] theorem e_trD (f) (e : DEnv) : trD f e = (f e).bind fun d => ofO (truD d) := rfl
def isBl : D → R Bool
  | .bool b => .ok b
  | _ => .bad
@[simp] theorem isBl_bool (b : Bool) : isBl (.bool b) = .ok b := rfl
@[simp] theorem e_blD (f) (e : DEnv) : blD f e = (f e).bind isBl := rfl
@[simp] theorem e_chainD (g h a b c) (e : DEnv) : chainD g h a b c e = (a e).bind fun x => (b e).bind fun y => (ofO (g x y)).bind fun k => (isBl k).bind fun k => if k = true then (c e).bind fun z => ofO (h y z) else .ok (.bool false) := by
  unfold chainD
  congr 1; funext x; congr 1; funext y
  cases g x y with
  | none => simp only [ofO_none, R.bind_bad]
  | some k =>
    simp only [ofO_some, R.bind_ok]
    cases k with
    | bool k => cases k <;> rfl
    | _ => rfl
@[simp] theorem e_ifD (t f g) (e : DEnv) : ifD t f g e = (t e).bind fun b => if b = true then f e else g e := rfl
@[simp] theorem e_sliceD (f lo hi) (e : DEnv) : sliceD f lo hi e = (f e).bind fun x => (partD lo e).bind fun l => (partD hi e).bind fun u => ofO (sliceG x l u) := rfl
@[simp] theorem e_sliceLD (f lo hi) (e : DEnv) : sliceLD f lo hi e = (f e).bind fun x => (partD lo e).bind fun l => (partD hi e).bind fun u => ofO (sliceGL x l u) := rfl
@[simp] theorem e_partN (e : DEnv) : partD none e = .ok none := rfl
def isIn : D → R (Option Int)
  | .int i => .ok (some i)
  | _ => .bad
@[simp] theorem isIn_int (i : Int) : isIn (.int i) = .ok (some i) := rfl
@[simp] theorem e_partS (f) (e : DEnv) : partD (some f) e = (f e).bind isIn := rfl
@[simp] theorem e_itL (f) (e : DEnv) : itL f e = (f e).bind fun d => ofO (lsOf d) := rfl
@[simp] theorem e_itT (f) (e : DEnv) : itT f e = (f e).bind fun d => ofO (tuOf d) := rfl
@[simp] theorem e_itZ (f g) (e : DEnv) : itZ f g e = (f e).bind fun d => (g e).bind fun d' => (ofO (lsOf d)).bind fun xs => (ofO (lsOf d')).bind fun ys => .ok (zipL xs ys) := rfl
@[simp] theorem e_itE (f) (e : DEnv) : itE f e = (f e).bind fun d => (ofO (lsOf d)).bind fun ds => .ok (enumL 0 ds) := rfl
def rg1 : D → R (List D)
  | .int j => if rgOk j then .ok (rgList 0 j.toNat) else .bad
  | _ => .bad
@[simp] theorem e_itR1 (f) (e : DEnv) : itR1 f e = (f e).bind rg1 := rfl
def rg2 (d d' : D) : R (List D) := match d, d' with
  | .int i, .int j => if rgOk i && rgOk j then .ok (rgList i (j - i).toNat) else .bad
  | _, _ => .bad
@[simp] theorem e_itR2 (f g) (e : DEnv) : itR2 f g e = (f e).bind fun d => (g e).bind fun d' => rg2 d d' := rfl
@[simp] theorem rg1_int (j : Int) : rg1 (.int j) = if rgOk j then .ok (rgList 0 j.toNat) else .bad := rfl
@[simp] theorem rg2_int (i j : Int) : rg2 (.int i) (.int j) = if rgOk i && rgOk j then .ok (rgList i (j - i).toNat) else .bad := rfl
theorem e_compD (it p t f) (e : DEnv) : compD it p t f e = (it e).bind fun ds => ofO ((compL p t f e ds).map .list) := rfl
@[simp] theorem e_yesT (e : DEnv) : yesT e = .ok true := rfl
@[simp] theorem e_pName (i : Nat) (d : D) (e : DEnv) : pName i d e = some (e.set i (some d)) := rfl
@[simp] theorem e_psNil (e : DEnv) : psNil [] e = some e := rfl
@[simp] theorem e_psCons (p ps d ds) (e : DEnv) : psCons p ps (d :: ds) e = (p d e).bind fun e => ps ds e := rfl
@[simp] theorem e_pTup (n ps ds) (e : DEnv) : pTup n ps (.tuple ds) e = if ds.length = n then ps ds e else none := rfl
@[simp] theorem e_pLst (n ps ds) (e : DEnv) : pLst n ps (.list ds) e = if ds.length = n then ps ds e else none := rfl
theorem e_seqF (f g) (e : DEnv) : seqF f g e = (match f e with | .nx e' => g e' | .rt d => .rt d | .bk e => .bk e | .ct e => .ct e | .ex c fs e => .ex c fs e | .bad => .bad) := rfl
/-- what follows -/
def thenF (x : Flow) (g : SD) : Flow := match x with | .nx e' => g e' | .rt d => .rt d | .bk e => .bk e | .ct e => .ct e | .ex c fs e => .ex c fs e | .bad => .bad
@[simp] theorem e_seq (f g) (e : DEnv) : seqF f g e = thenF (f e) g := rfl
@[simp] theorem thenF_nx (e : DEnv) (g : SD) : thenF (.nx e) g = g e := rfl
@[simp] theorem thenF_rt (d : D) (g : SD) : thenF (.rt d) g = .rt d := rfl
@[simp] theorem thenF_bk (e : DEnv) (g : SD) : thenF (.bk e) g = .bk e := rfl
@[simp] theorem thenF_ct (e : DEnv) (g : SD) : thenF (.ct e) g = .ct e := rfl
@[simp] theorem thenF_ex (c fs) (e : DEnv) (g : SD) : thenF (.ex c fs e) g = .ex c fs e := rfl
@[simp] theorem thenF_bad (g : SD) : thenF .bad g = .bad := rfl
@[simp] theorem e_nxF (e : DEnv) : nxF e = .nx e := rfl
@[simp] theorem e_asgF (i f) (e : DEnv) : asgF i f e = liftF (f e) e fun d => .nx (e.set i (some d)) := rfl
@[simp] theorem e_dropF (f) (e : DEnv) : dropF f e = liftF (f e) e fun _ => .nx e := rfl
@[simp] theorem e_retF (f) (e : DEnv) : retF f e = liftF (f e) e fun d => .rt d := rfl
@[simp] theorem e_retN (e : DEnv) : retN e = .rt .none := rfl
@[simp] theorem e_ifF (t f g) (e : DEnv) : ifF t f g e = liftF (t e) e fun b => if b = true then f e else g e := rfl
@[simp] theorem e_bkF (e : DEnv) : bkF e = .bk e := rfl
@[simp] theorem e_ctF (e : DEnv) : ctF e = .ct e := rfl
def setP (o : Option DEnv) : Flow := match o with
  | some e' => .nx e'
  | none => .bad
@[simp] theorem setP_some (e : DEnv) : setP (some e) = .nx e := rfl
@[simp] theorem e_asgP (p f) (e : DEnv) : asgP p f e = liftF (f e) e fun d => setP (p d e) := rfl
@[simp] theorem e_forF (it p b) (e : DEnv) : forF it p b e = liftF (it e) e fun ds => loopF p b ds e := rfl
@[simp] theorem e_parF (is fs) (e : DEnv) : parF is fs e = liftF (fs e) e fun ds => .nx ((is.zip ds).foldl (fun e p => e.set p.1 (some p.2)) e) := rfl
def setM (e : DEnv) (i : Nat) (o : Option (List D)) : Flow := match o with
  | some y => .nx (e.set i (some (.list y)))
  | none => .bad
@[simp] theorem setM_some (e : DEnv) (i y) : setM e i (some y) = .nx (e.set i (some (.list y))) := rfl
@[simp] theorem e_modF {i f k} {e : DEnv} {ds : List D} (h : e[i]? = some (some (.list ds))) : modF i f k e = liftF (f e) e fun d => setM e i (k ds d) := by unfold modF; rw [h] <;> rfl
@[simp] theorem e_appF {i f} {e : DEnv} {ds : List D} (h : e[i]? = some (some (.list ds))) : appF i f e = liftF (f e) e fun d => setM e i (appG ds d) := e_modF h
def setA (e : DEnv) (i : Nat) (o : Option D) : Flow := match o with
  | some y => .nx (e.set i (some y))
  | none => .bad
@[simp] theorem setA_some (e : DEnv) (i y) : setA e i (some y) = .nx (e.set i (some y)) := rfl
@[simp] theorem e_augF {i g f} {e : DEnv} {x : D} (h : e[i]? = some (some x)) : augF i g f e = liftF (f e) e fun y => setA e i (g x y) := by unfold augF; rw [h] <;> rfl
def setI (e : DEnv) (i : Nat) (ds : List D) (d j : D) : Flow := match j with
  | .int j => (match ixN ds.length j with
    | some j => .nx (e.set i (some (.list (ds.set j d))))
    | none => .bad)
  | _ => .bad
@[simp] theorem e_setF {i f k} {e : DEnv} {ds : List D} (h : e[i]? = some (some (.list ds))) : setF i f k e = liftF (f e) e fun d => liftF (k e) e fun j => setI e i ds d j := by unfold setF; rw [h] <;> rfl
@[simp] theorem e_matchF (f cs) (e : DEnv) : matchF f cs e = liftF (f e) e fun d => casesF cs d e := rfl
def fEnd : Flow → R D
  | .nx _ => .ok .none
  | .rt d => .ok d
  | .ex c fs _ => .exc c fs
  | _ => .bad
@[simp] theorem fEnd_rt (d : D) : fEnd (.rt d) = .ok d := rfl
@[simp] theorem fEnd_nx (d : DEnv) : fEnd (.nx d) = .ok .none := rfl
@[simp] theorem fEnd_ex (c fs) (d : DEnv) : fEnd (.ex c fs d) = .exc c fs := rfl
@[simp] theorem e_fnD (nn b ds) : fnD nn b ds = fEnd (b (ds.map some ++ List.replicate (nn - ds.length) none)) := rfl
/-! ### comprehensions, loops -/
def stepC (p : PD) (t : TD) (f : ED) (e : DEnv) (d : D) : Option (Option D) := (p d e).bind fun e1 => match t e1 with
  | .ok true => (match f e1 with
    | .ok x => some (some x)
    | _ => none)
  | .ok false => some none
  | _ => none
theorem compL_fm {α : Type} {p : PD} {t : TD} {f : ED} {e : DEnv} {enc : α → D} {h : α → Option D} : ∀ {xs : List α}, (∀ x ∈ xs, stepC p t f e (enc x) = some (h x)) → compL p t f e (xs.map enc) = some (xs.filterMap h)
  | [], _ => rfl
  | x :: xs, H => by
    have h1 := H x (by simp)
    have h2 := compL_fm (xs := xs) fun y hy => H y (by simp [hy])
    unfold stepC at h1
    rw [List.map_cons]
    unfold compL
    cases e1 : p (enc x) e with
    | none => rw [e1] at h1; cases h1
    | some en =>
      rw [e1] at h1
      simp only [Option.bind_some] at h1 ⊢
      cases e2 : t en with
      | ok b =>
        rw [e2] at h1
        cases b with
        | true =>
          dsimp only at h1 ⊢
          cases e3 : f en with
          | ok z =>
            rw [e3] at h1
            rw [h2, List.filterMap_cons, ← Option.some.inj h1]
            rfl
          | _ => rw [e3] at h1; cases h1
        | false =>
          dsimp only at h1 ⊢
          rw [h2, List.filterMap_cons, ← Option.some.inj h1]
      | _ => rw [e2] at h1; cases h1
theorem compL_map {α : Type} {p : PD} {t : TD} {f : ED} {e : DEnv} {enc : α → D} {h : α → D} {xs : List α} (H : ∀ x ∈ xs, stepC p t f e (enc x) = some (some (h x))) : compL p t f e (xs.map enc) = some (xs.map h) := by
  rw [compL_fm (h := fun x => some (h x)) H, List.filterMap_eq_map']
/-- a loop with an invariant of what is left -/
theorem loopF_inv {α : Type} {p : PD} {b : SD} {enc : α → D} (I : List α → DEnv → Prop) : ∀ {xs : List α} {e : DEnv}, I xs e → (∀ x xs e, I (x :: xs) e → ∃ e1 e2, p (enc x) e = some e1 ∧ (b e1 = .nx e2 ∨ b e1 = .ct e2) ∧ I xs e2) → ∃ e', loopF p b (xs.map enc) e = .nx e' ∧ I [] e'
  | [], e, h, _ => ⟨e, rfl, h⟩
  | x :: xs, e, h, H => by
    obtain ⟨e1, e2, h1, h2, h3⟩ := H x xs e h
    obtain ⟨e', h4, h5⟩ := loopF_inv I h3 H
    refine ⟨e', ?_, h5⟩
    rw [List.map_cons, loopF_cons, h1, turnF_some]
    rcases h2 with h2 | h2 <;> rw [h2] <;> exact h4
/-! ### numbers, lists -/
def il (xs : List Int) : D := .list (xs.map .int)
def ill (xs : List (List Int)) : D := .list (xs.map il)
theorem lineB_of {n : Nat} (h : n ≤ 16777216) : lineB n = true := decide_eq_true h
@[simp] theorem addG_int (i j : Int) : addG (.int i) (.int j) = some (.int (i + j)) := rfl
@[simp] theorem subI_int (i j : Int) : subI (.int i) (.int j) = some (.int (i - j)) := rfl
theorem modI_int {i j : Int} (h : j ≠ 0) : modI (.int i) (.int j) = some (.int (i.fmod j)) := if_pos (decide_eq_true h)
theorem fdivI_int {i j : Int} (h : j ≠ 0 ∧ j.natAbs < 1073741824) : fdivI (.int i) (.int j) = some (.int (i.fdiv j)) := if_pos (decide_eq_true h)
theorem mulG_int {i j : Int} (h : mulOk i j = true) : mulG (.int i) (.int j) = some (.int (i * j)) := if_pos (by unfold mulOkW; rw [h] <;> rfl)
theorem mulOk_l {i j : Int} (h : -(2 ^ 64) < i ∧ i < 2 ^ 64) : mulOk i j = true := mulOk_iff.mpr (.inl h)
theorem mulOk_r {i j : Int} (h : -(2 ^ 64) < j ∧ j < 2 ^ 64) : mulOk i j = true := mulOk_iff.mpr (.inr h)
@[simp] theorem negG_int (i : Int) : negG (.int i) = some (.int (-i)) := rfl
@[simp] theorem truD_bool (b : Bool) : truD (.bool b) = some b := rfl
@[simp] theorem okD_int (i : Int) : okD (.int i) = true := by unfold okD shal; rw [decide_eq_true (by simp [PyData.depth])]; rfl
@[simp] theorem okD_bool (i : Bool) : okD (.bool i) = true := by unfold okD shal; rw [decide_eq_true (by simp [PyData.depth])]; rfl
@[simp] theorem okD_str (i : Str) : okD (.str i) = true := by unfold okD shal; rw [decide_eq_true (by simp [PyData.depth])]; rfl
@[simp] theorem okD_none : okD .none = true := by unfold okD shal; rw [decide_eq_true (by simp [PyData.depth])]; rfl
@[simp] theorem eqG_int (i j : Int) : eqG (.int i) (.int j) = some (.bool (decide (i = j))) := by
  unfold eqG
  rw [okD_int, okD_int]
  simp [PyData.eqv, Bool.beq_eq_decide_eq]
@[simp] theorem neG_int (i j : Int) : neG (.int i) (.int j) = some (.bool (!decide (i = j))) := by
  unfold neG
  rw [okD_int, okD_int]
  simp [PyData.eqv, Bool.beq_eq_decide_eq]
theorem ordOk_int (i j : Int) : ordOk (.int i) (.int j) = true := by
  unfold ordOk
  rw [show PySem.W.alike (.int i) (.int j) = true from by simp [PySem.W.alike]]
  have : shal (.int i) = true := by unfold shal; rw [decide_eq_true (by simp [PyData.depth])]
  rw [this]; rfl
theorem ordG_int (p : D → D → Bool) (i j : Int) : ordG p (.int i) (.int j) = some (.bool (p (.int i) (.int j))) := by
  unfold ordG; rw [ordOk_int]; rfl
@[simp] theorem ltG_int (i j : Int) : ltG (.int i) (.int j) = some (.bool (decide (i < j))) := by unfold ltG; rw [ordG_int, PySem.W.dataLt_int]
@[simp] theorem gtG_int (i j : Int) : gtG (.int i) (.int j) = some (.bool (decide (j < i))) := by unfold gtG; rw [ordG_int, PySem.W.dataLt_int]
@[simp] theorem leG_int (i j : Int) : leG (.int i) (.int j) = some (.bool (decide (i ≤ j))) := by
  unfold leG; rw [ordG_int, PySem.W.dataLt_int]
  by_cases h : i ≤ j
  · rw [decide_eq_true h, decide_eq_false (by omega)]; rfl
  · rw [decide_eq_false h, decide_eq_true (by omega)]; rfl
@[simp] theorem geG_int (i j : Int) : geG (.int i) (.int j) = some (.bool (decide (j ≤ i))) := by
  unfold geG; rw [ordG_int, PySem.W.dataLt_int]
  by_cases h : j ≤ i
  · rw [decide_eq_true h, decide_eq_false (by omega)]; rfl
  · rw [decide_eq_false h, decide_eq_true (by omega)]; rfl
/-! ### items -/
theorem atI_nat {α : Type} {xs : List α} {i : Nat} (h : i < xs.length) : L2.atI xs (i : Int) = xs[i]? := by
  unfold L2.atI ixN
  rw [if_pos (by omega), if_pos (by omega)]
  simp
theorem atI_of {α : Type} {xs : List α} {i : Int} (h0 : 0 ≤ i) (h : i < xs.length) : L2.atI xs i = xs[i.toNat]? := by
  unfold L2.atI ixN
  rw [if_pos h0, if_pos h]
  rfl
theorem atI_neg {α : Type} {xs : List α} {i : Int} (h0 : i < 0) (h : -(xs.length : Int) ≤ i) : L2.atI xs i = xs[(i + xs.length).toNat]? := by
  unfold L2.atI ixN
  rw [if_neg (by omega), if_pos h]
  rfl
theorem atI_map {α β : Type} (f : α → β) (xs : List α) (i : Int) : L2.atI (xs.map f) i = (L2.atI xs i).map f := by
  unfold L2.atI
  rw [List.length_map]
  cases ixN xs.length i with
  | none => rfl
  | some j => simp
@[simp] theorem ixG_list (ds : List D) (i : Int) : ixG (.list ds) (.int i) = L2.atI ds i := rfl
@[simp] theorem ixG_tup (ds : List D) (i : Int) : ixG (.tuple ds) (.int i) = L2.atI ds i := rfl
theorem ixG_scr (ds : List D) (i : Int) : ixG (.dict [(.bool true, .list ds)]) (.int i) = L2.atI ds i := rfl
/-- the i-th number of a list (0 outside) -/
def gI (xs : List Int) (i : Nat) : Int := xs.getD i 0
theorem ixG_il {xs : List Int} {i : Int} (h0 : 0 ≤ i) (h : i < xs.length) : ixG (il xs) (.int i) = some (.int (gI xs i.toNat)) := by
  show L2.atI (xs.map PyData.int) i = _
  rw [atI_map, atI_of h0 h]
  have : i.toNat < xs.length := by omega
  rw [List.getElem?_eq_getElem this]
  simp [gI, List.getD_eq_getElem?_getD, List.getElem?_eq_getElem this]
def gL (xs : List (List Int)) (i : Nat) : List Int := xs.getD i []
theorem ixG_ill {xs : List (List Int)} {i : Int} (h0 : 0 ≤ i) (h : i < xs.length) : ixG (ill xs) (.int i) = some (il (gL xs i.toNat)) := by
  show L2.atI (xs.map il) i = _
  rw [atI_map, atI_of h0 h]
  have : i.toNat < xs.length := by omega
  rw [List.getElem?_eq_getElem this]
  simp [gL, List.getD_eq_getElem?_getD, List.getElem?_eq_getElem this]
@[simp] theorem lenG_list (ds : List D) : lenG (.list ds) = some (.int ds.length) := rfl
@[simp] theorem lenG_tup (ds : List D) : lenG (.tuple ds) = some (.int ds.length) := rfl
theorem lenG_scr (ds : List D) : lenG (.dict [(.bool true, .list ds)]) = some (.int ds.length) := rfl
@[simp] theorem lsOf_list (ds : List D) : lsOf (.list ds) = some ds := rfl
@[simp] theorem tuOf_tup (ds : List D) : tuOf (.tuple ds) = some ds := rfl
theorem rgList_eq (lo : Int) (n : Nat) : rgList lo n = (List.range n).map fun (i : Nat) => .int (lo + i) := rfl
theorem rgOk_of {i : Int} (h : -8000000 ≤ i ∧ i ≤ 8000000) : rgOk i = true := inB_iff.mpr h
theorem appG_of {ds : List D} {d : D} (h : ds.length + 1 ≤ 16777216) : appG ds d = some (ds ++ [d]) := if_pos (lineB_of h)
theorem sumG_il (xs : List Int) : sumG (.list (xs.map .int)) = some (.int xs.sum) := by
  have : intsOf (xs.map PyData.int) = some xs := by
    induction xs with
    | nil => rfl
    | cons x xs ih => rw [List.map_cons]; unfold intsOf; rw [ih]; rfl
  show (intsOf (xs.map PyData.int)).map _ = _
  rw [this]; rfl
theorem allG_bl (xs : List Bool) : allG (.list (xs.map .bool)) = some (.bool (xs.all id)) := by
  have : blsOf (xs.map PyData.bool) = some xs := by
    induction xs with
    | nil => rfl
    | cons x xs ih => rw [List.map_cons]; unfold blsOf; rw [ih]; rfl
  show (blsOf (xs.map PyData.bool)).map _ = _
  rw [this]; rfl
theorem anyG_bl (xs : List Bool) : anyG (.list (xs.map .bool)) = some (.bool (xs.any id)) := by
  have : blsOf (xs.map PyData.bool) = some xs := by
    induction xs with
    | nil => rfl
    | cons x xs ih => rw [List.map_cons]; unfold blsOf; rw [ih]; rfl
  show (blsOf (xs.map PyData.bool)).map _ = _
  rw [this]; rfl
@[simp] theorem listG_list (ds : List D) : listG (.list ds) = some (.list ds) := rfl
@[simp] theorem listG_tup (ds : List D) : listG (.tuple ds) = some (.list ds) := rfl
@[simp] theorem tupleG_list (ds : List D) : tupleG (.list ds) = some (.tuple ds) := rfl
@[simp] theorem tupleG_tup (ds : List D) : tupleG (.tuple ds) = some (.tuple ds) := rfl
/-! ### what is compared -/
theorem plainAll_iff {ds : List D} : PyData.plainAll ds = true ↔ ∀ d ∈ ds, d.plain = true := by
  induction ds with
  | nil => simp [PyData.plainAll]
  | cons d ds ih => simp [PyData.plainAll, ih]
theorem depthAll_le {ds : List D} {n : Nat} (h : ∀ d ∈ ds, d.depth ≤ n) : PyData.depthAll ds ≤ n := by
  induction ds with
  | nil => simp [PyData.depthAll]
  | cons d ds ih =>
    simp only [PyData.depthAll]
    exact Nat.max_le.mpr ⟨h d (by simp), ih fun e he => h e (by simp [he])⟩
/-- no dict within, nested at most n deep -/
def pl (n : Nat) (d : D) : Prop := d.plain = true ∧ d.depth ≤ n
theorem pl.ok {n : Nat} {d : D} (h : pl n d) (hn : n ≤ 60) : okD d = true := okD_iff.mpr ⟨h.1, Nat.le_trans h.2 hn⟩
theorem pl.mono {n m : Nat} {d : D} (h : pl n d) (hn : n ≤ m) : pl m d := ⟨h.1, Nat.le_trans h.2 hn⟩
theorem pl_int {n : Nat} (i : Int) : pl n (.int i) := ⟨rfl, by simp [PyData.depth]⟩
theorem pl_bool {n : Nat} (i : Bool) : pl n (.bool i) := ⟨rfl, by simp [PyData.depth]⟩
theorem pl_str {n : Nat} (i : Str) : pl n (.str i) := ⟨rfl, by simp [PyData.depth]⟩
theorem pl_none {n : Nat} : pl n .none := ⟨rfl, by simp [PyData.depth]⟩
theorem pl_list {n : Nat} {ds : List D} (h : ∀ d ∈ ds, pl n d) : pl (n + 1) (.list ds) := by
  refine ⟨?_, ?_⟩
  · simp only [PyData.plain]; exact plainAll_iff.mpr fun d hd => (h d hd).1
  · simp only [PyData.depth]; exact Nat.succ_le_succ (depthAll_le fun d hd => (h d hd).2)
theorem pl_tup {n : Nat} {ds : List D} (h : ∀ d ∈ ds, pl n d) : pl (n + 1) (.tuple ds) := by
  refine ⟨?_, ?_⟩
  · simp only [PyData.plain]; exact plainAll_iff.mpr fun d hd => (h d hd).1
  · simp only [PyData.depth]; exact Nat.succ_le_succ (depthAll_le fun d hd => (h d hd).2)
theorem pl_il {n : Nat} (xs : List Int) : pl (n + 1) (il xs) := pl_list fun d hd => by
  obtain ⟨x, _, rfl⟩ := List.mem_map.mp hd
  exact pl_int x
theorem pl_ill {n : Nat} (xs : List (List Int)) : pl (n + 2) (ill xs) := pl_list fun d hd => by
  obtain ⟨x, _, rfl⟩ := List.mem_map.mp hd
  exact pl_il x
theorem eqG_pl {d e : D} (h : okD d = true) (h' : okD e = true) : eqG d e = some (.bool (PyData.eqv d e)) := by unfold eqG; rw [h, h']; rfl
theorem neG_pl {d e : D} (h : okD d = true) (h' : okD e = true) : neG d e = some (.bool (!PyData.eqv d e)) := by unfold neG; rw [h, h']; rfl
theorem eqvAll_map {α : Type} [DecidableEq α] {f : α → D} (hf : ∀ x y, PyData.eqv (f x) (f y) = decide (x = y)) : ∀ xs ys : List α, PyData.eqvAll (xs.map f) (ys.map f) = decide (xs = ys)
  | [], [] => by simp [PyData.eqvAll]
  | [], _ :: _ => by simp [PyData.eqvAll]
  | _ :: _, [] => by simp [PyData.eqvAll]
  | x :: xs, y :: ys => by
    simp only [List.map_cons, PyData.eqvAll, hf, eqvAll_map hf xs ys, List.cons.injEq]
    by_cases h : x = y <;> by_cases h' : xs = ys <;> simp [h, h']
theorem eqv_int (x y : Int) : PyData.eqv (.int x) (.int y) = decide (x = y) := by simp [PyData.eqv, Bool.beq_eq_decide_eq]
theorem eqv_il (xs ys : List Int) : PyData.eqv (il xs) (il ys) = decide (xs = ys) := by
  unfold il
  simp only [PyData.eqv]
  exact eqvAll_map eqv_int xs ys
theorem eqv_ill (xs ys : List (List Int)) : PyData.eqv (ill xs) (ill ys) = decide (xs = ys) := by
  unfold ill
  simp only [PyData.eqv]
  exact eqvAll_map eqv_il xs ys
theorem eqG_il (xs ys : List Int) : eqG (il xs) (il ys) = some (.bool (decide (xs = ys))) := by
  rw [eqG_pl ((pl_il (n := 0) xs).ok (by decide)) ((pl_il (n := 0) ys).ok (by decide)), eqv_il]
theorem neG_il (xs ys : List Int) : neG (il xs) (il ys) = some (.bool (!decide (xs = ys))) := by
  rw [neG_pl ((pl_il (n := 0) xs).ok (by decide)) ((pl_il (n := 0) ys).ok (by decide)), eqv_il]
theorem eqG_ill (xs ys : List (List Int)) : eqG (ill xs) (ill ys) = some (.bool (decide (xs = ys))) := by
  rw [eqG_pl ((pl_ill (n := 0) xs).ok (by decide)) ((pl_ill (n := 0) ys).ok (by decide)), eqv_ill]
theorem neG_ill (xs ys : List (List Int)) : neG (ill xs) (ill ys) = some (.bool (!decide (xs = ys))) := by
  rw [neG_pl ((pl_ill (n := 0) xs).ok (by decide)) ((pl_ill (n := 0) ys).ok (by decide)), eqv_ill]
/-! ### isinstance -/
@[simp] theorem isi_int_none : isiG "int" .none = some (.bool false) := rfl
@[simp] theorem isi_int_bool (b : Bool) : isiG "int" (.bool b) = some (.bool true) := rfl
@[simp] theorem isi_int_int (b : Int) : isiG "int" (.int b) = some (.bool true) := rfl
@[simp] theorem isi_int_str (b : Str) : isiG "int" (.str b) = some (.bool false) := rfl
@[simp] theorem isi_int_list (b : List D) : isiG "int" (.list b) = some (.bool false) := rfl
@[simp] theorem isi_int_tuple (b : List D) : isiG "int" (.tuple b) = some (.bool false) := rfl
@[simp] theorem isi_bool_none : isiG "bool" .none = some (.bool false) := rfl
@[simp] theorem isi_bool_bool (b : Bool) : isiG "bool" (.bool b) = some (.bool true) := rfl
@[simp] theorem isi_bool_int (b : Int) : isiG "bool" (.int b) = some (.bool false) := rfl
@[simp] theorem isi_bool_str (b : Str) : isiG "bool" (.str b) = some (.bool false) := rfl
@[simp] theorem isi_bool_list (b : List D) : isiG "bool" (.list b) = some (.bool false) := rfl
@[simp] theorem isi_bool_tuple (b : List D) : isiG "bool" (.tuple b) = some (.bool false) := rfl
@[simp] theorem isi_str_none : isiG "str" .none = some (.bool false) := rfl
@[simp] theorem isi_str_bool (b : Bool) : isiG "str" (.bool b) = some (.bool false) := rfl
@[simp] theorem isi_str_int (b : Int) : isiG "str" (.int b) = some (.bool false) := rfl
@[simp] theorem isi_str_str (b : Str) : isiG "str" (.str b) = some (.bool true) := rfl
@[simp] theorem isi_str_list (b : List D) : isiG "str" (.list b) = some (.bool false) := rfl
@[simp] theorem isi_str_tuple (b : List D) : isiG "str" (.tuple b) = some (.bool false) := rfl
@[simp] theorem isi_list_none : isiG "list" .none = some (.bool false) := rfl
@[simp] theorem isi_list_bool (b : Bool) : isiG "list" (.bool b) = some (.bool false) := rfl
@[simp] theorem isi_list_int (b : Int) : isiG "list" (.int b) = some (.bool false) := rfl
@[simp] theorem isi_list_str (b : Str) : isiG "list" (.str b) = some (.bool false) := rfl
@[simp] theorem isi_list_list (b : List D) : isiG "list" (.list b) = some (.bool true) := rfl
@[simp] theorem isi_list_tuple (b : List D) : isiG "list" (.tuple b) = some (.bool false) := rfl
@[simp] theorem isi_tuple_none : isiG "tuple" .none = some (.bool false) := rfl
@[simp] theorem isi_tuple_bool (b : Bool) : isiG "tuple" (.bool b) = some (.bool false) := rfl
@[simp] theorem isi_tuple_int (b : Int) : isiG "tuple" (.int b) = some (.bool false) := rfl
@[simp] theorem isi_tuple_str (b : Str) : isiG "tuple" (.str b) = some (.bool false) := rfl
@[simp] theorem isi_tuple_list (b : List D) : isiG "tuple" (.list b) = some (.bool false) := rfl
@[simp] theorem isi_tuple_tuple (b : List D) : isiG "tuple" (.tuple b) = some (.bool true) := rfl
/-! ### numbers with small literals -/
@[simp] theorem mulG_r {i j : Int} (h : -18446744073709551616 < j ∧ j < 18446744073709551616) : mulG (.int i) (.int j) = some (.int (i * j)) := mulG_int (mulOk_r h)
@[simp] theorem mulG_l {i j : Int} (h : -18446744073709551616 < i ∧ i < 18446744073709551616) : mulG (.int i) (.int j) = some (.int (i * j)) := mulG_int (mulOk_l h)
@[simp] theorem modI_pos {i j : Int} (h : 0 < j) : modI (.int i) (.int j) = some (.int (i % j)) := by
  rw [modI_int (by omega), Int.fmod_eq_emod_of_nonneg _ (by omega)]
@[simp] theorem fdivI_pos {i j : Int} (h : 0 < j ∧ j < 1073741824) : fdivI (.int i) (.int j) = some (.int (i / j)) := by
  rw [fdivI_int (by omega), Int.fdiv_eq_ediv_of_nonneg _ (by omega)]
@[simp] theorem intG_int (i : Int) : intG (.int i) = some (.int i) := rfl
@[simp] theorem intG_bool (b : Bool) : intG (.bool b) = some (.int (if b then 1 else 0)) := rfl
theorem setM_il {e : DEnv} {i : Nat} {xs : List Int} {v : Int} (h : xs.length + 1 ≤ 16777216) : setM e i (appG (xs.map .int) (.int v)) = .nx (e.set i (some (il (xs ++ [v])))) := by
  rw [appG_of (by rw [List.length_map]; exact h), setM_some]
  unfold il
  rw [List.map_append]
  rfl
theorem e_appI {i f} {e : DEnv} {xs : List Int} (h : e[i]? = some (some (il xs))) : appF i f e = liftF (f e) e fun d => setM e i (appG (xs.map .int) d) := e_modF h
theorem setM_ill {e : DEnv} {i : Nat} {xs : List (List Int)} {v : List Int} (h : xs.length + 1 ≤ 16777216) : setM e i (appG (xs.map il) (il v)) = .nx (e.set i (some (ill (xs ++ [v])))) := by
  rw [appG_of (by rw [List.length_map]; exact h), setM_some]
  unfold ill
  rw [List.map_append]
  rfl
theorem e_appL {i f} {e : DEnv} {xs : List (List Int)} (h : e[i]? = some (some (ill xs))) : appF i f e = liftF (f e) e fun d => setM e i (appG (xs.map il) d) := e_modF h
/-- a whole number -/
def isI : D → Bool
  | .int _ => true
  | _ => false
end DL

/-! DM2: comprehensions by functions -/
namespace DL
open PySem PySem.Spec L2
section
variable {α : Type} {it : DEnv → R (List D)} {p : PD} {t : TD} {f : ED} {env : DEnv} {enc : α → D} {xs : List α}
theorem compD_fm {g : α → Option D} (hit : it env = .ok (xs.map enc)) (h : ∀ x ∈ xs, stepC p t f env (enc x) = some (g x)) : compD it p t f env = .ok (.list (xs.filterMap g)) := by
  rw [e_compD, hit, R.bind_ok, compL_fm h]
  rfl
theorem compD_map {g : α → D} (hit : it env = .ok (xs.map enc)) (h : ∀ x ∈ xs, stepC p t f env (enc x) = some (some (g x))) : compD it p t f env = .ok (.list (xs.map g)) := by
  rw [e_compD, hit, R.bind_ok, compL_map h]
  rfl
theorem compD_il {g : α → Int} (hit : it env = .ok (xs.map enc)) (h : ∀ x ∈ xs, stepC p t f env (enc x) = some (some (.int (g x)))) : compD it p t f env = .ok (il (xs.map g)) := by
  rw [compD_map (g := fun x => .int (g x)) hit h]
  unfold il
  rw [List.map_map]
  rfl
theorem compD_bl {g : α → Bool} (hit : it env = .ok (xs.map enc)) (h : ∀ x ∈ xs, stepC p t f env (enc x) = some (some (.bool (g x)))) : compD it p t f env = .ok (.list ((xs.map g).map .bool)) := by
  rw [compD_map (g := fun x => .bool (g x)) hit h, List.map_map]
  rfl
theorem compD_ill {g : α → List Int} (hit : it env = .ok (xs.map enc)) (h : ∀ x ∈ xs, stepC p t f env (enc x) = some (some (il (g x)))) : compD it p t f env = .ok (ill (xs.map g)) := by
  rw [compD_map (g := fun x => il (g x)) hit h]
  unfold ill
  rw [List.map_map]
  rfl
theorem fm_filter (q : α → Bool) : ∀ xs : List α, xs.filterMap (fun x => if q x = true then some (enc x) else none) = (xs.filter q).map enc
  | [] => rfl
  | x :: xs => by
    rw [List.filterMap_cons, List.filter_cons, fm_filter q xs]
    cases hq : q x <;> simp
/-- what is kept of it -/
theorem compD_filter {q : α → Bool} (hit : it env = .ok (xs.map enc)) (h : ∀ x ∈ xs, stepC p t f env (enc x) = some (if q x = true then some (enc x) else none)) : compD it p t f env = .ok (.list ((xs.filter q).map enc)) := by
  rw [compD_fm (g := fun x => if q x = true then some (enc x) else none) hit h, fm_filter]
end
theorem lsOf_il (xs : List Int) : lsOf (il xs) = some (xs.map .int) := rfl
theorem lsOf_ill (xs : List (List Int)) : lsOf (ill xs) = some (xs.map il) := rfl
theorem lenG_il (xs : List Int) : lenG (il xs) = some (.int xs.length) := by unfold il; simp
theorem lenG_ill (xs : List (List Int)) : lenG (ill xs) = some (.int xs.length) := by unfold ill; simp
theorem listG_il (xs : List Int) : listG (il xs) = some (il xs) := rfl
theorem isi_il (xs : List Int) : isiG "list" (il xs) = some (.bool true) := rfl
theorem rg0 (n : Nat) : rgList 0 n = (List.range n).map fun i : Nat => PyData.int (i : Int) := by
  unfold rgList
  congr 1
  funext i
  simp
theorem zipL_il (xs ys : List Int) : zipL (xs.map .int) (ys.map .int) = (xs.zip ys).map fun p => .tuple [.int p.1, .int p.2] := by
  unfold zipL
  rw [List.zip_map, List.map_map]
  rfl
theorem addG_il (xs ys : List Int) (h : xs.length + ys.length ≤ 16777216) : addG (il xs) (il ys) = some (il (xs ++ ys)) := by
  unfold il
  rw [List.map_append]
  exact if_pos (lineB_of (by simpa using h))
theorem addG_ill (xs ys : List (List Int)) (h : xs.length + ys.length ≤ 16777216) : addG (ill xs) (ill ys) = some (ill (xs ++ ys)) := by
  unfold ill
  rw [List.map_append]
  exact if_pos (lineB_of (by simpa using h))
theorem addG_list (xs ys : List D) (h : xs.length + ys.length ≤ 16777216) : addG (.list xs) (.list ys) = some (.list (xs ++ ys)) := if_pos (lineB_of h)
theorem mulG_rep (x : Int) (n : Int) (h0 : 0 ≤ n) (h : n ≤ 1000000) : mulG (.list [.int x]) (.int n) = some (il (List.replicate n.toNat x)) := by
  have h1 : (inB n 9223372036854775807 && lineB ([(.int x : D)].length * n.toNat)) = true := by
    rw [lineB_of (by simp; omega), inB_iff.mpr ⟨by omega, by omega⟩]; rfl
  have h2 : mulG (.list [.int x]) (.int n) = some (.list (List.replicate n.toNat [(.int x : D)]).flatten) := if_pos h1
  rw [h2]
  unfold il
  congr 2
  induction n.toNat with
  | zero => rfl
  | succ m ih => rw [List.replicate_succ, List.flatten_cons, ih, List.replicate_succ]; rfl
theorem allG_lam {α : Type} (g : α → Bool) (xs : List α) : allG (.list (xs.map fun x => .bool (g x))) = some (.bool (xs.all g)) := by
  have := allG_bl (xs.map g)
  rw [List.map_map] at this
  rw [show (fun x => (PyData.bool (g x) : D)) = (PyData.bool ∘ g) from rfl, this]
  congr 2
  induction xs with
  | nil => rfl
  | cons x xs ih => simp [List.all_map, Function.comp_def]
theorem eqG_nil (ds : List D) (h : okD (.list ds) = true) : eqG (.list ds) (.list []) = some (.bool ds.isEmpty) := by
  rw [eqG_pl h (by unfold okD shal; rw [decide_eq_true (by simp [PyData.depth, PyData.depthAll])]; simp [PyData.plain, PyData.plainAll])]
  cases ds <;> simp [PyData.eqv, PyData.eqvAll]
theorem neG_nil (ds : List D) (h : okD (.list ds) = true) : neG (.list ds) (.list []) = some (.bool (!ds.isEmpty)) := by
  rw [neG_pl h (by unfold okD shal; rw [decide_eq_true (by simp [PyData.depth, PyData.depthAll])]; simp [PyData.plain, PyData.plainAll])]
  cases ds <;> simp [PyData.eqv, PyData.eqvAll]
theorem depthAll_mem {ds : List D} {n : Nat} : PyData.depthAll ds ≤ n ↔ ∀ d ∈ ds, d.depth ≤ n := by
  induction ds with
  | nil => simp [PyData.depthAll]
  | cons d ds ih => simp [PyData.depthAll, Nat.max_le, ih]
theorem pl_list_iff {n : Nat} {ds : List D} : pl (n + 1) (.list ds) ↔ ∀ d ∈ ds, pl n d := by
  refine ⟨fun h d hd => ⟨plainAll_iff.mp (by simpa [PyData.plain] using h.1) d hd, ?_⟩, pl_list⟩
  have := h.2
  simp only [PyData.depth] at this
  exact depthAll_mem.mp (Nat.le_of_succ_le_succ this) d hd
theorem pl_tup_iff {n : Nat} {ds : List D} : pl (n + 1) (.tuple ds) ↔ ∀ d ∈ ds, pl n d := by
  refine ⟨fun h d hd => ⟨plainAll_iff.mp (by simpa [PyData.plain] using h.1) d hd, ?_⟩, pl_tup⟩
  have := h.2
  simp only [PyData.depth] at this
  exact depthAll_mem.mp (Nat.le_of_succ_le_succ this) d hd
theorem filter_none {α : Type} (q : α → Bool) : ∀ xs : List α, (xs.filter fun d => !q d).isEmpty = xs.all q
  | [] => rfl
  | x :: xs => by
    rw [List.filter_cons, List.all_cons, ← filter_none q xs]
    cases q x <;> simp
/-! ### slices -/
theorem cutA_map {α β : Type} (f : α → β) (xs : List α) (l u : Option Int) : cutA (xs.map f) l u = (cutA xs l u).map f := by
  unfold cutA
  rw [List.length_map, ← List.map_drop, ← List.map_take]
theorem sliceG_list (xs : List D) (l u : Option Int) : sliceG (.list xs) l u = some (.list (cutA xs l u)) := rfl
theorem sliceG_il (xs : List Int) (l u : Option Int) : sliceG (il xs) l u = some (il (cutA xs l u)) := by
  show some (PyData.list (cutA (xs.map PyData.int) l u)) = _
  rw [cutA_map]; rfl
theorem sliceG_ill (xs : List (List Int)) (l u : Option Int) : sliceG (ill xs) l u = some (ill (cutA xs l u)) := by
  show some (PyData.list (cutA (xs.map il) l u)) = _
  rw [cutA_map]; rfl
theorem sliceGL_list (xs : List D) (l u : Option Int) : sliceGL (.list xs) l u = some (.list (cutA xs l u)) := rfl
theorem sliceGL_il (xs : List Int) (l u : Option Int) : sliceGL (il xs) l u = some (il (cutA xs l u)) := sliceG_il xs l u
theorem sliceGL_ill (xs : List (List Int)) (l u : Option Int) : sliceGL (ill xs) l u = some (ill (cutA xs l u)) := sliceG_ill xs l u
theorem cutA_mem {α : Type} {xs : List α} {l u : Option Int} {x : α} (h : x ∈ cutA xs l u) : x ∈ xs := List.mem_of_mem_drop (List.mem_of_mem_take h)
theorem cutA_len {α : Type} (xs : List α) (l u : Option Int) : (cutA xs l u).length ≤ xs.length := by
  unfold cutA
  rw [List.length_take, List.length_drop]
  omega
theorem cutA_from {α : Type} (xs : List α) (k : Nat) : cutA xs (some (k : Int)) none = xs.drop k := by
  unfold cutA
  rw [HT.sIx_nat, HT.sIx_none]
  by_cases h : k ≤ xs.length
  · rw [Nat.min_eq_left h, List.take_of_length_le (by simp)]
  · rw [Nat.min_eq_right (by omega), List.drop_eq_nil_of_le (Nat.le_refl _), List.drop_eq_nil_of_le (by omega)]
    simp
theorem cutA_to {α : Type} (xs : List α) (k : Nat) : cutA xs none (some (k : Int)) = xs.take k := by
  unfold cutA
  rw [HT.sIx_nat, HT.sIx_none, List.drop_zero, Nat.sub_zero]
  by_cases h : k ≤ xs.length
  · rw [Nat.min_eq_left h]
  · rw [Nat.min_eq_right (by omega), List.take_of_length_le (Nat.le_refl _), List.take_of_length_le (by omega)]
theorem cutA_neg {α : Type} (xs : List α) (k : Int) (h : k < 0) : cutA xs (some k) none = xs.drop (k + xs.length).toNat := by
  unfold cutA
  have e : HT.sIx xs.length 0 (some k) = (k + (xs.length : Int)).toNat := if_pos h
  rw [e, HT.sIx_none, List.take_of_length_le (by simp)]
theorem cutA_toneg {α : Type} (xs : List α) (k : Int) (h : k < 0) : cutA xs none (some k) = xs.take (k + xs.length).toNat := by
  unfold cutA
  have e : HT.sIx xs.length xs.length (some k) = (k + (xs.length : Int)).toNat := if_pos h
  rw [e, HT.sIx_none, List.drop_zero, Nat.sub_zero]
/-- a loop that folds -/
theorem loopF_fold {α β : Type} {p : PD} {b : SD} {enc : α → D} (E : β → DEnv → Prop) (g : β → α → β) : ∀ {xs : List α} {st : β} {e : DEnv}, E st e → (∀ x ∈ xs, ∀ st e, E st e → ∃ e1 e2, p (enc x) e = some e1 ∧ (b e1 = .nx e2 ∨ b e1 = .ct e2) ∧ E (g st x) e2) → ∃ e', loopF p b (xs.map enc) e = .nx e' ∧ E (xs.foldl g st) e'
  | [], st, e, h, _ => ⟨e, rfl, h⟩
  | x :: xs, st, e, h, H => by
    obtain ⟨e1, e2, h1, h2, h3⟩ := H x (by simp) st e h
    obtain ⟨e', h4, h5⟩ := loopF_fold E g (xs := xs) h3 fun y hy => H y (by simp [hy])
    refine ⟨e', ?_, h5⟩
    rw [List.map_cons, loopF_cons, h1, turnF_some]
    rcases h2 with h2 | h2 <;> rw [h2] <;> exact h4
/-- the same with a count of turns -/
theorem loopF_foldN {β : Type} {p : PD} {b : SD} {enc : Nat → D} (E : Nat → β → DEnv → Prop) (g : β → Nat → β) {n : Nat} {st : β} {e : DEnv} (h : E 0 st e) (H : ∀ t, t < n → ∀ st e, E t st e → ∃ e1 e2, p (enc t) e = some e1 ∧ (b e1 = .nx e2 ∨ b e1 = .ct e2) ∧ E (t + 1) (g st t) e2) : ∃ e', loopF p b ((List.range n).map enc) e = .nx e' ∧ E n ((List.range n).foldl g st) e' := by
  have key : ∀ (m k : Nat) (st : β) (e : DEnv), k + m = n → E k st e → ∃ e', loopF p b ((List.range' k m).map enc) e = .nx e' ∧ E n ((List.range' k m).foldl g st) e' := by
    intro m
    induction m with
    | zero => intro k st e hk h; exact ⟨e, rfl, by simpa [show k = n by omega] using h⟩
    | succ m ih =>
      intro k st e hk h
      obtain ⟨e1, e2, h1, h2, h3⟩ := H k (by omega) st e h
      obtain ⟨e', h4, h5⟩ := ih (k + 1) _ e2 (by omega) h3
      refine ⟨e', ?_, by rw [List.range'_succ, List.foldl_cons]; exact h5⟩
      rw [List.range'_succ, List.map_cons, loopF_cons, h1, turnF_some]
      rcases h2 with h2 | h2 <;> rw [h2] <;> exact h4
  have := key n 0 st e (by omega) h
  rwa [← List.range_eq_range'] at this
theorem e_setIl {i f k} {e : DEnv} {xs : List Int} (h : e[i]? = some (some (il xs))) : setF i f k e = liftF (f e) e fun d => liftF (k e) e fun j => setI e i (xs.map .int) d j := e_setF h
theorem setI_il {e : DEnv} {i : Nat} {xs : List Int} {v j : Int} (h0 : 0 ≤ j) (h : j < xs.length) : setI e i (xs.map .int) (.int v) (.int j) = .nx (e.set i (some (il (xs.set j.toNat v)))) := by
  have hx : ixN (xs.map PyData.int).length j = some j.toNat := by
    unfold ixN
    rw [List.length_map, if_pos h0, if_pos h]
  show (match ixN (xs.map PyData.int).length j with | some j => Flow.nx (e.set i (some (.list ((xs.map PyData.int).set j (.int v))))) | none => .bad) = _
  rw [hx]
  unfold il
  rw [List.map_set]
theorem any_eqv (xs : List Int) (j : Int) : ((xs.map PyData.int).any fun z => PyData.eqv z (.int j)) = decide (j ∈ xs) := by
  induction xs with
  | nil => simp
  | cons x xs ih =>
    simp only [List.map_cons, List.any_cons, ih, List.mem_cons, eqv_int]
    by_cases h : x = j
    · simp [h]
    · simp [h, Ne.symm h, show ¬ j = x from fun e => h e.symm]
theorem plainAll_il (xs : List Int) : PyData.plainAll (xs.map PyData.int) = true := plainAll_iff.mpr fun d hd => by
  obtain ⟨x, _, rfl⟩ := List.mem_map.mp hd
  rfl
theorem inG_il (neg : Bool) (xs : List Int) (j : Int) : inG neg (.int j) (il xs) = some (.bool (neg ^^ decide (j ∈ xs))) := by
  show (if (okD (.int j) && PyData.plainAll (xs.map PyData.int)) = true then some (PyData.bool (neg ^^ ((xs.map PyData.int).any fun z => PyData.eqv z (.int j)))) else none) = _
  rw [okD_int, plainAll_il, any_eqv]
  rfl
end DL

namespace K64
open PySem PySem.Spec L2 DL
def top (i : Nat) : Stmt := PySem.Challenge.pw_slipscaught_k64_judge_of_following.main.body.getD i (.Pass ⟨0, 0, 0, 0⟩)
abbrev gN : Option G := none
abbrev gS : Option G := some .sh
abbrev gW : Option G := some (.ow .sh)
abbrev gX : Option G := some (.ow (.ow .sh))
def N_is_whole : List Str := ["value"]
abbrev s_is_whole : Stmt := top 1
def b_is_whole : SD := (seqF (retF (andD (unD (isiG "int") (vD 0)) (notD (unD (isiG "bool") (vD 0)))))
  nxF)
def f_is_whole : List D → R D := fnD 1 b_is_whole
def N_is_from_to : List Str := ["value", "least", "greatest"]
abbrev s_is_from_to : Stmt := top 2
def b_is_from_to : SD := (seqF (retF (andD (callD f_is_whole (consD (vD 0) nilD)) (chainD leG leG (vD 1) (vD 0) (vD 2))))
  nxF)
def f_is_from_to : List D → R D := fnD 3 b_is_from_to
def N_multiple : List Str := ["p", "factor", "row", "entry"]
abbrev s_multiple : Stmt := top 4
def b_multiple : SD := (seqF (retF (compD (itL (vD 2)) (pName 3) yesT (binD modI (binD mulG (vD 1) (vD 3)) (vD 0))))
  nxF)
def f_multiple : List D → R D := fnD 4 b_multiple
def N_sum_of_rows : List Str := ["p", "first", "second", "one", "other"]
abbrev s_sum_of_rows : Stmt := top 5
def b_sum_of_rows : SD := (seqF (retF (compD (itZ (vD 1) (vD 2)) (pTup 2 (psCons (pName 3) (psCons (pName 4) psNil))) yesT (binD modI (binD addG (vD 3) (vD 4)) (vD 0))))
  nxF)
def f_sum_of_rows : List D → R D := fnD 5 b_sum_of_rows
def N_sum_of_products : List Str := ["p", "first", "second", "one", "other"]
abbrev s_sum_of_products : Stmt := top 6
def b_sum_of_products : SD := (seqF (retF (binD modI (unD sumG (compD (itZ (vD 1) (vD 2)) (pTup 2 (psCons (pName 3) (psCons (pName 4) psNil))) yesT (binD mulG (vD 3) (vD 4)))) (vD 0)))
  nxF)
def f_sum_of_products : List D → R D := fnD 5 b_sum_of_products
def N_are_numbers : List Str := ["p", "value", "length", "entry"]
abbrev s_are_numbers : Stmt := top 8
def b_are_numbers : SD := (seqF (ifF (orT (notT (trD (unD (isiG "list") (vD 1)))) (blD (binD neG (unD lenG (vD 1)) (vD 2))))
  (seqF (retF (cD (.bool false)))
  nxF)
  nxF)
  (seqF (retF (unD allG (compD (itL (vD 1)) (pName 3) yesT (callD f_is_from_to (consD (vD 3) (consD (cD (.int 0)) (consD (binD subI (vD 0) (cD (.int 1))) nilD)))))))
  nxF))
def f_are_numbers : List D → R D := fnD 4 b_are_numbers
def N_do_fit : List Str := ["p", "weights", "row"]
abbrev s_do_fit : Stmt := top 10
def b_do_fit : SD := (seqF (retF (binD eqG (callD f_sum_of_products (consD (vD 0) (consD (vD 1) (consD (vD 2) nilD)))) (cD (.int 0))))
  nxF)
def f_do_fit : List D → R D := fnD 3 b_do_fit
def N_sum_of_multiples : List Str := ["p", "length", "samples", "factors", "found", "sample", "factor"]
abbrev s_sum_of_multiples : Stmt := top 12
def b_sum_of_multiples_1 : SD := (seqF (asgF 4 (callD f_sum_of_rows (consD (vD 0) (consD (vD 4) (consD (callD f_multiple (consD (vD 0) (consD (vD 6) (consD (vD 5) nilD)))) nilD)))))
  nxF)
def b_sum_of_multiples : SD := (seqF (asgF 4 (binD mulG (lstD (consD (cD (.int 0)) nilD)) (vD 1)))
  (seqF (forF (itZ (vD 2) (vD 3)) (pTup 2 (psCons (pName 5) (psCons (pName 6) psNil))) b_sum_of_multiples_1)
  (seqF (retF (vD 4))
  nxF)))
def f_sum_of_multiples : List D → R D := fnD 7 b_sum_of_multiples
def N_is_sum_paper : List Str := ["p", "length", "samples", "row", "value"]
abbrev s_is_sum_paper : Stmt := top 13
def b_is_sum_paper : SD := (seqF (ifF (notT (trD (callD f_are_numbers (consD (vD 0) (consD (vD 4) (consD (unD lenG (vD 2)) nilD))))))
  (seqF (retF (cD (.bool false)))
  nxF)
  nxF)
  (seqF (retF (binD eqG (callD f_sum_of_multiples (consD (vD 0) (consD (vD 1) (consD (vD 2) (consD (vD 4) nilD))))) (vD 3)))
  nxF))
def f_is_sum_paper : List D → R D := fnD 5 b_is_sum_paper
def N_is_weights_paper : List Str := ["p", "length", "samples", "row", "value", "sample"]
abbrev s_is_weights_paper : Stmt := top 14
def b_is_weights_paper : SD := (seqF (ifF (orT (notT (trD (callD f_are_numbers (consD (vD 0) (consD (vD 4) (consD (vD 1) nilD)))))) (trD (callD f_do_fit (consD (vD 0) (consD (vD 4) (consD (vD 3) nilD))))))
  (seqF (retF (cD (.bool false)))
  nxF)
  nxF)
  (seqF (retF (unD allG (compD (itL (vD 2)) (pName 5) yesT (callD f_do_fit (consD (vD 0) (consD (vD 4) (consD (vD 5) nilD)))))))
  nxF))
def f_is_weights_paper : List D → R D := fnD 6 b_is_weights_paper
def N_shows_follow : List Str := ["p", "length", "samples", "row", "paper", "value"]
abbrev s_shows_follow : Stmt := top 15
def b_shows_follow : SD := (seqF (ifF (notT (trD (unD (isiG "tuple") (vD 4))))
  (seqF (retF (cD (.bool false)))
  nxF)
  nxF)
  (seqF (matchF (vD 4) [((mSeq 2 (msCons (mVal (.str "sum")) (msCons mCap msNil))), [5], (seqF (retF (callD f_is_sum_paper (consD (vD 0) (consD (vD 1) (consD (vD 2) (consD (vD 3) (consD (vD 5) nilD)))))))
  nxF)), ((mSeq 2 (msCons (mVal (.str "weights")) (msCons mCap msNil))), [5], (seqF (retF (callD f_is_weights_paper (consD (vD 0) (consD (vD 1) (consD (vD 2) (consD (vD 3) (consD (vD 5) nilD)))))))
  nxF)), (mWild, [], (seqF (retF (cD (.bool false)))
  nxF))])
  nxF))
def f_shows_follow : List D → R D := fnD 6 b_shows_follow
def N__law_numbers : List Str := ["script", "at", "count", "cell", "numbers", "k", "mixed"]
abbrev s__law_numbers : Stmt := top 17
def b__law_numbers_1 : SD := (seqF (ifF (blD (binD geG (vD 3) (binD powI (cD (.int 10)) (cD (.int 18)))))
  (seqF (appF 4 (binD modI (vD 3) (cD (.int 1009))))
  (seqF (asgF 3 (binD fdivI (vD 3) (cD (.int 1009))))
  nxF))
  (seqF (asgF 6 (binD modI (binD addG (binD addG (binD mulG (vD 3) (cD (.int 48271))) (binD mulG (binD addG (vD 5) (cD (.int 1))) (cD (.int 69621)))) (binD mulG (vD 1) (cD (.int 4001)))) (cD (.int 2147483647))))
  (seqF (asgF 6 (binD modI (binD addG (binD mulG (vD 6) (vD 6)) (binD mulG (cD (.int 16807)) (binD addG (vD 5) (cD (.int 3))))) (cD (.int 2147483629))))
  (seqF (appF 4 (binD modI (binD fdivI (vD 6) (cD (.int 7))) (cD (.int 1009))))
  nxF))))
  nxF)
def b__law_numbers : SD := (seqF (asgF 3 (binD mulG (cD (.int 1000003)) (binD addG (vD 1) (cD (.int 1)))))
  (seqF (ifF (blD (binD ltG (vD 1) (unD lenG (vD 0))))
  (seqF (asgF 3 (unD intG (binD ixG (vD 0) (vD 1))))
  nxF)
  nxF)
  (seqF (ifF (blD (binD ltG (vD 3) (cD (.int 0))))
  (seqF (asgF 3 (binD subI (cD (.int 1)) (binD mulG (cD (.int 2)) (vD 3))))
  nxF)
  nxF)
  (seqF (asgF 4 (lstD nilD))
  (seqF (forF (itR1 (vD 2)) (pName 5) b__law_numbers_1)
  (seqF (retF (vD 4))
  nxF))))))
def f__law_numbers : List D → R D := fnD 7 b__law_numbers
def N__law_is_integer : List Str := ["value"]
abbrev s__law_is_integer : Stmt := top 18
def b__law_is_integer : SD := (seqF (retF (andD (unD (isiG "int") (vD 0)) (notD (unD (isiG "bool") (vD 0)))))
  nxF)
def f__law_is_integer : List D → R D := fnD 1 b__law_is_integer
def N__law_prime : List Str := ["number"]
abbrev s__law_prime : Stmt := top 19
def b__law_prime : SD := (seqF (retF (binD ixG (lstD (consD (cD (.int 2)) (consD (cD (.int 3)) (consD (cD (.int 5)) (consD (cD (.int 7)) (consD (cD (.int 11)) (consD (cD (.int 13)) (consD (cD (.int 17)) (consD (cD (.int 19)) (consD (cD (.int 23)) (consD (cD (.int 29)) (consD (cD (.int 31)) nilD)))))))))))) (binD modI (vD 0) (cD (.int 11)))))
  nxF)
def f__law_prime : List D → R D := fnD 1 b__law_prime
def N__law_samples : List Str := ["script", "at", "longest", "most", "numbers", "p", "length", "samples", "k", "draws", "row", "j"]
abbrev s__law_samples : Stmt := top 20
def b__law_samples_1 : SD := (seqF (asgF 9 (sliceD (callD f__law_numbers (consD (vD 0) (consD (binD addG (binD addG (vD 1) (cD (.int 1))) (binD modI (vD 8) (cD (.int 5)))) (consD (binD mulG (cD (.int 11)) (binD addG (cD (.int 1)) (binD fdivI (vD 8) (cD (.int 5))))) nilD)))) (some (unD negG (cD (.int 11)))) none))
  (seqF (asgF 10 (compD (itR1 (vD 6)) (pName 11) yesT (binD modI (binD ixG (vD 9) (vD 11)) (vD 5))))
  (seqF (ifF (blD (binD eqG (binD modI (binD ixG (vD 4) (cD (.int 3))) (cD (.int 3))) (cD (.int 0))))
  (seqF (asgF 10 (compD (itR1 (vD 6)) (pName 11) yesT (binD ixG (lstD (consD (cD (.int 0)) (consD (binD modI (binD ixG (vD 9) (vD 11)) (vD 5)) nilD))) (binD modI (binD fdivI (binD ixG (vD 9) (vD 11)) (cD (.int 31))) (cD (.int 2))))))
  nxF)
  nxF)
  (seqF (ifF (andT (blD (binD gtG (vD 8) (cD (.int 0)))) (blD (binD eqG (binD modI (binD ixG (vD 9) (cD (.int 10))) (cD (.int 4))) (cD (.int 0)))))
  (seqF (asgF 10 (compD (itR1 (vD 6)) (pName 11) yesT (binD modI (binD addG (binD mulG (binD ixG (vD 9) (cD (.int 0))) (binD ixG (binD ixG (vD 7) (binD modI (binD ixG (vD 9) (cD (.int 1))) (vD 8))) (vD 11))) (binD mulG (binD ixG (vD 9) (cD (.int 2))) (binD ixG (binD ixG (vD 7) (cD (.int 0))) (vD 11)))) (vD 5))))
  nxF)
  nxF)
  (seqF (appF 7 (vD 10))
  nxF)))))
def b__law_samples : SD := (seqF (asgF 4 (callD f__law_numbers (consD (vD 0) (consD (vD 1) (consD (cD (.int 6)) nilD)))))
  (seqF (asgF 5 (callD f__law_prime (consD (binD ixG (lstD (consD (binD ixG (vD 4) (cD (.int 0))) (consD (binD modI (binD ixG (vD 4) (cD (.int 0))) (cD (.int 4))) nilD))) (binD modI (binD ixG (vD 4) (cD (.int 4))) (cD (.int 2)))) nilD)))
  (seqF (asgF 6 (binD addG (cD (.int 1)) (binD modI (binD ixG (vD 4) (cD (.int 1))) (vD 2))))
  (seqF (asgF 7 (lstD nilD))
  (seqF (forF (itR1 (binD modI (binD ixG (vD 4) (cD (.int 2))) (binD addG (vD 3) (cD (.int 1))))) (pName 8) b__law_samples_1)
  (seqF (retF (tupD (consD (vD 5) (consD (vD 6) (consD (vD 7) nilD)))))
  nxF))))))
def f__law_samples : List D → R D := fnD 12 b__law_samples
def N__law_reduced : List Str := ["p", "length", "samples", "rows", "row", "found", "place", "leading", "first", "factor", "c", "entry", "j"]
abbrev s__law_reduced : Stmt := top 21
def b__law_reduced_1 : SD := (seqF (asgF 7 (compD (itL (vD 3)) (pName 4) (blD (binD neG (binD ixG (vD 4) (vD 6)) (cD (.int 0)))) (vD 4)))
  (seqF (ifF (blD (binD neG (vD 7) (lstD nilD)))
  (seqF (asgF 8 (binD ixG (vD 7) (cD (.int 0))))
  (seqF (asgF 9 (binD ixG (compD (itR2 (cD (.int 1)) (vD 0)) (pName 10) (blD (binD eqG (binD modI (binD mulG (vD 10) (binD ixG (vD 8) (vD 6))) (vD 0)) (cD (.int 1)))) (vD 10)) (cD (.int 0))))
  (seqF (asgF 8 (compD (itL (vD 8)) (pName 11) yesT (binD modI (binD mulG (vD 9) (vD 11)) (vD 0))))
  (seqF (asgF 3 (compD (itL (vD 3)) (pName 4) yesT (compD (itR1 (vD 1)) (pName 12) yesT (binD modI (binD subI (binD ixG (vD 4) (vD 12)) (binD mulG (binD ixG (vD 4) (vD 6)) (binD ixG (vD 8) (vD 12)))) (vD 0)))))
  (seqF (asgF 5 (binD addG (compD (itL (vD 5)) (pName 4) yesT (compD (itR1 (vD 1)) (pName 12) yesT (binD modI (binD subI (binD ixG (vD 4) (vD 12)) (binD mulG (binD ixG (vD 4) (vD 6)) (binD ixG (vD 8) (vD 12)))) (vD 0)))) (lstD (consD (vD 8) nilD))))
  nxF)))))
  nxF)
  nxF))
def b__law_reduced : SD := (seqF (asgF 3 (compD (itL (vD 2)) (pName 4) yesT (unD listG (vD 4))))
  (seqF (asgF 5 (lstD nilD))
  (seqF (forF (itR1 (vD 1)) (pName 6) b__law_reduced_1)
  (seqF (retF (vD 5))
  nxF))))
def f__law_reduced : List D → R D := fnD 13 b__law_reduced
def N__law_led : List Str := ["reduced_rows", "found", "row", "place"]
abbrev s__law_led : Stmt := top 22
def b__law_led_1 : SD := (seqF (appF 1 (binD ixG (compD (itR1 (unD lenG (vD 2))) (pName 3) (blD (binD neG (binD ixG (vD 2) (vD 3)) (cD (.int 0)))) (vD 3)) (cD (.int 0))))
  nxF)
def b__law_led : SD := (seqF (asgF 1 (lstD nilD))
  (seqF (forF (itL (vD 0)) (pName 2) b__law_led_1)
  (seqF (retF (vD 1))
  nxF)))
def f__law_led : List D → R D := fnD 4 b__law_led
def N__law_dot : List Str := ["p", "first", "second", "j"]
abbrev s__law_dot : Stmt := top 23
def b__law_dot : SD := (seqF (retF (binD modI (unD sumG (compD (itR1 (unD lenG (vD 1))) (pName 3) yesT (binD mulG (binD ixG (vD 1) (vD 3)) (binD ixG (vD 2) (vD 3))))) (vD 0)))
  nxF)
def f__law_dot : List D → R D := fnD 4 b__law_dot
def N__law_sum : List Str := ["p", "length", "samples", "factors", "k", "j"]
abbrev s__law_sum : Stmt := top 24
def b__law_sum : SD := (seqF (retF (compD (itR1 (vD 1)) (pName 5) yesT (binD modI (unD sumG (compD (itR1 (unD lenG (vD 2))) (pName 4) yesT (binD mulG (binD ixG (vD 3) (vD 4)) (binD ixG (binD ixG (vD 2) (vD 4)) (vD 5))))) (vD 0))))
  nxF)
def f__law_sum : List D → R D := fnD 6 b__law_sum
def N__law_is_row : List Str := ["p", "length", "value", "entry"]
abbrev s__law_is_row : Stmt := top 25
def b__law_is_row : SD := (seqF (ifF (orT (notT (trD (unD (isiG "list") (vD 2)))) (blD (binD neG (unD lenG (vD 2)) (vD 1))))
  (seqF (retF (cD (.bool false)))
  nxF)
  nxF)
  (seqF (retF (binD eqG (compD (itL (vD 2)) (pName 3) (orT (notT (trD (callD f__law_is_integer (consD (vD 3) nilD)))) (notT (blD (chainD leG ltG (cD (.int 0)) (vD 3) (vD 0))))) (vD 3)) (lstD nilD)))
  nxF))
def f__law_is_row : List D → R D := fnD 4 b__law_is_row
def N__law_due : List Str := ["p", "length", "samples", "row", "paper", "sample"]
abbrev s__law_due : Stmt := top 26
def b__law_due : SD := (seqF (ifF (orT (notT (trD (unD (isiG "tuple") (vD 4)))) (orT (blD (binD neG (unD lenG (vD 4)) (cD (.int 2)))) (notT (trD (unD (isiG "str") (binD ixG (vD 4) (cD (.int 0))))))))
  (seqF (retF (cD (.bool false)))
  nxF)
  nxF)
  (seqF (ifF (blD (binD eqG (binD ixG (vD 4) (cD (.int 0))) (cD (.str "sum"))))
  (seqF (retF (andD (callD f__law_is_row (consD (vD 0) (consD (unD lenG (vD 2)) (consD (binD ixG (vD 4) (cD (.int 1))) nilD)))) (binD eqG (callD f__law_sum (consD (vD 0) (consD (vD 1) (consD (vD 2) (consD (binD ixG (vD 4) (cD (.int 1))) nilD))))) (vD 3))))
  nxF)
  nxF)
  (seqF (ifF (orT (blD (binD neG (binD ixG (vD 4) (cD (.int 0))) (cD (.str "weights")))) (orT (notT (trD (callD f__law_is_row (consD (vD 0) (consD (vD 1) (consD (binD ixG (vD 4) (cD (.int 1))) nilD)))))) (blD (binD eqG (callD f__law_dot (consD (vD 0) (consD (binD ixG (vD 4) (cD (.int 1))) (consD (vD 3) nilD)))) (cD (.int 0))))))
  (seqF (retF (cD (.bool false)))
  nxF)
  nxF)
  (seqF (retF (binD eqG (compD (itL (vD 2)) (pName 5) (blD (binD neG (callD f__law_dot (consD (vD 0) (consD (binD ixG (vD 4) (cD (.int 1))) (consD (vD 5) nilD)))) (cD (.int 0)))) (vD 5)) (lstD nilD)))
  nxF))))
def f__law_due : List D → R D := fnD 6 b__law_due
def N__law_members : List Str := ["p", "length", "samples", "rows", "led", "found", "free", "place", "weights", "k"]
abbrev s__law_members : Stmt := top 27
def b__law_members_1 : SD := (seqF (setF 8 (binD modI (binD subI (vD 0) (binD ixG (binD ixG (vD 3) (vD 9)) (vD 6))) (vD 0)) (binD ixG (vD 4) (vD 9)))
  nxF)
def b__law_members_2 : SD := (seqF (asgF 8 (binD mulG (lstD (consD (cD (.int 0)) nilD)) (vD 1)))
  (seqF (setF 8 (cD (.int 1)) (vD 6))
  (seqF (forF (itR1 (unD lenG (vD 3))) (pName 9) b__law_members_1)
  (seqF (appF 5 (vD 8))
  nxF))))
def b__law_members : SD := (seqF (asgF 3 (callD f__law_reduced (consD (vD 0) (consD (vD 1) (consD (vD 2) nilD)))))
  (seqF (asgF 4 (callD f__law_led (consD (vD 3) nilD)))
  (seqF (asgF 5 (lstD nilD))
  (seqF (forF (itL (compD (itR1 (vD 1)) (pName 7) (blD (binD (inG true) (vD 7) (vD 4))) (vD 7))) (pName 6) b__law_members_2)
  (seqF (retF (vD 5))
  nxF)))))
def f__law_members : List D → R D := fnD 10 b__law_members
def N__law_bent : List Str := ["p", "value", "numbers", "found", "at", "spot", "entry"]
abbrev s__law_bent : Stmt := top 28
def b__law_bent_1 : SD := (seqF (appF 3 (binD addG (binD addG (sliceD (vD 1) none (some (vD 5))) (lstD (consD (vD 6) nilD))) (sliceD (vD 1) (some (binD addG (vD 5) (cD (.int 1)))) none)))
  nxF)
def b__law_bent_2 : SD := (seqF (forF (itL (lstD (consD (binD modI (binD addG (binD ixG (vD 1) (vD 5)) (cD (.int 1))) (vD 0)) (consD (binD addG (binD ixG (vD 1) (vD 5)) (vD 0)) (consD (binD subI (binD ixG (vD 1) (vD 5)) (vD 0)) (consD (binD eqG (binD ixG (vD 1) (vD 5)) (cD (.int 1))) (consD (cD .none) (consD (unD strG (binD ixG (vD 1) (vD 5))) nilD)))))))) (pName 6) b__law_bent_1)
  nxF)
def b__law_bent : SD := (seqF (asgF 3 (lstD (consD (vD 1) (consD (sliceD (vD 1) none (some (unD negG (cD (.int 1))))) (consD (binD addG (vD 1) (lstD (consD (cD (.int 0)) nilD))) (consD (unD tupleG (vD 1)) (consD (cD .none) (consD (lstD nilD) (consD (cD (.str "0")) (consD (lstD (consD (vD 1) nilD)) nilD))))))))))
  (seqF (ifF (blD (binD neG (vD 1) (lstD nilD)))
  (seqF (asgF 4 (binD modI (binD ixG (vD 2) (cD (.int 0))) (unD lenG (vD 1))))
  (seqF (forF (itL (lstD (consD (vD 4) (consD (binD subI (unD lenG (vD 1)) (cD (.int 1))) nilD)))) (pName 5) b__law_bent_2)
  nxF))
  nxF)
  (seqF (retF (vD 3))
  nxF)))
def f__law_bent : List D → R D := fnD 7 b__law_bent
def N_law : List Str := ["script", "turn", "numbers", "great", "p", "length", "samples", "factors", "k", "row", "other", "j", "members", "values", "weights", "wanted", "papers", "value", "paper", "handed", "sample", "given", "told"]
abbrev s_law : Stmt := top 29
def b_law_1 : SD := (seqF (asgF 13 (binD addG (binD addG (vD 13) (callD f__law_bent (consD (vD 4) (consD (vD 14) (consD (sliceD (vD 2) (some (cD (.int 33))) none) nilD))))) (lstD (consD (compD (itR1 (vD 5)) (pName 11) yesT (binD modI (binD mulG (binD ixG (vD 14) (vD 11)) (cD (.int 2))) (vD 4))) nilD))))
  nxF)
def b_law_2 : SD := (seqF (asgF 19 (compD (itL (vD 6)) (pName 20) yesT (unD listG (vD 20))))
  (seqF (asgF 21 (unD listG (vD 15)))
  (seqF (asgF 22 (callD f_shows_follow (consD (vD 4) (consD (vD 5) (consD (vD 19) (consD (vD 21) (consD (vD 18) nilD)))))))
  (seqF (ifF (orT (notT (trD (unD (isiG "bool") (vD 22)))) (orT (blD (binD neG (vD 22) (callD f__law_due (consD (vD 4) (consD (vD 5) (consD (vD 6) (consD (vD 15) (consD (vD 18) nilD)))))))) (orT (blD (binD neG (vD 19) (vD 6))) (blD (binD neG (vD 21) (vD 15))))))
  (seqF (retF (cD (.bool false)))
  nxF)
  nxF)
  nxF))))
def b_law_3 : SD := (seqF (asgF 16 (binD addG (compD (itL (vD 13)) (pName 17) yesT (tupD (consD (cD (.str "sum")) (consD (vD 17) nilD)))) (compD (itL (vD 13)) (pName 17) yesT (tupD (consD (cD (.str "weights")) (consD (vD 17) nilD))))))
  (seqF (asgF 16 (binD addG (vD 16) (lstD (consD (cD .none) (consD (tupD nilD) (consD (cD (.str "sum")) (consD (tupD (consD (cD (.str "sum")) nilD)) (consD (tupD (consD (cD (.str "sums")) (consD (vD 7) nilD))) (consD (tupD (consD (cD (.str "sum")) (consD (vD 7) (consD (cD (.int 0)) nilD)))) (consD (lstD (consD (cD (.str "sum")) (consD (vD 7) nilD))) (consD (tupD (consD (cD .none) (consD (vD 7) nilD))) (consD (tupD (consD (cD (.str "weights")) (consD (vD 7) nilD))) (consD (tupD (consD (vD 7) (consD (cD (.str "sum")) nilD))) nilD)))))))))))))
  (seqF (forF (itL (vD 16)) (pName 18) b_law_2)
  nxF)))
def b_law_4 : SD := (seqF (asgF 2 (callD f__law_numbers (consD (vD 0) (consD (binD addG (cD (.int 6)) (binD mulG (cD (.int 8)) (vD 1))) (consD (cD (.int 34)) nilD)))))
  (seqF (asgF 3 (unD intG (binD eqG (binD modI (binD ixG (vD 2) (cD (.int 31))) (cD (.int 16))) (cD (.int 0)))))
  (seqF (asgP (pTup 3 (psCons (pName 4) (psCons (pName 5) (psCons (pName 6) psNil)))) (callD f__law_samples (consD (vD 0) (consD (binD mulG (cD (.int 8)) (vD 1)) (consD (binD ixG (lstD (consD (cD (.int 6)) (consD (cD (.int 10)) nilD))) (vD 3)) (consD (binD ixG (lstD (consD (cD (.int 5)) (consD (cD (.int 30)) nilD))) (vD 3)) nilD))))))
  (seqF (asgF 7 (compD (itR1 (unD lenG (vD 6))) (pName 8) yesT (binD modI (binD ixG (vD 2) (vD 8)) (vD 4))))
  (seqF (asgF 9 (callD f__law_sum (consD (vD 4) (consD (vD 5) (consD (vD 6) (consD (vD 7) nilD))))))
  (seqF (asgF 10 (compD (itR1 (vD 5)) (pName 11) yesT (binD modI (binD ixG (vD 2) (binD subI (cD (.int 30)) (vD 11))) (vD 4))))
  (seqF (asgF 12 (callD f__law_members (consD (vD 4) (consD (vD 5) (consD (vD 6) nilD)))))
  (seqF (asgF 13 (binD addG (callD f__law_bent (consD (vD 4) (consD (vD 7) (consD (sliceD (vD 2) (some (cD (.int 32))) none) nilD)))) (callD f__law_bent (consD (vD 4) (consD (compD (itR1 (vD 5)) (pName 11) yesT (binD modI (binD ixG (vD 2) (vD 11)) (vD 4))) (consD (sliceD (vD 2) (some (cD (.int 32))) none) nilD))))))
  (seqF (forF (itL (binD addG (sliceD (vD 12) none (some (cD (.int 2)))) (sliceD (vD 12) (some (unD negG (cD (.int 1)))) none))) (pName 14) b_law_1)
  (seqF (forF (itL (sliceD (lstD (consD (binD ixG (lstD (consD (vD 9) (consD (vD 10) nilD))) (vD 1)) (consD (binD ixG (lstD (consD (vD 10) (consD (vD 9) nilD))) (vD 1)) nilD))) none (some (binD addG (cD (.int 1)) (vD 3))))) (pName 15) b_law_3)
  nxF))))))))))
def b_law : SD := (seqF (forF (itR1 (cD (.int 2))) (pName 1) b_law_4)
  (seqF (retF (cD (.bool true)))
  nxF))
def f_law : List D → R D := fnD 23 b_law
end K64

namespace K64
open PySem PySem.Spec L2 DL
theorem num_step (s : D) (at_ : Int) (c : D) (cell : Int) (xs : List Int) (k : Int) (o : Option D) (h : xs.length + 1 ≤ 16777216) :
    ∃ cell' v o', b__law_numbers_1 [some s, some (.int at_), some c, some (.int cell), some (il xs), some (.int k), o] = .nx [some s, some (.int at_), some c, some (.int cell'), some (il (xs ++ [v])), some (.int k), o'] ∧ 0 ≤ v ∧ v < 1009 := by
  have hp : powI (.int 10) (.int 18) = some (.int 1000000000000000000) := rfl
  unfold b__law_numbers_1
  by_cases hc : 1000000000000000000 ≤ cell
  · simp [hp, hc, e_appI (xs := xs), setM_il h]
    exact ⟨_, _, ⟨rfl, rfl⟩, by omega, by omega⟩
  · have : ∀ x : Int, -18446744073709551616 < x % 2147483647 ∧ x % 2147483647 < 18446744073709551616 := fun x => by omega
    simp [hp, hc, e_appI (xs := xs), setM_il h, this]
    exact ⟨_, _, ⟨rfl, rfl⟩, by omega, by omega⟩
theorem num_loop (s : D) (at_ : Int) (c : D) (cell : Int) (n : Nat) (hn : n ≤ 1000000) : ∃ e' xs, loopF (pName 5) b__law_numbers_1 (rgList 0 n) [some s, some (.int at_), some c, some (.int cell), some (il []), none, none] = .nx e' ∧ e'[4]? = some (some (il xs)) ∧ xs.length = n ∧ ∀ x ∈ xs, 0 ≤ x ∧ x < 1009 := by
  obtain ⟨e', h1, cell', xs, o5, o6, rfl, h3, h4⟩ := loopF_inv (p := pName 5) (b := b__law_numbers_1) (enc := fun i : Nat => (PyData.int (0 + (i : Int)))) (xs := List.range n) (e := [some s, some (.int at_), some c, some (.int cell), some (il []), none, none])
    (fun left e => ∃ cell xs o5 o6, e = [some s, some (.int at_), some c, some (.int cell), some (il xs), o5, o6] ∧ xs.length + left.length = n ∧ ∀ x ∈ xs, 0 ≤ x ∧ x < 1009)
    ⟨cell, [], none, none, rfl, by simp, by simp⟩ fun k left e => by
      rintro ⟨cell, xs, o5, o6, rfl, h1, h2⟩
      have hl : xs.length + 1 ≤ 16777216 := by simp at h1; omega
      obtain ⟨cell', v, o', e1, v0, v1⟩ := num_step s at_ c cell xs (0 + (k : Int)) o6 hl
      refine ⟨_, _, rfl, .inl e1, cell', xs ++ [v], _, o', rfl, by simp at h1 ⊢; omega, fun x hx => ?_⟩
      rcases List.mem_append.mp hx with hx | hx
      · exact h2 x hx
      · simp at hx; subst hx; exact ⟨v0, v1⟩
  exact ⟨_, xs, h1, rfl, by simpa using h3, h4⟩
theorem law_numbers (ns : List Int) (at_ count : Int) (h0 : 0 ≤ at_) (hc : 0 ≤ count ∧ count ≤ 1000000) : ∃ xs : List Int, f__law_numbers [scD ns, .int at_, .int count] = .ok (il xs) ∧ xs.length = count.toNat ∧ ∀ x ∈ xs, 0 ≤ x ∧ x < 1009 := by
  have ok : rgOk count = true := rgOk_of (by omega)
  have fin : ∀ cell : Int, ∃ xs : List Int, fEnd (thenF (loopF (pName 5) b__law_numbers_1 (rgList 0 count.toNat) [some (scD ns), some (.int at_), some (.int count), some (.int cell), some (il []), none, none]) (seqF (retF (vD 4)) nxF)) = .ok (il xs) ∧ xs.length = count.toNat ∧ ∀ x ∈ xs, 0 ≤ x ∧ x < 1009 := fun cell => by
    obtain ⟨e', xs, h1, h2, h3, h4⟩ := num_loop (scD ns) at_ (.int count) cell count.toNat (by omega)
    refine ⟨xs, ?_, h3, h4⟩
    rw [h1]
    simp [h2]
  have key : ∃ cell : Int, f__law_numbers [scD ns, .int at_, .int count] = fEnd (thenF (loopF (pName 5) b__law_numbers_1 (rgList 0 count.toNat) [some (scD ns), some (.int at_), some (.int count), some (.int cell), some (il []), none, none]) (seqF (retF (vD 4)) nxF)) := by
    have e0 : ∀ i : Int, lenG (scD ns) = some (.int ns.length) := fun _ => by unfold scD; rw [lenG_scr]; simp
    by_cases ha : at_ < ns.length
    · have e1 : ixG (scD ns) (.int at_) = some (.int (gI ns at_.toNat)) := by
        have := ixG_il h0 ha
        exact this
      by_cases hz : gI ns at_.toNat < 0
      · exact ⟨1 - 2 * gI ns at_.toNat, by simp [f__law_numbers, b__law_numbers, e0 0, ha, e1, hz, ok]; rfl⟩
      · exact ⟨gI ns at_.toNat, by simp [f__law_numbers, b__law_numbers, e0 0, ha, e1, hz, ok]; rfl⟩
    · have hz : ¬ (1000003 * (at_ + 1) < 0) := by omega
      exact ⟨1000003 * (at_ + 1), by simp [f__law_numbers, b__law_numbers, e0 0, ha, hz, ok]; rfl⟩
  obtain ⟨cell, e⟩ := key
  rw [e]
  exact fin cell
end K64

namespace K64
open PySem PySem.Spec L2 DL
def inR (a b : Int) : D → Bool
  | .int i => decide (a ≤ i) && decide (i ≤ b)
  | _ => false
theorem whole (d : D) (h : d.plain = true) : f_is_whole [d] = .ok (.bool (isI d)) := by
  cases d <;> simp [f_is_whole, b_is_whole, isI]
  simp [PyData.plain] at h
theorem integer (d : D) (h : d.plain = true) : f__law_is_integer [d] = .ok (.bool (isI d)) := by
  cases d <;> simp [f__law_is_integer, b__law_is_integer, isI]
  simp [PyData.plain] at h
theorem from_to (d : D) (a b : Int) (h : d.plain = true) : f_is_from_to [d, .int a, .int b] = .ok (.bool (inR a b d)) := by
  have hw := whole d h
  cases d with
  | int i =>
    by_cases h1 : a ≤ i <;> simp [f_is_from_to, b_is_from_to, hw, isI, inR, h1]
  | _ => simp [f_is_from_to, b_is_from_to, hw, isI, inR]
/-- a list of n numbers from 0 to p - 1 -/
def isRow (p : Int) (n : Int) : D → Bool
  | .list ds => decide ((ds.length : Int) = n) && ds.all (inR 0 (p - 1))
  | _ => false
theorem plain_mem {ds : List D} (h : (PyData.list ds).plain = true) : ∀ d ∈ ds, d.plain = true := plainAll_iff.mp (by simpa [PyData.plain] using h)
theorem are_numbers (p n : Int) (v : D) (h : v.plain = true) : f_are_numbers [.int p, v, .int n] = .ok (.bool (isRow p n v)) := by
  cases v with
  | list ds =>
    have hc : compD (itL (vD 1)) (pName 3) yesT (callD f_is_from_to (consD (vD 3) (consD (cD (.int 0)) (consD (binD subI (vD 0) (cD (.int 1))) nilD)))) [some (.int p), some (.list ds), some (.int n), none] = .ok (.list (ds.map fun d => .bool (inR 0 (p - 1) d))) :=
      compD_map (enc := fun d => d) (xs := ds) (by simp) fun d hd => by
        have := from_to d 0 (p - 1) (plain_mem h d hd)
        simp [stepC, this]
    by_cases hn : (ds.length : Int) = n
    · simp [f_are_numbers, b_are_numbers, isRow, hn, hc, allG_lam]
    · simp [f_are_numbers, b_are_numbers, isRow, hn]
  | dict _ => simp [PyData.plain] at h
  | _ => simp [f_are_numbers, b_are_numbers, isRow]
theorem is_row (p n : Int) (v : D) (h : pl 20 v) : f__law_is_row [.int p, .int n, v] = .ok (.bool (isRow p n v)) := by
  cases v with
  | list ds => 
    have hc : compD (itL (vD 2)) (pName 3) (orT (notT (trD (callD f__law_is_integer (consD (vD 3) nilD)))) (notT (blD (chainD leG ltG (cD (.int 0)) (vD 3) (vD 0))))) (vD 3) [some (.int p), some (.int n), some (.list ds), none] = .ok (.list ((ds.filter fun d => !inR 0 (p - 1) d).map fun d => d)) :=
      compD_filter (enc := fun d => d) (xs := ds) (by simp) fun d hd => by
        have hi := integer d (plain_mem h.1 d hd)
        cases d with
        | int i =>
          simp [stepC, hi, isI, inR]
          by_cases h1 : 0 ≤ i
          · by_cases h2 : i < p
            · simp [h1, h2, show i ≤ p - 1 by omega]
            · simp [h1, h2, show ¬ i ≤ p - 1 by omega]
          · simp [h1, Int.not_le.mp h1]
        | _ => simp [stepC, hi, isI, inR]
    have hpl : okD (.list (ds.filter fun d => !inR 0 (p - 1) d)) = true := (pl_list (n := 19) fun d hd => pl_list_iff.mp h d (List.mem_filter.mp hd).1).ok (by decide)
    by_cases hn : (ds.length : Int) = n
    · simp [f__law_is_row, b__law_is_row, isRow, hn, hc, eqG_nil _ hpl, filter_none]
    · simp [f__law_is_row, b__law_is_row, isRow, hn]
  | dict _ => simp [PyData.plain, pl] at h
  | _ => simp [f__law_is_row, b__law_is_row, isRow]
/-- what a row is -/
def Row (p : Int) (n : Nat) (r : List Int) : Prop := r.length = n ∧ ∀ x ∈ r, 0 ≤ x ∧ x < p
theorem isRow_iff {p n : Int} {v : D} (h : isRow p n v = true) : ∃ xs : List Int, v = il xs ∧ (xs.length : Int) = n ∧ ∀ x ∈ xs, 0 ≤ x ∧ x < p := by
  cases v with
  | list ds =>
    simp only [isRow, Bool.and_eq_true, decide_eq_true_eq, List.all_eq_true] at h
    obtain ⟨h1, h2⟩ := h
    have : ∃ xs : List Int, ds = xs.map .int ∧ ∀ x ∈ xs, 0 ≤ x ∧ x < p := by
      clear h1
      induction ds with
      | nil => exact ⟨[], rfl, by simp⟩
      | cons d ds ih =>
        obtain ⟨xs, e, h⟩ := ih fun x hx => h2 x (by simp [hx])
        have hd := h2 d (by simp)
        cases d with
        | int i =>
          simp [inR] at hd
          exact ⟨i :: xs, by rw [e]; rfl, fun x hx => by
            rcases List.mem_cons.mp hx with rfl | hx
            · omega
            · exact h x hx⟩
        | _ => simp [inR] at hd
    obtain ⟨xs, rfl, h3⟩ := this
    exact ⟨xs, rfl, by simpa using h1, h3⟩
  | _ => simp [isRow] at h
theorem mul_ok {a b : Int} (h : 0 ≤ a ∧ a < 2000) : mulG (.int a) (.int b) = some (.int (a * b)) := mulG_int (mulOk_l (by omega))
theorem mul_ok' {a b : Int} (h : 0 ≤ b ∧ b < 2000) : mulG (.int a) (.int b) = some (.int (a * b)) := mulG_int (mulOk_r (by omega))
theorem multiple (p c : Int) (r : List Int) (hp : 0 < p) (hc : 0 ≤ c ∧ c < 2000) : f_multiple [.int p, .int c, il r] = .ok (il (r.map fun x => c * x % p)) := by
  have hq : compD (itL (vD 2)) (pName 3) yesT (binD modI (binD mulG (vD 1) (vD 3)) (vD 0)) [some (.int p), some (.int c), some (il r), none] = .ok (il (r.map fun x => c * x % p)) :=
    compD_il (enc := .int) (xs := r) (by simp [lsOf_il]) fun x hx => by simp [stepC, mul_ok hc, hp]
  simp [f_multiple, b_multiple, hq]
theorem sum_of_rows (p : Int) (a b : List Int) (hp : 0 < p) : f_sum_of_rows [.int p, il a, il b] = .ok (il ((a.zip b).map fun q => (q.1 + q.2) % p)) := by
  have hq : compD (itZ (vD 1) (vD 2)) (pTup 2 (psCons (pName 3) (psCons (pName 4) psNil))) yesT (binD modI (binD addG (vD 3) (vD 4)) (vD 0)) [some (.int p), some (il a), some (il b), none, none] = .ok (il ((a.zip b).map fun q => (q.1 + q.2) % p)) :=
    compD_il (enc := fun q => .tuple [.int q.1, .int q.2]) (xs := a.zip b) (by simp [lsOf_il, zipL_il]) fun x hx => by simp [stepC, hp]
  simp [f_sum_of_rows, b_sum_of_rows, hq]
def dot (a b : List Int) : Int := ((a.zip b).map fun q => q.1 * q.2).sum
theorem sumG_il' (xs : List Int) : sumG (il xs) = some (.int xs.sum) := sumG_il xs
theorem sum_of_products (p : Int) (a b : List Int) (hp : 0 < p) (ha : ∀ x ∈ a, 0 ≤ x ∧ x < 2000) : f_sum_of_products [.int p, il a, il b] = .ok (.int (dot a b % p)) := by
  have hq : compD (itZ (vD 1) (vD 2)) (pTup 2 (psCons (pName 3) (psCons (pName 4) psNil))) yesT (binD mulG (vD 3) (vD 4)) [some (.int p), some (il a), some (il b), none, none] = .ok (il ((a.zip b).map fun q => q.1 * q.2)) :=
    compD_il (enc := fun q => .tuple [.int q.1, .int q.2]) (xs := a.zip b) (by simp [lsOf_il, zipL_il]) fun x hx => by simp [stepC, mul_ok (ha x.1 (List.of_mem_zip hx).1)]
  simp [f_sum_of_products, b_sum_of_products, hq, sumG_il', hp, dot]
theorem gI_mem {xs : List Int} {i : Nat} (h : i < xs.length) : gI xs i ∈ xs := by
  unfold gI
  rw [List.getD_eq_getElem?_getD, List.getElem?_eq_getElem h]
  exact List.getElem_mem h
theorem zip_range : ∀ (a b : List Int) (h : a.length ≤ b.length) (f : Int → Int → Int), (List.range a.length).map (fun j => f (gI a j) (gI b j)) = (a.zip b).map fun q => f q.1 q.2 := by
  intro a b h f
  apply List.ext_getElem?
  intro i
  by_cases hi : i < a.length
  · rw [List.getElem?_map, List.getElem?_range hi, List.getElem?_map, (List.getElem?_zip_eq_some (z := (a[i], b[i]'(by omega)))).mpr ⟨List.getElem?_eq_getElem hi, List.getElem?_eq_getElem (by omega)⟩]
    simp [gI, List.getD_eq_getElem?_getD, List.getElem?_eq_getElem hi, List.getElem?_eq_getElem (show i < b.length by omega)]
  · rw [List.getElem?_eq_none (by simpa using hi), List.getElem?_eq_none (by simp; omega)]
theorem law_dot (p : Int) (a b : List Int) (hp : 0 < p) (ha : ∀ x ∈ a, 0 ≤ x ∧ x < 2000) (hl : a.length ≤ b.length) (hz : a.length ≤ 1000) : f__law_dot [.int p, il a, il b] = .ok (.int (dot a b % p)) := by
  have hq : compD (itR1 (unD lenG (vD 1))) (pName 3) yesT (binD mulG (binD ixG (vD 1) (vD 3)) (binD ixG (vD 2) (vD 3))) [some (.int p), some (il a), some (il b), none] = .ok (il ((List.range a.length).map fun j => gI a j * gI b j)) :=
    compD_il (enc := fun j : Nat => .int (j : Int)) (xs := List.range a.length) (by simp [lenG_il, rgOk_of (show -8000000 ≤ (a.length : Int) ∧ (a.length : Int) ≤ 8000000 by omega), rg0]) fun j hj => by
      have hj := List.mem_range.mp hj
      have h1 := ixG_il (xs := a) (i := (j : Int)) (by omega) (by omega)
      have h2 := ixG_il (xs := b) (i := (j : Int)) (by omega) (by omega)
      simp only [Int.toNat_natCast] at h1 h2
      simp [stepC, h1, h2, mul_ok (ha _ (gI_mem hj))]
  rw [zip_range a b hl (fun x y => x * y)] at hq
  simp [f__law_dot, b__law_dot, hq, sumG_il', hp, dot]
end K64

namespace K64
open PySem PySem.Spec L2 DL
theorem do_fit (p : Int) (a b : List Int) (hp : 0 < p) (ha : ∀ x ∈ a, 0 ≤ x ∧ x < 2000) : f_do_fit [.int p, il a, il b] = .ok (.bool (decide (dot a b % p = 0))) := by
  simp [f_do_fit, b_do_fit, sum_of_products p a b hp ha]
/-! ### sums of multiples -/
def addM (p : Int) (acc : List Int) (q : List Int × Int) : List Int := (acc.zip (q.1.map fun x => q.2 * x % p)).map fun z => (z.1 + z.2) % p
def lin (qs : List (List Int × Int)) (j : Nat) : Int := (qs.map fun q => q.2 * gI q.1 j).sum
theorem gI_map (g : Int → Int) (xs : List Int) {j : Nat} (h : j < xs.length) : gI (xs.map g) j = g (gI xs j) := by
  simp [gI, List.getD_eq_getElem?_getD, List.getElem?_eq_getElem h]
theorem gI_range (g : Nat → Int) {n j : Nat} (h : j < n) : gI ((List.range n).map g) j = g j := by
  simp [gI, List.getD_eq_getElem?_getD, List.getElem?_range h]
theorem ext_gI {xs ys : List Int} (h : xs.length = ys.length) (e : ∀ j, j < xs.length → gI xs j = gI ys j) : xs = ys := by
  apply List.ext_getElem h
  intro i h1 h2
  have := e i h1
  simpa [gI, List.getD_eq_getElem?_getD, List.getElem?_eq_getElem h1, List.getElem?_eq_getElem h2] using this
theorem gI_zip (g : Int × Int → Int) (xs ys : List Int) {j : Nat} (h : j < xs.length) (h' : j < ys.length) : gI ((xs.zip ys).map g) j = g (gI xs j, gI ys j) := by
  have := (List.getElem?_zip_eq_some (z := (xs[j], ys[j]))).mpr ⟨List.getElem?_eq_getElem h, List.getElem?_eq_getElem h'⟩
  simp [gI, List.getD_eq_getElem?_getD, this, List.getElem?_eq_getElem h, List.getElem?_eq_getElem h']
theorem addM_fold (p : Int) (len : Nat) : ∀ (qs : List (List Int × Int)) (A : Nat → Int), (∀ q ∈ qs, q.1.length = len) → qs.foldl (addM p) ((List.range len).map fun j => A j % p) = (List.range len).map fun j => (A j + lin qs j) % p
  | [], A, _ => by simp [lin]
  | q :: qs, A, h => by
    rw [List.foldl_cons]
    have hq := h q (by simp)
    have e : addM p ((List.range len).map fun j => A j % p) q = (List.range len).map fun j => (A j + q.2 * gI q.1 j) % p := by
      unfold addM
      apply ext_gI (by simp [hq])
      intro j hj
      have hj' : j < len := by simpa [hq] using hj
      rw [gI_zip _ _ _ (by simpa using hj') (by simpa [hq] using hj'), gI_range _ hj', gI_range _ hj', gI_map _ _ (by omega)]
      simp [Int.add_emod]
    rw [e, addM_fold p len qs _ fun r hr => h r (by simp [hr])]
    congr 1
    funext j
    simp [lin, Int.add_assoc]
theorem sum_of_multiples (p : Int) (len : Nat) (ss : List (List Int)) (fs : List Int) (hp : 0 < p) (hlen : len ≤ 1000) (hf : ∀ x ∈ fs, 0 ≤ x ∧ x < 2000) (hs : ∀ r ∈ ss, r.length = len) :
    f_sum_of_multiples [.int p, .int len, ill ss, il fs] = .ok (il ((List.range len).map fun j => lin (ss.zip fs) j % p)) := by
  have hz : zipL (ss.map il) (fs.map .int) = (ss.zip fs).map fun q => .tuple [il q.1, .int q.2] := by
    unfold zipL
    rw [List.zip_map, List.map_map]
    rfl
  have loop : ∀ (qs : List (List Int × Int)) (acc : List Int) (o5 o6 : Option D), (∀ q ∈ qs, 0 ≤ q.2 ∧ q.2 < 2000) → ∃ o5' o6', loopF (pTup 2 (psCons (pName 5) (psCons (pName 6) psNil))) b_sum_of_multiples_1 (qs.map fun q => .tuple [il q.1, .int q.2]) [some (.int p), some (.int len), some (ill ss), some (il fs), some (il acc), o5, o6] = .nx [some (.int p), some (.int len), some (ill ss), some (il fs), some (il (qs.foldl (addM p) acc)), o5', o6'] := by
    intro qs
    induction qs with
    | nil => intro acc o5 o6 _; exact ⟨o5, o6, rfl⟩
    | cons q qs ih =>
      intro acc o5 o6 h
      obtain ⟨o5', o6', e⟩ := ih (addM p acc q) (some (il q.1)) (some (.int q.2)) fun r hr => h r (by simp [hr])
      refine ⟨o5', o6', ?_⟩
      rw [List.map_cons, loopF_cons, List.foldl_cons, ← e]
      simp [b_sum_of_multiples_1, multiple p q.2 q.1 hp (h q (by simp)), sum_of_rows p _ _ hp, addM]
  obtain ⟨o5, o6, e⟩ := loop (ss.zip fs) (List.replicate len 0) none none fun q hq => hf _ (List.of_mem_zip hq).2
  have e2 : (ss.zip fs).foldl (addM p) (List.replicate len 0) = (List.range len).map fun j => lin (ss.zip fs) j % p := by
    have e3 : List.replicate len (0 : Int) = (List.range len).map fun j => (fun _ : Nat => (0 : Int)) j % p := by
      apply ext_gI (by simp)
      intro j hj
      have hj : j < len := by simpa using hj
      rw [gI_range _ hj]
      simp [gI, List.getD_eq_getElem?_getD, hj]
    rw [e3, addM_fold p len _ _ fun q hq => hs _ (List.of_mem_zip hq).1]
    simp
  rw [e2] at e
  have hm := mulG_rep 0 (len : Int) (by omega) (by omega)
  simp only [Int.toNat_natCast] at hm
  simp [f_sum_of_multiples, b_sum_of_multiples, hm, lsOf_il, lsOf_ill, hz, e]
theorem gL_mem {xs : List (List Int)} {i : Nat} (h : i < xs.length) : gL xs i ∈ xs := by
  unfold gL
  rw [List.getD_eq_getElem?_getD, List.getElem?_eq_getElem h]
  exact List.getElem_mem h
theorem lin_range (ss : List (List Int)) (fs : List Int) (h : fs.length = ss.length) (j : Nat) : ((List.range ss.length).map fun k => gI fs k * gI (gL ss k) j).sum = lin (ss.zip fs) j := by
  unfold lin
  congr 1
  apply List.ext_getElem?
  intro i
  by_cases hi : i < ss.length
  · rw [List.getElem?_map, List.getElem?_range hi, List.getElem?_map, (List.getElem?_zip_eq_some (z := (ss[i], fs[i]'(by omega)))).mpr ⟨List.getElem?_eq_getElem hi, List.getElem?_eq_getElem (by omega)⟩]
    simp [gI, gL, List.getD_eq_getElem?_getD, List.getElem?_eq_getElem hi, List.getElem?_eq_getElem (show i < fs.length by omega)]
  · rw [List.getElem?_eq_none (by simpa using hi), List.getElem?_eq_none (by simp; omega)]
theorem law_sum (p : Int) (len : Nat) (ss : List (List Int)) (fs : List Int) (hp : 0 < p) (hlen : len ≤ 1000) (hss : ss.length ≤ 1000) (hf : ∀ x ∈ fs, 0 ≤ x ∧ x < 2000) (hs : ∀ r ∈ ss, r.length = len) (hl : fs.length = ss.length) :
    f__law_sum [.int p, .int len, ill ss, il fs] = .ok (il ((List.range len).map fun j => lin (ss.zip fs) j % p)) := by
  have hi : ∀ (j : Nat), j < len → compD (itR1 (unD lenG (vD 2))) (pName 4) yesT (binD mulG (binD ixG (vD 3) (vD 4)) (binD ixG (binD ixG (vD 2) (vD 4)) (vD 5))) [some (.int p), some (.int len), some (ill ss), some (il fs), none, some (.int j)] = .ok (il ((List.range ss.length).map fun k => gI fs k * gI (gL ss k) j)) := fun j hj =>
    compD_il (enc := fun j : Nat => .int (j : Int)) (xs := List.range ss.length) (by simp [lenG_ill, rgOk_of (show -8000000 ≤ (ss.length : Int) ∧ (ss.length : Int) ≤ 8000000 by omega), rg0]) fun k hk => by
      have hk := List.mem_range.mp hk
      have h1 := ixG_il (xs := fs) (i := (k : Int)) (by omega) (by omega)
      have h2 := ixG_ill (xs := ss) (i := (k : Int)) (by omega) (by omega)
      have h3 := ixG_il (xs := gL ss k) (i := (j : Int)) (by omega) (by rw [hs _ (gL_mem hk)]; omega)
      simp only [Int.toNat_natCast] at h1 h2 h3
      simp [stepC, h1, h2, h3, mul_ok (hf _ (gI_mem (show k < fs.length by omega)))]
  have ho : compD (itR1 (vD 1)) (pName 5) yesT (binD modI (unD sumG (compD (itR1 (unD lenG (vD 2))) (pName 4) yesT (binD mulG (binD ixG (vD 3) (vD 4)) (binD ixG (binD ixG (vD 2) (vD 4)) (vD 5))))) (vD 0)) [some (.int p), some (.int len), some (ill ss), some (il fs), none, none] = .ok (il ((List.range len).map fun j => lin (ss.zip fs) j % p)) :=
    compD_il (enc := fun j : Nat => .int (j : Int)) (xs := List.range len) (by simp [rgOk_of (show -8000000 ≤ (len : Int) ∧ (len : Int) ≤ 8000000 by omega), rg0]) fun j hj => by
      have hj := List.mem_range.mp hj
      simp [stepC, hi j hj, sumG_il', lin_range ss fs hl, hp]
  simp [f__law_sum, b__law_sum, ho]
end K64

namespace K64
open PySem PySem.Spec L2 DL
/-- good input -/
structure Inp (p : Int) (len : Nat) (ss : List (List Int)) (row : List Int) : Prop where
  hp : 0 < p ∧ p < 1000
  hlen : len ≤ 100
  hss : ss.length ≤ 100
  hs : ∀ r ∈ ss, Row p len r
  hr : Row p len row
def sumB (p : Int) (len : Nat) (ss : List (List Int)) (row fs : List Int) : Bool := decide ((List.range len).map (fun j => lin (ss.zip fs) j % p) = row)
/-- what is due of one value: sum -/
def dueS (p : Int) (len : Nat) (ss : List (List Int)) (row : List Int) (v : D) : Bool := match isRow p ss.length v with
  | false => false
  | true => (match v with
    | .list ds => (match intsOf ds with
      | some fs => sumB p len ss row fs
      | none => false)
    | _ => false)
def dueW (p : Int) (len : Nat) (ss : List (List Int)) (row : List Int) (v : D) : Bool := match isRow p len v with
  | false => false
  | true => (match v with
    | .list ds => (match intsOf ds with
      | some ws => !decide (dot ws row % p = 0) && ss.all fun s => decide (dot ws s % p = 0)
      | none => false)
    | _ => false)
theorem intsOf_map (xs : List Int) : intsOf (xs.map .int) = some xs := by
  induction xs with
  | nil => rfl
  | cons x xs ih => rw [List.map_cons]; unfold intsOf; rw [ih]; rfl
variable {p : Int} {len : Nat} {ss : List (List Int)} {row : List Int}
theorem row_b {xs : List Int} {n : Nat} (hp : p < 1000) (h : ∀ x ∈ xs, 0 ≤ x ∧ x < p) : ∀ x ∈ xs, 0 ≤ x ∧ x < 2000 := fun x hx => by have := h x hx; omega
theorem is_sum_paper (I : Inp p len ss row) (v : D) (h : v.plain = true) : f_is_sum_paper [.int p, .int len, ill ss, il row, v] = .ok (.bool (dueS p len ss row v)) := by
  have ha := are_numbers p ss.length v h
  cases hv : isRow p ss.length v with
  | false => simp [f_is_sum_paper, b_is_sum_paper, ha, hv, lenG_ill, dueS]
  | true =>
    obtain ⟨fs, rfl, h1, h2⟩ := isRow_iff hv
    have hs := sum_of_multiples p len ss fs I.hp.1 (by have := I.hlen; omega) (row_b (n := 0) I.hp.2 h2) fun r hr => (I.hs r hr).1
    simp [f_is_sum_paper, b_is_sum_paper, ha, hv, lenG_ill, hs, eqG_il, dueS, sumB]
    rw [show il fs = .list (fs.map .int) from rfl]
    simp [intsOf_map]
theorem is_weights_paper (I : Inp p len ss row) (v : D) (h : v.plain = true) : f_is_weights_paper [.int p, .int len, ill ss, il row, v] = .ok (.bool (dueW p len ss row v)) := by
  have ha := are_numbers p len v h
  cases hv : isRow p len v with
  | false => simp [f_is_weights_paper, b_is_weights_paper, ha, hv, dueW]
  | true =>
    obtain ⟨ws, rfl, h1, h2⟩ := isRow_iff hv
    have hw := row_b (n := 0) I.hp.2 h2
    have hd := do_fit p ws row I.hp.1 hw
    have hc : compD (itL (vD 2)) (pName 5) yesT (callD f_do_fit (consD (vD 0) (consD (vD 4) (consD (vD 5) nilD)))) [some (.int p), some (.int len), some (ill ss), some (il row), some (il ws), none] = .ok (.list (ss.map fun s => .bool (decide (dot ws s % p = 0)))) :=
      compD_map (enc := il) (xs := ss) (by simp [lsOf_ill]) fun s hs => by simp [stepC, do_fit p ws s I.hp.1 hw]
    by_cases hz : dot ws row % p = 0
    · simp [f_is_weights_paper, b_is_weights_paper, ha, hv, hd, hz, dueW]
      rw [show il ws = .list (ws.map .int) from rfl]
      simp [intsOf_map, hz]
    · simp [f_is_weights_paper, b_is_weights_paper, ha, hv, hd, hz, hc, allG_lam, dueW]
      rw [show il ws = .list (ws.map .int) from rfl]
      simp [intsOf_map, hz]
/-- what is due -/
def due (p : Int) (len : Nat) (ss : List (List Int)) (row : List Int) : D → Bool
  | .tuple [.str s, v] => if s = Str.ofString "sum" then dueS p len ss row v else if s = Str.ofString "weights" then dueW p len ss row v else false
  | _ => false
theorem eqG_str (a b : Str) : eqG (.str a) (.str b) = some (.bool (decide (a = b))) := by
  rw [eqG_pl (okD_str a) (okD_str b)]
  simp [PyData.eqv, Bool.beq_eq_decide_eq]
theorem neG_str (a b : Str) : neG (.str a) (.str b) = some (.bool (!decide (a = b))) := by
  rw [neG_pl (okD_str a) (okD_str b)]
  simp [PyData.eqv, Bool.beq_eq_decide_eq]
theorem mVal_str (a b : Str) : mVal (.str b) (.str a) = if a = b then some (some []) else some none := by
  unfold mVal
  rw [eqG_str]
  by_cases h : a = b <;> simp [h]
theorem mVal_other (d : D) (b : Str) (h : okD d = true) (hs : ∀ s, d ≠ .str s) : mVal (.str b) d = some none := by
  unfold mVal
  rw [eqG_pl h (okD_str b)]
  cases d <;> simp [PyData.eqv]
  exact absurd rfl (hs _)
theorem ne_ws : ¬ (Str.ofString "weights" = Str.ofString "sum") := by decide +kernel
theorem shows_follow (I : Inp p len ss row) (d : D) (h : pl 30 d) : f_shows_follow [.int p, .int len, ill ss, il row, d] = .ok (.bool (due p len ss row d)) := by
  cases d with
  | tuple ds =>
    have hp := pl_tup_iff.mp h
    match ds, hp with
    | [], _ => simp [f_shows_follow, b_shows_follow, casesF, mSeq, mWild, setAll, due]
    | [_], _ => simp [f_shows_follow, b_shows_follow, casesF, mSeq, mWild, setAll, due]
    | _ :: _ :: _ :: _, _ => simp [f_shows_follow, b_shows_follow, casesF, mSeq, mWild, setAll, due]
    | [k, v], hp =>
      have hv := hp v (by simp)
      have hk := (hp k (by simp)).ok (by decide)
      have h1 := is_sum_paper I v hv.1
      have h2 := is_weights_paper I v hv.1
      cases k with
      | str s =>
        by_cases hs : s = Str.ofString "sum"
        · simp [f_shows_follow, b_shows_follow, casesF, mSeq, msCons, mVal_str, hs, mCap, msNil, setAll, due, h1]
        · by_cases hw : s = Str.ofString "weights"
          · simp [f_shows_follow, b_shows_follow, casesF, mSeq, msCons, mVal_str, hw, mCap, msNil, setAll, due, h2, ne_ws]
          · simp [f_shows_follow, b_shows_follow, casesF, mSeq, msCons, mVal_str, hs, hw, mCap, msNil, mWild, setAll, due]
      | _ => 
        simp [f_shows_follow, b_shows_follow, casesF, mSeq, msCons, mVal_other _ _ hk (by intro s; simp), mCap, msNil, mWild, setAll, due]
  | dict _ => simp [PyData.plain, pl] at h
  | _ => simp [f_shows_follow, b_shows_follow, due]
theorem isI_str (d : D) (h : d.plain = true) : isiG "str" d = some (.bool (match d with | .str _ => true | _ => false)) := by
  cases d <;> first | rfl | skip
  simp [PyData.plain] at h
theorem eqG_str' (d : D) (b : Str) (h : okD d = true) : eqG d (.str b) = some (.bool (match d with | .str a => decide (a = b) | _ => false)) := by
  rw [eqG_pl h (okD_str b)]
  cases d <;> simp [PyData.eqv, Bool.beq_eq_decide_eq]
theorem neG_int' (a b : Int) : neG (.int a) (.int b) = some (.bool (!decide (a = b))) := neG_int a b
theorem law_due (I : Inp p len ss row) (d : D) (h : pl 18 d) : f__law_due [.int p, .int len, ill ss, il row, d] = .ok (.bool (due p len ss row d)) := by
  cases d with
  | tuple ds =>
    have hp := pl_tup_iff.mp h
    match ds, hp with
    | [], _ => simp [f__law_due, b__law_due, due]
    | [_], _ => simp [f__law_due, b__law_due, due]
    | _ :: _ :: _ :: ds, _ =>
      have : ¬ ((ds.length : Int) + 1 + 1 + 1 = 2) := by omega
      simp [f__law_due, b__law_due, due, this]
    | [k, v], hp =>
      have hv := hp v (by simp)
      have hk := hp k (by simp)
      have i0 : ixG (.tuple [k, v]) (.int 0) = some k := rfl
      have i1 : ixG (.tuple [k, v]) (.int 1) = some v := rfl
      have l2 : lenG (.tuple [k, v]) = some (.int 2) := rfl
      have h1 := is_row p ss.length v (hv.mono (by decide))
      have h2 := is_row p len v (hv.mono (by decide))
      cases k with
      | str s =>
        by_cases hs : s = Str.ofString "sum"
        · subst hs
          cases hr : isRow p ss.length v with
          | false => simp [f__law_due, b__law_due, i0, i1, l2, h1, hr, due, dueS, lenG_ill, eqG_str]
          | true =>
            obtain ⟨fs, rfl, h3, h4⟩ := isRow_iff hr
            have hsum := law_sum p len ss fs I.hp.1 (by have := I.hlen; omega) (by have := I.hss; omega) (row_b (n := 0) I.hp.2 h4) (fun r hr => (I.hs r hr).1) (by omega)
            simp [f__law_due, b__law_due, i0, i1, l2, h1, hr, due, dueS, lenG_ill, eqG_str, hsum, eqG_il, sumB]
            rw [show il fs = .list (fs.map .int) from rfl]
            simp [intsOf_map]
        · by_cases hw : s = Str.ofString "weights"
          · subst hw
            cases hr : isRow p len v with
            | false => simp [f__law_due, b__law_due, i0, i1, l2, h2, hr, due, dueW, eqG_str, neG_str, hs]
            | true =>
              obtain ⟨ws, rfl, h3, h4⟩ := isRow_iff hr
              have hb := row_b (n := 0) I.hp.2 h4
              have hl := I.hlen
              have hd := law_dot p ws row I.hp.1 hb (by have := I.hr.1; omega) (by omega)
              have hc : compD (itL (vD 2)) (pName 5) (blD (binD neG (callD f__law_dot (consD (vD 0) (consD (binD ixG (vD 4) (cD (.int 1))) (consD (vD 5) nilD)))) (cD (.int 0)))) (vD 5) [some (.int p), some (.int len), some (ill ss), some (il row), some (.tuple [.str (Str.ofString "weights"), il ws]), none] = .ok (.list ((ss.filter fun s => !decide (dot ws s % p = 0)).map il)) :=
                compD_filter (enc := il) (xs := ss) (by simp [lsOf_ill]) fun s hs => by
                  have hds := law_dot p ws s I.hp.1 hb (by have := (I.hs s hs).1; omega) (by omega)
                  by_cases hz : dot ws s % p = 0 <;> simp [stepC, i1, hds, hz]
              have hok : okD (.list ((ss.filter fun s => !decide (dot ws s % p = 0)).map il)) = true := ((pl_ill (n := 0) _).ok (by decide) : okD (ill (ss.filter fun s => !decide (dot ws s % p = 0))) = true)
              by_cases hz : dot ws row % p = 0
              · simp [f__law_due, b__law_due, i0, i1, l2, h2, hr, due, dueW, eqG_str, neG_str, hs, hd, hz]
                rw [show il ws = .list (ws.map .int) from rfl]
                simp [intsOf_map, hz]
              · simp [f__law_due, b__law_due, i0, i1, l2, h2, hr, due, dueW, eqG_str, neG_str, hs, hd, hz, hc, eqG_nil _ hok]
                rw [show il ws = .list (ws.map .int) from rfl]
                simp [intsOf_map, hz]
                exact filter_none _ _
          · simp [f__law_due, b__law_due, i0, i1, l2, due, eqG_str, neG_str, hs, hw]
      | dict _ => simp [PyData.plain, pl] at hk
      | _ => simp [f__law_due, b__law_due, i0, i1, l2, due]
  | dict _ => simp [PyData.plain, pl] at h
  | _ => simp [f__law_due, b__law_due, due]
end K64

namespace K64
open PySem PySem.Spec L2 DL
def P11 : List Int := [2, 3, 5, 7, 11, 13, 17, 19, 23, 29, 31]
theorem P11_b {p : Int} (h : p ∈ P11) : 2 ≤ p ∧ p ≤ 31 := by
  simp [P11] at h; omega
theorem law_prime (n : Int) : ∃ p ∈ P11, f__law_prime [.int n] = .ok (.int p) := by
  have h : ∃ p ∈ P11, ixG (il P11) (.int (n % 11)) = some (.int p) := by
    have h0 : 0 ≤ n % 11 := by omega
    have h1 : n % 11 < 11 := by omega
    refine ⟨_, gI_mem (show (n % 11).toNat < P11.length by simp [P11]; omega), ixG_il h0 (by simp [P11]; omega)⟩
  obtain ⟨p, h1, h2⟩ := h
  refine ⟨p, h1, ?_⟩
  have e : (il P11) = .list [.int 2, .int 3, .int 5, .int 7, .int 11, .int 13, .int 17, .int 19, .int 23, .int 29, .int 31] := rfl
  rw [e] at h2
  simp [f__law_prime, b__law_prime, -ixG_list, h2]
/-- rows drawn by a rule -/
theorem draw_row {i : Nat} {f : ED} {env : DEnv} {it : DEnv → R (List D)} {p : Int} {len : Nat} (hit : it env = .ok (rgList 0 len)) (h : ∀ j : Nat, j < len → ∃ v, f (env.set i (some (.int (j : Int)))) = .ok (.int v) ∧ 0 ≤ v ∧ v < p) : ∃ r, compD it (pName i) yesT f env = .ok (il r) ∧ Row p len r := by
  classical
  let g : Nat → Int := fun j => if hj : j < len then (h j hj).choose else 0
  have hg : ∀ j, j < len → f (env.set i (some (.int (j : Int)))) = .ok (.int (g j)) ∧ 0 ≤ g j ∧ g j < p := fun j hj => by
    have := (h j hj).choose_spec
    simpa [g, hj] using this
  refine ⟨(List.range len).map g, compD_il (enc := fun j : Nat => .int (j : Int)) (by rw [hit, rg0]) fun j hj => ?_, by simp, fun x hx => ?_⟩
  · simp [stepC, (hg j (List.mem_range.mp hj)).1]
  · obtain ⟨j, hj, rfl⟩ := List.mem_map.mp hx
    exact (hg j (List.mem_range.mp hj)).2
theorem gI_b {xs : List Int} {i : Nat} (h : ∀ x ∈ xs, 0 ≤ x ∧ x < 1009) : 0 ≤ gI xs i ∧ gI xs i < 1009 := by
  by_cases hi : i < xs.length
  · exact h _ (gI_mem hi)
  · simp [gI, List.getD_eq_getElem?_getD, List.getElem?_eq_none (Nat.le_of_not_lt hi)]
theorem samples_step (ns : List Int) (at_ : Int) (lo mo : D) (nums : List Int) (p : Int) (len : Nat) (ss : List (List Int)) (k : Nat) (o9 o10 o11 : Option D) (h0 : 0 ≤ at_) (hp : 2 ≤ p ∧ p ≤ 31) (hl : len ≤ 11) (hn : nums.length = 6) (hs : ∀ r ∈ ss, Row p len r) (hk : ss.length = k) (hkk : k ≤ 100) :
    ∃ r o9' o10' o11', b__law_samples_1 [some (scD ns), some (.int at_), some lo, some mo, some (il nums), some (.int p), some (.int len), some (ill ss), some (.int k), o9, o10, o11] =
      .nx [some (scD ns), some (.int at_), some lo, some mo, some (il nums), some (.int p), some (.int len), some (ill (ss ++ [r])), some (.int k), o9', o10', o11'] ∧ Row p len r := by
  obtain ⟨xs, e1, l1, b1⟩ := law_numbers ns (at_ + 1 + (k : Int) % 5) (11 * (1 + (k : Int) / 5)) (by omega) (by omega)
  have hc : cutA xs (some (-11)) none = xs.drop ((-11 : Int) + xs.length).toNat := cutA_neg xs (-11) (by omega)
  obtain ⟨ds, hds⟩ : ∃ ds, ds = cutA xs (some (-11)) none := ⟨_, rfl⟩
  have ld : ds.length = 11 := by rw [hds, hc, List.length_drop]; omega
  have bd : ∀ x ∈ ds, 0 ≤ x ∧ x < 1009 := fun x hx => b1 x (cutA_mem (hds ▸ hx))
  have i9 : ∀ j : Nat, j < 11 → ixG (il ds) (.int (j : Int)) = some (.int (gI ds j)) := fun j hj => by
    have := ixG_il (xs := ds) (i := (j : Int)) (by omega) (by omega)
    simpa using this
  have it6 : ∀ env : DEnv, env[6]? = some (some (.int len)) → itR1 (vD 6) env = .ok (rgList 0 len) := fun env he => by
    simp [he, rgOk_of (show -8000000 ≤ (len : Int) ∧ (len : Int) ≤ 8000000 by omega)]
  have hsl : sliceG (il xs) (some (-11)) none = some (il ds) := by rw [sliceG_il, hds]
  have n3 : ixG (il nums) (.int 3) = some (.int (gI nums 3)) := ixG_il (i := 3) (by omega) (by omega)
  obtain ⟨r1, c1, R1⟩ : ∃ r, compD (itR1 (vD 6)) (pName 11) yesT (binD modI (binD ixG (vD 9) (vD 11)) (vD 5)) [some (scD ns), some (.int at_), some lo, some mo, some (il nums), some (.int p), some (.int len), some (ill ss), some (.int k), some (il ds), o10, o11] = .ok (il r) ∧ Row p len r :=
    draw_row (it6 _ rfl) fun j hj => ⟨gI ds j % p, by simp [i9 j (by omega), show 0 < p by omega], by have := Int.emod_nonneg (gI ds j) (show p ≠ 0 by omega); have := Int.emod_lt_of_pos (gI ds j) (show 0 < p by omega); omega⟩
  have c2 : ∀ o10, ∃ r, compD (itR1 (vD 6)) (pName 11) yesT (binD ixG (lstD (consD (cD (.int 0)) (consD (binD modI (binD ixG (vD 9) (vD 11)) (vD 5)) nilD))) (binD modI (binD fdivI (binD ixG (vD 9) (vD 11)) (cD (.int 31))) (cD (.int 2)))) [some (scD ns), some (.int at_), some lo, some mo, some (il nums), some (.int p), some (.int len), some (ill ss), some (.int k), some (il ds), o10, o11] = .ok (il r) ∧ Row p len r := fun o10 =>
    draw_row (it6 _ rfl) fun j hj => by
      have h1 := Int.emod_nonneg (gI ds j) (show p ≠ 0 by omega)
      have h2 := Int.emod_lt_of_pos (gI ds j) (show 0 < p by omega)
      have h3 : gI ds j / 31 % 2 = 0 ∨ gI ds j / 31 % 2 = 1 := by omega
      rcases h3 with h3 | h3
      · exact ⟨0, by simp [i9 j (by omega), show 0 < p by omega, h3, L2.atI, L2.ixN], by omega, by omega⟩
      · exact ⟨gI ds j % p, by simp [i9 j (by omega), show 0 < p by omega, h3, L2.atI, L2.ixN], h1, h2⟩
  have c3 : 0 < k → ∀ o10, ∃ r, compD (itR1 (vD 6)) (pName 11) yesT (binD modI (binD addG (binD mulG (binD ixG (vD 9) (cD (.int 0))) (binD ixG (binD ixG (vD 7) (binD modI (binD ixG (vD 9) (cD (.int 1))) (vD 8))) (vD 11))) (binD mulG (binD ixG (vD 9) (cD (.int 2))) (binD ixG (binD ixG (vD 7) (cD (.int 0))) (vD 11)))) (vD 5)) [some (scD ns), some (.int at_), some lo, some mo, some (il nums), some (.int p), some (.int len), some (ill ss), some (.int k), some (il ds), o10, o11] = .ok (il r) ∧ Row p len r := fun k0 o10 =>
    draw_row (it6 _ rfl) fun j hj => by
      have h1 := Int.emod_nonneg (gI ds 1) (show (k : Int) ≠ 0 by omega)
      have h2 := Int.emod_lt_of_pos (gI ds 1) (show (0 : Int) < k by omega)
      have d0 := i9 0 (by omega)
      have d1 := i9 1 (by omega)
      have d2 := i9 2 (by omega)
      simp only [Int.cast_ofNat_Int, Int.natCast_zero] at d0 d1 d2
      have s1 := ixG_ill (xs := ss) (i := gI ds 1 % k) h1 (by omega)
      have s0 := ixG_ill (xs := ss) (i := 0) (by omega) (by omega)
      have R1 := hs _ (gL_mem (xs := ss) (i := (gI ds 1 % k).toNat) (by omega))
      have R0 := hs _ (gL_mem (xs := ss) (i := (0 : Int).toNat) (by simp; omega))
      have e1 := ixG_il (xs := gL ss (gI ds 1 % k).toNat) (i := (j : Int)) (by omega) (by rw [R1.1]; omega)
      have e0 := ixG_il (xs := gL ss (0 : Int).toNat) (i := (j : Int)) (by omega) (by rw [R0.1]; omega)
      have b0 := gI_b (i := 0) bd
      have b2 := gI_b (i := 2) bd
      simp only [Int.toNat_natCast, Int.toNat_zero] at e1 e0 s0
      exact ⟨_, by simp [d0, d1, d2, s1, s0, e1, e0, mul_ok (show 0 ≤ gI ds 0 ∧ gI ds 0 < 2000 by omega), mul_ok (show 0 ≤ gI ds 2 ∧ gI ds 2 < 2000 by omega), show 0 < p by omega, show 0 < k from k0]; rfl, Int.emod_nonneg _ (by omega), Int.emod_lt_of_pos _ (by omega)⟩
  have hm : ∀ (r : List Int), ss.length + 1 ≤ 16777216 := fun _ => by omega
  have d10 := i9 10 (by omega)
  simp only [Int.cast_ofNat_Int] at d10
  by_cases q1 : gI nums 3 % 3 = 0
  · obtain ⟨r2, c2, R2⟩ := c2 (some (il r1))
    by_cases k0 : 0 < k
    · by_cases q2 : gI ds 10 % 4 = 0
      · obtain ⟨r3, c3, R3⟩ := c3 k0 (some (il r2))
        exact ⟨r3, _, _, _, by simp [b__law_samples_1, e1, hsl, n3, c1, q1, c2, k0, d10, q2, c3, e_appL (xs := ss), setM_ill (hm r3)]; exact ⟨rfl, rfl, rfl⟩, R3⟩
      · exact ⟨r2, _, _, _, by simp [b__law_samples_1, e1, hsl, n3, c1, q1, c2, k0, d10, q2, e_appL (xs := ss), setM_ill (hm r2)]; exact ⟨rfl, rfl, rfl⟩, R2⟩
    · exact ⟨r2, _, _, _, by simp [b__law_samples_1, e1, hsl, n3, c1, q1, c2, k0, e_appL (xs := ss), setM_ill (hm r2)]; exact ⟨rfl, rfl, rfl⟩, R2⟩
  · by_cases k0 : 0 < k
    · by_cases q2 : gI ds 10 % 4 = 0
      · obtain ⟨r3, c3, R3⟩ := c3 k0 (some (il r1))
        exact ⟨r3, _, _, _, by simp [b__law_samples_1, e1, hsl, n3, c1, q1, k0, d10, q2, c3, e_appL (xs := ss), setM_ill (hm r3)]; exact ⟨rfl, rfl, rfl⟩, R3⟩
      · exact ⟨r1, _, _, _, by simp [b__law_samples_1, e1, hsl, n3, c1, q1, k0, d10, q2, e_appL (xs := ss), setM_ill (hm r1)]; exact ⟨rfl, rfl, rfl⟩, R1⟩
    · exact ⟨r1, _, _, _, by simp [b__law_samples_1, e1, hsl, n3, c1, q1, k0, e_appL (xs := ss), setM_ill (hm r1)]; exact ⟨rfl, rfl, rfl⟩, R1⟩
theorem law_samples (ns : List Int) (at_ lo mo : Int) (h0 : 0 ≤ at_) (hlo : 1 ≤ lo ∧ lo ≤ 10) (hmo : 0 ≤ mo ∧ mo ≤ 30) :
    ∃ p len ss, f__law_samples [scD ns, .int at_, .int lo, .int mo] = .ok (.tuple [.int p, .int (len : Nat), ill ss]) ∧ p ∈ P11 ∧ 1 ≤ len ∧ (len : Int) ≤ lo ∧ (ss.length : Int) ≤ mo ∧ ∀ r ∈ ss, Row p len r := by
  obtain ⟨nums, e1, l1, b1⟩ := law_numbers ns at_ 6 h0 (by omega)
  have l1 : nums.length = 6 := by simpa using l1
  have ix : ∀ j : Nat, j < 6 → ixG (il nums) (.int (j : Int)) = some (.int (gI nums j)) := fun j hj => by
    have := ixG_il (xs := nums) (i := (j : Int)) (by omega) (by omega)
    simpa using this
  have n0 := ix 0 (by omega); have n1 := ix 1 (by omega); have n2 := ix 2 (by omega); have n4 := ix 4 (by omega)
  simp only [Int.cast_ofNat_Int, Int.natCast_zero] at n0 n1 n2 n4
  have hpick : ∃ z, L2.atI [PyData.int (gI nums 0), PyData.int (gI nums 0 % 4)] (gI nums 4 % 2) = some (.int z) := by
    have h3 : gI nums 4 % 2 = 0 ∨ gI nums 4 % 2 = 1 := by omega
    rcases h3 with h3 | h3 <;> rw [h3]
    · exact ⟨_, rfl⟩
    · exact ⟨_, rfl⟩
  obtain ⟨z, hz⟩ := hpick
  obtain ⟨p, hp, e2⟩ := law_prime z
  have pb := P11_b hp
  have b1' := gI_b (i := 1) b1
  have b2' := gI_b (i := 2) b1
  have m1 := Int.emod_nonneg (gI nums 1) (show lo ≠ 0 by omega)
  have m2 := Int.emod_lt_of_pos (gI nums 1) (show 0 < lo by omega)
  have m3 := Int.emod_nonneg (gI nums 2) (show mo + 1 ≠ 0 by omega)
  have m4 := Int.emod_lt_of_pos (gI nums 2) (show 0 < mo + 1 by omega)
  obtain ⟨len, hlen⟩ : ∃ len : Nat, (len : Int) = 1 + gI nums 1 % lo := ⟨(1 + gI nums 1 % lo).toNat, by omega⟩
  obtain ⟨m, hm⟩ : ∃ m : Nat, (m : Int) = gI nums 2 % (mo + 1) := ⟨(gI nums 2 % (mo + 1)).toNat, by omega⟩
  obtain ⟨e', h1, ss, o8, o9, o10, o11, rfl, h3, h4⟩ := loopF_inv (p := pName 8) (b := b__law_samples_1) (enc := fun i : Nat => (PyData.int (i : Int))) (xs := List.range m) (e := [some (scD ns), some (.int at_), some (.int lo), some (.int mo), some (il nums), some (.int p), some (.int len), some (ill []), none, none, none, none])
    (fun left e => ∃ ss o8 o9 o10 o11, e = [some (scD ns), some (.int at_), some (.int lo), some (.int mo), some (il nums), some (.int p), some (.int len), some (ill ss), o8, o9, o10, o11] ∧ (left = (List.range m).drop ss.length ∧ ss.length ≤ m) ∧ ∀ r ∈ ss, Row p len r)
    ⟨[], none, none, none, none, rfl, by simp, by simp⟩ fun k left e => by
      rintro ⟨ss, o8, o9, o10, o11, rfl, ⟨h1, h1'⟩, h2⟩
      have hlt : ss.length < m := by
        rcases Nat.lt_or_ge ss.length m with h | h
        · exact h
        · rw [List.drop_eq_nil_of_le (by simpa using h)] at h1; cases h1
      have hd : (List.range m).drop ss.length = ss.length :: (List.range m).drop (ss.length + 1) := by
        rw [List.drop_eq_getElem_cons (by simpa using hlt)]; simp
      rw [hd] at h1
      obtain ⟨rfl, rfl⟩ := List.cons.inj h1
      obtain ⟨r, o9', o10', o11', e1, R⟩ := samples_step ns at_ (.int lo) (.int mo) nums p len ss ss.length o9 o10 o11 h0 pb (by omega) l1 h2 rfl (by omega)
      refine ⟨_, _, rfl, .inl e1, ss ++ [r], _, _, _, _, rfl, ⟨by simp, by simp; omega⟩, fun x hx => ?_⟩
      rcases List.mem_append.mp hx with hx | hx
      · exact h2 x hx
      · simp at hx; subst hx; exact R
  have hle : ss.length = m := by
    have := congrArg List.length h3.1
    simp at this
    omega
  refine ⟨p, len, ss, ?_, hp, by omega, by omega, by omega, h4⟩
  have hr : rgOk (gI nums 2 % (mo + 1)) = true := rgOk_of (by omega)
  have hmm : (gI nums 2 % (mo + 1)).toNat = m := by omega
  have hnil : il [] = .list [] := rfl
  have hnil2 : ill [] = .list [] := rfl
  rw [hnil2] at h1
  simp [f__law_samples, b__law_samples, e1, n0, n1, n2, n4, hz, e2, show 0 < lo by omega, show 0 < mo + 1 by omega, hr, hmm, rg0, ← hlen, h1]
end K64

namespace K64
open PySem PySem.Spec L2 DL
/-! ### reduced rows -/
def invs (p x : Int) : List Nat := (List.range (p - 1).toNat).filter fun c => decide ((1 + (c : Int)) * x % p = 1)
def inv (p x : Int) : Int := 1 + ((invs p x).headD 0 : Nat)
theorem inv_ok {p x : Int} (hp : p ∈ P11) (hx : 0 < x ∧ x < p) : invs p x ≠ [] ∧ 1 ≤ inv p x ∧ inv p x < p ∧ inv p x * x % p = 1 := by
  have all : ∀ p ∈ P11, ∀ x ∈ (List.range 31).map (fun n : Nat => (n : Int)), 0 < x → x < p → invs p x ≠ [] ∧ 1 ≤ inv p x ∧ inv p x < p ∧ inv p x * x % p = 1 := by decide +kernel
  have pb := P11_b hp
  exact all p hp x (List.mem_map.mpr ⟨x.toNat, List.mem_range.mpr (by omega), by omega⟩) hx.1 hx.2
def subR (p : Int) (len : Nat) (t : Nat) (f r : List Int) : List Int := (List.range len).map fun j => (gI r j - gI r t * gI f j) % p
def lead (p : Int) (t : Nat) (r : List Int) : List Int := r.map fun x => inv p (gI r t) * x % p
def redS (p : Int) (len : Nat) (st : List (List Int) × List (List Int)) (t : Nat) : List (List Int) × List (List Int) :=
  match st.1.filter fun r => !decide (gI r t = 0) with
  | [] => st
  | f :: _ => (st.1.map (subR p len t (lead p t f)), st.2.map (subR p len t (lead p t f)) ++ [lead p t f])
def red (p : Int) (len : Nat) (ss : List (List Int)) : List (List Int) := ((List.range len).foldl (redS p len) (ss, [])).2
theorem gI_out {xs : List Int} {j : Nat} (h : xs.length ≤ j) : gI xs j = 0 := by
  simp [gI, List.getD_eq_getElem?_getD, List.getElem?_eq_none h]
theorem Row_gI {p : Int} {n : Nat} {r : List Int} (h : Row p n r) (hp : 0 < p) (j : Nat) : 0 ≤ gI r j ∧ gI r j < p := by
  by_cases hj : j < r.length
  · exact h.2 _ (gI_mem hj)
  · rw [gI_out (by omega)]; omega
theorem subR_row {p : Int} {len t : Nat} {f r : List Int} (hp : 0 < p) : Row p len (subR p len t f r) := by
  refine ⟨by simp [subR], fun x hx => ?_⟩
  obtain ⟨j, _, rfl⟩ := List.mem_map.mp hx
  exact ⟨Int.emod_nonneg _ (by omega), Int.emod_lt_of_pos _ hp⟩
theorem lead_row {p : Int} {n t : Nat} {r : List Int} (hp : 0 < p) (h : Row p n r) : Row p n (lead p t r) := by
  refine ⟨by simp [lead, h.1], fun x hx => ?_⟩
  obtain ⟨j, _, rfl⟩ := List.mem_map.mp hx
  exact ⟨Int.emod_nonneg _ (by omega), Int.emod_lt_of_pos _ hp⟩
theorem redS_row {p : Int} {len t : Nat} {rows found : List (List Int)} (hp : 0 < p) (h1 : ∀ r ∈ rows, Row p len r) (h2 : ∀ r ∈ found, Row p len r) : (∀ r ∈ (redS p len (rows, found) t).1, Row p len r) ∧ ∀ r ∈ (redS p len (rows, found) t).2, Row p len r := by
  unfold redS
  split
  · exact ⟨h1, h2⟩
  · rename_i f l e
    have hf : f ∈ rows := (List.mem_filter.mp (e ▸ List.mem_cons_self : f ∈ rows.filter _)).1
    refine ⟨fun r hr => ?_, fun r hr => ?_⟩
    · obtain ⟨x, _, rfl⟩ := List.mem_map.mp hr
      exact subR_row hp
    · rcases List.mem_append.mp hr with hr | hr
      · obtain ⟨x, _, rfl⟩ := List.mem_map.mp hr
        exact subR_row hp
      · simp at hr; subst hr; exact lead_row hp (h1 f hf)
theorem red_step {p : Int} {len t : Nat} {rows found : List (List Int)} (sm : D) (o4 o7 o8 o9 o10 o11 o12 : Option D) (hp : p ∈ P11) (hl : len ≤ 100) (ht : t < len) (h1 : ∀ r ∈ rows, Row p len r) (h2 : ∀ r ∈ found, Row p len r) (h3 : found.length + 1 ≤ 1000) :
    ∃ o4' o7' o8' o9' o10' o11' o12', b__law_reduced_1 [some (.int p), some (.int len), some sm, some (ill rows), o4, some (ill found), some (.int t), o7, o8, o9, o10, o11, o12] =
      .nx [some (.int p), some (.int len), some sm, some (ill (redS p len (rows, found) t).1), o4', some (ill (redS p len (rows, found) t).2), some (.int t), o7', o8', o9', o10', o11', o12'] := by
  have pb := P11_b hp
  have p0 : 0 < p := by omega
  have ixr : ∀ (r : List Int) (j : Nat), Row p len r → j < len → ixG (il r) (.int (j : Int)) = some (.int (gI r j)) := fun r j hr hj => by
    have := ixG_il (xs := r) (i := (j : Int)) (by omega) (by rw [hr.1]; omega)
    simpa using this
  have cl : compD (itL (vD 3)) (pName 4) (blD (binD neG (binD ixG (vD 4) (vD 6)) (cD (.int 0)))) (vD 4) [some (.int p), some (.int len), some sm, some (ill rows), o4, some (ill found), some (.int t), o7, o8, o9, o10, o11, o12] = .ok (ill (rows.filter fun r => !decide (gI r t = 0))) :=
    compD_filter (enc := il) (xs := rows) (by simp [lsOf_ill]) fun r hr => by
      by_cases hz : gI r t = 0 <;> simp [stepC, ixr r t (h1 r hr) ht, hz]
  have inner : ∀ (r f : List Int) (a3 a5 o7 o9 o10 o11 o12 : Option D), Row p len r → Row p len f → compD (itR1 (vD 1)) (pName 12) yesT (binD modI (binD subI (binD ixG (vD 4) (vD 12)) (binD mulG (binD ixG (vD 4) (vD 6)) (binD ixG (vD 8) (vD 12)))) (vD 0)) [some (.int p), some (.int len), some sm, a3, some (il r), a5, some (.int t), o7, some (il f), o9, o10, o11, o12] = .ok (il (subR p len t f r)) := fun r f a3 a5 o7 o9 o10 o11 o12 hr hf =>
    compD_il (enc := fun j : Nat => .int (j : Int)) (xs := List.range len) (by simp [rgOk_of (show -8000000 ≤ (len : Int) ∧ (len : Int) ≤ 8000000 by omega), rg0]) fun j hj => by
      have hj := List.mem_range.mp hj
      have b := Row_gI hr p0 t
      simp [stepC, ixr r j hr hj, ixr r t hr ht, ixr f j hf hj, mul_ok (show 0 ≤ gI r t ∧ gI r t < 2000 by omega), p0]
  have hnil : okD (ill (rows.filter fun r => !decide (gI r t = 0))) = true := (pl_ill (n := 0) _).ok (by decide)
  have hne : neG (ill (rows.filter fun r => !decide (gI r t = 0))) (.list []) = some (.bool (!((rows.filter fun r => !decide (gI r t = 0)).map il).isEmpty)) := neG_nil _ hnil
  cases e : rows.filter fun r => !decide (gI r t = 0) with
  | nil =>
    have es : redS p len (rows, found) t = (rows, found) := by unfold redS; rw [e]
    rw [es]
    rw [e] at cl hne
    exact ⟨_, _, _, _, _, _, _, by simp [b__law_reduced_1, cl, hne]; exact ⟨rfl, rfl, rfl, rfl, rfl, rfl, rfl⟩⟩
  | cons f l =>
    have es : redS p len (rows, found) t = (rows.map (subR p len t (lead p t f)), found.map (subR p len t (lead p t f)) ++ [lead p t f]) := by unfold redS; rw [e]
    rw [es]
    rw [e] at cl hne
    have hf := List.mem_filter.mp (e ▸ List.mem_cons_self : f ∈ rows.filter fun r => !decide (gI r t = 0))
    have Rf := h1 f hf.1
    have hx : 0 < gI f t ∧ gI f t < p := by
      have := Row_gI Rf p0 t
      have h0 : gI f t ≠ 0 := by simpa using hf.2
      omega
    obtain ⟨i1, i2, i3, i4⟩ := inv_ok hp hx
    have ci : ∀ (o7 o9 o10 : Option D), compD (itR2 (cD (.int 1)) (vD 0)) (pName 10) (blD (binD eqG (binD modI (binD mulG (vD 10) (binD ixG (vD 8) (vD 6))) (vD 0)) (cD (.int 1)))) (vD 10) [some (.int p), some (.int len), some sm, some (ill rows), o4, some (ill found), some (.int t), o7, some (il f), o9, o10, o11, o12] = .ok (.list ((invs p (gI f t)).map fun c : Nat => .int (1 + (c : Int)))) := fun o7 o9 o10 =>
      compD_filter (enc := fun c : Nat => .int (1 + (c : Int))) (xs := List.range (p - 1).toNat) (by simp [rgOk_of (show -8000000 ≤ p ∧ p ≤ 8000000 by omega), rgOk_of (show -8000000 ≤ (1 : Int) ∧ (1 : Int) ≤ 8000000 by omega), rgList_eq]) fun c hc => by
        have hc := List.mem_range.mp hc
        by_cases hz : (1 + (c : Int)) * gI f t % p = 1 <;> simp [stepC, ixr f t Rf ht, mul_ok (show 0 ≤ (1 + (c : Int)) ∧ (1 + (c : Int)) < 2000 by omega), p0, hz]
    have hd : ∃ c0 cs, invs p (gI f t) = c0 :: cs := by
      cases h : invs p (gI f t) with
      | nil => exact absurd h i1
      | cons a b => exact ⟨a, b, rfl⟩
    obtain ⟨c0, cs, hcs⟩ := hd
    have hinv : inv p (gI f t) = 1 + (c0 : Int) := by unfold inv; rw [hcs]; rfl
    rw [hcs] at ci
    have cf : ∀ (o7 o10 o11 : Option D), compD (itL (vD 8)) (pName 11) yesT (binD modI (binD mulG (vD 9) (vD 11)) (vD 0)) [some (.int p), some (.int len), some sm, some (ill rows), o4, some (ill found), some (.int t), o7, some (il f), some (.int (1 + (c0 : Int))), o10, o11, o12] = .ok (il (lead p t f)) := fun o7 o10 o11 =>
      compD_il (enc := .int) (xs := f) (by simp [lsOf_il]) fun x hx => by
        rw [← hinv]
        simp [stepC, mul_ok (show 0 ≤ inv p (gI f t) ∧ inv p (gI f t) < 2000 by omega), p0]
    have Rl := lead_row (t := t) p0 Rf
    have cr : ∀ (o7 o9 o10 o11 o12 : Option D), compD (itL (vD 3)) (pName 4) yesT (compD (itR1 (vD 1)) (pName 12) yesT (binD modI (binD subI (binD ixG (vD 4) (vD 12)) (binD mulG (binD ixG (vD 4) (vD 6)) (binD ixG (vD 8) (vD 12)))) (vD 0))) [some (.int p), some (.int len), some sm, some (ill rows), o4, some (ill found), some (.int t), o7, some (il (lead p t f)), o9, o10, o11, o12] = .ok (ill (rows.map (subR p len t (lead p t f)))) := fun o7 o9 o10 o11 o12 =>
      compD_ill (enc := il) (xs := rows) (by simp [lsOf_ill]) fun r hr => by
        simp [stepC, inner r (lead p t f) _ _ _ _ _ _ _ (h1 r hr) Rl]
    have cg : ∀ (a3 : List (List Int)) (o7 o9 o10 o11 o12 : Option D), compD (itL (vD 5)) (pName 4) yesT (compD (itR1 (vD 1)) (pName 12) yesT (binD modI (binD subI (binD ixG (vD 4) (vD 12)) (binD mulG (binD ixG (vD 4) (vD 6)) (binD ixG (vD 8) (vD 12)))) (vD 0))) [some (.int p), some (.int len), some sm, some (ill a3), o4, some (ill found), some (.int t), o7, some (il (lead p t f)), o9, o10, o11, o12] = .ok (ill (found.map (subR p len t (lead p t f)))) := fun a3 o7 o9 o10 o11 o12 =>
      compD_ill (enc := il) (xs := found) (by simp [lsOf_ill]) fun r hr => by
        simp [stepC, inner r (lead p t f) _ _ _ _ _ _ _ (h2 r hr) Rl]
    have l0 : ixG (ill (f :: l)) (.int 0) = some (il f) := by
      show L2.atI (il f :: l.map il) 0 = some (il f)
      simp [L2.atI, L2.ixN]
    have c00 : L2.atI ((c0 :: cs).map fun c : Nat => (PyData.int (1 + (c : Int)))) 0 = some (.int (1 + (c0 : Int))) := by
      simp [L2.atI, L2.ixN]
    have ad : addG (ill (found.map (subR p len t (lead p t f)))) (.list [il (lead p t f)]) = some (ill (found.map (subR p len t (lead p t f)) ++ [lead p t f])) := addG_ill _ [lead p t f] (by simp; omega)
    simp only [List.map_cons] at ci c00
    simp [b__law_reduced_1, cl, hne, l0, ci, c00, cf, cr, cg, ad]
/-- what holds of rows and found ahead of place t -/
structure RedI (p : Int) (len : Nat) (t : Nat) (st : List (List Int) × List (List Int)) : Prop where
  r1 : ∀ r ∈ st.1, Row p len r
  r2 : ∀ r ∈ st.2, Row p len r
  n2 : st.2.length ≤ t
  led : ∀ r ∈ st.2, ∃ l, l < t ∧ gI r l = 1 ∧ ∀ r' ∈ st.1, gI r' l = 0
theorem gI_sub {p : Int} {len t : Nat} {f r : List Int} {j : Nat} (hj : j < len) : gI (subR p len t f r) j = (gI r j - gI r t * gI f j) % p := gI_range _ hj
theorem gI_lead {p : Int} {t : Nat} {r : List Int} {j : Nat} (hj : j < r.length) : gI (lead p t r) j = inv p (gI r t) * gI r j % p := gI_map _ _ hj
theorem redS_inv {p : Int} {len t : Nat} {st : List (List Int) × List (List Int)} (hp : p ∈ P11) (ht : t < len) (h : RedI p len t st) : RedI p len (t + 1) (redS p len st t) := by
  have pb := P11_b hp
  have p0 : 0 < p := by omega
  obtain ⟨q1, q2⟩ := redS_row (t := t) p0 h.r1 h.r2
  unfold redS at q1 q2 ⊢
  split
  · exact ⟨h.r1, h.r2, Nat.le_succ_of_le h.n2, fun r hr => by
      obtain ⟨l, h1, h2, h3⟩ := h.led r hr
      exact ⟨l, by omega, h2, h3⟩⟩
  · rename_i f l e
    rw [e] at q1 q2
    have hf := List.mem_filter.mp (e ▸ List.mem_cons_self : f ∈ st.1.filter fun r => !decide (gI r t = 0))
    have Rf := h.r1 f hf.1
    have hx : 0 < gI f t ∧ gI f t < p := by
      have := Row_gI Rf p0 t
      have h0 : gI f t ≠ 0 := by simpa using hf.2
      omega
    obtain ⟨i1, i2, i3, i4⟩ := inv_ok hp hx
    have lt1 : gI (lead p t f) t = 1 := by rw [gI_lead (by rw [Rf.1]; exact ht), i4]
    refine ⟨q1, q2, by have := h.n2; simp; omega, fun r hr => ?_⟩
    rcases List.mem_append.mp hr with hr | hr
    · obtain ⟨r0, hr0, rfl⟩ := List.mem_map.mp hr
      obtain ⟨l, h1, h2, h3⟩ := h.led r0 hr0
      have lf : gI (lead p t f) l = 0 := by rw [gI_lead (by rw [Rf.1]; omega), h3 f hf.1]; simp
      refine ⟨l, by omega, ?_, fun r' hr' => ?_⟩
      · rw [gI_sub (by omega), lf, h2, Int.mul_zero, Int.sub_zero]
        exact Int.emod_eq_of_lt (by omega) (by omega)
      · obtain ⟨r1, hr1, rfl⟩ := List.mem_map.mp hr'
        rw [gI_sub (by omega), lf, h3 r1 hr1]; simp
    · simp at hr
      subst hr
      refine ⟨t, by omega, lt1, fun r' hr' => ?_⟩
      obtain ⟨r1, hr1, rfl⟩ := List.mem_map.mp hr'
      rw [gI_sub ht, lt1, Int.mul_one, Int.sub_self]; simp
theorem law_reduced {p : Int} {len : Nat} {ss : List (List Int)} (hp : p ∈ P11) (hl : len ≤ 100) (hs : ∀ r ∈ ss, Row p len r) : f__law_reduced [.int p, .int len, ill ss] = .ok (ill (red p len ss)) ∧ RedI p len len ((List.range len).foldl (redS p len) (ss, [])) := by
  obtain ⟨e', h1, o4, o6, o7, o8, o9, o10, o11, o12, rfl, h2⟩ := loopF_foldN (p := pName 6) (b := b__law_reduced_1) (enc := fun i : Nat => (PyData.int (i : Int))) (n := len) (st := (ss, [])) (e := [some (.int p), some (.int len), some (ill ss), some (ill ss), none, some (ill []), none, none, none, none, none, none, none])
    (fun t st e => ∃ o4 o6 o7 o8 o9 o10 o11 o12, e = [some (.int p), some (.int len), some (ill ss), some (ill st.1), o4, some (ill st.2), o6, o7, o8, o9, o10, o11, o12] ∧ RedI p len t st) (redS p len)
    ⟨none, none, none, none, none, none, none, none, rfl, hs, by simp, by simp, by simp⟩ fun t ht st e => by
      rintro ⟨o4, o6, o7, o8, o9, o10, o11, o12, rfl, h⟩
      obtain ⟨o4', o7', o8', o9', o10', o11', o12', e1⟩ := red_step (rows := st.1) (found := st.2) (ill ss) o4 o7 o8 o9 o10 o11 o12 hp hl ht h.r1 h.r2 (by have := h.n2; omega)
      exact ⟨_, _, rfl, .inl e1, o4', _, o7', o8', o9', o10', o11', o12', rfl, redS_inv hp ht h⟩
  refine ⟨?_, h2⟩
  have hc : compD (itL (vD 2)) (pName 4) yesT (unD listG (vD 4)) [some (.int p), some (.int len), some (ill ss), none, none, none, none, none, none, none, none, none, none] = .ok (ill ss) := by
    rw [compD_ill (enc := il) (xs := ss) (g := id) (by simp [lsOf_ill]) fun r hr => by simp [stepC, listG_il]]
    simp
  have hnil2 : ill [] = .list [] := rfl
  rw [hnil2] at h1
  simp [f__law_reduced, b__law_reduced, hc, rgOk_of (show -8000000 ≤ (len : Int) ∧ (len : Int) ≤ 8000000 by omega), rg0, h1, red]
/-! ### the leading places -/
def ledL (r : List Int) : List Nat := (List.range r.length).filter fun j => !decide (gI r j = 0)
def ledO (r : List Int) : Nat := (ledL r).headD 0
theorem ledO_ok {r : List Int} {l : Nat} (hl : l < r.length) (h : gI r l ≠ 0) : ledL r ≠ [] ∧ ledO r < r.length ∧ gI r (ledO r) ≠ 0 := by
  have hm : l ∈ ledL r := List.mem_filter.mpr ⟨List.mem_range.mpr hl, by simpa using h⟩
  have : ∃ a as, ledL r = a :: as := by
    cases e : ledL r with
    | nil => rw [e] at hm; simp at hm
    | cons a as => exact ⟨a, as, rfl⟩
  obtain ⟨a, as, e⟩ := this
  have ha : a ∈ ledL r := by rw [e]; simp
  have ha := List.mem_filter.mp ha
  refine ⟨by rw [e]; simp, ?_, ?_⟩
  · unfold ledO; rw [e]; exact List.mem_range.mp ha.1
  · unfold ledO; rw [e]; simpa using ha.2
theorem law_led {rs : List (List Int)} (hn : rs.length ≤ 1000) (h : ∀ r ∈ rs, r.length ≤ 1000 ∧ ledL r ≠ []) : f__law_led [ill rs] = .ok (il (rs.map fun r => (ledO r : Int))) := by
  obtain ⟨e', h1, st, o2, o3, rfl, h2, _⟩ := loopF_inv (p := pName 2) (b := b__law_led_1) (enc := il) (xs := rs) (e := [some (ill rs), some (il []), none, none])
    (fun left e => ∃ st o2 o3, e = [some (ill rs), some (il st), o2, o3] ∧ st ++ left.map (fun r => (ledO r : Int)) = rs.map (fun r => (ledO r : Int)) ∧ ∀ r ∈ left, r ∈ rs) ⟨[], none, none, rfl, by simp, fun _ h => h⟩ fun r left e => by
      rintro ⟨st, o2, o3, rfl, h2, h3⟩
      obtain ⟨q1, q2⟩ := h r (h3 r (by simp))
      have hc : compD (itR1 (unD lenG (vD 2))) (pName 3) (blD (binD neG (binD ixG (vD 2) (vD 3)) (cD (.int 0)))) (vD 3) [some (ill rs), some (il st), some (il r), o3] = .ok (.list ((ledL r).map fun j : Nat => .int (j : Int))) :=
        compD_filter (enc := fun j : Nat => .int (j : Int)) (xs := List.range r.length) (by simp [lenG_il, rgOk_of (show -8000000 ≤ (r.length : Int) ∧ (r.length : Int) ≤ 8000000 by omega), rg0]) fun j hj => by
          have hj := List.mem_range.mp hj
          have := ixG_il (xs := r) (i := (j : Int)) (by omega) (by omega)
          simp only [Int.toNat_natCast] at this
          by_cases hz : gI r j = 0 <;> simp [stepC, this, hz]
      have hlen := congrArg List.length h2
      simp at hlen
      obtain ⟨a, as, ea⟩ : ∃ a as, ledL r = a :: as := by
        cases e : ledL r with
        | nil => exact absurd e q2
        | cons a as => exact ⟨a, as, rfl⟩
      have l0 : L2.atI (PyData.int (a : Int) :: as.map fun j : Nat => PyData.int (j : Int)) 0 = some (.int (a : Int)) := by simp [L2.atI, L2.ixN]
      have lo : ledO r = a := by unfold ledO; rw [ea]; rfl
      rw [ea] at hc
      simp only [List.map_cons] at hc
      refine ⟨_, _, rfl, .inl ?_, st ++ [(ledO r : Int)], some (il r), o3, rfl, by simpa using h2, fun x hx => h3 x (by simp [hx])⟩
      simp [b__law_led_1, hc, l0, lo, e_appI (xs := st), setM_il (show st.length + 1 ≤ 16777216 by omega)]
  have hnil : il [] = .list [] := rfl
  rw [hnil] at h1
  simp at h2
  subst h2
  simp [f__law_led, b__law_led, lsOf_ill, h1]
end K64

namespace K64
open PySem PySem.Spec L2 DL
theorem Row_set {p : Int} {n : Nat} {r : List Int} {j : Nat} {v : Int} (h : Row p n r) (hv : 0 ≤ v ∧ v < p) : Row p n (r.set j v) := by
  refine ⟨by rw [List.length_set]; exact h.1, fun x hx => ?_⟩
  rcases List.mem_or_eq_of_mem_set hx with hx | rfl
  · exact h.2 x hx
  · exact hv
theorem law_members {p : Int} {len : Nat} {ss : List (List Int)} (hp : p ∈ P11) (hl : len ≤ 100) (hs : ∀ r ∈ ss, Row p len r) : ∃ ms : List (List Int), f__law_members [.int p, .int len, ill ss] = .ok (ill ms) ∧ (∀ m ∈ ms, Row p len m) ∧ ms.length ≤ len := by
  have pb := P11_b hp
  have p0 : 0 < p := by omega
  obtain ⟨er, hI⟩ := law_reduced hp hl hs
  obtain ⟨rows, hrows⟩ : ∃ rows, rows = red p len ss := ⟨_, rfl⟩
  have hI2 : (∀ r ∈ rows, Row p len r) ∧ rows.length ≤ len ∧ ∀ r ∈ rows, ∃ l, l < len ∧ gI r l = 1 := by
    subst hrows
    exact ⟨hI.r2, hI.n2, fun r hr => let ⟨l, h1, h2, _⟩ := hI.led r hr; ⟨l, h1, h2⟩⟩
  rw [← hrows] at er
  have hlo : ∀ r ∈ rows, ledL r ≠ [] ∧ ledO r < len := fun r hr => by
    obtain ⟨l, h1, h2⟩ := hI2.2.2 r hr
    have R := hI2.1 r hr
    obtain ⟨q1, q2, _⟩ := ledO_ok (r := r) (l := l) (by rw [R.1]; exact h1) (by rw [h2]; decide)
    exact ⟨q1, by rw [R.1] at q2; exact q2⟩
  have el := law_led (rs := rows) (by have := hI2.2.1; omega) fun r hr => ⟨by rw [(hI2.1 r hr).1]; omega, (hlo r hr).1⟩
  obtain ⟨led, hled⟩ : ∃ led : List Int, led = rows.map fun r => (ledO r : Int) := ⟨_, rfl⟩
  rw [← hled] at el
  have ledlen : led.length = rows.length := by rw [hled]; simp
  have ledb : ∀ k, k < rows.length → 0 ≤ gI led k ∧ gI led k < len := fun k hk => by
    have := gI_mem (xs := led) (i := k) (by omega)
    rw [hled] at this
    obtain ⟨r, hr, e⟩ := List.mem_map.mp this
    rw [← hled] at e
    rw [← e]
    have := (hlo r hr).2
    omega
  have hc : compD (itR1 (vD 1)) (pName 7) (blD (binD (inG true) (vD 7) (vD 4))) (vD 7) [some (.int p), some (.int len), some (ill ss), some (ill rows), some (il led), some (ill []), none, none, none, none] = .ok (.list (((List.range len).filter fun j : Nat => !decide ((j : Int) ∈ led)).map fun j : Nat => .int (j : Int))) :=
    compD_filter (enc := fun j : Nat => .int (j : Int)) (xs := List.range len) (by simp [rgOk_of (show -8000000 ≤ (len : Int) ∧ (len : Int) ≤ 8000000 by omega), rg0]) fun j hj => by
      by_cases hz : (j : Int) ∈ led <;> simp [stepC, inG_il, hz]
  have inner : ∀ (found : D) (free : Nat) (o7 : Option D) (w : List Int) (o9 : Option D), free < len → Row p len w → ∃ w' o9', loopF (pName 9) b__law_members_1 (rgList 0 rows.length) [some (.int p), some (.int len), some (ill ss), some (ill rows), some (il led), some found, some (.int (free : Int)), o7, some (il w), o9] = .nx [some (.int p), some (.int len), some (ill ss), some (ill rows), some (il led), some found, some (.int (free : Int)), o7, some (il w'), o9'] ∧ Row p len w' := by
    intro found free o7 w o9 hf hw
    obtain ⟨e', h1, w', o9', rfl, h2⟩ := loopF_foldN (p := pName 9) (b := b__law_members_1) (enc := fun i : Nat => (PyData.int (i : Int))) (n := rows.length) (st := ()) (e := [some (.int p), some (.int len), some (ill ss), some (ill rows), some (il led), some found, some (.int (free : Int)), o7, some (il w), o9])
      (fun _ _ e => ∃ w o9, e = [some (.int p), some (.int len), some (ill ss), some (ill rows), some (il led), some found, some (.int (free : Int)), o7, some (il w), o9] ∧ Row p len w) (fun _ _ => ()) ⟨w, o9, rfl, hw⟩ fun k hk _ e => by
        rintro ⟨w, o9, rfl, hw⟩
        have R := hI2.1 _ (gL_mem hk)
        have i1 := ixG_ill (xs := rows) (i := (k : Int)) (by omega) (by omega)
        have i2 := ixG_il (xs := gL rows k) (i := (free : Int)) (by omega) (by rw [R.1]; omega)
        have i3 := ixG_il (xs := led) (i := (k : Int)) (by omega) (by omega)
        simp only [Int.toNat_natCast] at i1 i2 i3
        have lb := ledb k hk
        have hv : 0 ≤ (p - gI (gL rows k) free) % p ∧ (p - gI (gL rows k) free) % p < p := ⟨Int.emod_nonneg _ (by omega), Int.emod_lt_of_pos _ p0⟩
        refine ⟨_, _, rfl, .inl ?_, w.set (gI led k).toNat ((p - gI (gL rows k) free) % p), some (.int (k : Int)), rfl, Row_set hw hv⟩
        simp [b__law_members_1, i1, i2, i3, p0, e_setIl (xs := w), setI_il lb.1 (show gI led k < w.length by rw [hw.1]; exact lb.2)]
    rw [← rg0] at h1
    exact ⟨w', o9', h1, h2⟩
  obtain ⟨frees, hfrees⟩ : ∃ fs, fs = (List.range len).filter fun j : Nat => !decide ((j : Int) ∈ led) := ⟨_, rfl⟩
  have fl : frees.length ≤ len := by
    have := List.length_filter_le (fun j : Nat => !decide ((j : Int) ∈ led)) (List.range len)
    rw [← hfrees, List.length_range] at this
    exact this
  have fb : ∀ j ∈ frees, j < len := fun j hj => by
    rw [hfrees] at hj
    exact List.mem_range.mp (List.mem_filter.mp hj).1
  rw [← hfrees] at hc
  obtain ⟨e', h1, ms, o6, o7, o8, o9, rfl, h2, h3, _⟩ := loopF_inv (p := pName 6) (b := b__law_members_2) (enc := fun j : Nat => (PyData.int (j : Int))) (xs := frees) (e := [some (.int p), some (.int len), some (ill ss), some (ill rows), some (il led), some (ill []), none, none, none, none])
    (fun left e => ∃ ms o6 o7 o8 o9, e = [some (.int p), some (.int len), some (ill ss), some (ill rows), some (il led), some (ill ms), o6, o7, o8, o9] ∧ (∀ m ∈ ms, Row p len m) ∧ ms.length + left.length = frees.length ∧ ∀ j ∈ left, j ∈ frees)
    ⟨[], none, none, none, none, rfl, by simp, by simp, fun _ h => h⟩ fun free left e => by
      rintro ⟨ms, o6, o7, o8, o9, rfl, h2, h3, h4⟩
      have hf := fb free (h4 free (by simp))
      obtain ⟨w0, hw0⟩ : ∃ w0, w0 = List.replicate len (0 : Int) := ⟨_, rfl⟩
      have hm := mulG_rep 0 (len : Int) (by omega) (by omega)
      simp only [Int.toNat_natCast] at hm
      rw [← hw0] at hm
      have R00 : Row p len w0 := ⟨by rw [hw0]; simp, fun x hx => by
        rw [hw0] at hx
        have := List.eq_of_mem_replicate hx
        omega⟩
      have R0 : Row p len (w0.set free 1) := Row_set R00 (by omega)
      obtain ⟨w', o9', e1, R⟩ := inner (ill ms) free o7 _ o9 hf R0
      simp at h3
      refine ⟨_, _, rfl, .inl ?_, ms ++ [w'], some (.int (free : Int)), o7, some (il w'), o9', rfl, fun m hm => ?_, by simp; omega, fun j hj => h4 j (by simp [hj])⟩
      · simp [b__law_members_2, hm, e_setIl (xs := w0), setI_il (xs := w0) (j := (free : Int)) (v := 1) (by omega) (by rw [R00.1]; omega), lenG_ill, rgOk_of (show -8000000 ≤ (rows.length : Int) ∧ (rows.length : Int) ≤ 8000000 by have := hI2.2.1; omega), e1, e_appL (xs := ms), setM_ill (show ms.length + 1 ≤ 16777216 by omega)]
      · rcases List.mem_append.mp hm with hm | hm
        · exact h2 m hm
        · simp at hm; subst hm; exact R
  refine ⟨ms, ?_, h2, by simp at h3; omega⟩
  have hnil2 : ill [] = .list [] := rfl
  rw [hnil2] at h1 hc
  simp [f__law_members, b__law_members, er, el, hc, h1]
end K64

namespace K64
open PySem PySem.Spec L2 DL
theorem neG_bool (a b : Bool) : neG (.bool a) (.bool b) = some (.bool (a != b)) := by
  rw [neG_pl (okD_bool a) (okD_bool b)]
  cases a <;> cases b <;> simp [PyData.eqv]
theorem log2_small {i : Int} (h : 0 ≤ i ∧ i < 1000) : i.natAbs.log2 < 1920 := by
  have : i.natAbs.log2 ≤ i.natAbs := Nat.log2_le_self _
  omega
theorem pl_ilc {n : Nat} (xs : List Int) (l u : Option Int) : ∀ d ∈ (cutA (xs.map PyData.int) l u), pl n d := fun d hd => by
  obtain ⟨x, _, rfl⟩ := List.mem_map.mp (cutA_mem hd)
  exact pl_int x
theorem bent_1 {p : Int} {v nums : List Int} {at_ spot : Int} {ds : List D} {x : D} (hv : v.length ≤ 1000) (hx : pl 0 x) (hd : ∀ d ∈ ds, pl 8 d) (hl : ds.length + 1 ≤ 1000) :
    ∃ d, b__law_bent_1 [some (.int p), some (il v), some (il nums), some (.list ds), some (.int at_), some (.int spot), some x] = .nx [some (.int p), some (il v), some (il nums), some (.list (ds ++ [d])), some (.int at_), some (.int spot), some x] ∧ pl 8 d := by
  have e1 : addG (il (cutA v none (some spot))) (.list [x]) = some (.list ((cutA v none (some spot)).map .int ++ [x])) := by
    have := cutA_len v none (some spot)
    exact addG_list _ _ (by simp; omega)
  have e2 : addG (.list ((cutA v none (some spot)).map .int ++ [x])) (il (cutA v (some (spot + 1)) none)) = some (.list (((cutA v none (some spot)).map .int ++ [x]) ++ (cutA v (some (spot + 1)) none).map .int)) := by
    have := cutA_len v none (some spot)
    have := cutA_len v (some (spot + 1)) none
    exact addG_list _ _ (by simp; omega)
  refine ⟨_, by simp [b__law_bent_1, sliceG_il, e1, e2, e_appF (ds := ds), appG_of (show ds.length + 1 ≤ 16777216 by omega)]; rfl, ?_⟩
  refine pl_list (n := 7) fun d hd => ?_
  simp only [List.mem_append, List.mem_map, List.mem_cons, List.not_mem_nil, or_false] at hd
  rcases hd with ⟨z, _, rfl⟩ | rfl | ⟨z, _, rfl⟩
  · exact pl_int z
  · exact hx.mono (by decide)
  · exact pl_int z
theorem law_bent {p : Int} {n : Nat} {v nums : List Int} (hp : 2 ≤ p ∧ p ≤ 31) (hv : Row p n v) (hn : n ≤ 100) (hnum : nums ≠ []) : ∃ ds : List D, f__law_bent [.int p, il v, il nums] = .ok (.list ds) ∧ (∀ d ∈ ds, pl 8 d) ∧ ds.length ≤ 20 := by
  have lv := hv.1
  have e1 : addG (il v) (.list [.int 0]) = some (il (v ++ [0])) := addG_il v [0] (by simp; omega)
  have e2 : tupleG (il v) = some (.tuple (v.map .int)) := rfl
  have hok : okD (il v) = true := (pl_il (n := 0) v).ok (by decide)
  have e3 : neG (il v) (.list []) = some (.bool (!(v.map PyData.int).isEmpty)) := neG_nil _ hok
  have d0 : ∀ d ∈ ([il v, il (cutA v none (some (-1))), il (v ++ [0]), .tuple (v.map .int), .none, .list [], .str (Str.ofString "0"), .list [il v]] : List D), pl 8 d := fun d hd => by
    simp only [List.mem_cons, List.not_mem_nil, or_false] at hd
    rcases hd with rfl | rfl | rfl | rfl | rfl | rfl | rfl | rfl
    · exact pl_il v
    · exact pl_il _
    · exact pl_il _
    · exact pl_tup (n := 7) fun d hd => by
        obtain ⟨x, _, rfl⟩ := List.mem_map.mp hd
        exact pl_int x
    · exact pl_none
    · exact pl_list (n := 7) fun d hd => by simp at hd
    · exact pl_str _
    · exact pl_list (n := 7) fun d hd => by
        simp at hd
        subst hd
        exact pl_il v
  cases ev : v with
  | nil =>
    subst ev
    exact ⟨_, by simp [f__law_bent, b__law_bent, sliceG_il, e1, e2, e3], d0, by simp⟩
  | cons v0 vs =>
    rw [← ev]
    have hpos : 0 < v.length := by rw [ev]; simp
    have e4 : (v.map PyData.int).isEmpty = false := by rw [ev]; rfl
    rw [e4] at e3
    have n0 : 0 < nums.length := List.length_pos_iff.mpr hnum
    have i0 := ixG_il (xs := nums) (i := 0) (by omega) (by omega)
    simp only [Int.toNat_zero] at i0
    have lp : (0 : Int) < v.length := by omega
    have b1 := Int.emod_nonneg (gI nums 0) (show (v.length : Int) ≠ 0 by omega)
    have b2 := Int.emod_lt_of_pos (gI nums 0) lp
    -- one spot
    have step : ∀ (spot at_ : Int) (ds : List D) (o6 : Option D), 0 ≤ spot → spot < v.length → (∀ d ∈ ds, pl 8 d) → ds.length + 6 ≤ 1000 → ∃ ds' o6', b__law_bent_2 [some (.int p), some (il v), some (il nums), some (.list ds), some (.int at_), some (.int spot), o6] = .nx [some (.int p), some (il v), some (il nums), some (.list ds'), some (.int at_), some (.int spot), o6'] ∧ (∀ d ∈ ds', pl 8 d) ∧ ds'.length = ds.length + 6 := by
      intro spot at_ ds o6 s1 s2 hd hl
      have iv := ixG_il (xs := v) (i := spot) s1 s2
      have bv := hv.2 _ (gI_mem (xs := v) (i := spot.toNat) (by omega))
      have est : strG (.int (gI v spot.toNat)) = some (.str (toString (gI v spot.toNat))) := if_pos (decide_eq_true (log2_small (by omega)))
      obtain ⟨xs, hxs⟩ : ∃ xs : List D, xs = [.int ((gI v spot.toNat + 1) % p), .int (gI v spot.toNat + p), .int (gI v spot.toNat - p), .bool (decide (gI v spot.toNat = 1)), .none, .str (toString (gI v spot.toNat))] := ⟨_, rfl⟩
      have hx : ∀ x ∈ xs, pl 0 x := fun x hx => by
        rw [hxs] at hx
        simp only [List.mem_cons, List.not_mem_nil, or_false] at hx
        rcases hx with rfl | rfl | rfl | rfl | rfl | rfl
        · exact pl_int _
        · exact pl_int _
        · exact pl_int _
        · exact pl_bool _
        · exact pl_none
        · exact pl_str _
      have lx : xs.length = 6 := by rw [hxs]; rfl
      obtain ⟨e', h1, ds', o6', rfl, h2, h3, _⟩ := loopF_inv (p := pName 6) (b := b__law_bent_1) (enc := fun d : D => d) (xs := xs) (e := [some (.int p), some (il v), some (il nums), some (.list ds), some (.int at_), some (.int spot), o6])
        (fun left e => ∃ ds' o6', e = [some (.int p), some (il v), some (il nums), some (.list ds'), some (.int at_), some (.int spot), o6'] ∧ (∀ d ∈ ds', pl 8 d) ∧ ds'.length + left.length = ds.length + 6 ∧ ∀ x ∈ left, pl 0 x) ⟨ds, o6, rfl, hd, by rw [lx], hx⟩ fun x left e => by
          rintro ⟨ds', o6', rfl, h2, h3, h4⟩
          simp at h3
          obtain ⟨d, e1, hd'⟩ := bent_1 (p := p) (nums := nums) (at_ := at_) (spot := spot) (x := x) (show v.length ≤ 1000 by omega) (h4 x (by simp)) h2 (by omega)
          refine ⟨_, _, rfl, .inl e1, ds' ++ [d], some x, rfl, fun z hz => ?_, by simp; omega, fun z hz => h4 z (by simp [hz])⟩
          rcases List.mem_append.mp hz with hz | hz
          · exact h2 z hz
          · simp at hz; subst hz; exact hd'
      rw [List.map_id'] at h1
      refine ⟨ds', o6', ?_, h2, by simpa using h3⟩
      have e : b__law_bent_2 [some (.int p), some (il v), some (il nums), some (.list ds), some (.int at_), some (.int spot), o6] = thenF (loopF (pName 6) b__law_bent_1 xs [some (.int p), some (il v), some (il nums), some (.list ds), some (.int at_), some (.int spot), o6]) nxF := by
        rw [hxs]
        simp [b__law_bent_2, iv, est, show 0 < p by omega]
      rw [e, h1]
      rfl
    obtain ⟨ds0, hds0⟩ : ∃ ds0 : List D, ds0 = [il v, il (cutA v none (some (-1))), il (v ++ [0]), .tuple (v.map .int), .none, .list [], .str (Str.ofString "0"), .list [il v]] := ⟨_, rfl⟩
    rw [← hds0] at d0
    have l0 : ds0.length = 8 := by rw [hds0]; rfl
    obtain ⟨ds1, o1, s1, q1, l1⟩ := step (gI nums 0 % v.length) (gI nums 0 % v.length) ds0 none b1 b2 d0 (by omega)
    obtain ⟨ds2, o2, s2, q2, l2⟩ := step ((v.length : Int) - 1) (gI nums 0 % v.length) ds1 o1 (by omega) (by omega) q1 (by omega)
    refine ⟨ds2, ?_, q2, by omega⟩
    rw [hds0] at s1
    simp [f__law_bent, b__law_bent, sliceG_il, e1, e2, e3, i0, modI_pos lp, lenG_il, loopF_cons, loopF_nil, s1, s2]
end K64

namespace K64
open PySem PySem.Spec L2 DL
theorem copy_ill (ss : List (List Int)) (it : DEnv → R (List D)) (env : DEnv) (i : Nat) (hit : it env = .ok (ss.map il)) (hi : ∀ d : D, (env.set i (some d))[i]? = some (some d)) : compD it (pName i) yesT (unD listG (vD i)) env = .ok (ill ss) := by
  rw [compD_ill (enc := il) (xs := ss) (g := id) hit fun r hr => by simp [stepC, hi, listG_il]]
  simp
section
variable {p : Int} {len : Nat} {ss : List (List Int)}
/-- one paper -/
theorem paper_ok {row : List Int} (I : Inp p len ss row) (s turn nums g factors k row0 other j mem vals w pps v paper h sm gv td : Option D) (d : D) (hd : pl 18 d) :
    ∃ h' sm' gv' td', b_law_2 [s, turn, nums, g, some (.int p), some (.int len), some (ill ss), factors, k, row0, other, j, mem, vals, w, some (il row), pps, v, some d, h, sm, gv, td] =
      .nx [s, turn, nums, g, some (.int p), some (.int len), some (ill ss), factors, k, row0, other, j, mem, vals, w, some (il row), pps, v, some d, h', sm', gv', td'] := by
  have c1 : compD (itL (vD 6)) (pName 20) yesT (unD listG (vD 20)) [s, turn, nums, g, some (.int p), some (.int len), some (ill ss), factors, k, row0, other, j, mem, vals, w, some (il row), pps, v, some d, h, sm, gv, td] = .ok (ill ss) :=
    copy_ill ss _ _ 20 (by simp [lsOf_ill]) (by simp)
  have e1 := shows_follow I d (hd.mono (by decide))
  have e2 := law_due I d hd
  refine ⟨some (ill ss), sm, some (il row), some (.bool (due p len ss row d)), ?_⟩
  simp [b_law_2, c1, listG_il, e1, e2, neG_bool, neG_ill, neG_il]
/-- all papers -/
theorem wanted_ok {row fs : List Int} (I : Inp p len ss row) (s turn nums g k row0 other j mem w pps v paper h sm gv td : Option D) (vals : List D) (hv : ∀ d ∈ vals, pl 10 d) (hl : vals.length ≤ 1000) :
    ∃ pps' v' paper' h' sm' gv' td', b_law_3 [s, turn, nums, g, some (.int p), some (.int len), some (ill ss), some (il fs), k, row0, other, j, mem, some (.list vals), w, some (il row), pps, v, paper, h, sm, gv, td] =
      .nx [s, turn, nums, g, some (.int p), some (.int len), some (ill ss), some (il fs), k, row0, other, j, mem, some (.list vals), w, some (il row), pps', v', paper', h', sm', gv', td'] := by
  have ct : ∀ z : Str, compD (itL (vD 13)) (pName 17) yesT (tupD (consD (cD (.str z)) (consD (vD 17) nilD))) [s, turn, nums, g, some (.int p), some (.int len), some (ill ss), some (il fs), k, row0, other, j, mem, some (.list vals), w, some (il row), pps, v, paper, h, sm, gv, td] = .ok (.list (vals.map fun d => .tuple [.str z, d])) := fun z =>
    compD_map (enc := fun d => d) (xs := vals) (by simp) fun d hd => by simp [stepC]
  have a1 : addG (.list (vals.map fun d => .tuple [.str (Str.ofString "sum"), d])) (.list (vals.map fun d => .tuple [.str (Str.ofString "weights"), d])) = some (.list ((vals.map fun d => .tuple [.str (Str.ofString "sum"), d]) ++ (vals.map fun d => .tuple [.str (Str.ofString "weights"), d]))) := addG_list _ _ (by simp; omega)
  obtain ⟨more, hmore⟩ : ∃ more : List D, more = [.none, .tuple [], .str (Str.ofString "sum"), .tuple [.str (Str.ofString "sum")], .tuple [.str (Str.ofString "sums"), il fs], .tuple [.str (Str.ofString "sum"), il fs, .int 0], .list [.str (Str.ofString "sum"), il fs], .tuple [.none, il fs], .tuple [.str (Str.ofString "weights"), il fs], .tuple [il fs, .str (Str.ofString "sum")]] := ⟨_, rfl⟩
  have lm : more.length = 10 := by rw [hmore]; rfl
  have pa : ∀ d : D, (d = .none ∨ d = .int 0 ∨ (∃ z, d = .str z) ∨ d = il fs) → pl 17 d := fun d hd => by
    rcases hd with rfl | rfl | ⟨z, rfl⟩ | rfl
    · exact pl_none
    · exact pl_int _
    · exact pl_str _
    · exact pl_il _
  have pm : ∀ d ∈ more, pl 18 d := fun d hd => by
    rw [hmore] at hd
    simp only [List.mem_cons, List.not_mem_nil, or_false] at hd
    rcases hd with rfl | rfl | rfl | rfl | rfl | rfl | rfl | rfl | rfl | rfl
    · exact pl_none
    · exact pl_tup (n := 17) fun d hd => by simp at hd
    · exact pl_str _
    all_goals first
      | exact pl_tup (n := 17) fun d hd => pa d (by simp at hd; rcases hd with rfl | rfl | rfl <;> simp)
      | exact pl_tup (n := 17) fun d hd => pa d (by simp at hd; rcases hd with rfl | rfl <;> simp)
      | exact pl_list (n := 17) fun d hd => pa d (by simp at hd; rcases hd with rfl | rfl <;> simp)
      | exact pl_tup (n := 17) fun d hd => pa d (by simp at hd; subst hd; simp)
  obtain ⟨pp, hpp⟩ : ∃ pp : List D, pp = (vals.map fun d => .tuple [.str (Str.ofString "sum"), d]) ++ (vals.map fun d => .tuple [.str (Str.ofString "weights"), d]) := ⟨_, rfl⟩
  rw [← hpp] at a1
  have lp : pp.length ≤ 2000 := by rw [hpp]; simp; omega
  have a2 : addG (.list pp) (.list more) = some (.list (pp ++ more)) := addG_list _ _ (by omega)
  have ppl : ∀ d ∈ pp ++ more, pl 18 d := fun d hd => by
    rcases List.mem_append.mp hd with hd | hd
    · rw [hpp] at hd
      rcases List.mem_append.mp hd with hd | hd
      all_goals
        obtain ⟨z, hz, rfl⟩ := List.mem_map.mp hd
        refine pl_tup (n := 17) fun d hd => ?_
        simp at hd
        rcases hd with rfl | rfl
        · exact pl_str _
        · exact (hv _ hz).mono (by decide)
    · exact pm d hd
  obtain ⟨e', h1, paper', h', sm', gv', td', rfl, _⟩ := loopF_inv (p := pName 18) (b := b_law_2) (enc := fun d : D => d) (xs := pp ++ more) (e := [s, turn, nums, g, some (.int p), some (.int len), some (ill ss), some (il fs), k, row0, other, j, mem, some (.list vals), w, some (il row), some (.list (pp ++ more)), v, paper, h, sm, gv, td])
    (fun left e => ∃ paper' h' sm' gv' td', e = [s, turn, nums, g, some (.int p), some (.int len), some (ill ss), some (il fs), k, row0, other, j, mem, some (.list vals), w, some (il row), some (.list (pp ++ more)), v, paper', h', sm', gv', td'] ∧ ∀ d ∈ left, pl 18 d) ⟨paper, h, sm, gv, td, rfl, ppl⟩ fun d left e => by
      rintro ⟨paper', h', sm', gv', td', rfl, h2⟩
      obtain ⟨h'', sm'', gv'', td'', e1⟩ := paper_ok I s turn nums g (some (il fs)) k row0 other j mem (some (.list vals)) w (some (.list (pp ++ more))) v paper' h' sm' gv' td' d (h2 d (by simp))
      exact ⟨_, _, rfl, .inl e1, some d, h'', sm'', gv'', td'', rfl, fun x hx => h2 x (by simp [hx])⟩
  rw [List.map_id'] at h1
  refine ⟨some (.list (pp ++ more)), v, paper', h', sm', gv', td', ?_⟩
  have e : b_law_3 [s, turn, nums, g, some (.int p), some (.int len), some (ill ss), some (il fs), k, row0, other, j, mem, some (.list vals), w, some (il row), pps, v, paper, h, sm, gv, td] = thenF (loopF (pName 18) b_law_2 (pp ++ more) [s, turn, nums, g, some (.int p), some (.int len), some (ill ss), some (il fs), k, row0, other, j, mem, some (.list vals), w, some (il row), some (.list (pp ++ more)), v, paper, h, sm, gv, td]) nxF := by
    rw [hmore] at a2 ⊢
    simp [b_law_3, ct, a1, a2]
  rw [e, h1]
  rfl
/-- values of one more list of weights -/
theorem weights_ok {nums : List Int} (hp : 2 ≤ p ∧ p ≤ 31) (hl : len ≤ 100) (hn : nums.length = 34) (s turn g fs k row0 other j mem wanted pps v paper h sm gv td : Option D) (vals : List D) (w : List Int) (hw : Row p len w) (hv : ∀ d ∈ vals, pl 10 d) (hvl : vals.length ≤ 1000) :
    ∃ j' vals', b_law_1 [s, turn, some (il nums), g, some (.int p), some (.int len), some (ill ss), fs, k, row0, other, j, mem, some (.list vals), some (il w), wanted, pps, v, paper, h, sm, gv, td] =
      .nx [s, turn, some (il nums), g, some (.int p), some (.int len), some (ill ss), fs, k, row0, other, j', mem, some (.list vals'), some (il w), wanted, pps, v, paper, h, sm, gv, td] ∧ (∀ d ∈ vals', pl 10 d) ∧ vals'.length ≤ vals.length + 21 := by
  have hc : cutA nums (some 33) none = nums.drop 33 := cutA_from nums 33
  obtain ⟨ds, e1, h1, l1⟩ := law_bent (nums := nums.drop 33) hp hw hl (by
    intro e
    have := congrArg List.length e
    simp at this
    omega)
  have cd : compD (itR1 (vD 5)) (pName 11) yesT (binD modI (binD mulG (binD ixG (vD 14) (vD 11)) (cD (.int 2))) (vD 4)) [s, turn, some (il nums), g, some (.int p), some (.int len), some (ill ss), fs, k, row0, other, j, mem, some (.list vals), some (il w), wanted, pps, v, paper, h, sm, gv, td] = .ok (il ((List.range len).map fun i => gI w i * 2 % p)) :=
    compD_il (enc := fun j : Nat => .int (j : Int)) (xs := List.range len) (by simp [rgOk_of (show -8000000 ≤ (len : Int) ∧ (len : Int) ≤ 8000000 by omega), rg0]) fun i hi => by
      have hi := List.mem_range.mp hi
      have := ixG_il (xs := w) (i := (i : Int)) (by omega) (by rw [hw.1]; omega)
      simp only [Int.toNat_natCast] at this
      simp [stepC, this, show 0 < p by omega]
  have a1 : addG (.list vals) (.list ds) = some (.list (vals ++ ds)) := addG_list _ _ (by omega)
  have a2 : addG (.list (vals ++ ds)) (.list [il ((List.range len).map fun i => gI w i * 2 % p)]) = some (.list ((vals ++ ds) ++ [il ((List.range len).map fun i => gI w i * 2 % p)])) := addG_list _ _ (by simp; omega)
  refine ⟨j, (vals ++ ds) ++ [il ((List.range len).map fun i => gI w i * 2 % p)], ?_, fun d hd => ?_, by simp; omega⟩
  · simp only [b_law_1, e_seq, e_asgF]
    simp [sliceG_il, hc, e1, cd, a1, a2]
  · simp only [List.mem_append, List.mem_cons, List.not_mem_nil, or_false] at hd
    rcases hd with (hd | hd) | rfl
    · exact hv d hd
    · exact (h1 d hd).mono (by decide)
    · exact pl_il _
end
end K64

namespace K64
open PySem PySem.Spec L2 DL
theorem turn_ok (ns : List Int) (turn : Nat) (ht : turn < 2) (nums g p_ len_ ss_ factors k row0 other j mem vals w wanted pps v paper h sm gv td : Option D) :
    ∃ a2 a3 a4 a5 a6 a7 a8 a9 a10 a11 a12 a13 a14 a15 a16 a17 a18 a19 a20 a21 a22, b_law_4 [some (scD ns), some (.int (turn : Int)), nums, g, p_, len_, ss_, factors, k, row0, other, j, mem, vals, w, wanted, pps, v, paper, h, sm, gv, td] =
      .nx [some (scD ns), some (.int (turn : Int)), a2, a3, a4, a5, a6, a7, a8, a9, a10, a11, a12, a13, a14, a15, a16, a17, a18, a19, a20, a21, a22] := by
  obtain ⟨xs, e1, l1, b1⟩ := law_numbers ns (6 + 8 * (turn : Int)) 34 (by omega) (by omega)
  have l1 : xs.length = 34 := by simpa using l1
  have ixn : ∀ i : Int, 0 ≤ i → i < 34 → ixG (il xs) (.int i) = some (.int (gI xs i.toNat)) := fun i h0 h1 => ixG_il h0 (by omega)
  have n31 := ixn 31 (by omega) (by omega)
  obtain ⟨gr, hgr⟩ : ∃ gr : Nat, gr = (if gI xs 31 % 16 = 0 then 1 else 0) := ⟨_, rfl⟩
  have grb : gr = 0 ∨ gr = 1 := by rw [hgr]; split <;> simp
  have eg : (if decide (gI xs 31 % 16 = 0) = true then (1 : Int) else 0) = (gr : Int) := by rw [hgr]; by_cases hz : gI xs 31 % 16 = 0 <;> simp [hz]
  obtain ⟨lo, hlo, hlo1⟩ : ∃ lo : Int, L2.atI [PyData.int 6, PyData.int 10] (gr : Int) = some (.int lo) ∧ (lo = 6 ∨ lo = 10) := by
    rcases grb with h | h <;> rw [h]
    · exact ⟨6, rfl, .inl rfl⟩
    · exact ⟨10, rfl, .inr rfl⟩
  obtain ⟨mo, hmo, hmo1⟩ : ∃ mo : Int, L2.atI [PyData.int 5, PyData.int 30] (gr : Int) = some (.int mo) ∧ (mo = 5 ∨ mo = 30) := by
    rcases grb with h | h <;> rw [h]
    · exact ⟨5, rfl, .inl rfl⟩
    · exact ⟨30, rfl, .inr rfl⟩
  obtain ⟨p, len, ss, e2, hp, hl1, hl2, hss, hs⟩ := law_samples ns (8 * (turn : Int)) lo mo (by omega) (by omega) (by omega)
  have pb := P11_b hp
  have p0 : 0 < p := by omega
  have md : ∀ z : Int, 0 ≤ z % p ∧ z % p < p := fun z => ⟨Int.emod_nonneg _ (by omega), Int.emod_lt_of_pos _ p0⟩
  -- factors
  have cf : ∀ (o7 o8 o9 o10 o11 o12 o13 o14 o15 o16 o17 o18 o19 o20 o21 o22 : Option D), ∃ fs, compD (itR1 (unD lenG (vD 6))) (pName 8) yesT (binD modI (binD ixG (vD 2) (vD 8)) (vD 4)) [some (scD ns), some (.int (turn : Int)), some (il xs), some (.int (gr : Int)), some (.int p), some (.int (len : Int)), some (ill ss), o7, o8, o9, o10, o11, o12, o13, o14, o15, o16, o17, o18, o19, o20, o21, o22] = .ok (il fs) ∧ Row p ss.length fs := fun _ _ _ _ _ _ _ _ _ _ _ _ _ _ _ _ =>
    draw_row (by simp [lenG_ill, rgOk_of (show -8000000 ≤ (ss.length : Int) ∧ (ss.length : Int) ≤ 8000000 by omega)]) fun i hi => ⟨gI xs i % p, by
      have := ixn (i : Int) (by omega) (by omega)
      simp only [Int.toNat_natCast] at this
      simp [this, p0], md _⟩
  obtain ⟨fs, cf, Rf⟩ := cf factors k row0 other j mem vals w wanted pps v paper h sm gv td
  have es := law_sum p len ss fs p0 (by omega) (by omega) (row_b (n := 0) (by omega) Rf.2) (fun r hr => (hs r hr).1) Rf.1
  obtain ⟨row, hrow⟩ : ∃ row, row = (List.range len).map fun j => lin (ss.zip fs) j % p := ⟨_, rfl⟩
  have Rrow : Row p len row := by
    rw [hrow]
    refine ⟨by simp, fun x hx => ?_⟩
    obtain ⟨z, _, rfl⟩ := List.mem_map.mp hx
    exact md _
  rw [← hrow] at es
  have co : ∀ (o7 o8 o9 o10 o11 o12 o13 o14 o15 o16 o17 o18 o19 o20 o21 o22 : Option D), ∃ r, compD (itR1 (vD 5)) (pName 11) yesT (binD modI (binD ixG (vD 2) (binD subI (cD (.int 30)) (vD 11))) (vD 4)) [some (scD ns), some (.int (turn : Int)), some (il xs), some (.int (gr : Int)), some (.int p), some (.int (len : Int)), some (ill ss), o7, o8, o9, o10, o11, o12, o13, o14, o15, o16, o17, o18, o19, o20, o21, o22] = .ok (il r) ∧ Row p len r := fun _ _ _ _ _ _ _ _ _ _ _ _ _ _ _ _ =>
    draw_row (by simp [rgOk_of (show -8000000 ≤ (len : Int) ∧ (len : Int) ≤ 8000000 by omega)]) fun i hi => ⟨_, by
      have := ixn (30 - (i : Int)) (by omega) (by omega)
      simp [this, p0]; rfl, md _⟩
  obtain ⟨oth, co, Ro⟩ := co (some (il fs)) k (some (il row)) other j mem vals w wanted pps v paper h sm gv td
  obtain ⟨ms, em, hm, lm⟩ := law_members hp (show len ≤ 100 by omega) hs
  have cw : ∀ (o7 o8 o9 o10 o11 o12 o13 o14 o15 o16 o17 o18 o19 o20 o21 o22 : Option D), ∃ r, compD (itR1 (vD 5)) (pName 11) yesT (binD modI (binD ixG (vD 2) (vD 11)) (vD 4)) [some (scD ns), some (.int (turn : Int)), some (il xs), some (.int (gr : Int)), some (.int p), some (.int (len : Int)), some (ill ss), o7, o8, o9, o10, o11, o12, o13, o14, o15, o16, o17, o18, o19, o20, o21, o22] = .ok (il r) ∧ Row p len r := fun _ _ _ _ _ _ _ _ _ _ _ _ _ _ _ _ =>
    draw_row (by simp [rgOk_of (show -8000000 ≤ (len : Int) ∧ (len : Int) ≤ 8000000 by omega)]) fun i hi => ⟨gI xs i % p, by
      have := ixn (i : Int) (by omega) (by omega)
      simp only [Int.toNat_natCast] at this
      simp [this, p0], md _⟩
  obtain ⟨ws, cw, Rw⟩ := cw (some (il fs)) k (some (il row)) (some (il oth)) j (some (ill ms)) vals w wanted pps v paper h sm gv td
  have hc32 : cutA xs (some 32) none = xs.drop 32 := cutA_from xs 32
  have ne32 : xs.drop 32 ≠ [] := fun e => by
    have := congrArg List.length e
    simp at this
    omega
  obtain ⟨v1, eb1, hb1, lb1⟩ := law_bent (nums := xs.drop 32) pb Rf (by omega) ne32
  obtain ⟨v2, eb2, hb2, lb2⟩ := law_bent (nums := xs.drop 32) pb Rw (by omega) ne32
  have av : addG (.list v1) (.list v2) = some (.list (v1 ++ v2)) := addG_list _ _ (by omega)
  -- the weights' loop
  obtain ⟨mw, hmw⟩ : ∃ mw : List (List Int), mw = cutA ms none (some 2) ++ cutA ms (some (-1)) none := ⟨_, rfl⟩
  have lmw : mw.length ≤ 200 := by
    have := cutA_len ms none (some 2)
    have := cutA_len ms (some (-1)) none
    rw [hmw, List.length_append]
    omega
  have lmw3 : mw.length ≤ 3 := by
    have h1 : (cutA ms none (some 2)).length ≤ 2 := by
      have : cutA ms none (some 2) = ms.take 2 := cutA_to ms 2
      rw [this, List.length_take]; omega
    have h2 : (cutA ms (some (-1)) none).length ≤ 1 := by
      rw [cutA_neg ms (-1) (by omega), List.length_drop]; omega
    rw [hmw, List.length_append]; omega
  have am : addG (ill (cutA ms none (some 2))) (ill (cutA ms (some (-1)) none)) = some (ill mw) := by
    rw [hmw]
    exact addG_ill _ _ (by have := cutA_len ms none (some 2); have := cutA_len ms (some (-1)) none; omega)
  have bmw : ∀ m ∈ mw, Row p len m := fun m hm' => by
    rw [hmw] at hm'
    rcases List.mem_append.mp hm' with hm' | hm'
    · exact hm m (cutA_mem hm')
    · exact hm m (cutA_mem hm')
  obtain ⟨e', h1, jx, vs, wx, rfl, q1, q2, _⟩ := loopF_inv (p := pName 14) (b := b_law_1) (enc := il) (xs := mw) (e := [some (scD ns), some (.int (turn : Int)), some (il xs), some (.int (gr : Int)), some (.int p), some (.int (len : Int)), some (ill ss), some (il fs), k, some (il row), some (il oth), j, some (ill ms), some (.list (v1 ++ v2)), w, wanted, pps, v, paper, h, sm, gv, td])
    (fun left e => ∃ jx vs wx, e = [some (scD ns), some (.int (turn : Int)), some (il xs), some (.int (gr : Int)), some (.int p), some (.int (len : Int)), some (ill ss), some (il fs), k, some (il row), some (il oth), jx, some (ill ms), some (.list vs), wx, wanted, pps, v, paper, h, sm, gv, td] ∧ (∀ d ∈ vs, pl 10 d) ∧ vs.length + 21 * left.length ≤ 200 ∧ ∀ m ∈ left, Row p len m)
    ⟨j, v1 ++ v2, w, rfl, fun d hd => by
      rcases List.mem_append.mp hd with hd | hd
      · exact (hb1 d hd).mono (by decide)
      · exact (hb2 d hd).mono (by decide), by simp; omega, bmw⟩ fun m left e => by
      rintro ⟨jx, vs, wx, rfl, h2, h3, h4⟩
      simp at h3
      obtain ⟨j', vs', e1, g1, g2⟩ := weights_ok (p := p) (len := len) (ss := ss) pb (by omega) l1 (some (scD ns)) (some (.int (turn : Int))) (some (.int (gr : Int))) (some (il fs)) k (some (il row)) (some (il oth)) jx (some (ill ms)) wanted pps v paper h sm gv td vs m (h4 m (by simp)) h2 (by omega)
      exact ⟨_, _, rfl, .inl e1, j', vs', some (il m), rfl, g1, by omega, fun x hx => h4 x (by simp [hx])⟩
  -- the wanted rows
  have Iof : ∀ r, Row p len r → Inp p len ss r := fun r hr => ⟨by omega, by omega, by omega, hs, hr⟩
  obtain ⟨rr, hrr, hrr2⟩ : ∃ rr : List (List Int), sliceG (.list [if turn = 0 then il row else il oth, if turn = 0 then il oth else il row]) none (some (1 + (gr : Int))) = some (ill rr) ∧ ∀ r ∈ rr, Row p len r := by
    refine ⟨cutA [if turn = 0 then row else oth, if turn = 0 then oth else row] none (some (1 + (gr : Int))), ?_, fun r hr => ?_⟩
    · rw [← sliceG_ill]
      by_cases hz : turn = 0 <;> simp [hz] <;> rfl
    · have := cutA_mem hr
      by_cases hz : turn = 0 <;> simp [hz] at this <;> rcases this with rfl | rfl <;> assumption
  have i1 : L2.atI [il row, il oth] (turn : Int) = some (if turn = 0 then il row else il oth) := by
    rcases (show turn = 0 ∨ turn = 1 by omega) with h | h <;> subst h <;> rfl
  have i2 : L2.atI [il oth, il row] (turn : Int) = some (if turn = 0 then il oth else il row) := by
    rcases (show turn = 0 ∨ turn = 1 by omega) with h | h <;> subst h <;> rfl
  obtain ⟨e', h2, w15, w16, w17, w18, w19, w20, w21, w22, rfl, _⟩ := loopF_inv (p := pName 15) (b := b_law_3) (enc := il) (xs := rr) (e := [some (scD ns), some (.int (turn : Int)), some (il xs), some (.int (gr : Int)), some (.int p), some (.int (len : Int)), some (ill ss), some (il fs), k, some (il row), some (il oth), jx, some (ill ms), some (.list vs), wx, wanted, pps, v, paper, h, sm, gv, td])
    (fun left e => ∃ w15 w16 w17 w18 w19 w20 w21 w22, e = [some (scD ns), some (.int (turn : Int)), some (il xs), some (.int (gr : Int)), some (.int p), some (.int (len : Int)), some (ill ss), some (il fs), k, some (il row), some (il oth), jx, some (ill ms), some (.list vs), wx, w15, w16, w17, w18, w19, w20, w21, w22] ∧ ∀ r ∈ left, Row p len r)
    ⟨wanted, pps, v, paper, h, sm, gv, td, rfl, hrr2⟩ fun r left e => by
      rintro ⟨w15, w16, w17, w18, w19, w20, w21, w22, rfl, h4⟩
      obtain ⟨a, b, c, d, f, g, i, e1⟩ := wanted_ok (fs := fs) (Iof r (h4 r (by simp))) (some (scD ns)) (some (.int (turn : Int))) (some (il xs)) (some (.int (gr : Int))) k (some (il row)) (some (il oth)) jx (some (ill ms)) wx w16 w17 w18 w19 w20 w21 w22 vs q1 (by simp at q2; omega)
      exact ⟨_, _, rfl, .inl e1, some (il r), a, b, c, d, f, g, i, rfl, fun x hx => h4 x (by simp [hx])⟩
  have g1 : intG (.bool (decide (gI xs 31 % 16 = 0))) = some (.int (gr : Int)) := by rw [← eg]; rfl
  have n31' : ixG (il xs) (.int 31) = some (.int (gI xs 31)) := n31
  have n8 : (8 : Int) * (turn : Int) = 8 * turn := rfl
  refine ⟨some (il xs), some (.int (gr : Int)), some (.int p), some (.int (len : Int)), some (ill ss), some (il fs), k, some (il row), some (il oth), jx, some (ill ms), some (.list vs), wx, w15, w16, w17, w18, w19, w20, w21, w22, ?_⟩
  simp [b_law_4, e1, n31', g1, hlo, hmo, e2, cf, es, co, em, cw, sliceG_il, sliceG_ill, hc32, eb1, eb2, av, am, lsOf_ill, h1, i1, i2, hrr, h2]
theorem law_true (ns : List Int) (_ : ns.length ≤ 63) : f_law [scD ns] = .ok (.bool true) := by
  obtain ⟨e', h1, _⟩ := loopF_foldN (p := pName 1) (b := b_law_4) (enc := fun i : Nat => (PyData.int (i : Int))) (n := 2) (st := ()) (e := [some (scD ns), none, none, none, none, none, none, none, none, none, none, none, none, none, none, none, none, none, none, none, none, none, none])
    (fun _ _ e => ∃ a1 a2 a3 a4 a5 a6 a7 a8 a9 a10 a11 a12 a13 a14 a15 a16 a17 a18 a19 a20 a21 a22, e = [some (scD ns), a1, a2, a3, a4, a5, a6, a7, a8, a9, a10, a11, a12, a13, a14, a15, a16, a17, a18, a19, a20, a21, a22]) (fun _ _ => ())
    ⟨none, none, none, none, none, none, none, none, none, none, none, none, none, none, none, none, none, none, none, none, none, none, rfl⟩ fun t ht _ e => by
      rintro ⟨a1, a2, a3, a4, a5, a6, a7, a8, a9, a10, a11, a12, a13, a14, a15, a16, a17, a18, a19, a20, a21, a22, rfl⟩
      obtain ⟨c2, c3, c4, c5, c6, c7, c8, c9, c10, c11, c12, c13, c14, c15, c16, c17, c18, c19, c20, c21, c22, e1⟩ := turn_ok ns t ht a2 a3 a4 a5 a6 a7 a8 a9 a10 a11 a12 a13 a14 a15 a16 a17 a18 a19 a20 a21 a22
      exact ⟨_, _, rfl, .inl e1, _, c2, c3, c4, c5, c6, c7, c8, c9, c10, c11, c12, c13, c14, c15, c16, c17, c18, c19, c20, c21, c22, rfl⟩
  rw [← rg0] at h1
  simp [f_law, b_law, rgOk_of (show -8000000 ≤ (2 : Int) ∧ (2 : Int) ≤ 8000000 by omega), h1]
end K64

namespace K64
open PySem PySem.Spec L2 DL
structure Gg (mg : Str → Option Value) : Prop where
  x_all : mg "all" = none
  x_bool : mg "bool" = none
  x_int : mg "int" = none
  x_isinstance : mg "isinstance" = none
  x_len : mg "len" = none
  x_list : mg "list" = none
  x_range : mg "range" = none
  x_str : mg "str" = none
  x_sum : mg "sum" = none
  x_tuple : mg "tuple" = none
  x_zip : mg "zip" = none
section
variable {P : Program} {w : World} {K : PySem.W.Frag} {mg : Str → Option Value} {base : Heap} {f : Addr} {fd : FuncData}
theorem ok_is_whole (g : Gg mg) (F : FunD K "is_whole" "is_whole" (defArgs s_is_whole) (defBody s_is_whole) (defScope s_is_whole) [] [] f fd) (hm : mg "is_whole" = some (.ref f))  : Def1 P w K mg base 1 "is_whole" 1 .sh f_is_whole := by
  have S : FnScope N_is_whole ["value"] (defScope s_is_whole) := ⟨rfl, rfl, rfl, by decide +kernel, rfl, by decide +kernel, by decide +kernel⟩
  refine Def1.mk_ (N := N_is_whole) (bf := b_is_whole) F hm S rfl (by decide) (fun _ _ _ _ _ _ us hl => match us, hl with | [_], _ => rfl) (fun cdv A outer s H E hr => ?_)
  have nd := S.nd
  have hu := hr.units
  exact (sd_cons (Γ1 := [])
  (sd_ret (pd_and (pd_isi (T := "int") .sh (pd_var 0 .sh rfl (.inl rfl) rfl) rfl g.x_isinstance PyProof.Rows.boot_isinstance rfl g.x_int PyProof.Rows.boot_int) (pd_one (pd_not .sh (pd_isi (T := "bool") .sh (pd_var 0 .sh rfl (.inl rfl) rfl) rfl g.x_isinstance PyProof.Rows.boot_isinstance rfl g.x_bool PyProof.Rows.boot_bool)))) rfl rfl)
  (sd_nil rfl))
theorem ok_is_from_to (g : Gg mg) (F : FunD K "is_from_to" "is_from_to" (defArgs s_is_from_to) (defBody s_is_from_to) (defScope s_is_from_to) [] [] f fd) (hm : mg "is_from_to" = some (.ref f)) (D_is_whole : Def1 P w K mg base 1 "is_whole" 1 .sh f_is_whole) : Def1 P w K mg base 2 "is_from_to" 3 .sh f_is_from_to := by
  have S : FnScope N_is_from_to ["value", "least", "greatest"] (defScope s_is_from_to) := ⟨rfl, rfl, rfl, by decide +kernel, rfl, by decide +kernel, by decide +kernel⟩
  refine Def1.mk_ (N := N_is_from_to) (bf := b_is_from_to) F hm S rfl (by decide) (fun _ _ _ _ _ _ us hl => match us, hl with | [_, _, _], _ => rfl) (fun cdv A outer s H E hr => ?_)
  have nd := S.nd
  have hu := hr.units
  have RM_is_whole : Room 1 _ := hr.mono (by decide : 1 ≤ 1)
  exact (sd_cons (Γ1 := [])
  (sd_ret (pd_and (pd_call D_is_whole RM_is_whole rfl (pass_of (takes_of rfl rfl rfl rfl)) (ad_cons (pd_sh (pd_var 0 .sh rfl (.inl rfl) rfl)) (ad_nil .sh))) (pd_one (pd_chain (op_leD hu) (op_leD hu) (bin_ord _ .sh) (bin_ord _ .sh) (pd_var 1 .sh rfl (.inl rfl) rfl) (pd_var 0 .sh rfl (.inl rfl) rfl) (pd_var 2 .sh rfl (.inl rfl) rfl)))) rfl rfl)
  (sd_nil rfl))
theorem ok_multiple (g : Gg mg) (F : FunD K "multiple" "multiple" (defArgs s_multiple) (defBody s_multiple) (defScope s_multiple) [] [] f fd) (hm : mg "multiple" = some (.ref f))  : Def1 P w K mg base 1 "multiple" 3 .sh f_multiple := by
  have S : FnScope N_multiple ["p", "factor", "row"] (defScope s_multiple) := ⟨rfl, rfl, rfl, by decide +kernel, rfl, by decide +kernel, by decide +kernel⟩
  refine Def1.mk_ (N := N_multiple) (bf := b_multiple) F hm S rfl (by decide) (fun _ _ _ _ _ _ us hl => match us, hl with | [_, _, _], _ => rfl) (fun cdv A outer s H E hr => ?_)
  have nd := S.nd
  have hu := hr.units
  have hl3 : 3 < N_multiple.length := by decide
  exact (sd_cons (Γ1 := [])
  (sd_ret (pd_fz (pd_lc (own := [("entry", 3)]) (Γ1 := [gS, gS, gS, gS]) rfl nd (id_list (pd_sh (pd_var 2 .sh rfl (.inl rfl) rfl))) (blkOk_by (own := [("entry", 3)]) (N := N_multiple) (sc := defScope s_multiple) (by decide +kernel)) (fun _ _ _ _ _ => (gd_name 3 nd rfl (.inl rfl) hl3 rfl)) (fun _ _ _ _ _ => tsd_nil) (fun _ _ _ _ _ => (pd_op op_modN (bin_modI .sh) (pd_op op_mulG (bin_mulG rfl) (pd_var 1 .sh rfl (.inr (.inl rfl)) rfl) (pd_var 3 .sh rfl (.inl rfl) rfl)) (pd_var 0 .sh rfl (.inr (.inl rfl)) rfl))) (by decide))) rfl rfl)
  (sd_nil rfl))
theorem ok_sum_of_rows (g : Gg mg) (F : FunD K "sum_of_rows" "sum_of_rows" (defArgs s_sum_of_rows) (defBody s_sum_of_rows) (defScope s_sum_of_rows) [] [] f fd) (hm : mg "sum_of_rows" = some (.ref f))  : Def1 P w K mg base 1 "sum_of_rows" 3 .sh f_sum_of_rows := by
  have S : FnScope N_sum_of_rows ["p", "first", "second"] (defScope s_sum_of_rows) := ⟨rfl, rfl, rfl, by decide +kernel, rfl, by decide +kernel, by decide +kernel⟩
  refine Def1.mk_ (N := N_sum_of_rows) (bf := b_sum_of_rows) F hm S rfl (by decide) (fun _ _ _ _ _ _ us hl => match us, hl with | [_, _, _], _ => rfl) (fun cdv A outer s H E hr => ?_)
  have nd := S.nd
  have hu := hr.units
  have hl3 : 3 < N_sum_of_rows.length := by decide
  have hl4 : 4 < N_sum_of_rows.length := by decide
  exact (sd_cons (Γ1 := [])
  (sd_ret (pd_fz (pd_lc (own := [("one", 3), ("other", 4)]) (Γ1 := [gS, gS, gS, gS, gS]) rfl nd (id_zip rfl g.x_zip (pd_sh (pd_var 1 .sh rfl (.inl rfl) rfl)) (pd_sh (pd_var 2 .sh rfl (.inl rfl) rfl))) (blkOk_by (own := [("one", 3), ("other", 4)]) (N := N_sum_of_rows) (sc := defScope s_sum_of_rows) (by decide +kernel)) (fun _ _ _ _ _ => (gd_tup rfl (gsd_cons (gd_name 3 nd rfl (.inl rfl) hl3 rfl) (gsd_cons (gd_name 4 nd rfl (.inl rfl) hl4 rfl) gsd_nil)))) (fun _ _ _ _ _ => tsd_nil) (fun _ _ _ _ _ => (pd_op op_modN (bin_modI .sh) (pd_op op_addG (bin_addG rfl rfl) (pd_var 3 .sh rfl (.inl rfl) rfl) (pd_var 4 .sh rfl (.inl rfl) rfl)) (pd_var 0 .sh rfl (.inr (.inl rfl)) rfl))) (by decide))) rfl rfl)
  (sd_nil rfl))
theorem ok_sum_of_products (g : Gg mg) (F : FunD K "sum_of_products" "sum_of_products" (defArgs s_sum_of_products) (defBody s_sum_of_products) (defScope s_sum_of_products) [] [] f fd) (hm : mg "sum_of_products" = some (.ref f))  : Def1 P w K mg base 1 "sum_of_products" 3 .sh f_sum_of_products := by
  have S : FnScope N_sum_of_products ["p", "first", "second"] (defScope s_sum_of_products) := ⟨rfl, rfl, rfl, by decide +kernel, rfl, by decide +kernel, by decide +kernel⟩
  refine Def1.mk_ (N := N_sum_of_products) (bf := b_sum_of_products) F hm S rfl (by decide) (fun _ _ _ _ _ _ us hl => match us, hl with | [_, _, _], _ => rfl) (fun cdv A outer s H E hr => ?_)
  have nd := S.nd
  have hu := hr.units
  have hl3 : 3 < N_sum_of_products.length := by decide
  have hl4 : 4 < N_sum_of_products.length := by decide
  exact (sd_cons (Γ1 := [])
  (sd_ret (pd_op op_modN (bin_modI .sh) (pd_callB1 (cr_sum rfl) (un_sum .sh) rfl g.x_sum PyProof.Rows.boot_sum (pd_lc (own := [("one", 3), ("other", 4)]) (Γ1 := [gS, gS, gS, gS, gS]) rfl nd (id_zip rfl g.x_zip (pd_sh (pd_var 1 .sh rfl (.inl rfl) rfl)) (pd_sh (pd_var 2 .sh rfl (.inl rfl) rfl))) (blkOk_by (own := [("one", 3), ("other", 4)]) (N := N_sum_of_products) (sc := defScope s_sum_of_products) (by decide +kernel)) (fun _ _ _ _ _ => (gd_tup rfl (gsd_cons (gd_name 3 nd rfl (.inl rfl) hl3 rfl) (gsd_cons (gd_name 4 nd rfl (.inl rfl) hl4 rfl) gsd_nil)))) (fun _ _ _ _ _ => tsd_nil) (fun _ _ _ _ _ => (pd_fz (pd_op op_mulG (bin_mulG rfl) (pd_var 3 .sh rfl (.inl rfl) rfl) (pd_var 4 .sh rfl (.inl rfl) rfl)))) (by decide))) (pd_var 0 .sh rfl (.inl rfl) rfl)) rfl rfl)
  (sd_nil rfl))
theorem ok_are_numbers (g : Gg mg) (F : FunD K "are_numbers" "are_numbers" (defArgs s_are_numbers) (defBody s_are_numbers) (defScope s_are_numbers) [] [] f fd) (hm : mg "are_numbers" = some (.ref f)) (D_is_from_to : Def1 P w K mg base 2 "is_from_to" 3 .sh f_is_from_to) : Def1 P w K mg base 3 "are_numbers" 3 .sh f_are_numbers := by
  have S : FnScope N_are_numbers ["p", "value", "length"] (defScope s_are_numbers) := ⟨rfl, rfl, rfl, by decide +kernel, rfl, by decide +kernel, by decide +kernel⟩
  refine Def1.mk_ (N := N_are_numbers) (bf := b_are_numbers) F hm S rfl (by decide) (fun _ _ _ _ _ _ us hl => match us, hl with | [_, _, _], _ => rfl) (fun cdv A outer s H E hr => ?_)
  have nd := S.nd
  have hu := hr.units
  have RM_is_from_to : Room 2 _ := hr.mono (by decide : 2 ≤ 2)
  have hl3 : 3 < N_are_numbers.length := by decide
  exact (sd_cons (Γ1 := [gS, gS, gS, gN])
  (sd_if (td_w (wd_or (td_not (td_tru (pd_isi (T := "list") .sh (pd_var 1 .sh rfl (.inl rfl) rfl) rfl g.x_isinstance PyProof.Rows.boot_isinstance rfl g.x_list PyProof.Rows.boot_list) (fun _ => rfl))) (wd_or1 (td_cmp (op_neP hu) (bin_ne .sh) (pd_callB1 call_len (un_len .sh) rfl g.x_len PySem.boot_len (pd_var 1 .sh rfl (.inl rfl) rfl)) (pd_var 2 .sh rfl (.inl rfl) rfl) rfl))))
  (sd_cons (Γ1 := [gS, gS, gS, gN])
  (sd_ret (pd_bl .sh) rfl rfl)
  (sd_nil rfl))
  (sd_nil rfl) rfl)
  (sd_cons (Γ1 := [])
  (sd_ret (pd_callB1 (cr_all rfl) (un_all .sh) rfl g.x_all PyProof.Rows.boot_all (pd_lc (own := [("entry", 3)]) (Γ1 := [gS, gS, gS, gS]) rfl nd (id_list (pd_sh (pd_var 1 .sh rfl (.inl rfl) rfl))) (blkOk_by (own := [("entry", 3)]) (N := N_are_numbers) (sc := defScope s_are_numbers) (by decide +kernel)) (fun _ _ _ _ _ => (gd_name 3 nd rfl (.inl rfl) hl3 rfl)) (fun _ _ _ _ _ => tsd_nil) (fun _ _ _ _ _ => (pd_call D_is_from_to RM_is_from_to rfl pass_never (ad_cons (pd_sh (pd_var 3 .sh rfl (.inl rfl) rfl)) (ad_cons (pd_int .sh) (ad_cons (pd_op op_sub (bin_subI .sh) (pd_var 0 .sh rfl (.inr (.inl rfl)) rfl) (pd_int .sh)) (ad_nil .sh)))))) (by decide))) rfl rfl)
  (sd_nil rfl)))
theorem ok_do_fit (g : Gg mg) (F : FunD K "do_fit" "do_fit" (defArgs s_do_fit) (defBody s_do_fit) (defScope s_do_fit) [] [] f fd) (hm : mg "do_fit" = some (.ref f)) (D_sum_of_products : Def1 P w K mg base 1 "sum_of_products" 3 .sh f_sum_of_products) : Def1 P w K mg base 2 "do_fit" 3 .sh f_do_fit := by
  have S : FnScope N_do_fit ["p", "weights", "row"] (defScope s_do_fit) := ⟨rfl, rfl, rfl, by decide +kernel, rfl, by decide +kernel, by decide +kernel⟩
  refine Def1.mk_ (N := N_do_fit) (bf := b_do_fit) F hm S rfl (by decide) (fun _ _ _ _ _ _ us hl => match us, hl with | [_, _, _], _ => rfl) (fun cdv A outer s H E hr => ?_)
  have nd := S.nd
  have hu := hr.units
  have RM_sum_of_products : Room 1 _ := hr.mono (by decide : 1 ≤ 1)
  exact (sd_cons (Γ1 := [])
  (sd_ret (pd_cmp (op_eqP hu) (bin_eq .sh) (pd_call D_sum_of_products RM_sum_of_products rfl (pass_of (takes_of rfl rfl rfl rfl)) (ad_cons (pd_sh (pd_var 0 .sh rfl (.inl rfl) rfl)) (ad_cons (pd_sh (pd_var 1 .sh rfl (.inl rfl) rfl)) (ad_cons (pd_sh (pd_var 2 .sh rfl (.inl rfl) rfl)) (ad_nil .sh))))) (pd_int .sh) rfl) rfl rfl)
  (sd_nil rfl))
theorem ok_sum_of_multiples (g : Gg mg) (F : FunD K "sum_of_multiples" "sum_of_multiples" (defArgs s_sum_of_multiples) (defBody s_sum_of_multiples) (defScope s_sum_of_multiples) [] [] f fd) (hm : mg "sum_of_multiples" = some (.ref f)) (D_multiple : Def1 P w K mg base 1 "multiple" 3 .sh f_multiple) (D_sum_of_rows : Def1 P w K mg base 1 "sum_of_rows" 3 .sh f_sum_of_rows) : Def1 P w K mg base 2 "sum_of_multiples" 4 .sh f_sum_of_multiples := by
  have S : FnScope N_sum_of_multiples ["p", "length", "samples", "factors"] (defScope s_sum_of_multiples) := ⟨rfl, rfl, rfl, by decide +kernel, rfl, by decide +kernel, by decide +kernel⟩
  refine Def1.mk_ (N := N_sum_of_multiples) (bf := b_sum_of_multiples) F hm S rfl (by decide) (fun _ _ _ _ _ _ us hl => match us, hl with | [_, _, _, _], _ => rfl) (fun cdv A outer s H E hr => ?_)
  have nd := S.nd
  have hu := hr.units
  have RM_multiple : Room 1 _ := hr.mono (by decide : 1 ≤ 1)
  have RM_sum_of_rows : Room 1 _ := hr.mono (by decide : 1 ≤ 1)
  have hl4 : 4 < N_sum_of_multiples.length := by decide
  have hl5 : 5 < N_sum_of_multiples.length := by decide
  have hl6 : 6 < N_sum_of_multiples.length := by decide
  exact (sd_cons (Γ1 := [gS, gS, gS, gS, gS, gN, gN])
  (sd_set 4 nd rfl (.inl rfl) hl4 (pd_fz (pd_op op_mulG (bin_mulG rfl) (pd_lst (ad_cons (pd_int .sh) (ad_nil .sh)) (by decide)) (pd_var 1 .sh rfl (.inl rfl) rfl))) rfl rfl)
  (sd_cons (Γ1 := [gS, gS, gS, gS, gS, gN, gN])
  (sd_for (Γ1 := [gS, gS, gS, gS, gS, gS, gS]) (passes_of rfl) rfl (id_zip rfl g.x_zip (pd_sh (pd_var 2 .sh rfl (.inl rfl) rfl)) (pd_sh (pd_var 3 .sh rfl (.inl rfl) rfl))) (gd_tup rfl (gsd_cons (gd_name 5 nd rfl (.inl rfl) hl5 rfl) (gsd_cons (gd_name 6 nd rfl (.inl rfl) hl6 rfl) gsd_nil)))
  (sd_cons (Γ1 := [gS, gS, gS, gS, gS, gS, gS])
  (sd_set 4 nd rfl (.inl rfl) hl4 (pd_call D_sum_of_rows RM_sum_of_rows rfl (pass_of (takes_of rfl rfl rfl rfl)) (ad_cons (pd_sh (pd_var 0 .sh rfl (.inl rfl) rfl)) (ad_cons (pd_sh (pd_var 4 .sh rfl (.inl rfl) rfl)) (ad_cons (pd_call D_multiple RM_multiple rfl (pass_of (takes_of rfl rfl rfl rfl)) (ad_cons (pd_sh (pd_var 0 .sh rfl (.inl rfl) rfl)) (ad_cons (pd_sh (pd_var 6 .sh rfl (.inl rfl) rfl)) (ad_cons (pd_sh (pd_var 5 .sh rfl (.inl rfl) rfl)) (ad_nil .sh))))) (ad_nil .sh))))) rfl rfl)
  (sd_nil rfl)) rfl rfl)
  (sd_cons (Γ1 := [])
  (sd_ret (pd_sh (pd_var 4 .sh rfl (.inl rfl) rfl)) rfl rfl)
  (sd_nil rfl))))
theorem ok_is_sum_paper (g : Gg mg) (F : FunD K "is_sum_paper" "is_sum_paper" (defArgs s_is_sum_paper) (defBody s_is_sum_paper) (defScope s_is_sum_paper) [] [] f fd) (hm : mg "is_sum_paper" = some (.ref f)) (D_are_numbers : Def1 P w K mg base 3 "are_numbers" 3 .sh f_are_numbers) (D_sum_of_multiples : Def1 P w K mg base 2 "sum_of_multiples" 4 .sh f_sum_of_multiples) : Def1 P w K mg base 4 "is_sum_paper" 5 .sh f_is_sum_paper := by
  have S : FnScope N_is_sum_paper ["p", "length", "samples", "row", "value"] (defScope s_is_sum_paper) := ⟨rfl, rfl, rfl, by decide +kernel, rfl, by decide +kernel, by decide +kernel⟩
  refine Def1.mk_ (N := N_is_sum_paper) (bf := b_is_sum_paper) F hm S rfl (by decide) (fun _ _ _ _ _ _ us hl => match us, hl with | [_, _, _, _, _], _ => rfl) (fun cdv A outer s H E hr => ?_)
  have nd := S.nd
  have hu := hr.units
  have RM_are_numbers : Room 3 _ := hr.mono (by decide : 3 ≤ 3)
  have RM_sum_of_multiples : Room 2 _ := hr.mono (by decide : 2 ≤ 3)
  exact (sd_cons (Γ1 := [gS, gS, gS, gS, gS])
  (sd_if (td_not (td_tru (pd_call D_are_numbers RM_are_numbers rfl (pass_of (takes_of rfl rfl rfl rfl)) (ad_cons (pd_sh (pd_var 0 .sh rfl (.inl rfl) rfl)) (ad_cons (pd_sh (pd_var 4 .sh rfl (.inl rfl) rfl)) (ad_cons (pd_callB1 call_len (un_len .sh) rfl g.x_len PySem.boot_len (pd_var 2 .sh rfl (.inl rfl) rfl)) (ad_nil .sh))))) (fun _ => rfl)))
  (sd_cons (Γ1 := [gS, gS, gS, gS, gS])
  (sd_ret (pd_bl .sh) rfl rfl)
  (sd_nil rfl))
  (sd_nil rfl) rfl)
  (sd_cons (Γ1 := [])
  (sd_ret (pd_cmp (op_eqP hu) (bin_eq .sh) (pd_call D_sum_of_multiples RM_sum_of_multiples rfl (pass_of (takes_of rfl rfl rfl rfl)) (ad_cons (pd_sh (pd_var 0 .sh rfl (.inl rfl) rfl)) (ad_cons (pd_sh (pd_var 1 .sh rfl (.inl rfl) rfl)) (ad_cons (pd_sh (pd_var 2 .sh rfl (.inl rfl) rfl)) (ad_cons (pd_sh (pd_var 4 .sh rfl (.inl rfl) rfl)) (ad_nil .sh)))))) (pd_var 3 .sh rfl (.inl rfl) rfl) rfl) rfl rfl)
  (sd_nil rfl)))
theorem ok_is_weights_paper (g : Gg mg) (F : FunD K "is_weights_paper" "is_weights_paper" (defArgs s_is_weights_paper) (defBody s_is_weights_paper) (defScope s_is_weights_paper) [] [] f fd) (hm : mg "is_weights_paper" = some (.ref f)) (D_are_numbers : Def1 P w K mg base 3 "are_numbers" 3 .sh f_are_numbers) (D_do_fit : Def1 P w K mg base 2 "do_fit" 3 .sh f_do_fit) : Def1 P w K mg base 4 "is_weights_paper" 5 .sh f_is_weights_paper := by
  have S : FnScope N_is_weights_paper ["p", "length", "samples", "row", "value"] (defScope s_is_weights_paper) := ⟨rfl, rfl, rfl, by decide +kernel, rfl, by decide +kernel, by decide +kernel⟩
  refine Def1.mk_ (N := N_is_weights_paper) (bf := b_is_weights_paper) F hm S rfl (by decide) (fun _ _ _ _ _ _ us hl => match us, hl with | [_, _, _, _, _], _ => rfl) (fun cdv A outer s H E hr => ?_)
  have nd := S.nd
  have hu := hr.units
  have RM_are_numbers : Room 3 _ := hr.mono (by decide : 3 ≤ 3)
  have RM_do_fit : Room 2 _ := hr.mono (by decide : 2 ≤ 3)
  have hl5 : 5 < N_is_weights_paper.length := by decide
  exact (sd_cons (Γ1 := [gS, gS, gS, gS, gS, gN])
  (sd_if (td_w (wd_or (td_not (td_tru (pd_call D_are_numbers RM_are_numbers rfl (pass_of (takes_of rfl rfl rfl rfl)) (ad_cons (pd_sh (pd_var 0 .sh rfl (.inr (.inl rfl)) rfl)) (ad_cons (pd_sh (pd_var 4 .sh rfl (.inr (.inl rfl)) rfl)) (ad_cons (pd_sh (pd_var 1 .sh rfl (.inl rfl) rfl)) (ad_nil .sh))))) (fun _ => rfl))) (wd_or1 (td_tru (pd_call D_do_fit RM_do_fit rfl (pass_of (takes_of rfl rfl rfl rfl)) (ad_cons (pd_sh (pd_var 0 .sh rfl (.inr (.inl rfl)) rfl)) (ad_cons (pd_sh (pd_var 4 .sh rfl (.inr (.inl rfl)) rfl)) (ad_cons (pd_sh (pd_var 3 .sh rfl (.inl rfl) rfl)) (ad_nil .sh))))) (fun _ => rfl)))))
  (sd_cons (Γ1 := [gS, gS, gS, gS, gS, gN])
  (sd_ret (pd_bl .sh) rfl rfl)
  (sd_nil rfl))
  (sd_nil rfl) rfl)
  (sd_cons (Γ1 := [])
  (sd_ret (pd_callB1 (cr_all rfl) (un_all .sh) rfl g.x_all PyProof.Rows.boot_all (pd_lc (own := [("sample", 5)]) (Γ1 := [gS, gS, gS, gS, gS, gS]) rfl nd (id_list (pd_sh (pd_var 2 .sh rfl (.inl rfl) rfl))) (blkOk_by (own := [("sample", 5)]) (N := N_is_weights_paper) (sc := defScope s_is_weights_paper) (by decide +kernel)) (fun _ _ _ _ _ => (gd_name 5 nd rfl (.inl rfl) hl5 rfl)) (fun _ _ _ _ _ => tsd_nil) (fun _ _ _ _ _ => (pd_call D_do_fit RM_do_fit rfl pass_never (ad_cons (pd_sh (pd_var 0 .sh rfl (.inr (.inl rfl)) rfl)) (ad_cons (pd_sh (pd_var 4 .sh rfl (.inr (.inl rfl)) rfl)) (ad_cons (pd_sh (pd_var 5 .sh rfl (.inl rfl) rfl)) (ad_nil .sh)))))) (by decide))) rfl rfl)
  (sd_nil rfl)))
theorem ok_shows_follow (g : Gg mg) (F : FunD K "shows_follow" "shows_follow" (defArgs s_shows_follow) (defBody s_shows_follow) (defScope s_shows_follow) [] [] f fd) (hm : mg "shows_follow" = some (.ref f)) (D_is_sum_paper : Def1 P w K mg base 4 "is_sum_paper" 5 .sh f_is_sum_paper) (D_is_weights_paper : Def1 P w K mg base 4 "is_weights_paper" 5 .sh f_is_weights_paper) : Def1 P w K mg base 5 "shows_follow" 5 .sh f_shows_follow := by
  have S : FnScope N_shows_follow ["p", "length", "samples", "row", "paper"] (defScope s_shows_follow) := ⟨rfl, rfl, rfl, by decide +kernel, rfl, by decide +kernel, by decide +kernel⟩
  refine Def1.mk_ (N := N_shows_follow) (bf := b_shows_follow) F hm S rfl (by decide) (fun _ _ _ _ _ _ us hl => match us, hl with | [_, _, _, _, _], _ => rfl) (fun cdv A outer s H E hr => ?_)
  have nd := S.nd
  have hu := hr.units
  have RM_is_sum_paper : Room 4 _ := hr.mono (by decide : 4 ≤ 4)
  have RM_is_weights_paper : Room 4 _ := hr.mono (by decide : 4 ≤ 4)
  have hl5 : 5 < N_shows_follow.length := by decide
  exact (sd_cons (Γ1 := [gS, gS, gS, gS, gS, gN])
  (sd_if (td_not (td_tru (pd_isi (T := "tuple") .sh (pd_var 4 .sh rfl (.inl rfl) rfl) rfl g.x_isinstance PyProof.Rows.boot_isinstance rfl g.x_tuple PyProof.Rows.boot_tuple) (fun _ => rfl)))
  (sd_cons (Γ1 := [gS, gS, gS, gS, gS, gN])
  (sd_ret (pd_bl .sh) rfl rfl)
  (sd_nil rfl))
  (sd_nil rfl) rfl)
  (sd_cons (Γ1 := [gS, gS, gS, gS, gS, gN])
  (sd_match (pd_sh (pd_var 4 .sh rfl (.inl rfl) rfl)) (cs_cons [5] nd (m_seq rfl (ms_cons (m_val hu) (ms_cons m_cap ms_nil)) rfl) ⟨hl5, rfl, (.inl rfl), .inl rfl, trivial⟩
  (sd_cons (Γ1 := [gS, gS, gS, gS, gS, gN])
  (sd_ret (pd_call D_is_sum_paper RM_is_sum_paper rfl (pass_of (takes_of rfl rfl rfl rfl)) (ad_cons (pd_sh (pd_var 0 .sh rfl (.inl rfl) rfl)) (ad_cons (pd_sh (pd_var 1 .sh rfl (.inl rfl) rfl)) (ad_cons (pd_sh (pd_var 2 .sh rfl (.inl rfl) rfl)) (ad_cons (pd_sh (pd_var 3 .sh rfl (.inl rfl) rfl)) (ad_cons (pd_sh (pd_var 5 .sh rfl (.inl rfl) rfl)) (ad_nil .sh))))))) rfl rfl)
  (sd_nil rfl)) (cs_cons [5] nd (m_seq rfl (ms_cons (m_val hu) (ms_cons m_cap ms_nil)) rfl) ⟨hl5, rfl, (.inl rfl), .inl rfl, trivial⟩
  (sd_cons (Γ1 := [gS, gS, gS, gS, gS, gN])
  (sd_ret (pd_call D_is_weights_paper RM_is_weights_paper rfl (pass_of (takes_of rfl rfl rfl rfl)) (ad_cons (pd_sh (pd_var 0 .sh rfl (.inl rfl) rfl)) (ad_cons (pd_sh (pd_var 1 .sh rfl (.inl rfl) rfl)) (ad_cons (pd_sh (pd_var 2 .sh rfl (.inl rfl) rfl)) (ad_cons (pd_sh (pd_var 3 .sh rfl (.inl rfl) rfl)) (ad_cons (pd_sh (pd_var 5 .sh rfl (.inl rfl) rfl)) (ad_nil .sh))))))) rfl rfl)
  (sd_nil rfl)) (cs_cons [] nd m_wild trivial
  (sd_cons (Γ1 := [gS, gS, gS, gS, gS, gN])
  (sd_ret (pd_bl .sh) rfl rfl)
  (sd_nil rfl)) (cs_nil rfl)))) rfl)
  (sd_nil rfl)))
theorem ok__law_numbers (g : Gg mg) (F : FunD K "_law_numbers" "_law_numbers" (defArgs s__law_numbers) (defBody s__law_numbers) (defScope s__law_numbers) [] [] f fd) (hm : mg "_law_numbers" = some (.ref f))  : Def1 P w K mg base 1 "_law_numbers" 3 .sh f__law_numbers := by
  have S : FnScope N__law_numbers ["script", "at", "count"] (defScope s__law_numbers) := ⟨rfl, rfl, rfl, by decide +kernel, rfl, by decide +kernel, by decide +kernel⟩
  refine Def1.mk_ (N := N__law_numbers) (bf := b__law_numbers) F hm S rfl (by decide) (fun _ _ _ _ _ _ us hl => match us, hl with | [_, _, _], _ => rfl) (fun cdv A outer s H E hr => ?_)
  have nd := S.nd
  have hu := hr.units
  have hl3 : 3 < N__law_numbers.length := by decide
  have hl4 : 4 < N__law_numbers.length := by decide
  have hl5 : 5 < N__law_numbers.length := by decide
  have hl6 : 6 < N__law_numbers.length := by decide
  exact (sd_cons (Γ1 := [gS, gS, gS, gS, gN, gN, gN])
  (sd_set 3 nd rfl (.inl rfl) hl3 (pd_fz (pd_op op_mulG (bin_mulG rfl) (pd_int .sh) (pd_op op_addG (bin_addG rfl rfl) (pd_var 1 .sh rfl (.inl rfl) rfl) (pd_int .sh)))) rfl rfl)
  (sd_cons (Γ1 := [gS, gS, gS, gS, gN, gN, gN])
  (sd_if (td_cmp (op_ltD hu) (bin_ord _ .sh) (pd_var 1 .sh rfl (.inl rfl) rfl) (pd_callB1 call_len (un_len .sh) rfl g.x_len PySem.boot_len (pd_var 0 .sh rfl (.inl rfl) rfl)) rfl)
  (sd_cons (Γ1 := [gS, gS, gS, gS, gN, gN, gN])
  (sd_set 3 nd rfl (.inl rfl) hl3 (pd_callT1 call_int1 (un_int .sh) rfl g.x_int PyProof.Rows.boot_int (pd_at (pd_var 0 .sh rfl (.inl rfl) rfl) (pd_var 1 .sh rfl (.inl rfl) rfl) (fun _ _ => rfl) rfl)) rfl rfl)
  (sd_nil rfl))
  (sd_nil rfl) rfl)
  (sd_cons (Γ1 := [gS, gS, gS, gS, gN, gN, gN])
  (sd_if (td_cmp (op_ltD hu) (bin_ord _ .sh) (pd_var 3 .sh rfl (.inl rfl) rfl) (pd_int .sh) rfl)
  (sd_cons (Γ1 := [gS, gS, gS, gS, gN, gN, gN])
  (sd_set 3 nd rfl (.inl rfl) hl3 (pd_op op_sub (bin_subI .sh) (pd_int .sh) (pd_op op_mulG (bin_mulG rfl) (pd_int .sh) (pd_var 3 .sh rfl (.inl rfl) rfl))) rfl rfl)
  (sd_nil rfl))
  (sd_nil rfl) rfl)
  (sd_cons (Γ1 := [gS, gS, gS, gS, gW, gN, gN])
  (sd_set 4 nd rfl (.inl rfl) hl4 (pd_lst (ad_nil .sh) (by decide)) rfl rfl)
  (sd_cons (Γ1 := [gS, gS, gS, gS, gW, gN, gN])
  (sd_for (Γ1 := [gS, gS, gS, gS, gW, gS, gN]) (passes_of rfl) rfl (id_range1 rfl g.x_range (pd_var 2 .sh rfl (.inl rfl) rfl)) (gd_name 5 nd rfl (.inl rfl) hl5 rfl)
  (sd_cons (Γ1 := [gS, gS, gS, gS, gW, gS, gN])
  (sd_if (td_cmp (op_geD hu) (bin_ord _ .sh) (pd_var 3 .sh rfl (.inl rfl) rfl) (pd_op op_pow (bin_powI .sh) (pd_int .sh) (pd_int .sh)) rfl)
  (sd_cons (Γ1 := [gS, gS, gS, gS, gW, gS, gN])
  (sd_mod 4 PySem.F.slot_list_append PySem.F.type_list_append mt_append mod_append rfl (.inl rfl) rfl (pd_op op_modN (bin_modI .sh) (pd_var 3 .sh rfl (.inl rfl) rfl) (pd_int .sh)) rfl rfl)
  (sd_cons (Γ1 := [gS, gS, gS, gS, gW, gS, gN])
  (sd_set 3 nd rfl (.inl rfl) hl3 (pd_op op_fdivN (bin_fdivI .sh) (pd_var 3 .sh rfl (.inl rfl) rfl) (pd_int .sh)) rfl rfl)
  (sd_nil rfl)))
  (sd_cons (Γ1 := [gS, gS, gS, gS, gW, gS, gS])
  (sd_set 6 nd rfl (.inl rfl) hl6 (pd_op op_modN (bin_modI .sh) (pd_op op_addG (bin_addG rfl rfl) (pd_op op_addG (bin_addG rfl rfl) (pd_op op_mulG (bin_mulG rfl) (pd_var 3 .sh rfl (.inl rfl) rfl) (pd_int .sh)) (pd_op op_mulG (bin_mulG rfl) (pd_op op_addG (bin_addG rfl rfl) (pd_var 5 .sh rfl (.inl rfl) rfl) (pd_int .sh)) (pd_int .sh))) (pd_op op_mulG (bin_mulG rfl) (pd_var 1 .sh rfl (.inl rfl) rfl) (pd_int .sh))) (pd_int .sh)) rfl rfl)
  (sd_cons (Γ1 := [gS, gS, gS, gS, gW, gS, gS])
  (sd_set 6 nd rfl (.inl rfl) hl6 (pd_op op_modN (bin_modI .sh) (pd_op op_addG (bin_addG rfl rfl) (pd_op op_mulG (bin_mulG rfl) (pd_var 6 .sh rfl (.inl rfl) rfl) (pd_var 6 .sh rfl (.inl rfl) rfl)) (pd_op op_mulG (bin_mulG rfl) (pd_int .sh) (pd_op op_addG (bin_addG rfl rfl) (pd_var 5 .sh rfl (.inl rfl) rfl) (pd_int .sh)))) (pd_int .sh)) rfl rfl)
  (sd_cons (Γ1 := [gS, gS, gS, gS, gW, gS, gS])
  (sd_mod 4 PySem.F.slot_list_append PySem.F.type_list_append mt_append mod_append rfl (.inl rfl) rfl (pd_op op_modN (bin_modI .sh) (pd_op op_fdivN (bin_fdivI .sh) (pd_var 6 .sh rfl (.inl rfl) rfl) (pd_int .sh)) (pd_int .sh)) rfl rfl)
  (sd_nil rfl)))) rfl)
  (sd_nil rfl)) rfl rfl)
  (sd_wk (Γ1 := [gS, gS, gS, gS, gS, gN, gN]) (sd_cons (Γ1 := [])
  (sd_ret (pd_sh (pd_var 4 .sh rfl (.inl rfl) rfl)) rfl rfl)
  (sd_nil rfl)) rfl))))))
theorem ok__law_is_integer (g : Gg mg) (F : FunD K "_law_is_integer" "_law_is_integer" (defArgs s__law_is_integer) (defBody s__law_is_integer) (defScope s__law_is_integer) [] [] f fd) (hm : mg "_law_is_integer" = some (.ref f))  : Def1 P w K mg base 1 "_law_is_integer" 1 .sh f__law_is_integer := by
  have S : FnScope N__law_is_integer ["value"] (defScope s__law_is_integer) := ⟨rfl, rfl, rfl, by decide +kernel, rfl, by decide +kernel, by decide +kernel⟩
  refine Def1.mk_ (N := N__law_is_integer) (bf := b__law_is_integer) F hm S rfl (by decide) (fun _ _ _ _ _ _ us hl => match us, hl with | [_], _ => rfl) (fun cdv A outer s H E hr => ?_)
  have nd := S.nd
  have hu := hr.units
  exact (sd_cons (Γ1 := [])
  (sd_ret (pd_and (pd_isi (T := "int") .sh (pd_var 0 .sh rfl (.inl rfl) rfl) rfl g.x_isinstance PyProof.Rows.boot_isinstance rfl g.x_int PyProof.Rows.boot_int) (pd_one (pd_not .sh (pd_isi (T := "bool") .sh (pd_var 0 .sh rfl (.inl rfl) rfl) rfl g.x_isinstance PyProof.Rows.boot_isinstance rfl g.x_bool PyProof.Rows.boot_bool)))) rfl rfl)
  (sd_nil rfl))
theorem ok__law_prime (g : Gg mg) (F : FunD K "_law_prime" "_law_prime" (defArgs s__law_prime) (defBody s__law_prime) (defScope s__law_prime) [] [] f fd) (hm : mg "_law_prime" = some (.ref f))  : Def1 P w K mg base 1 "_law_prime" 1 .sh f__law_prime := by
  have S : FnScope N__law_prime ["number"] (defScope s__law_prime) := ⟨rfl, rfl, rfl, by decide +kernel, rfl, by decide +kernel, by decide +kernel⟩
  refine Def1.mk_ (N := N__law_prime) (bf := b__law_prime) F hm S rfl (by decide) (fun _ _ _ _ _ _ us hl => match us, hl with | [_], _ => rfl) (fun cdv A outer s H E hr => ?_)
  have nd := S.nd
  have hu := hr.units
  exact (sd_cons (Γ1 := [])
  (sd_ret (pd_sh (pd_at (pd_lst (ad_cons (pd_int .sh) (ad_cons (pd_int .sh) (ad_cons (pd_int .sh) (ad_cons (pd_int .sh) (ad_cons (pd_int .sh) (ad_cons (pd_int .sh) (ad_cons (pd_int .sh) (ad_cons (pd_int .sh) (ad_cons (pd_int .sh) (ad_cons (pd_int .sh) (ad_cons (pd_int .sh) (ad_nil .sh)))))))))))) (by decide)) (pd_op op_modN (bin_modI .sh) (pd_var 0 .sh rfl (.inl rfl) rfl) (pd_int .sh)) (fun _ _ => rfl) rfl)) rfl rfl)
  (sd_nil rfl))
theorem ok__law_samples (g : Gg mg) (F : FunD K "_law_samples" "_law_samples" (defArgs s__law_samples) (defBody s__law_samples) (defScope s__law_samples) [] [] f fd) (hm : mg "_law_samples" = some (.ref f)) (D__law_numbers : Def1 P w K mg base 1 "_law_numbers" 3 .sh f__law_numbers) (D__law_prime : Def1 P w K mg base 1 "_law_prime" 1 .sh f__law_prime) : Def1 P w K mg base 2 "_law_samples" 4 .sh f__law_samples := by
  have S : FnScope N__law_samples ["script", "at", "longest", "most"] (defScope s__law_samples) := ⟨rfl, rfl, rfl, by decide +kernel, rfl, by decide +kernel, by decide +kernel⟩
  refine Def1.mk_ (N := N__law_samples) (bf := b__law_samples) F hm S rfl (by decide) (fun _ _ _ _ _ _ us hl => match us, hl with | [_, _, _, _], _ => rfl) (fun cdv A outer s H E hr => ?_)
  have nd := S.nd
  have hu := hr.units
  have RM__law_numbers : Room 1 _ := hr.mono (by decide : 1 ≤ 1)
  have RM__law_prime : Room 1 _ := hr.mono (by decide : 1 ≤ 1)
  have hl1 : 1 < N__law_samples.length := by decide
  have hl4 : 4 < N__law_samples.length := by decide
  have hl5 : 5 < N__law_samples.length := by decide
  have hl6 : 6 < N__law_samples.length := by decide
  have hl7 : 7 < N__law_samples.length := by decide
  have hl8 : 8 < N__law_samples.length := by decide
  have hl9 : 9 < N__law_samples.length := by decide
  have hl10 : 10 < N__law_samples.length := by decide
  have hl11 : 11 < N__law_samples.length := by decide
  exact (sd_cons (Γ1 := [gS, gS, gS, gS, gS, gN, gN, gN, gN, gN, gN, gN])
  (sd_set 4 nd rfl (.inl rfl) hl4 (pd_call D__law_numbers RM__law_numbers rfl (pass_of (takes_of rfl rfl rfl rfl)) (ad_cons (pd_sh (pd_var 0 .sh rfl (.inl rfl) rfl)) (ad_cons (pd_sh (pd_var 1 .sh rfl (.inl rfl) rfl)) (ad_cons (pd_int .sh) (ad_nil .sh))))) rfl rfl)
  (sd_cons (Γ1 := [gS, gS, gS, gS, gS, gS, gN, gN, gN, gN, gN, gN])
  (sd_set 5 nd rfl (.inr rfl) hl5 (pd_call D__law_prime RM__law_prime rfl (pass_of (takes_of rfl rfl rfl rfl)) (ad_cons (pd_sh (pd_at (pd_lst (ad_cons (pd_sh (pd_at (pd_var 4 .sh rfl (.inl rfl) rfl) (pd_int .sh) (fun _ _ => rfl) rfl)) (ad_cons (pd_op op_modN (bin_modI .sh) (pd_at (pd_var 4 .sh rfl (.inl rfl) rfl) (pd_int .sh) (fun _ _ => rfl) rfl) (pd_int .sh)) (ad_nil .sh))) (by decide)) (pd_op op_modN (bin_modI .sh) (pd_at (pd_var 4 .sh rfl (.inl rfl) rfl) (pd_int .sh) (fun _ _ => rfl) rfl) (pd_int .sh)) (fun _ _ => rfl) rfl)) (ad_nil .sh))) rfl rfl)
  (sd_cons (Γ1 := [gS, gS, gS, gS, gS, gS, gS, gN, gN, gN, gN, gN])
  (sd_set 6 nd rfl (.inl rfl) hl6 (pd_fz (pd_op op_addG (bin_addG rfl rfl) (pd_int .sh) (pd_op op_modN (bin_modI .sh) (pd_at (pd_var 4 .sh rfl (.inl rfl) rfl) (pd_int .sh) (fun _ _ => rfl) rfl) (pd_var 2 .sh rfl (.inl rfl) rfl)))) rfl rfl)
  (sd_cons (Γ1 := [gS, gS, gS, gS, gS, gS, gS, gW, gN, gN, gN, gN])
  (sd_set 7 nd rfl (.inr rfl) hl7 (pd_lst (ad_nil .sh) (by decide)) rfl rfl)
  (sd_cons (Γ1 := [gS, gS, gS, gS, gS, gS, gS, gW, gN, gN, gN, gN])
  (sd_for (Γ1 := [gS, gS, gS, gS, gS, gS, gS, gW, gS, gN, gN, gN]) (passes_of rfl) rfl (id_range1 rfl g.x_range (pd_op op_modN (bin_modI .sh) (pd_at (pd_var 4 .sh rfl (.inl rfl) rfl) (pd_int .sh) (fun _ _ => rfl) rfl) (pd_op op_addG (bin_addG rfl rfl) (pd_var 3 .sh rfl (.inl rfl) rfl) (pd_int .sh)))) (gd_name 8 nd rfl (.inr rfl) hl8 rfl)
  (sd_cons (Γ1 := [gS, gS, gS, gS, gS, gS, gS, gW, gS, gS, gN, gN])
  (sd_set 9 nd rfl (.inr rfl) hl9 (pd_slice (pd_call D__law_numbers RM__law_numbers rfl (pass_of (takes_of rfl rfl rfl rfl)) (ad_cons (pd_sh (pd_var 0 .sh rfl (.inl rfl) rfl)) (ad_cons (pd_fz (pd_op op_addG (bin_addG rfl rfl) (pd_op op_addG (bin_addG rfl rfl) (pd_var 1 .sh rfl (.inl rfl) rfl) (pd_int .sh)) (pd_op op_modN (bin_modI .sh) (pd_var 8 .sh rfl (.inr (.inl rfl)) rfl) (pd_int .sh)))) (ad_cons (pd_fz (pd_op op_mulG (bin_mulG rfl) (pd_int .sh) (pd_op op_addG (bin_addG rfl rfl) (pd_int .sh) (pd_op op_fdivN (bin_fdivI .sh) (pd_var 8 .sh rfl (.inr (.inl rfl)) rfl) (pd_int .sh))))) (ad_nil .sh))))) (part_some (pd_neg .sh (pd_int .sh))) part_none rfl) rfl rfl)
  (sd_cons (Γ1 := [gS, gS, gS, gS, gS, gS, gS, gW, gS, gS, gW, gN])
  (sd_setLc 10 (own := [("j", 11)]) (Γ1 := [gS, gS, gS, gS, gS, gS, gS, gW, gS, gS, gN, gS]) rfl rfl hl10 rfl rfl (sw_true rfl rfl rfl (by decide +kernel)) rfl nd (id_range1 rfl g.x_range (pd_var 6 .sh rfl (.inl rfl) rfl)) (blkOk_by (own := [("j", 11)]) (N := N__law_samples) (sc := defScope s__law_samples) (by decide +kernel)) (fun _ _ _ _ _ => (gd_name 11 nd rfl (.inl rfl) hl11 rfl)) (fun _ _ _ _ _ => tsd_nil) (fun _ _ _ _ _ => (pd_op op_modN (bin_modI .sh) (pd_at (pd_var 9 .sh rfl (.inr (.inl rfl)) rfl) (pd_var 11 .sh rfl (.inl rfl) rfl) (fun _ _ => rfl) rfl) (pd_var 5 .sh rfl (.inr (.inl rfl)) rfl))) (by decide))
  (sd_cons (Γ1 := [gS, gS, gS, gS, gS, gS, gS, gW, gS, gS, gW, gN])
  (sd_if (td_cmp (op_eqP hu) (bin_eq .sh) (pd_op op_modN (bin_modI .sh) (pd_at (pd_var 4 .sh rfl (.inl rfl) rfl) (pd_int .sh) (fun _ _ => rfl) rfl) (pd_int .sh)) (pd_int .sh) rfl)
  (sd_cons (Γ1 := [gS, gS, gS, gS, gS, gS, gS, gW, gS, gS, gW, gN])
  (sd_setLc 10 (own := [("j", 11)]) (Γ1 := [gS, gS, gS, gS, gS, gS, gS, gW, gS, gS, gW, gS]) rfl rfl hl10 rfl rfl (sw_true rfl rfl rfl (by decide +kernel)) rfl nd (id_range1 rfl g.x_range (pd_var 6 .sh rfl (.inl rfl) rfl)) (blkOk_by (own := [("j", 11)]) (N := N__law_samples) (sc := defScope s__law_samples) (by decide +kernel)) (fun _ _ _ _ _ => (gd_name 11 nd rfl (.inl rfl) hl11 rfl)) (fun _ _ _ _ _ => tsd_nil) (fun _ _ _ _ _ => (pd_sh (pd_at (pd_lst (ad_cons (pd_int .sh) (ad_cons (pd_op op_modN (bin_modI .sh) (pd_at (pd_var 9 .sh rfl (.inr (.inl rfl)) rfl) (pd_var 11 .sh rfl (.inl rfl) rfl) (fun _ _ => rfl) rfl) (pd_var 5 .sh rfl (.inr (.inl rfl)) rfl)) (ad_nil .sh))) (by decide)) (pd_op op_modN (bin_modI .sh) (pd_op op_fdivN (bin_fdivI .sh) (pd_at (pd_var 9 .sh rfl (.inr (.inl rfl)) rfl) (pd_var 11 .sh rfl (.inl rfl) rfl) (fun _ _ => rfl) rfl) (pd_int .sh)) (pd_int .sh)) (fun _ _ => rfl) rfl))) (by decide))
  (sd_nil rfl))
  (sd_nil rfl) rfl)
  (sd_cons (Γ1 := [gS, gS, gS, gS, gS, gS, gS, gW, gS, gS, gW, gN])
  (sd_if (td_w (wd_and (td_cmp (op_gtD hu) (bin_ord _ .sh) (pd_var 8 .sh rfl (.inr (.inl rfl)) rfl) (pd_int .sh) rfl) (wd_and1 (td_cmp (op_eqP hu) (bin_eq .sh) (pd_op op_modN (bin_modI .sh) (pd_at (pd_var 9 .sh rfl (.inr (.inl rfl)) rfl) (pd_int .sh) (fun _ _ => rfl) rfl) (pd_int .sh)) (pd_int .sh) rfl))))
  (sd_cons (Γ1 := [gS, gS, gS, gS, gS, gS, gS, gW, gS, gS, gW, gN])
  (sd_setLc 10 (own := [("j", 11)]) (Γ1 := [gS, gS, gS, gS, gS, gS, gS, gW, gS, gS, gW, gS]) rfl rfl hl10 rfl rfl (sw_true rfl rfl rfl (by decide +kernel)) rfl nd (id_range1 rfl g.x_range (pd_var 6 .sh rfl (.inl rfl) rfl)) (blkOk_by (own := [("j", 11)]) (N := N__law_samples) (sc := defScope s__law_samples) (by decide +kernel)) (fun _ _ _ _ _ => (gd_name 11 nd rfl (.inl rfl) hl11 rfl)) (fun _ _ _ _ _ => tsd_nil) (fun _ _ _ _ _ => (pd_op op_modN (bin_modI .sh) (pd_op op_addG (bin_addG rfl rfl) (pd_op op_mulG (bin_mulG rfl) (pd_at (pd_var 9 .sh rfl (.inr (.inl rfl)) rfl) (pd_int .sh) (fun _ _ => rfl) rfl) (pd_at (pd_at (pd_var 7 (.ow .sh) rfl (.inr (.inl rfl)) rfl) (pd_op op_modN (bin_modI .sh) (pd_at (pd_var 9 .sh rfl (.inr (.inl rfl)) rfl) (pd_int .sh) (fun _ _ => rfl) rfl) (pd_var 8 .sh rfl (.inr (.inl rfl)) rfl)) (fun _ _ => rfl) rfl) (pd_var 11 .sh rfl (.inl rfl) rfl) (fun _ _ => rfl) rfl)) (pd_op op_mulG (bin_mulG rfl) (pd_at (pd_var 9 .sh rfl (.inr (.inl rfl)) rfl) (pd_int .sh) (fun _ _ => rfl) rfl) (pd_at (pd_at (pd_var 7 (.ow .sh) rfl (.inr (.inl rfl)) rfl) (pd_int .sh) (fun _ _ => rfl) rfl) (pd_var 11 .sh rfl (.inl rfl) rfl) (fun _ _ => rfl) rfl))) (pd_var 5 .sh rfl (.inr (.inl rfl)) rfl))) (by decide))
  (sd_nil rfl))
  (sd_nil rfl) rfl)
  (sd_wk (Γ1 := [gS, gS, gS, gS, gS, gS, gS, gW, gS, gS, gS, gN]) (sd_cons (Γ1 := [gS, gS, gS, gS, gS, gS, gS, gW, gS, gS, gS, gN])
  (sd_mod 7 PySem.F.slot_list_append PySem.F.type_list_append mt_append mod_append rfl (.inr (.inl rfl)) rfl (pd_sh (pd_var 10 .sh rfl (.inl rfl) rfl)) rfl rfl)
  (sd_nil rfl)) rfl))))) rfl rfl)
  (sd_wk (Γ1 := [gS, gS, gS, gS, gS, gS, gS, gS, gN, gN, gN, gN]) (sd_cons (Γ1 := [])
  (sd_ret (pd_fz (pd_tup (ad_cons (pd_sh (pd_var 5 .sh rfl (.inr (.inl rfl)) rfl)) (ad_cons (pd_sh (pd_var 6 .sh rfl (.inl rfl) rfl)) (ad_cons (pd_sh (pd_var 7 .sh rfl (.inr (.inl rfl)) rfl)) (ad_nil .sh)))) (by decide))) rfl rfl)
  (sd_nil rfl)) rfl))))))
theorem ok__law_reduced (g : Gg mg) (F : FunD K "_law_reduced" "_law_reduced" (defArgs s__law_reduced) (defBody s__law_reduced) (defScope s__law_reduced) [] [] f fd) (hm : mg "_law_reduced" = some (.ref f))  : Def1 P w K mg base 1 "_law_reduced" 3 .sh f__law_reduced := by
  have S : FnScope N__law_reduced ["p", "length", "samples"] (defScope s__law_reduced) := ⟨rfl, rfl, rfl, by decide +kernel, rfl, by decide +kernel, by decide +kernel⟩
  refine Def1.mk_ (N := N__law_reduced) (bf := b__law_reduced) F hm S rfl (by decide) (fun _ _ _ _ _ _ us hl => match us, hl with | [_, _, _], _ => rfl) (fun cdv A outer s H E hr => ?_)
  have nd := S.nd
  have hu := hr.units
  have hl1 : 1 < N__law_reduced.length := by decide
  have hl3 : 3 < N__law_reduced.length := by decide
  have hl4 : 4 < N__law_reduced.length := by decide
  have hl5 : 5 < N__law_reduced.length := by decide
  have hl6 : 6 < N__law_reduced.length := by decide
  have hl7 : 7 < N__law_reduced.length := by decide
  have hl8 : 8 < N__law_reduced.length := by decide
  have hl9 : 9 < N__law_reduced.length := by decide
  have hl10 : 10 < N__law_reduced.length := by decide
  have hl11 : 11 < N__law_reduced.length := by decide
  have hl12 : 12 < N__law_reduced.length := by decide
  exact (sd_cons (Γ1 := [gS, gS, gS, gW, gN, gN, gN, gN, gN, gN, gN, gN, gN])
  (sd_setLc 3 (own := [("row", 4)]) (Γ1 := [gS, gS, gS, gN, gS, gN, gN, gN, gN, gN, gN, gN, gN]) rfl rfl hl3 rfl rfl (sw_true rfl rfl rfl (by decide +kernel)) rfl nd (id_list (pd_sh (pd_var 2 .sh rfl (.inl rfl) rfl))) (blkOk_by (own := [("row", 4)]) (N := N__law_reduced) (sc := defScope s__law_reduced) (by decide +kernel)) (fun _ _ _ _ _ => (gd_name 4 nd rfl (.inl rfl) hl4 rfl)) (fun _ _ _ _ _ => tsd_nil) (fun _ _ _ _ _ => (pd_fz (pd_callT1 call_list_of (un_list rfl) rfl g.x_list PyProof.Rows.boot_list (pd_var 4 .sh rfl (.inl rfl) rfl)))) (by decide))
  (sd_cons (Γ1 := [gS, gS, gS, gW, gN, gS, gN, gN, gN, gN, gN, gN, gN])
  (sd_set 5 nd rfl (.inl rfl) hl5 (pd_fz (pd_lst (ad_nil .sh) (by decide))) rfl rfl)
  (sd_wk (Γ1 := [gS, gS, gS, gS, gN, gS, gN, gN, gN, gN, gN, gN, gN]) (sd_cons (Γ1 := [gS, gS, gS, gS, gN, gS, gN, gN, gN, gN, gN, gN, gN])
  (sd_for (Γ1 := [gS, gS, gS, gS, gN, gS, gS, gN, gN, gN, gN, gN, gN]) (passes_of rfl) rfl (id_range1 rfl g.x_range (pd_var 1 .sh rfl (.inr (.inl rfl)) rfl)) (gd_name 6 nd rfl (.inr rfl) hl6 rfl)
  (sd_cons (Γ1 := [gS, gS, gS, gS, gN, gS, gS, gW, gN, gN, gN, gN, gN])
  (sd_setLc 7 (own := [("row", 4)]) (Γ1 := [gS, gS, gS, gS, gS, gS, gS, gN, gN, gN, gN, gN, gN]) rfl rfl hl7 rfl rfl (sw_true rfl rfl rfl (by decide +kernel)) rfl nd (id_list (pd_sh (pd_var 3 .sh rfl (.inl rfl) rfl))) (blkOk_by (own := [("row", 4)]) (N := N__law_reduced) (sc := defScope s__law_reduced) (by decide +kernel)) (fun _ _ _ _ _ => (gd_name 4 nd rfl (.inl rfl) hl4 rfl)) (fun _ _ _ _ _ => (tsd_one (td_cmp (op_neP hu) (bin_ne .sh) (pd_at (pd_var 4 .sh rfl (.inl rfl) rfl) (pd_var 6 .sh rfl (.inr (.inl rfl)) rfl) (fun _ _ => rfl) rfl) (pd_int .sh) rfl))) (fun _ _ _ _ _ => (pd_sh (pd_var 4 .sh rfl (.inl rfl) rfl))) (by decide))
  (sd_cons (Γ1 := [gS, gS, gS, gS, gN, gS, gS, gW, gN, gN, gN, gN, gN])
  (sd_if (td_cmp (op_neP hu) (bin_ne .sh) (pd_var 7 (.ow .sh) rfl (.inl rfl) rfl) (pd_lst (ad_nil .sh) (by decide)) rfl)
  (sd_cons (Γ1 := [gS, gS, gS, gS, gN, gS, gS, gW, gS, gN, gN, gN, gN])
  (sd_set 8 nd rfl (.inr rfl) hl8 (pd_sh (pd_at (pd_var 7 (.ow .sh) rfl (.inl rfl) rfl) (pd_int .sh) (fun _ _ => rfl) rfl)) rfl rfl)
  (sd_cons (Γ1 := [gS, gS, gS, gS, gN, gS, gS, gW, gS, gS, gN, gN, gN])
  (sd_set 9 nd rfl (.inr rfl) hl9 (pd_sh (pd_at (pd_lc (own := [("c", 10)]) (Γ1 := [gS, gS, gS, gS, gN, gS, gS, gW, gS, gN, gS, gN, gN]) rfl nd (id_range2 rfl g.x_range (pd_int .sh) (pd_var 0 .sh rfl (.inr (.inl rfl)) rfl)) (blkOk_by (own := [("c", 10)]) (N := N__law_reduced) (sc := defScope s__law_reduced) (by decide +kernel)) (fun _ _ _ _ _ => (gd_name 10 nd rfl (.inl rfl) hl10 rfl)) (fun _ _ _ _ _ => (tsd_one (td_cmp (op_eqP hu) (bin_eq .sh) (pd_op op_modN (bin_modI .sh) (pd_op op_mulG (bin_mulG rfl) (pd_var 10 .sh rfl (.inl rfl) rfl) (pd_at (pd_var 8 .sh rfl (.inr (.inl rfl)) rfl) (pd_var 6 .sh rfl (.inr (.inl rfl)) rfl) (fun _ _ => rfl) rfl)) (pd_var 0 .sh rfl (.inr (.inl rfl)) rfl)) (pd_int .sh) rfl))) (fun _ _ _ _ _ => (pd_sh (pd_var 10 .sh rfl (.inl rfl) rfl))) (by decide)) (pd_int .sh) (fun _ _ => rfl) rfl)) rfl rfl)
  (sd_cons (Γ1 := [gS, gS, gS, gS, gN, gS, gS, gW, gS, gS, gN, gN, gN])
  (sd_set 8 nd rfl (.inr rfl) hl8 (pd_fz (pd_lc (own := [("entry", 11)]) (Γ1 := [gS, gS, gS, gS, gN, gS, gS, gW, gS, gS, gN, gS, gN]) rfl nd (id_list (pd_sh (pd_var 8 .sh rfl (.inr (.inl rfl)) rfl))) (blkOk_by (own := [("entry", 11)]) (N := N__law_reduced) (sc := defScope s__law_reduced) (by decide +kernel)) (fun _ _ _ _ _ => (gd_name 11 nd rfl (.inl rfl) hl11 rfl)) (fun _ _ _ _ _ => tsd_nil) (fun _ _ _ _ _ => (pd_op op_modN (bin_modI .sh) (pd_op op_mulG (bin_mulG rfl) (pd_var 9 .sh rfl (.inr (.inl rfl)) rfl) (pd_var 11 .sh rfl (.inl rfl) rfl)) (pd_var 0 .sh rfl (.inr (.inl rfl)) rfl))) (by decide))) rfl rfl)
  (sd_cons (Γ1 := [gS, gS, gS, gW, gN, gS, gS, gW, gS, gS, gN, gN, gN])
  (sd_setLc 3 (own := [("row", 4)]) (Γ1 := [gS, gS, gS, gS, gS, gS, gS, gW, gS, gS, gN, gN, gN]) rfl rfl hl3 rfl rfl (sw_true rfl rfl rfl (by decide +kernel)) rfl nd (id_list (pd_sh (pd_var 3 .sh rfl (.inl rfl) rfl))) (blkOk_by (own := [("row", 4)]) (N := N__law_reduced) (sc := defScope s__law_reduced) (by decide +kernel)) (fun _ _ _ _ _ => (gd_name 4 nd rfl (.inr rfl) hl4 rfl)) (fun _ _ _ _ _ => tsd_nil) (fun _ _ _ _ _ => (pd_fz (pd_lc (own := [("j", 12)]) (Γ1 := [gS, gS, gS, gS, gS, gS, gS, gW, gS, gS, gN, gN, gS]) rfl nd (id_range1 rfl g.x_range (pd_var 1 .sh rfl (.inr (.inl rfl)) rfl)) (blkOk_by (own := [("j", 12)]) (by kernel_rfl)) (fun _ _ _ _ _ => (gd_name 12 nd rfl (.inl rfl) hl12 rfl)) (fun _ _ _ _ _ => tsd_nil) (fun _ _ _ _ _ => (pd_op op_modN (bin_modI .sh) (pd_op op_sub (bin_subI .sh) (pd_at (pd_var 4 .sh rfl (.inr (.inl rfl)) rfl) (pd_var 12 .sh rfl (.inl rfl) rfl) (fun _ _ => rfl) rfl) (pd_op op_mulG (bin_mulG rfl) (pd_at (pd_var 4 .sh rfl (.inr (.inl rfl)) rfl) (pd_var 6 .sh rfl (.inr (.inl rfl)) rfl) (fun _ _ => rfl) rfl) (pd_at (pd_var 8 .sh rfl (.inr (.inl rfl)) rfl) (pd_var 12 .sh rfl (.inl rfl) rfl) (fun _ _ => rfl) rfl))) (pd_var 0 .sh rfl (.inr (.inl rfl)) rfl))) (by decide)))) (by decide))
  (sd_cons (Γ1 := [gS, gS, gS, gW, gN, gS, gS, gW, gS, gS, gN, gN, gN])
  (sd_set 5 nd rfl (.inl rfl) hl5 (pd_fz (pd_op op_addG (bin_addG rfl rfl) (pd_lc (own := [("row", 4)]) (Γ1 := [gS, gS, gS, gW, gS, gS, gS, gW, gS, gS, gN, gN, gN]) rfl nd (id_list (pd_sh (pd_var 5 .sh rfl (.inl rfl) rfl))) (blkOk_by (own := [("row", 4)]) (N := N__law_reduced) (sc := defScope s__law_reduced) (by decide +kernel)) (fun _ _ _ _ _ => (gd_name 4 nd rfl (.inr rfl) hl4 rfl)) (fun _ _ _ _ _ => tsd_nil) (fun _ _ _ _ _ => (pd_fz (pd_lc (own := [("j", 12)]) (Γ1 := [gS, gS, gS, gW, gS, gS, gS, gW, gS, gS, gN, gN, gS]) rfl nd (id_range1 rfl g.x_range (pd_var 1 .sh rfl (.inr (.inl rfl)) rfl)) (blkOk_by (own := [("j", 12)]) (by kernel_rfl)) (fun _ _ _ _ _ => (gd_name 12 nd rfl (.inl rfl) hl12 rfl)) (fun _ _ _ _ _ => tsd_nil) (fun _ _ _ _ _ => (pd_op op_modN (bin_modI .sh) (pd_op op_sub (bin_subI .sh) (pd_at (pd_var 4 .sh rfl (.inr (.inl rfl)) rfl) (pd_var 12 .sh rfl (.inl rfl) rfl) (fun _ _ => rfl) rfl) (pd_op op_mulG (bin_mulG rfl) (pd_at (pd_var 4 .sh rfl (.inr (.inl rfl)) rfl) (pd_var 6 .sh rfl (.inr (.inl rfl)) rfl) (fun _ _ => rfl) rfl) (pd_at (pd_var 8 .sh rfl (.inr (.inl rfl)) rfl) (pd_var 12 .sh rfl (.inl rfl) rfl) (fun _ _ => rfl) rfl))) (pd_var 0 .sh rfl (.inr (.inl rfl)) rfl))) (by decide)))) (by decide)) (pd_lst (ad_cons (pd_sh (pd_var 8 .sh rfl (.inr (.inl rfl)) rfl)) (ad_nil .sh)) (by decide)))) rfl rfl)
  (sd_nil rfl))))))
  (sd_nil rfl) rfl)
  (sd_nil rfl))) rfl rfl)
  (sd_cons (Γ1 := [])
  (sd_ret (pd_sh (pd_var 5 .sh rfl (.inl rfl) rfl)) rfl rfl)
  (sd_nil rfl))) rfl)))
theorem ok__law_led (g : Gg mg) (F : FunD K "_law_led" "_law_led" (defArgs s__law_led) (defBody s__law_led) (defScope s__law_led) [] [] f fd) (hm : mg "_law_led" = some (.ref f))  : Def1 P w K mg base 1 "_law_led" 1 .sh f__law_led := by
  have S : FnScope N__law_led ["reduced_rows"] (defScope s__law_led) := ⟨rfl, rfl, rfl, by decide +kernel, rfl, by decide +kernel, by decide +kernel⟩
  refine Def1.mk_ (N := N__law_led) (bf := b__law_led) F hm S rfl (by decide) (fun _ _ _ _ _ _ us hl => match us, hl with | [_], _ => rfl) (fun cdv A outer s H E hr => ?_)
  have nd := S.nd
  have hu := hr.units
  have hl1 : 1 < N__law_led.length := by decide
  have hl2 : 2 < N__law_led.length := by decide
  have hl3 : 3 < N__law_led.length := by decide
  exact (sd_cons (Γ1 := [gS, gW, gN, gN])
  (sd_set 1 nd rfl (.inl rfl) hl1 (pd_lst (ad_nil .sh) (by decide)) rfl rfl)
  (sd_cons (Γ1 := [gS, gW, gN, gN])
  (sd_for (Γ1 := [gS, gW, gS, gN]) (passes_of rfl) rfl (id_list (pd_sh (pd_var 0 .sh rfl (.inl rfl) rfl))) (gd_name 2 nd rfl (.inr rfl) hl2 rfl)
  (sd_cons (Γ1 := [gS, gW, gS, gN])
  (sd_mod 1 PySem.F.slot_list_append PySem.F.type_list_append mt_append mod_append rfl (.inl rfl) rfl (pd_sh (pd_at (pd_lc (own := [("place", 3)]) (Γ1 := [gS, gW, gS, gS]) rfl nd (id_range1 rfl g.x_range (pd_callB1 call_len (un_len .sh) rfl g.x_len PySem.boot_len (pd_var 2 .sh rfl (.inr (.inl rfl)) rfl))) (blkOk_by (own := [("place", 3)]) (N := N__law_led) (sc := defScope s__law_led) (by decide +kernel)) (fun _ _ _ _ _ => (gd_name 3 nd rfl (.inl rfl) hl3 rfl)) (fun _ _ _ _ _ => (tsd_one (td_cmp (op_neP hu) (bin_ne .sh) (pd_at (pd_var 2 .sh rfl (.inr (.inl rfl)) rfl) (pd_var 3 .sh rfl (.inl rfl) rfl) (fun _ _ => rfl) rfl) (pd_int .sh) rfl))) (fun _ _ _ _ _ => (pd_sh (pd_var 3 .sh rfl (.inl rfl) rfl))) (by decide)) (pd_int .sh) (fun _ _ => rfl) rfl)) rfl rfl)
  (sd_nil rfl)) rfl rfl)
  (sd_wk (Γ1 := [gS, gS, gN, gN]) (sd_cons (Γ1 := [])
  (sd_ret (pd_sh (pd_var 1 .sh rfl (.inl rfl) rfl)) rfl rfl)
  (sd_nil rfl)) rfl)))
theorem ok__law_dot (g : Gg mg) (F : FunD K "_law_dot" "_law_dot" (defArgs s__law_dot) (defBody s__law_dot) (defScope s__law_dot) [] [] f fd) (hm : mg "_law_dot" = some (.ref f))  : Def1 P w K mg base 1 "_law_dot" 3 .sh f__law_dot := by
  have S : FnScope N__law_dot ["p", "first", "second"] (defScope s__law_dot) := ⟨rfl, rfl, rfl, by decide +kernel, rfl, by decide +kernel, by decide +kernel⟩
  refine Def1.mk_ (N := N__law_dot) (bf := b__law_dot) F hm S rfl (by decide) (fun _ _ _ _ _ _ us hl => match us, hl with | [_, _, _], _ => rfl) (fun cdv A outer s H E hr => ?_)
  have nd := S.nd
  have hu := hr.units
  have hl3 : 3 < N__law_dot.length := by decide
  exact (sd_cons (Γ1 := [])
  (sd_ret (pd_op op_modN (bin_modI .sh) (pd_callB1 (cr_sum rfl) (un_sum .sh) rfl g.x_sum PyProof.Rows.boot_sum (pd_lc (own := [("j", 3)]) (Γ1 := [gS, gS, gS, gS]) rfl nd (id_range1 rfl g.x_range (pd_callB1 call_len (un_len .sh) rfl g.x_len PySem.boot_len (pd_var 1 .sh rfl (.inr (.inl rfl)) rfl))) (blkOk_by (own := [("j", 3)]) (N := N__law_dot) (sc := defScope s__law_dot) (by decide +kernel)) (fun _ _ _ _ _ => (gd_name 3 nd rfl (.inl rfl) hl3 rfl)) (fun _ _ _ _ _ => tsd_nil) (fun _ _ _ _ _ => (pd_fz (pd_op op_mulG (bin_mulG rfl) (pd_at (pd_var 1 .sh rfl (.inr (.inl rfl)) rfl) (pd_var 3 .sh rfl (.inl rfl) rfl) (fun _ _ => rfl) rfl) (pd_at (pd_var 2 .sh rfl (.inr (.inl rfl)) rfl) (pd_var 3 .sh rfl (.inl rfl) rfl) (fun _ _ => rfl) rfl)))) (by decide))) (pd_var 0 .sh rfl (.inl rfl) rfl)) rfl rfl)
  (sd_nil rfl))
theorem ok__law_sum (g : Gg mg) (F : FunD K "_law_sum" "_law_sum" (defArgs s__law_sum) (defBody s__law_sum) (defScope s__law_sum) [] [] f fd) (hm : mg "_law_sum" = some (.ref f))  : Def1 P w K mg base 1 "_law_sum" 4 .sh f__law_sum := by
  have S : FnScope N__law_sum ["p", "length", "samples", "factors"] (defScope s__law_sum) := ⟨rfl, rfl, rfl, by decide +kernel, rfl, by decide +kernel, by decide +kernel⟩
  refine Def1.mk_ (N := N__law_sum) (bf := b__law_sum) F hm S rfl (by decide) (fun _ _ _ _ _ _ us hl => match us, hl with | [_, _, _, _], _ => rfl) (fun cdv A outer s H E hr => ?_)
  have nd := S.nd
  have hu := hr.units
  have hl4 : 4 < N__law_sum.length := by decide
  have hl5 : 5 < N__law_sum.length := by decide
  exact (sd_cons (Γ1 := [])
  (sd_ret (pd_fz (pd_lc (own := [("j", 5)]) (Γ1 := [gS, gS, gS, gS, gN, gS]) rfl nd (id_range1 rfl g.x_range (pd_var 1 .sh rfl (.inl rfl) rfl)) (blkOk_by (own := [("j", 5)]) (N := N__law_sum) (sc := defScope s__law_sum) (by decide +kernel)) (fun _ _ _ _ _ => (gd_name 5 nd rfl (.inr rfl) hl5 rfl)) (fun _ _ _ _ _ => tsd_nil) (fun _ _ _ _ _ => (pd_op op_modN (bin_modI .sh) (pd_callB1 (cr_sum rfl) (un_sum .sh) rfl g.x_sum PyProof.Rows.boot_sum (pd_lc (own := [("k", 4)]) (Γ1 := [gS, gS, gS, gS, gS, gS]) rfl nd (id_range1 rfl g.x_range (pd_callB1 call_len (un_len .sh) rfl g.x_len PySem.boot_len (pd_var 2 .sh rfl (.inr (.inl rfl)) rfl))) (blkOk_by (own := [("k", 4)]) (by kernel_rfl)) (fun _ _ _ _ _ => (gd_name 4 nd rfl (.inl rfl) hl4 rfl)) (fun _ _ _ _ _ => tsd_nil) (fun _ _ _ _ _ => (pd_fz (pd_op op_mulG (bin_mulG rfl) (pd_at (pd_var 3 .sh rfl (.inr (.inl rfl)) rfl) (pd_var 4 .sh rfl (.inl rfl) rfl) (fun _ _ => rfl) rfl) (pd_at (pd_at (pd_var 2 .sh rfl (.inr (.inl rfl)) rfl) (pd_var 4 .sh rfl (.inl rfl) rfl) (fun _ _ => rfl) rfl) (pd_var 5 .sh rfl (.inr (.inl rfl)) rfl) (fun _ _ => rfl) rfl)))) (by decide))) (pd_var 0 .sh rfl (.inr (.inl rfl)) rfl))) (by decide))) rfl rfl)
  (sd_nil rfl))
theorem ok__law_is_row (g : Gg mg) (F : FunD K "_law_is_row" "_law_is_row" (defArgs s__law_is_row) (defBody s__law_is_row) (defScope s__law_is_row) [] [] f fd) (hm : mg "_law_is_row" = some (.ref f)) (D__law_is_integer : Def1 P w K mg base 1 "_law_is_integer" 1 .sh f__law_is_integer) : Def1 P w K mg base 2 "_law_is_row" 3 .sh f__law_is_row := by
  have S : FnScope N__law_is_row ["p", "length", "value"] (defScope s__law_is_row) := ⟨rfl, rfl, rfl, by decide +kernel, rfl, by decide +kernel, by decide +kernel⟩
  refine Def1.mk_ (N := N__law_is_row) (bf := b__law_is_row) F hm S rfl (by decide) (fun _ _ _ _ _ _ us hl => match us, hl with | [_, _, _], _ => rfl) (fun cdv A outer s H E hr => ?_)
  have nd := S.nd
  have hu := hr.units
  have RM__law_is_integer : Room 1 _ := hr.mono (by decide : 1 ≤ 1)
  have hl3 : 3 < N__law_is_row.length := by decide
  exact (sd_cons (Γ1 := [gS, gS, gS, gN])
  (sd_if (td_w (wd_or (td_not (td_tru (pd_isi (T := "list") .sh (pd_var 2 .sh rfl (.inl rfl) rfl) rfl g.x_isinstance PyProof.Rows.boot_isinstance rfl g.x_list PyProof.Rows.boot_list) (fun _ => rfl))) (wd_or1 (td_cmp (op_neP hu) (bin_ne .sh) (pd_callB1 call_len (un_len .sh) rfl g.x_len PySem.boot_len (pd_var 2 .sh rfl (.inl rfl) rfl)) (pd_var 1 .sh rfl (.inl rfl) rfl) rfl))))
  (sd_cons (Γ1 := [gS, gS, gS, gN])
  (sd_ret (pd_bl .sh) rfl rfl)
  (sd_nil rfl))
  (sd_nil rfl) rfl)
  (sd_cons (Γ1 := [])
  (sd_ret (pd_cmp (op_eqP hu) (bin_eq .sh) (pd_lc (own := [("entry", 3)]) (Γ1 := [gS, gS, gS, gS]) rfl nd (id_list (pd_sh (pd_var 2 .sh rfl (.inl rfl) rfl))) (blkOk_by (own := [("entry", 3)]) (N := N__law_is_row) (sc := defScope s__law_is_row) (by decide +kernel)) (fun _ _ _ _ _ => (gd_name 3 nd rfl (.inl rfl) hl3 rfl)) (fun _ _ _ _ _ => (tsd_one (td_w (wd_or (td_not (td_tru (pd_call D__law_is_integer RM__law_is_integer rfl pass_never (ad_cons (pd_sh (pd_var 3 .sh rfl (.inl rfl) rfl)) (ad_nil .sh))) (fun _ => rfl))) (wd_or1 (td_not (td_chain (op_leD hu) (op_ltD hu) (bin_ord _ .sh) (bin_ord _ .sh) (pd_int .sh) (pd_var 3 .sh rfl (.inl rfl) rfl) (pd_var 0 .sh rfl (.inr (.inl rfl)) rfl)))))))) (fun _ _ _ _ _ => (pd_sh (pd_var 3 .sh rfl (.inl rfl) rfl))) (by decide)) (pd_lst (ad_nil .sh) (by decide)) rfl) rfl rfl)
  (sd_nil rfl)))
theorem ok__law_due (g : Gg mg) (F : FunD K "_law_due" "_law_due" (defArgs s__law_due) (defBody s__law_due) (defScope s__law_due) [] [] f fd) (hm : mg "_law_due" = some (.ref f)) (D__law_dot : Def1 P w K mg base 1 "_law_dot" 3 .sh f__law_dot) (D__law_is_row : Def1 P w K mg base 2 "_law_is_row" 3 .sh f__law_is_row) (D__law_sum : Def1 P w K mg base 1 "_law_sum" 4 .sh f__law_sum) : Def1 P w K mg base 3 "_law_due" 5 .sh f__law_due := by
  have S : FnScope N__law_due ["p", "length", "samples", "row", "paper"] (defScope s__law_due) := ⟨rfl, rfl, rfl, by decide +kernel, rfl, by decide +kernel, by decide +kernel⟩
  refine Def1.mk_ (N := N__law_due) (bf := b__law_due) F hm S rfl (by decide) (fun _ _ _ _ _ _ us hl => match us, hl with | [_, _, _, _, _], _ => rfl) (fun cdv A outer s H E hr => ?_)
  have nd := S.nd
  have hu := hr.units
  have RM__law_dot : Room 1 _ := hr.mono (by decide : 1 ≤ 2)
  have RM__law_is_row : Room 2 _ := hr.mono (by decide : 2 ≤ 2)
  have RM__law_sum : Room 1 _ := hr.mono (by decide : 1 ≤ 2)
  have hl5 : 5 < N__law_due.length := by decide
  exact (sd_cons (Γ1 := [gS, gS, gS, gS, gS, gN])
  (sd_if (td_w (wd_or (td_not (td_tru (pd_isi (T := "tuple") .sh (pd_var 4 .sh rfl (.inr (.inl rfl)) rfl) rfl g.x_isinstance PyProof.Rows.boot_isinstance rfl g.x_tuple PyProof.Rows.boot_tuple) (fun _ => rfl))) (wd_or (td_cmp (op_neP hu) (bin_ne .sh) (pd_callB1 call_len (un_len .sh) rfl g.x_len PySem.boot_len (pd_var 4 .sh rfl (.inr (.inl rfl)) rfl)) (pd_int .sh) rfl) (wd_or1 (td_not (td_tru (pd_isi (T := "str") .sh (pd_at (pd_var 4 .sh rfl (.inr (.inl rfl)) rfl) (pd_int .sh) (fun _ _ => rfl) rfl) rfl g.x_isinstance PyProof.Rows.boot_isinstance rfl g.x_str PyProof.Rows.boot_str) (fun _ => rfl)))))))
  (sd_cons (Γ1 := [gS, gS, gS, gS, gS, gN])
  (sd_ret (pd_bl .sh) rfl rfl)
  (sd_nil rfl))
  (sd_nil rfl) rfl)
  (sd_cons (Γ1 := [gS, gS, gS, gS, gS, gN])
  (sd_if (td_cmp (op_eqP hu) (bin_eq .sh) (pd_at (pd_var 4 .sh rfl (.inr (.inl rfl)) rfl) (pd_int .sh) (fun _ _ => rfl) rfl) (pd_str .sh) rfl)
  (sd_cons (Γ1 := [gS, gS, gS, gS, gS, gN])
  (sd_ret (pd_and (pd_call D__law_is_row RM__law_is_row rfl (pass_of (takes_of rfl rfl rfl rfl)) (ad_cons (pd_sh (pd_var 0 .sh rfl (.inr (.inl rfl)) rfl)) (ad_cons (pd_callB1 call_len (un_len .sh) rfl g.x_len PySem.boot_len (pd_var 2 .sh rfl (.inl rfl) rfl)) (ad_cons (pd_sh (pd_at (pd_var 4 .sh rfl (.inr (.inl rfl)) rfl) (pd_int .sh) (fun _ _ => rfl) rfl)) (ad_nil .sh))))) (pd_one (pd_cmp (op_eqP hu) (bin_eq .sh) (pd_call D__law_sum RM__law_sum rfl (pass_of (takes_of rfl rfl rfl rfl)) (ad_cons (pd_sh (pd_var 0 .sh rfl (.inr (.inl rfl)) rfl)) (ad_cons (pd_sh (pd_var 1 .sh rfl (.inl rfl) rfl)) (ad_cons (pd_sh (pd_var 2 .sh rfl (.inl rfl) rfl)) (ad_cons (pd_sh (pd_at (pd_var 4 .sh rfl (.inr (.inl rfl)) rfl) (pd_int .sh) (fun _ _ => rfl) rfl)) (ad_nil .sh)))))) (pd_var 3 .sh rfl (.inl rfl) rfl) rfl))) rfl rfl)
  (sd_nil rfl))
  (sd_nil rfl) rfl)
  (sd_cons (Γ1 := [gS, gS, gS, gS, gS, gN])
  (sd_if (td_w (wd_or (td_cmp (op_neP hu) (bin_ne .sh) (pd_at (pd_var 4 .sh rfl (.inr (.inl rfl)) rfl) (pd_int .sh) (fun _ _ => rfl) rfl) (pd_str .sh) rfl) (wd_or (td_not (td_tru (pd_call D__law_is_row RM__law_is_row rfl (pass_of (takes_of rfl rfl rfl rfl)) (ad_cons (pd_sh (pd_var 0 .sh rfl (.inr (.inl rfl)) rfl)) (ad_cons (pd_sh (pd_var 1 .sh rfl (.inl rfl) rfl)) (ad_cons (pd_sh (pd_at (pd_var 4 .sh rfl (.inr (.inl rfl)) rfl) (pd_int .sh) (fun _ _ => rfl) rfl)) (ad_nil .sh))))) (fun _ => rfl))) (wd_or1 (td_cmp (op_eqP hu) (bin_eq .sh) (pd_call D__law_dot RM__law_dot rfl (pass_of (takes_of rfl rfl rfl rfl)) (ad_cons (pd_sh (pd_var 0 .sh rfl (.inr (.inl rfl)) rfl)) (ad_cons (pd_sh (pd_at (pd_var 4 .sh rfl (.inr (.inl rfl)) rfl) (pd_int .sh) (fun _ _ => rfl) rfl)) (ad_cons (pd_sh (pd_var 3 .sh rfl (.inl rfl) rfl)) (ad_nil .sh))))) (pd_int .sh) rfl)))))
  (sd_cons (Γ1 := [gS, gS, gS, gS, gS, gN])
  (sd_ret (pd_bl .sh) rfl rfl)
  (sd_nil rfl))
  (sd_nil rfl) rfl)
  (sd_cons (Γ1 := [])
  (sd_ret (pd_cmp (op_eqP hu) (bin_eq .sh) (pd_lc (own := [("sample", 5)]) (Γ1 := [gS, gS, gS, gS, gS, gS]) rfl nd (id_list (pd_sh (pd_var 2 .sh rfl (.inl rfl) rfl))) (blkOk_by (own := [("sample", 5)]) (N := N__law_due) (sc := defScope s__law_due) (by decide +kernel)) (fun _ _ _ _ _ => (gd_name 5 nd rfl (.inl rfl) hl5 rfl)) (fun _ _ _ _ _ => (tsd_one (td_cmp (op_neP hu) (bin_ne .sh) (pd_call D__law_dot RM__law_dot rfl pass_never (ad_cons (pd_sh (pd_var 0 .sh rfl (.inr (.inl rfl)) rfl)) (ad_cons (pd_sh (pd_at (pd_var 4 .sh rfl (.inr (.inl rfl)) rfl) (pd_int .sh) (fun _ _ => rfl) rfl)) (ad_cons (pd_sh (pd_var 5 .sh rfl (.inl rfl) rfl)) (ad_nil .sh))))) (pd_int .sh) rfl))) (fun _ _ _ _ _ => (pd_sh (pd_var 5 .sh rfl (.inl rfl) rfl))) (by decide)) (pd_lst (ad_nil .sh) (by decide)) rfl) rfl rfl)
  (sd_nil rfl)))))
theorem ok__law_members (g : Gg mg) (F : FunD K "_law_members" "_law_members" (defArgs s__law_members) (defBody s__law_members) (defScope s__law_members) [] [] f fd) (hm : mg "_law_members" = some (.ref f)) (D__law_led : Def1 P w K mg base 1 "_law_led" 1 .sh f__law_led) (D__law_reduced : Def1 P w K mg base 1 "_law_reduced" 3 .sh f__law_reduced) : Def1 P w K mg base 2 "_law_members" 3 .sh f__law_members := by
  have S : FnScope N__law_members ["p", "length", "samples"] (defScope s__law_members) := ⟨rfl, rfl, rfl, by decide +kernel, rfl, by decide +kernel, by decide +kernel⟩
  refine Def1.mk_ (N := N__law_members) (bf := b__law_members) F hm S rfl (by decide) (fun _ _ _ _ _ _ us hl => match us, hl with | [_, _, _], _ => rfl) (fun cdv A outer s H E hr => ?_)
  have nd := S.nd
  have hu := hr.units
  have RM__law_led : Room 1 _ := hr.mono (by decide : 1 ≤ 1)
  have RM__law_reduced : Room 1 _ := hr.mono (by decide : 1 ≤ 1)
  have hl3 : 3 < N__law_members.length := by decide
  have hl4 : 4 < N__law_members.length := by decide
  have hl5 : 5 < N__law_members.length := by decide
  have hl6 : 6 < N__law_members.length := by decide
  have hl7 : 7 < N__law_members.length := by decide
  have hl8 : 8 < N__law_members.length := by decide
  have hl9 : 9 < N__law_members.length := by decide
  exact (sd_cons (Γ1 := [gS, gS, gS, gS, gN, gN, gN, gN, gN, gN])
  (sd_set 3 nd rfl (.inl rfl) hl3 (pd_call D__law_reduced RM__law_reduced rfl (pass_of (takes_of rfl rfl rfl rfl)) (ad_cons (pd_sh (pd_var 0 .sh rfl (.inl rfl) rfl)) (ad_cons (pd_sh (pd_var 1 .sh rfl (.inl rfl) rfl)) (ad_cons (pd_sh (pd_var 2 .sh rfl (.inl rfl) rfl)) (ad_nil .sh))))) rfl rfl)
  (sd_cons (Γ1 := [gS, gS, gS, gS, gS, gN, gN, gN, gN, gN])
  (sd_set 4 nd rfl (.inr rfl) hl4 (pd_call D__law_led RM__law_led rfl (pass_of (takes_of rfl rfl rfl rfl)) (ad_cons (pd_sh (pd_var 3 .sh rfl (.inl rfl) rfl)) (ad_nil .sh))) rfl rfl)
  (sd_cons (Γ1 := [gS, gS, gS, gS, gS, gW, gN, gN, gN, gN])
  (sd_set 5 nd rfl (.inl rfl) hl5 (pd_lst (ad_nil .sh) (by decide)) rfl rfl)
  (sd_cons (Γ1 := [gS, gS, gS, gS, gS, gW, gN, gN, gN, gN])
  (sd_for (Γ1 := [gS, gS, gS, gS, gS, gW, gS, gN, gN, gN]) (passes_of rfl) rfl (id_list (pd_fz (pd_lc (own := [("place", 7)]) (Γ1 := [gS, gS, gS, gS, gS, gW, gN, gS, gN, gN]) rfl nd (id_range1 rfl g.x_range (pd_var 1 .sh rfl (.inl rfl) rfl)) (blkOk_by (own := [("place", 7)]) (N := N__law_members) (sc := defScope s__law_members) (by decide +kernel)) (fun _ _ _ _ _ => (gd_name 7 nd rfl (.inl rfl) hl7 rfl)) (fun _ _ _ _ _ => (tsd_one (td_cmp (op_notInP hu) (bin_in true .sh) (pd_var 7 .sh rfl (.inl rfl) rfl) (pd_var 4 .sh rfl (.inr (.inl rfl)) rfl) rfl))) (fun _ _ _ _ _ => (pd_sh (pd_var 7 .sh rfl (.inl rfl) rfl))) (by decide)))) (gd_name 6 nd rfl (.inl rfl) hl6 rfl)
  (sd_cons (Γ1 := [gS, gS, gS, gS, gS, gW, gS, gN, gW, gN])
  (sd_set 8 nd rfl (.inl rfl) hl8 (pd_op op_mulG (bin_mulG rfl) (pd_lst (ad_cons (pd_int .sh) (ad_nil .sh)) (by decide)) (pd_var 1 .sh rfl (.inl rfl) rfl)) rfl rfl)
  (sd_cons (Γ1 := [gS, gS, gS, gS, gS, gW, gS, gN, gW, gN])
  (sd_setI 8 rfl (.inl rfl) rfl (pd_int .sh) (pd_var 6 .sh rfl (.inl rfl) rfl) rfl rfl)
  (sd_cons (Γ1 := [gS, gS, gS, gS, gS, gW, gS, gN, gW, gN])
  (sd_for (Γ1 := [gS, gS, gS, gS, gS, gW, gS, gN, gW, gS]) (passes_of rfl) rfl (id_range1 rfl g.x_range (pd_callB1 call_len (un_len .sh) rfl g.x_len PySem.boot_len (pd_var 3 .sh rfl (.inl rfl) rfl))) (gd_name 9 nd rfl (.inl rfl) hl9 rfl)
  (sd_cons (Γ1 := [gS, gS, gS, gS, gS, gW, gS, gN, gW, gS])
  (sd_setI 8 rfl (.inl rfl) rfl (pd_op op_modN (bin_modI .sh) (pd_op op_sub (bin_subI .sh) (pd_var 0 .sh rfl (.inl rfl) rfl) (pd_at (pd_at (pd_var 3 .sh rfl (.inl rfl) rfl) (pd_var 9 .sh rfl (.inl rfl) rfl) (fun _ _ => rfl) rfl) (pd_var 6 .sh rfl (.inl rfl) rfl) (fun _ _ => rfl) rfl)) (pd_var 0 .sh rfl (.inl rfl) rfl)) (pd_at (pd_var 4 .sh rfl (.inr (.inl rfl)) rfl) (pd_var 9 .sh rfl (.inl rfl) rfl) (fun _ _ => rfl) rfl) rfl rfl)
  (sd_nil rfl)) rfl rfl)
  (sd_wk (Γ1 := [gS, gS, gS, gS, gS, gW, gS, gN, gS, gN]) (sd_cons (Γ1 := [gS, gS, gS, gS, gS, gW, gS, gN, gS, gN])
  (sd_mod 5 PySem.F.slot_list_append PySem.F.type_list_append mt_append mod_append rfl (.inl rfl) rfl (pd_sh (pd_var 8 .sh rfl (.inl rfl) rfl)) rfl rfl)
  (sd_nil rfl)) rfl)))) rfl rfl)
  (sd_wk (Γ1 := [gS, gS, gS, gS, gS, gS, gN, gN, gN, gN]) (sd_cons (Γ1 := [])
  (sd_ret (pd_sh (pd_var 5 .sh rfl (.inl rfl) rfl)) rfl rfl)
  (sd_nil rfl)) rfl)))))
theorem ok__law_bent (g : Gg mg) (F : FunD K "_law_bent" "_law_bent" (defArgs s__law_bent) (defBody s__law_bent) (defScope s__law_bent) [] [] f fd) (hm : mg "_law_bent" = some (.ref f))  : Def1 P w K mg base 1 "_law_bent" 3 .sh f__law_bent := by
  have S : FnScope N__law_bent ["p", "value", "numbers"] (defScope s__law_bent) := ⟨rfl, rfl, rfl, by decide +kernel, rfl, by decide +kernel, by decide +kernel⟩
  refine Def1.mk_ (N := N__law_bent) (bf := b__law_bent) F hm S rfl (by decide) (fun _ _ _ _ _ _ us hl => match us, hl with | [_, _, _], _ => rfl) (fun cdv A outer s H E hr => ?_)
  have nd := S.nd
  have hu := hr.units
  have hl3 : 3 < N__law_bent.length := by decide
  have hl4 : 4 < N__law_bent.length := by decide
  have hl5 : 5 < N__law_bent.length := by decide
  have hl6 : 6 < N__law_bent.length := by decide
  exact (sd_cons (Γ1 := [gS, gS, gS, gW, gN, gN, gN])
  (sd_set 3 nd rfl (.inl rfl) hl3 (pd_lst (ad_cons (pd_sh (pd_var 1 .sh rfl (.inl rfl) rfl)) (ad_cons (pd_slice (pd_var 1 .sh rfl (.inl rfl) rfl) part_none (part_some (pd_neg .sh (pd_int .sh))) rfl) (ad_cons (pd_fz (pd_op op_addG (bin_addG rfl rfl) (pd_var 1 .sh rfl (.inl rfl) rfl) (pd_lst (ad_cons (pd_int .sh) (ad_nil .sh)) (by decide)))) (ad_cons (pd_callT1 call_tuple_of (un_tuple rfl) rfl g.x_tuple PyProof.Rows.boot_tuple (pd_sh (pd_var 1 .sh rfl (.inl rfl) rfl))) (ad_cons (pd_non .sh) (ad_cons (pd_fz (pd_lst (ad_nil .sh) (by decide))) (ad_cons (pd_str .sh) (ad_cons (pd_fz (pd_lst (ad_cons (pd_sh (pd_var 1 .sh rfl (.inl rfl) rfl)) (ad_nil .sh)) (by decide))) (ad_nil .sh))))))))) (by decide)) rfl rfl)
  (sd_cons (Γ1 := [gS, gS, gS, gW, gN, gN, gN])
  (sd_if (td_cmp (op_neP hu) (bin_ne .sh) (pd_var 1 .sh rfl (.inl rfl) rfl) (pd_lst (ad_nil .sh) (by decide)) rfl)
  (sd_cons (Γ1 := [gS, gS, gS, gW, gS, gN, gN])
  (sd_set 4 nd rfl (.inl rfl) hl4 (pd_op op_modN (bin_modI .sh) (pd_at (pd_var 2 .sh rfl (.inl rfl) rfl) (pd_int .sh) (fun _ _ => rfl) rfl) (pd_callB1 call_len (un_len .sh) rfl g.x_len PySem.boot_len (pd_var 1 .sh rfl (.inl rfl) rfl))) rfl rfl)
  (sd_cons (Γ1 := [gS, gS, gS, gW, gS, gN, gN])
  (sd_for (Γ1 := [gS, gS, gS, gW, gS, gS, gN]) (passes_of rfl) rfl (id_list (pd_fz (pd_lst (ad_cons (pd_sh (pd_var 4 .sh rfl (.inl rfl) rfl)) (ad_cons (pd_op op_sub (bin_subI .sh) (pd_callB1 call_len (un_len .sh) rfl g.x_len PySem.boot_len (pd_var 1 .sh rfl (.inl rfl) rfl)) (pd_int .sh)) (ad_nil .sh))) (by decide)))) (gd_name 5 nd rfl (.inl rfl) hl5 rfl)
  (sd_cons (Γ1 := [gS, gS, gS, gW, gS, gS, gN])
  (sd_for (Γ1 := [gS, gS, gS, gW, gS, gS, gS]) (passes_of rfl) rfl (id_list (pd_fz (pd_lst (ad_cons (pd_op op_modN (bin_modI .sh) (pd_op op_addG (bin_addG rfl rfl) (pd_at (pd_var 1 .sh rfl (.inl rfl) rfl) (pd_var 5 .sh rfl (.inl rfl) rfl) (fun _ _ => rfl) rfl) (pd_int .sh)) (pd_var 0 .sh rfl (.inl rfl) rfl)) (ad_cons (pd_fz (pd_op op_addG (bin_addG rfl rfl) (pd_at (pd_var 1 .sh rfl (.inl rfl) rfl) (pd_var 5 .sh rfl (.inl rfl) rfl) (fun _ _ => rfl) rfl) (pd_var 0 .sh rfl (.inl rfl) rfl))) (ad_cons (pd_op op_sub (bin_subI .sh) (pd_at (pd_var 1 .sh rfl (.inl rfl) rfl) (pd_var 5 .sh rfl (.inl rfl) rfl) (fun _ _ => rfl) rfl) (pd_var 0 .sh rfl (.inl rfl) rfl)) (ad_cons (pd_cmp (op_eqP hu) (bin_eq .sh) (pd_at (pd_var 1 .sh rfl (.inl rfl) rfl) (pd_var 5 .sh rfl (.inl rfl) rfl) (fun _ _ => rfl) rfl) (pd_int .sh) rfl) (ad_cons (pd_non .sh) (ad_cons (pd_callT1 call_str_int (un_str .sh) rfl g.x_str PyProof.Rows.boot_str (pd_at (pd_var 1 .sh rfl (.inl rfl) rfl) (pd_var 5 .sh rfl (.inl rfl) rfl) (fun _ _ => rfl) rfl)) (ad_nil .sh))))))) (by decide)))) (gd_name 6 nd rfl (.inl rfl) hl6 rfl)
  (sd_cons (Γ1 := [gS, gS, gS, gW, gS, gS, gS])
  (sd_mod 3 PySem.F.slot_list_append PySem.F.type_list_append mt_append mod_append rfl (.inl rfl) rfl (pd_fz (pd_op op_addG (bin_addG rfl rfl) (pd_op op_addG (bin_addG rfl rfl) (pd_slice (pd_var 1 .sh rfl (.inl rfl) rfl) part_none (part_some (pd_var 5 .sh rfl (.inl rfl) rfl)) rfl) (pd_lst (ad_cons (pd_sh (pd_var 6 .sh rfl (.inl rfl) rfl)) (ad_nil .sh)) (by decide))) (pd_slice (pd_var 1 .sh rfl (.inl rfl) rfl) (part_some (pd_op op_addG (bin_addG rfl rfl) (pd_var 5 .sh rfl (.inl rfl) rfl) (pd_int .sh))) part_none rfl))) rfl rfl)
  (sd_nil rfl)) rfl rfl)
  (sd_nil rfl)) rfl rfl)
  (sd_nil rfl)))
  (sd_nil rfl) rfl)
  (sd_wk (Γ1 := [gS, gS, gS, gS, gN, gN, gN]) (sd_cons (Γ1 := [])
  (sd_ret (pd_sh (pd_var 3 .sh rfl (.inl rfl) rfl)) rfl rfl)
  (sd_nil rfl)) rfl)))
theorem ok_law (g : Gg mg) (F : FunD K "law" "law" (defArgs s_law) (defBody s_law) (defScope s_law) [] [] f fd) (hm : mg "law" = some (.ref f)) (D__law_bent : Def1 P w K mg base 1 "_law_bent" 3 .sh f__law_bent) (D__law_due : Def1 P w K mg base 3 "_law_due" 5 .sh f__law_due) (D__law_members : Def1 P w K mg base 2 "_law_members" 3 .sh f__law_members) (D__law_numbers : Def1 P w K mg base 1 "_law_numbers" 3 .sh f__law_numbers) (D__law_samples : Def1 P w K mg base 2 "_law_samples" 4 .sh f__law_samples) (D__law_sum : Def1 P w K mg base 1 "_law_sum" 4 .sh f__law_sum) (D_shows_follow : Def1 P w K mg base 5 "shows_follow" 5 .sh f_shows_follow) : FnOk P w K mg base (L2.CX P w) 6 f fd ["script"] (spD K 1 .sh f_law) := by
  have S : FnScope N_law ["script"] (defScope s_law) := ⟨rfl, rfl, rfl, by decide +kernel, rfl, by decide +kernel, by decide +kernel⟩
  refine def_ok (N := N_law) (bf := b_law) F S rfl (by decide) (fun cdv A outer s H E hr => ?_)
  have nd := S.nd
  have hu := hr.units
  have RM__law_bent : Room 1 _ := hr.mono (by decide : 1 ≤ 5)
  have RM__law_due : Room 3 _ := hr.mono (by decide : 3 ≤ 5)
  have RM__law_members : Room 2 _ := hr.mono (by decide : 2 ≤ 5)
  have RM__law_numbers : Room 1 _ := hr.mono (by decide : 1 ≤ 5)
  have RM__law_samples : Room 2 _ := hr.mono (by decide : 2 ≤ 5)
  have RM__law_sum : Room 1 _ := hr.mono (by decide : 1 ≤ 5)
  have RM_shows_follow : Room 5 _ := hr.mono (by decide : 5 ≤ 5)
  have hl1 : 1 < N_law.length := by decide
  have hl2 : 2 < N_law.length := by decide
  have hl3 : 3 < N_law.length := by decide
  have hl4 : 4 < N_law.length := by decide
  have hl5 : 5 < N_law.length := by decide
  have hl6 : 6 < N_law.length := by decide
  have hl7 : 7 < N_law.length := by decide
  have hl8 : 8 < N_law.length := by decide
  have hl9 : 9 < N_law.length := by decide
  have hl10 : 10 < N_law.length := by decide
  have hl11 : 11 < N_law.length := by decide
  have hl12 : 12 < N_law.length := by decide
  have hl13 : 13 < N_law.length := by decide
  have hl14 : 14 < N_law.length := by decide
  have hl15 : 15 < N_law.length := by decide
  have hl16 : 16 < N_law.length := by decide
  have hl17 : 17 < N_law.length := by decide
  have hl18 : 18 < N_law.length := by decide
  have hl19 : 19 < N_law.length := by decide
  have hl20 : 20 < N_law.length := by decide
  have hl21 : 21 < N_law.length := by decide
  have hl22 : 22 < N_law.length := by decide
  exact (sd_cons (Γ1 := [gS, gN, gN, gN, gN, gN, gN, gN, gN, gN, gN, gN, gN, gN, gN, gN, gN, gN, gN, gN, gN, gN, gN])
  (sd_for (Γ1 := [gS, gS, gN, gN, gN, gN, gN, gN, gN, gN, gN, gN, gN, gN, gN, gN, gN, gN, gN, gN, gN, gN, gN]) (passes_of rfl) rfl (id_range1 rfl g.x_range (pd_int .sh)) (gd_name 1 nd rfl (.inl rfl) hl1 rfl)
  (sd_cons (Γ1 := [gS, gS, gS, gN, gN, gN, gN, gN, gN, gN, gN, gN, gN, gN, gN, gN, gN, gN, gN, gN, gN, gN, gN])
  (sd_set 2 nd rfl (.inr rfl) hl2 (pd_call D__law_numbers RM__law_numbers rfl (pass_of (takes_of rfl rfl rfl rfl)) (ad_cons (pd_sh (pd_var 0 .sh rfl (.inl rfl) rfl)) (ad_cons (pd_fz (pd_op op_addG (bin_addG rfl rfl) (pd_int .sh) (pd_op op_mulG (bin_mulG rfl) (pd_int .sh) (pd_var 1 .sh rfl (.inl rfl) rfl)))) (ad_cons (pd_int .sh) (ad_nil .sh))))) rfl rfl)
  (sd_cons (Γ1 := [gS, gS, gS, gS, gN, gN, gN, gN, gN, gN, gN, gN, gN, gN, gN, gN, gN, gN, gN, gN, gN, gN, gN])
  (sd_set 3 nd rfl (.inl rfl) hl3 (pd_callT1 call_int1 (un_int .sh) rfl g.x_int PyProof.Rows.boot_int (pd_cmp (op_eqP hu) (bin_eq .sh) (pd_op op_modN (bin_modI .sh) (pd_at (pd_var 2 .sh rfl (.inr (.inl rfl)) rfl) (pd_int .sh) (fun _ _ => rfl) rfl) (pd_int .sh)) (pd_int .sh) rfl)) rfl rfl)
  (sd_cons (Γ1 := [gS, gS, gS, gS, gS, gS, gS, gN, gN, gN, gN, gN, gN, gN, gN, gN, gN, gN, gN, gN, gN, gN, gN])
  (sd_asgP (Γ1 := [gS, gS, gS, gS, gS, gS, gS, gN, gN, gN, gN, gN, gN, gN, gN, gN, gN, gN, gN, gN, gN, gN, gN]) (pd_call D__law_samples RM__law_samples rfl (pass_of (takes_of rfl rfl rfl rfl)) (ad_cons (pd_sh (pd_var 0 .sh rfl (.inl rfl) rfl)) (ad_cons (pd_fz (pd_op op_mulG (bin_mulG rfl) (pd_int .sh) (pd_var 1 .sh rfl (.inl rfl) rfl))) (ad_cons (pd_sh (pd_at (pd_lst (ad_cons (pd_int .sh) (ad_cons (pd_int .sh) (ad_nil .sh))) (by decide)) (pd_var 3 .sh rfl (.inl rfl) rfl) (fun _ _ => rfl) rfl)) (ad_cons (pd_sh (pd_at (pd_lst (ad_cons (pd_int .sh) (ad_cons (pd_int .sh) (ad_nil .sh))) (by decide)) (pd_var 3 .sh rfl (.inl rfl) rfl) (fun _ _ => rfl) rfl)) (ad_nil .sh)))))) (gd_tup rfl (gsd_cons (gd_name 4 nd rfl (.inr rfl) hl4 rfl) (gsd_cons (gd_name 5 nd rfl (.inl rfl) hl5 rfl) (gsd_cons (gd_name 6 nd rfl (.inl rfl) hl6 rfl) gsd_nil)))) rfl rfl)
  (sd_cons (Γ1 := [gS, gS, gS, gS, gS, gS, gS, gW, gN, gN, gN, gN, gN, gN, gN, gN, gN, gN, gN, gN, gN, gN, gN])
  (sd_setLc 7 (own := [("k", 8)]) (Γ1 := [gS, gS, gS, gS, gS, gS, gS, gN, gS, gN, gN, gN, gN, gN, gN, gN, gN, gN, gN, gN, gN, gN, gN]) rfl rfl hl7 rfl rfl (sw_true rfl rfl rfl (by decide +kernel)) rfl nd (id_range1 rfl g.x_range (pd_callB1 call_len (un_len .sh) rfl g.x_len PySem.boot_len (pd_var 6 .sh rfl (.inl rfl) rfl))) (blkOk_by (own := [("k", 8)]) (N := N_law) (sc := defScope s_law) (by decide +kernel)) (fun _ _ _ _ _ => (gd_name 8 nd rfl (.inl rfl) hl8 rfl)) (fun _ _ _ _ _ => tsd_nil) (fun _ _ _ _ _ => (pd_op op_modN (bin_modI .sh) (pd_at (pd_var 2 .sh rfl (.inr (.inl rfl)) rfl) (pd_var 8 .sh rfl (.inl rfl) rfl) (fun _ _ => rfl) rfl) (pd_var 4 .sh rfl (.inr (.inl rfl)) rfl))) (by decide))
  (sd_wk (Γ1 := [gS, gS, gS, gS, gS, gS, gS, gS, gN, gN, gN, gN, gN, gN, gN, gN, gN, gN, gN, gN, gN, gN, gN]) (sd_cons (Γ1 := [gS, gS, gS, gS, gS, gS, gS, gS, gN, gS, gN, gN, gN, gN, gN, gN, gN, gN, gN, gN, gN, gN, gN])
  (sd_set 9 nd rfl (.inl rfl) hl9 (pd_call D__law_sum RM__law_sum rfl (pass_of (takes_of rfl rfl rfl rfl)) (ad_cons (pd_sh (pd_var 4 .sh rfl (.inr (.inl rfl)) rfl)) (ad_cons (pd_sh (pd_var 5 .sh rfl (.inl rfl) rfl)) (ad_cons (pd_sh (pd_var 6 .sh rfl (.inl rfl) rfl)) (ad_cons (pd_sh (pd_var 7 .sh rfl (.inl rfl) rfl)) (ad_nil .sh)))))) rfl rfl)
  (sd_cons (Γ1 := [gS, gS, gS, gS, gS, gS, gS, gS, gN, gS, gW, gN, gN, gN, gN, gN, gN, gN, gN, gN, gN, gN, gN])
  (sd_setLc 10 (own := [("j", 11)]) (Γ1 := [gS, gS, gS, gS, gS, gS, gS, gS, gN, gS, gN, gS, gN, gN, gN, gN, gN, gN, gN, gN, gN, gN, gN]) rfl rfl hl10 rfl rfl (sw_true rfl rfl rfl (by decide +kernel)) rfl nd (id_range1 rfl g.x_range (pd_var 5 .sh rfl (.inl rfl) rfl)) (blkOk_by (own := [("j", 11)]) (N := N_law) (sc := defScope s_law) (by decide +kernel)) (fun _ _ _ _ _ => (gd_name 11 nd rfl (.inl rfl) hl11 rfl)) (fun _ _ _ _ _ => tsd_nil) (fun _ _ _ _ _ => (pd_op op_modN (bin_modI .sh) (pd_at (pd_var 2 .sh rfl (.inr (.inl rfl)) rfl) (pd_op op_sub (bin_subI .sh) (pd_int .sh) (pd_var 11 .sh rfl (.inl rfl) rfl)) (fun _ _ => rfl) rfl) (pd_var 4 .sh rfl (.inr (.inl rfl)) rfl))) (by decide))
  (sd_cons (Γ1 := [gS, gS, gS, gS, gS, gS, gS, gS, gN, gS, gW, gN, gS, gN, gN, gN, gN, gN, gN, gN, gN, gN, gN])
  (sd_set 12 nd rfl (.inl rfl) hl12 (pd_call D__law_members RM__law_members rfl (pass_of (takes_of rfl rfl rfl rfl)) (ad_cons (pd_sh (pd_var 4 .sh rfl (.inr (.inl rfl)) rfl)) (ad_cons (pd_sh (pd_var 5 .sh rfl (.inl rfl) rfl)) (ad_cons (pd_sh (pd_var 6 .sh rfl (.inl rfl) rfl)) (ad_nil .sh))))) rfl rfl)
  (sd_cons (Γ1 := [gS, gS, gS, gS, gS, gS, gS, gS, gN, gS, gW, gN, gS, gS, gN, gN, gN, gN, gN, gN, gN, gN, gN])
  (sd_set 13 nd rfl (.inl rfl) hl13 (pd_fz (pd_op op_addG (bin_addG rfl rfl) (pd_call D__law_bent RM__law_bent rfl (pass_of (takes_of rfl rfl rfl rfl)) (ad_cons (pd_sh (pd_var 4 .sh rfl (.inr (.inl rfl)) rfl)) (ad_cons (pd_sh (pd_var 7 .sh rfl (.inl rfl) rfl)) (ad_cons (pd_slice (pd_var 2 .sh rfl (.inr (.inl rfl)) rfl) (part_some (pd_int .sh)) part_none rfl) (ad_nil .sh))))) (pd_call D__law_bent RM__law_bent rfl (pass_of (takes_of rfl rfl rfl rfl)) (ad_cons (pd_sh (pd_var 4 .sh rfl (.inr (.inl rfl)) rfl)) (ad_cons (pd_fz (pd_lc (own := [("j", 11)]) (Γ1 := [gS, gS, gS, gS, gS, gS, gS, gS, gN, gS, gW, gS, gS, gN, gN, gN, gN, gN, gN, gN, gN, gN, gN]) rfl nd (id_range1 rfl g.x_range (pd_var 5 .sh rfl (.inl rfl) rfl)) (blkOk_by (own := [("j", 11)]) (N := N_law) (sc := defScope s_law) (by decide +kernel)) (fun _ _ _ _ _ => (gd_name 11 nd rfl (.inl rfl) hl11 rfl)) (fun _ _ _ _ _ => tsd_nil) (fun _ _ _ _ _ => (pd_op op_modN (bin_modI .sh) (pd_at (pd_var 2 .sh rfl (.inr (.inl rfl)) rfl) (pd_var 11 .sh rfl (.inl rfl) rfl) (fun _ _ => rfl) rfl) (pd_var 4 .sh rfl (.inr (.inl rfl)) rfl))) (by decide))) (ad_cons (pd_slice (pd_var 2 .sh rfl (.inr (.inl rfl)) rfl) (part_some (pd_int .sh)) part_none rfl) (ad_nil .sh))))))) rfl rfl)
  (sd_cons (Γ1 := [gS, gS, gS, gS, gS, gS, gS, gS, gN, gS, gW, gN, gS, gS, gN, gN, gN, gN, gN, gN, gN, gN, gN])
  (sd_for (Γ1 := [gS, gS, gS, gS, gS, gS, gS, gS, gN, gS, gW, gN, gS, gS, gS, gN, gN, gN, gN, gN, gN, gN, gN]) (passes_of rfl) rfl (id_list (pd_fz (pd_op op_addG (bin_addG rfl rfl) (pd_slice (pd_var 12 .sh rfl (.inl rfl) rfl) part_none (part_some (pd_int .sh)) rfl) (pd_slice (pd_var 12 .sh rfl (.inl rfl) rfl) (part_some (pd_neg .sh (pd_int .sh))) part_none rfl)))) (gd_name 14 nd rfl (.inr rfl) hl14 rfl)
  (sd_cons (Γ1 := [gS, gS, gS, gS, gS, gS, gS, gS, gN, gS, gW, gN, gS, gS, gS, gN, gN, gN, gN, gN, gN, gN, gN])
  (sd_set 13 nd rfl (.inl rfl) hl13 (pd_fz (pd_op op_addG (bin_addG rfl rfl) (pd_op op_addG (bin_addG rfl rfl) (pd_var 13 .sh rfl (.inl rfl) rfl) (pd_call D__law_bent RM__law_bent rfl (pass_of (takes_of rfl rfl rfl rfl)) (ad_cons (pd_sh (pd_var 4 .sh rfl (.inr (.inl rfl)) rfl)) (ad_cons (pd_sh (pd_var 14 .sh rfl (.inr (.inl rfl)) rfl)) (ad_cons (pd_slice (pd_var 2 .sh rfl (.inr (.inl rfl)) rfl) (part_some (pd_int .sh)) part_none rfl) (ad_nil .sh)))))) (pd_lst (ad_cons (pd_fz (pd_lc (own := [("j", 11)]) (Γ1 := [gS, gS, gS, gS, gS, gS, gS, gS, gN, gS, gW, gS, gS, gS, gS, gN, gN, gN, gN, gN, gN, gN, gN]) rfl nd (id_range1 rfl g.x_range (pd_var 5 .sh rfl (.inl rfl) rfl)) (blkOk_by (own := [("j", 11)]) (N := N_law) (sc := defScope s_law) (by decide +kernel)) (fun _ _ _ _ _ => (gd_name 11 nd rfl (.inl rfl) hl11 rfl)) (fun _ _ _ _ _ => tsd_nil) (fun _ _ _ _ _ => (pd_op op_modN (bin_modI .sh) (pd_op op_mulG (bin_mulG rfl) (pd_at (pd_var 14 .sh rfl (.inr (.inl rfl)) rfl) (pd_var 11 .sh rfl (.inl rfl) rfl) (fun _ _ => rfl) rfl) (pd_int .sh)) (pd_var 4 .sh rfl (.inr (.inl rfl)) rfl))) (by decide))) (ad_nil .sh)) (by decide)))) rfl rfl)
  (sd_nil rfl)) rfl rfl)
  (sd_wk (Γ1 := [gS, gS, gS, gS, gS, gS, gS, gS, gN, gS, gS, gN, gS, gS, gN, gN, gN, gN, gN, gN, gN, gN, gN]) (sd_cons (Γ1 := [gS, gS, gS, gS, gS, gS, gS, gS, gN, gS, gS, gN, gS, gS, gN, gN, gN, gN, gN, gN, gN, gN, gN])
  (sd_for (Γ1 := [gS, gS, gS, gS, gS, gS, gS, gS, gN, gS, gS, gN, gS, gS, gN, gS, gN, gN, gN, gN, gN, gN, gN]) (passes_of rfl) rfl (id_list (pd_slice (pd_fz (pd_lst (ad_cons (pd_sh (pd_at (pd_lst (ad_cons (pd_sh (pd_var 9 .sh rfl (.inl rfl) rfl)) (ad_cons (pd_sh (pd_var 10 .sh rfl (.inl rfl) rfl)) (ad_nil .sh))) (by decide)) (pd_var 1 .sh rfl (.inl rfl) rfl) (fun _ _ => rfl) rfl)) (ad_cons (pd_sh (pd_at (pd_lst (ad_cons (pd_sh (pd_var 10 .sh rfl (.inl rfl) rfl)) (ad_cons (pd_sh (pd_var 9 .sh rfl (.inl rfl) rfl)) (ad_nil .sh))) (by decide)) (pd_var 1 .sh rfl (.inl rfl) rfl) (fun _ _ => rfl) rfl)) (ad_nil .sh))) (by decide))) part_none (part_some (pd_op op_addG (bin_addG rfl rfl) (pd_int .sh) (pd_var 3 .sh rfl (.inl rfl) rfl))) rfl)) (gd_name 15 nd rfl (.inl rfl) hl15 rfl)
  (sd_cons (Γ1 := [gS, gS, gS, gS, gS, gS, gS, gS, gN, gS, gS, gN, gS, gS, gN, gS, gS, gN, gN, gN, gN, gN, gN])
  (sd_set 16 nd rfl (.inl rfl) hl16 (pd_fz (pd_op op_addG (bin_addG rfl rfl) (pd_lc (own := [("value", 17)]) (Γ1 := [gS, gS, gS, gS, gS, gS, gS, gS, gN, gS, gS, gN, gS, gS, gN, gS, gN, gS, gN, gN, gN, gN, gN]) rfl nd (id_list (pd_sh (pd_var 13 .sh rfl (.inl rfl) rfl))) (blkOk_by (own := [("value", 17)]) (N := N_law) (sc := defScope s_law) (by decide +kernel)) (fun _ _ _ _ _ => (gd_name 17 nd rfl (.inl rfl) hl17 rfl)) (fun _ _ _ _ _ => tsd_nil) (fun _ _ _ _ _ => (pd_fz (pd_tup (ad_cons (pd_str .sh) (ad_cons (pd_sh (pd_var 17 .sh rfl (.inl rfl) rfl)) (ad_nil .sh))) (by decide)))) (by decide)) (pd_lc (own := [("value", 17)]) (Γ1 := [gS, gS, gS, gS, gS, gS, gS, gS, gN, gS, gS, gN, gS, gS, gN, gS, gN, gS, gN, gN, gN, gN, gN]) rfl nd (id_list (pd_sh (pd_var 13 .sh rfl (.inl rfl) rfl))) (blkOk_by (own := [("value", 17)]) (N := N_law) (sc := defScope s_law) (by decide +kernel)) (fun _ _ _ _ _ => (gd_name 17 nd rfl (.inl rfl) hl17 rfl)) (fun _ _ _ _ _ => tsd_nil) (fun _ _ _ _ _ => (pd_fz (pd_tup (ad_cons (pd_str .sh) (ad_cons (pd_sh (pd_var 17 .sh rfl (.inl rfl) rfl)) (ad_nil .sh))) (by decide)))) (by decide)))) rfl rfl)
  (sd_cons (Γ1 := [gS, gS, gS, gS, gS, gS, gS, gS, gN, gS, gS, gN, gS, gS, gN, gS, gS, gN, gN, gN, gN, gN, gN])
  (sd_set 16 nd rfl (.inl rfl) hl16 (pd_fz (pd_op op_addG (bin_addG rfl rfl) (pd_var 16 .sh rfl (.inl rfl) rfl) (pd_lst (ad_cons (pd_non .sh) (ad_cons (pd_fz (pd_tup (ad_nil .sh) (by decide))) (ad_cons (pd_str .sh) (ad_cons (pd_fz (pd_tup (ad_cons (pd_str .sh) (ad_nil .sh)) (by decide))) (ad_cons (pd_fz (pd_tup (ad_cons (pd_str .sh) (ad_cons (pd_sh (pd_var 7 .sh rfl (.inl rfl) rfl)) (ad_nil .sh))) (by decide))) (ad_cons (pd_fz (pd_tup (ad_cons (pd_str .sh) (ad_cons (pd_sh (pd_var 7 .sh rfl (.inl rfl) rfl)) (ad_cons (pd_int .sh) (ad_nil .sh)))) (by decide))) (ad_cons (pd_fz (pd_lst (ad_cons (pd_str .sh) (ad_cons (pd_sh (pd_var 7 .sh rfl (.inl rfl) rfl)) (ad_nil .sh))) (by decide))) (ad_cons (pd_fz (pd_tup (ad_cons (pd_non .sh) (ad_cons (pd_sh (pd_var 7 .sh rfl (.inl rfl) rfl)) (ad_nil .sh))) (by decide))) (ad_cons (pd_fz (pd_tup (ad_cons (pd_str .sh) (ad_cons (pd_sh (pd_var 7 .sh rfl (.inl rfl) rfl)) (ad_nil .sh))) (by decide))) (ad_cons (pd_fz (pd_tup (ad_cons (pd_sh (pd_var 7 .sh rfl (.inl rfl) rfl)) (ad_cons (pd_str .sh) (ad_nil .sh))) (by decide))) (ad_nil .sh))))))))))) (by decide)))) rfl rfl)
  (sd_cons (Γ1 := [gS, gS, gS, gS, gS, gS, gS, gS, gN, gS, gS, gN, gS, gS, gN, gS, gS, gN, gN, gN, gN, gN, gN])
  (sd_for (Γ1 := [gS, gS, gS, gS, gS, gS, gS, gS, gN, gS, gS, gN, gS, gS, gN, gS, gS, gN, gS, gN, gN, gN, gN]) (passes_of rfl) rfl (id_list (pd_sh (pd_var 16 .sh rfl (.inl rfl) rfl))) (gd_name 18 nd rfl (.inl rfl) hl18 rfl)
  (sd_cons (Γ1 := [gS, gS, gS, gS, gS, gS, gS, gS, gN, gS, gS, gN, gS, gS, gN, gS, gS, gN, gS, gW, gN, gN, gN])
  (sd_setLc 19 (own := [("sample", 20)]) (Γ1 := [gS, gS, gS, gS, gS, gS, gS, gS, gN, gS, gS, gN, gS, gS, gN, gS, gS, gN, gS, gN, gS, gN, gN]) rfl rfl hl19 rfl rfl (sw_true rfl rfl rfl (by decide +kernel)) rfl nd (id_list (pd_sh (pd_var 6 .sh rfl (.inl rfl) rfl))) (blkOk_by (own := [("sample", 20)]) (N := N_law) (sc := defScope s_law) (by decide +kernel)) (fun _ _ _ _ _ => (gd_name 20 nd rfl (.inl rfl) hl20 rfl)) (fun _ _ _ _ _ => tsd_nil) (fun _ _ _ _ _ => (pd_fz (pd_callT1 call_list_of (un_list rfl) rfl g.x_list PyProof.Rows.boot_list (pd_var 20 .sh rfl (.inl rfl) rfl)))) (by decide))
  (sd_cons (Γ1 := [gS, gS, gS, gS, gS, gS, gS, gS, gN, gS, gS, gN, gS, gS, gN, gS, gS, gN, gS, gW, gN, gS, gN])
  (sd_set 21 nd rfl (.inl rfl) hl21 (pd_fz (pd_callT1 call_list_of (un_list rfl) rfl g.x_list PyProof.Rows.boot_list (pd_var 15 .sh rfl (.inl rfl) rfl))) rfl rfl)
  (sd_wk (Γ1 := [gS, gS, gS, gS, gS, gS, gS, gS, gN, gS, gS, gN, gS, gS, gN, gS, gS, gN, gS, gS, gN, gS, gN]) (sd_cons (Γ1 := [gS, gS, gS, gS, gS, gS, gS, gS, gN, gS, gS, gN, gS, gS, gN, gS, gS, gN, gS, gS, gN, gS, gS])
  (sd_set 22 nd rfl (.inl rfl) hl22 (pd_call D_shows_follow RM_shows_follow rfl (pass_of (takes_of rfl rfl rfl rfl)) (ad_cons (pd_sh (pd_var 4 .sh rfl (.inr (.inl rfl)) rfl)) (ad_cons (pd_sh (pd_var 5 .sh rfl (.inl rfl) rfl)) (ad_cons (pd_sh (pd_var 19 .sh rfl (.inl rfl) rfl)) (ad_cons (pd_sh (pd_var 21 .sh rfl (.inl rfl) rfl)) (ad_cons (pd_sh (pd_var 18 .sh rfl (.inl rfl) rfl)) (ad_nil .sh))))))) rfl rfl)
  (sd_cons (Γ1 := [gS, gS, gS, gS, gS, gS, gS, gS, gN, gS, gS, gN, gS, gS, gN, gS, gS, gN, gS, gS, gN, gS, gS])
  (sd_if (td_w (wd_or (td_not (td_tru (pd_isi (T := "bool") .sh (pd_var 22 .sh rfl (.inl rfl) rfl) rfl g.x_isinstance PyProof.Rows.boot_isinstance rfl g.x_bool PyProof.Rows.boot_bool) (fun _ => rfl))) (wd_or (td_cmp (op_neP hu) (bin_ne .sh) (pd_var 22 .sh rfl (.inl rfl) rfl) (pd_call D__law_due RM__law_due rfl (pass_of (takes_of rfl rfl rfl rfl)) (ad_cons (pd_sh (pd_var 4 .sh rfl (.inr (.inl rfl)) rfl)) (ad_cons (pd_sh (pd_var 5 .sh rfl (.inl rfl) rfl)) (ad_cons (pd_sh (pd_var 6 .sh rfl (.inl rfl) rfl)) (ad_cons (pd_sh (pd_var 15 .sh rfl (.inl rfl) rfl)) (ad_cons (pd_sh (pd_var 18 .sh rfl (.inl rfl) rfl)) (ad_nil .sh))))))) rfl) (wd_or (td_cmp (op_neP hu) (bin_ne .sh) (pd_var 19 .sh rfl (.inl rfl) rfl) (pd_var 6 .sh rfl (.inl rfl) rfl) rfl) (wd_or1 (td_cmp (op_neP hu) (bin_ne .sh) (pd_var 21 .sh rfl (.inl rfl) rfl) (pd_var 15 .sh rfl (.inl rfl) rfl) rfl))))))
  (sd_cons (Γ1 := [gS, gS, gS, gS, gS, gS, gS, gS, gN, gS, gS, gN, gS, gS, gN, gS, gS, gN, gS, gS, gN, gS, gS])
  (sd_ret (pd_bl .sh) rfl rfl)
  (sd_nil rfl))
  (sd_nil rfl) rfl)
  (sd_nil rfl))) rfl))) rfl rfl)
  (sd_nil rfl)))) rfl rfl)
  (sd_nil rfl)) rfl)))))) rfl))))) rfl rfl)
  (sd_cons (Γ1 := [])
  (sd_ret (pd_bl .sh) rfl rfl)
  (sd_nil rfl)))
end
end K64

namespace K64
open PySem PySem.Spec L2 DL
def d_is_whole : He.DefD := ⟨("is_whole", none), "is_whole", "is_whole", defArgs s_is_whole, defBody s_is_whole, defScope s_is_whole, [], []⟩
def d_is_from_to : He.DefD := ⟨("is_from_to", none), "is_from_to", "is_from_to", defArgs s_is_from_to, defBody s_is_from_to, defScope s_is_from_to, [], []⟩
def d_multiple : He.DefD := ⟨("multiple", none), "multiple", "multiple", defArgs s_multiple, defBody s_multiple, defScope s_multiple, [], []⟩
def d_sum_of_rows : He.DefD := ⟨("sum_of_rows", none), "sum_of_rows", "sum_of_rows", defArgs s_sum_of_rows, defBody s_sum_of_rows, defScope s_sum_of_rows, [], []⟩
def d_sum_of_products : He.DefD := ⟨("sum_of_products", none), "sum_of_products", "sum_of_products", defArgs s_sum_of_products, defBody s_sum_of_products, defScope s_sum_of_products, [], []⟩
def d_are_numbers : He.DefD := ⟨("are_numbers", none), "are_numbers", "are_numbers", defArgs s_are_numbers, defBody s_are_numbers, defScope s_are_numbers, [], []⟩
def d_do_fit : He.DefD := ⟨("do_fit", none), "do_fit", "do_fit", defArgs s_do_fit, defBody s_do_fit, defScope s_do_fit, [], []⟩
def d_sum_of_multiples : He.DefD := ⟨("sum_of_multiples", none), "sum_of_multiples", "sum_of_multiples", defArgs s_sum_of_multiples, defBody s_sum_of_multiples, defScope s_sum_of_multiples, [], []⟩
def d_is_sum_paper : He.DefD := ⟨("is_sum_paper", none), "is_sum_paper", "is_sum_paper", defArgs s_is_sum_paper, defBody s_is_sum_paper, defScope s_is_sum_paper, [], []⟩
def d_is_weights_paper : He.DefD := ⟨("is_weights_paper", none), "is_weights_paper", "is_weights_paper", defArgs s_is_weights_paper, defBody s_is_weights_paper, defScope s_is_weights_paper, [], []⟩
def d_shows_follow : He.DefD := ⟨("shows_follow", none), "shows_follow", "shows_follow", defArgs s_shows_follow, defBody s_shows_follow, defScope s_shows_follow, [], []⟩
def d__law_numbers : He.DefD := ⟨("_law_numbers", none), "_law_numbers", "_law_numbers", defArgs s__law_numbers, defBody s__law_numbers, defScope s__law_numbers, [], []⟩
def d__law_is_integer : He.DefD := ⟨("_law_is_integer", none), "_law_is_integer", "_law_is_integer", defArgs s__law_is_integer, defBody s__law_is_integer, defScope s__law_is_integer, [], []⟩
def d__law_prime : He.DefD := ⟨("_law_prime", none), "_law_prime", "_law_prime", defArgs s__law_prime, defBody s__law_prime, defScope s__law_prime, [], []⟩
def d__law_samples : He.DefD := ⟨("_law_samples", none), "_law_samples", "_law_samples", defArgs s__law_samples, defBody s__law_samples, defScope s__law_samples, [], []⟩
def d__law_reduced : He.DefD := ⟨("_law_reduced", none), "_law_reduced", "_law_reduced", defArgs s__law_reduced, defBody s__law_reduced, defScope s__law_reduced, [], []⟩
def d__law_led : He.DefD := ⟨("_law_led", none), "_law_led", "_law_led", defArgs s__law_led, defBody s__law_led, defScope s__law_led, [], []⟩
def d__law_dot : He.DefD := ⟨("_law_dot", none), "_law_dot", "_law_dot", defArgs s__law_dot, defBody s__law_dot, defScope s__law_dot, [], []⟩
def d__law_sum : He.DefD := ⟨("_law_sum", none), "_law_sum", "_law_sum", defArgs s__law_sum, defBody s__law_sum, defScope s__law_sum, [], []⟩
def d__law_is_row : He.DefD := ⟨("_law_is_row", none), "_law_is_row", "_law_is_row", defArgs s__law_is_row, defBody s__law_is_row, defScope s__law_is_row, [], []⟩
def d__law_due : He.DefD := ⟨("_law_due", none), "_law_due", "_law_due", defArgs s__law_due, defBody s__law_due, defScope s__law_due, [], []⟩
def d__law_members : He.DefD := ⟨("_law_members", none), "_law_members", "_law_members", defArgs s__law_members, defBody s__law_members, defScope s__law_members, [], []⟩
def d__law_bent : He.DefD := ⟨("_law_bent", none), "_law_bent", "_law_bent", defArgs s__law_bent, defBody s__law_bent, defScope s__law_bent, [], []⟩
def d_law : He.DefD := ⟨("law", none), "law", "law", defArgs s_law, defBody s_law, defScope s_law, [], []⟩
def fn : List He.DefD := [d_is_whole, d_is_from_to, d_multiple, d_sum_of_rows, d_sum_of_products, d_are_numbers, d_do_fit, d_sum_of_multiples, d_is_sum_paper, d_is_weights_paper, d_shows_follow, d__law_numbers, d__law_is_integer, d__law_prime, d__law_samples, d__law_reduced, d__law_led, d__law_dot, d__law_sum, d__law_is_row, d__law_due, d__law_members, d__law_bent, d_law]
def fa : List He.Fa := [.glo "is_whole", .glo "is_from_to", .glo "multiple", .glo "sum_of_rows", .glo "sum_of_products", .glo "are_numbers", .glo "do_fit", .glo "sum_of_multiples", .glo "is_sum_paper", .glo "is_weights_paper", .glo "shows_follow", .glo "_law_numbers", .glo "_law_is_integer", .glo "_law_prime", .glo "_law_samples", .glo "_law_reduced", .glo "_law_led", .glo "_law_dot", .glo "_law_sum", .glo "_law_is_row", .glo "_law_due", .glo "_law_members", .glo "_law_bent", .glo "law", .free "all", .free "bool", .free "int", .free "isinstance", .free "len", .free "list", .free "range", .free "str", .free "sum", .free "tuple", .free "zip"]
abbrev R_ : PySem.W.OpenRow := PySem.W.OpenLaw.row PySem.Challenge.rw_slipscaught_k64_judge_of_following
abbrev hk : PySem.W.Hook := He.hookD 4 fa fn
def ob (s : PySem.W.SharedT) : He.AlD := He.obsDG 4 fa fn (HandSHeadRun.getT s)
theorem ob_eq (s : PySem.W.SharedT) : ob s = hk.obs s.abs := He.obsDG_eq (HandSHeadRun.getT_eq s)
def loose : List Str := ["is_whole", "is_from_to", "multiple", "sum_of_rows", "sum_of_products", "are_numbers", "do_fit", "sum_of_multiples", "is_sum_paper", "is_weights_paper", "shows_follow", "_law_numbers", "_law_is_integer", "_law_prime", "_law_samples", "_law_reduced", "_law_led", "_law_dot", "_law_sum", "_law_is_row", "_law_due", "_law_members", "_law_bent"]
theorem run (w : World) : HandSHeadRun.RunEq R_ (PySem.W.view R_.prog [29]) hk ob 2000 loose w := by
  intro os
  kernel_rfl
theorem facts {P : Program} {w : World} {K : PySem.W.Frag} {h : Heap} {mg : Str → Option Value} {f : Addr} (X : K.In h) (G : h.Ns mainGlobals mg) (hfa : mg ("law" : Str) = some (.ref f)) (c : He.SaysD fa fn K) :
    ∃ fd : FuncData, (∀ (s : Shared) (v : Value), BindsTo s fd ⟨[v], []⟩ [("script", v)]) ∧ ∀ base : Heap, K.In base → base.Ns mainGlobals mg → FnOk P w K mg base (L2.CX P w) 6 f fd ["script"] (spD K 1 .sh f_law) := by
  obtain ⟨e_is_whole, F_is_whole⟩ := c.def_ 0 (d := d_is_whole) rfl
  have m_is_whole := He.glo_ok X G (c.fact 0 (f := .glo "is_whole") rfl)
  obtain ⟨e_is_from_to, F_is_from_to⟩ := c.def_ 1 (d := d_is_from_to) rfl
  have m_is_from_to := He.glo_ok X G (c.fact 1 (f := .glo "is_from_to") rfl)
  obtain ⟨e_multiple, F_multiple⟩ := c.def_ 2 (d := d_multiple) rfl
  have m_multiple := He.glo_ok X G (c.fact 2 (f := .glo "multiple") rfl)
  obtain ⟨e_sum_of_rows, F_sum_of_rows⟩ := c.def_ 3 (d := d_sum_of_rows) rfl
  have m_sum_of_rows := He.glo_ok X G (c.fact 3 (f := .glo "sum_of_rows") rfl)
  obtain ⟨e_sum_of_products, F_sum_of_products⟩ := c.def_ 4 (d := d_sum_of_products) rfl
  have m_sum_of_products := He.glo_ok X G (c.fact 4 (f := .glo "sum_of_products") rfl)
  obtain ⟨e_are_numbers, F_are_numbers⟩ := c.def_ 5 (d := d_are_numbers) rfl
  have m_are_numbers := He.glo_ok X G (c.fact 5 (f := .glo "are_numbers") rfl)
  obtain ⟨e_do_fit, F_do_fit⟩ := c.def_ 6 (d := d_do_fit) rfl
  have m_do_fit := He.glo_ok X G (c.fact 6 (f := .glo "do_fit") rfl)
  obtain ⟨e_sum_of_multiples, F_sum_of_multiples⟩ := c.def_ 7 (d := d_sum_of_multiples) rfl
  have m_sum_of_multiples := He.glo_ok X G (c.fact 7 (f := .glo "sum_of_multiples") rfl)
  obtain ⟨e_is_sum_paper, F_is_sum_paper⟩ := c.def_ 8 (d := d_is_sum_paper) rfl
  have m_is_sum_paper := He.glo_ok X G (c.fact 8 (f := .glo "is_sum_paper") rfl)
  obtain ⟨e_is_weights_paper, F_is_weights_paper⟩ := c.def_ 9 (d := d_is_weights_paper) rfl
  have m_is_weights_paper := He.glo_ok X G (c.fact 9 (f := .glo "is_weights_paper") rfl)
  obtain ⟨e_shows_follow, F_shows_follow⟩ := c.def_ 10 (d := d_shows_follow) rfl
  have m_shows_follow := He.glo_ok X G (c.fact 10 (f := .glo "shows_follow") rfl)
  obtain ⟨e__law_numbers, F__law_numbers⟩ := c.def_ 11 (d := d__law_numbers) rfl
  have m__law_numbers := He.glo_ok X G (c.fact 11 (f := .glo "_law_numbers") rfl)
  obtain ⟨e__law_is_integer, F__law_is_integer⟩ := c.def_ 12 (d := d__law_is_integer) rfl
  have m__law_is_integer := He.glo_ok X G (c.fact 12 (f := .glo "_law_is_integer") rfl)
  obtain ⟨e__law_prime, F__law_prime⟩ := c.def_ 13 (d := d__law_prime) rfl
  have m__law_prime := He.glo_ok X G (c.fact 13 (f := .glo "_law_prime") rfl)
  obtain ⟨e__law_samples, F__law_samples⟩ := c.def_ 14 (d := d__law_samples) rfl
  have m__law_samples := He.glo_ok X G (c.fact 14 (f := .glo "_law_samples") rfl)
  obtain ⟨e__law_reduced, F__law_reduced⟩ := c.def_ 15 (d := d__law_reduced) rfl
  have m__law_reduced := He.glo_ok X G (c.fact 15 (f := .glo "_law_reduced") rfl)
  obtain ⟨e__law_led, F__law_led⟩ := c.def_ 16 (d := d__law_led) rfl
  have m__law_led := He.glo_ok X G (c.fact 16 (f := .glo "_law_led") rfl)
  obtain ⟨e__law_dot, F__law_dot⟩ := c.def_ 17 (d := d__law_dot) rfl
  have m__law_dot := He.glo_ok X G (c.fact 17 (f := .glo "_law_dot") rfl)
  obtain ⟨e__law_sum, F__law_sum⟩ := c.def_ 18 (d := d__law_sum) rfl
  have m__law_sum := He.glo_ok X G (c.fact 18 (f := .glo "_law_sum") rfl)
  obtain ⟨e__law_is_row, F__law_is_row⟩ := c.def_ 19 (d := d__law_is_row) rfl
  have m__law_is_row := He.glo_ok X G (c.fact 19 (f := .glo "_law_is_row") rfl)
  obtain ⟨e__law_due, F__law_due⟩ := c.def_ 20 (d := d__law_due) rfl
  have m__law_due := He.glo_ok X G (c.fact 20 (f := .glo "_law_due") rfl)
  obtain ⟨e__law_members, F__law_members⟩ := c.def_ 21 (d := d__law_members) rfl
  have m__law_members := He.glo_ok X G (c.fact 21 (f := .glo "_law_members") rfl)
  obtain ⟨e__law_bent, F__law_bent⟩ := c.def_ 22 (d := d__law_bent) rfl
  have m__law_bent := He.glo_ok X G (c.fact 22 (f := .glo "_law_bent") rfl)
  obtain ⟨fd, F⟩ := c.def_ 23 (d := d_law) rfl
  have e := hfa.symm.trans (He.glo_ok X G (c.fact 23 (f := .glo "law") rfl))
  cases e
  have g : Gg mg := ⟨He.free_ok X G (c.fact 24 (f := .free "all") rfl), He.free_ok X G (c.fact 25 (f := .free "bool") rfl), He.free_ok X G (c.fact 26 (f := .free "int") rfl), He.free_ok X G (c.fact 27 (f := .free "isinstance") rfl), He.free_ok X G (c.fact 28 (f := .free "len") rfl), He.free_ok X G (c.fact 29 (f := .free "list") rfl), He.free_ok X G (c.fact 30 (f := .free "range") rfl), He.free_ok X G (c.fact 31 (f := .free "str") rfl), He.free_ok X G (c.fact 32 (f := .free "sum") rfl), He.free_ok X G (c.fact 33 (f := .free "tuple") rfl), He.free_ok X G (c.fact 34 (f := .free "zip") rfl)⟩
  have b := FunD.bindsA (ps := ["script"]) F fun _ _ _ _ _ _ us hl => match us, hl with | [_], _ => rfl
  refine ⟨fd, fun s v => b s [v] rfl, fun base _ _ => ?_⟩
  have D_is_whole := ok_is_whole (P := P) (w := w) (base := base) g F_is_whole m_is_whole 
  have D_is_from_to := ok_is_from_to (P := P) (w := w) (base := base) g F_is_from_to m_is_from_to D_is_whole
  have D_multiple := ok_multiple (P := P) (w := w) (base := base) g F_multiple m_multiple 
  have D_sum_of_rows := ok_sum_of_rows (P := P) (w := w) (base := base) g F_sum_of_rows m_sum_of_rows 
  have D_sum_of_products := ok_sum_of_products (P := P) (w := w) (base := base) g F_sum_of_products m_sum_of_products 
  have D_are_numbers := ok_are_numbers (P := P) (w := w) (base := base) g F_are_numbers m_are_numbers D_is_from_to
  have D_do_fit := ok_do_fit (P := P) (w := w) (base := base) g F_do_fit m_do_fit D_sum_of_products
  have D_sum_of_multiples := ok_sum_of_multiples (P := P) (w := w) (base := base) g F_sum_of_multiples m_sum_of_multiples D_multiple D_sum_of_rows
  have D_is_sum_paper := ok_is_sum_paper (P := P) (w := w) (base := base) g F_is_sum_paper m_is_sum_paper D_are_numbers D_sum_of_multiples
  have D_is_weights_paper := ok_is_weights_paper (P := P) (w := w) (base := base) g F_is_weights_paper m_is_weights_paper D_are_numbers D_do_fit
  have D_shows_follow := ok_shows_follow (P := P) (w := w) (base := base) g F_shows_follow m_shows_follow D_is_sum_paper D_is_weights_paper
  have D__law_numbers := ok__law_numbers (P := P) (w := w) (base := base) g F__law_numbers m__law_numbers 
  have D__law_is_integer := ok__law_is_integer (P := P) (w := w) (base := base) g F__law_is_integer m__law_is_integer 
  have D__law_prime := ok__law_prime (P := P) (w := w) (base := base) g F__law_prime m__law_prime 
  have D__law_samples := ok__law_samples (P := P) (w := w) (base := base) g F__law_samples m__law_samples D__law_numbers D__law_prime
  have D__law_reduced := ok__law_reduced (P := P) (w := w) (base := base) g F__law_reduced m__law_reduced 
  have D__law_led := ok__law_led (P := P) (w := w) (base := base) g F__law_led m__law_led 
  have D__law_dot := ok__law_dot (P := P) (w := w) (base := base) g F__law_dot m__law_dot 
  have D__law_sum := ok__law_sum (P := P) (w := w) (base := base) g F__law_sum m__law_sum 
  have D__law_is_row := ok__law_is_row (P := P) (w := w) (base := base) g F__law_is_row m__law_is_row D__law_is_integer
  have D__law_due := ok__law_due (P := P) (w := w) (base := base) g F__law_due m__law_due D__law_dot D__law_is_row D__law_sum
  have D__law_members := ok__law_members (P := P) (w := w) (base := base) g F__law_members m__law_members D__law_led D__law_reduced
  have D__law_bent := ok__law_bent (P := P) (w := w) (base := base) g F__law_bent m__law_bent 
  exact ok_law g F (He.glo_ok X G (c.fact 23 (f := .glo "law") rfl)) D__law_bent D__law_due D__law_members D__law_numbers D__law_samples D__law_sum D_shows_follow
end K64

open PySem PySem.W PySem.Calls PyProof.Rows
theorem PySem.Challenge.cw_slipscaught_k64_judge_of_following_holds : PySem.Challenge.rw_slipscaught_k64_judge_of_following.Holds := by
  w_on; o_law
  refine HandSHeadRun.head_any (r := OpenLaw.row PySem.Challenge.rw_slipscaught_k64_judge_of_following) (q := view (OpenLaw.row PySem.Challenge.rw_slipscaught_k64_judge_of_following).prog [29]) (H := K64.hk) (ob := K64.ob) (M := 2000) (loose := K64.loose) (d := HandSHeadRun.topDef (OpenLaw.row PySem.Challenge.rw_slipscaught_k64_judge_of_following).prog 29) (kwd := []) K64.ob_eq
    (by kernel_rfl) (fun s => by kernel_rfl) K64.run (by kernel_rfl) (by kernel_rfl) (by kernel_rfl) (by rfl) (by first | assumption | decide +kernel) (by decide +kernel) ⟨rfl, rfl, rfl, rfl, rfl, by decide +kernel⟩ ?hw ?hc
  case hw => w_witness2
  case hc =>
    refine DL.walk_dl (l := PySem.Challenge.rw_slipscaught_k64_judge_of_following) (n := 63) (k := 6) (x := "script") (f := K64.f_law) rfl (by decide) (by kernel_rfl) ⟨rfl, by decide, by decide⟩ K64.law_true ?F
    intro w mg fa h Y G hmg0
    obtain ⟨K, KX, c⟩ := Y
    have hmg : mg ("law" : PySem.Str) = some (.ref fa) := by
      have e : (HandSHeadRun.topDef (OpenLaw.row PySem.Challenge.rw_slipscaught_k64_judge_of_following).prog 29).name = ("law" : PySem.Str) := by kernel_rfl
      rw [← e]
      exact hmg0
    obtain ⟨fd, hb, hF⟩ := K64.facts (P := (PySem.Challenge.rw_slipscaught_k64_judge_of_following).prog) (w := w) KX G hmg c
    exact ⟨K, fd, KX, hb, hF⟩

