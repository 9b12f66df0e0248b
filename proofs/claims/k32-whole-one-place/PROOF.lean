import PyProof.Rows.All
import Wide.All
import OpenK.AllK
import Wide.FinOn
import KE.KStateDown
import Lean
import HandS.ForMost
import HandS.ForExc
import HandS.Flow
import HandS.IsInst
import HandS.TryMany
import HandS.More
import HandS.Defaults
import HandS.Wide
import HandS.HeadHook1
import HandS.Style
import HandS.TupLe
import HandS.TupAny
import HandS.TupMul
import HandS.Deep
import HandS.SortInts
import KE.KSortedM
import HandS.DictTup
import KE.SortData
import KE.GoesEnum
import HandS.Iter
import KE.KRevSl
import HandS.HeadWalk
import HandS.Codes
import HandS.Head0
import HandS.Head1
import HandS.Head2
import HandS.HeadEnd
import HandS.HeadHook2
import HandS.HeadHook3
import PySem.Challenge.RW_copyrows_k32_whole_one_place
set_option Elab.async false
set_option linter.all false
set_option maxRecDepth 100000
set_option maxHeartbeats 4000000
set_option autoImplicit false
namespace Mw
open PySem L2
/-- plain data: tuples are trees, mutable objects are numbers (places in a plain heap); scr: the script -/
inductive D where
  | non | bl (b : Bool) | int (i : Int) | str (x : Str) | tup (ds : List D) | ref (n : Nat) | scr (ns : List Int)
instance : Inhabited D := ⟨.non⟩
/-- plain objects -/
inductive O where
  | lst (ds : List D) | dct (kvs : List (Key × D)) | ins (fs : List (Nat × D))
abbrev Gp := List O
abbrev En := List (Option D)
/-- this program's names: its refusals, its class, the class's attributes -/
def xname : Nat → Str
  | 0 => "CopyError" | 1 => "BadDeed" | 2 => "BadThings" | 3 => "BadPaper" | 4 => "BadMessage" | 5 => "BadNumber" | 6 => "NoPlace" | 7 => "Down" | 8 => "NotLeading" | 9 => "TooFew" | 10 => "Behind" | _ => "TooOld"
def cname : Str := "Group"
def fname : Nat → Str
  | 0 => "need" | 1 => "papers" | 2 => "up" | 3 => "leads" | 4 => "told" | 5 => "nexts" | 6 => "wire" | _ => "word"
/-- what comes of an expression -/
inductive R (α : Type) where
  | ok (a : α) (G : Gp) | exc (c : Nat) (G : Gp) | bad
def R.bind {α β : Type} (r : R α) (f : α → Gp → R β) : R β := match r with
  | .ok a G => f a G
  | .exc c G => .exc c G
  | .bad => .bad
/-- what comes of a statement -/
inductive SR where
  | nx (e : En) (G : Gp) | rt (d : D) (G : Gp) | bk (e : En) (G : Gp) | ct (e : En) (G : Gp) | exc (c : Nat) (e : En) (G : Gp) | bad
@[simp] theorem R.bind_ok {α β : Type} {a : α} {G : Gp} {f : α → Gp → R β} : (R.ok a G).bind f = f a G := rfl
@[simp] theorem R.bind_exc {α β : Type} {c : Nat} {G : Gp} {f : α → Gp → R β} : (R.exc (α := α) c G).bind f = .exc c G := rfl
@[simp] theorem R.bind_bad {α β : Type} {f : α → Gp → R β} : (R.bad (α := α)).bind f = .bad := rfl

/-- the script's list, where it is tracked (locked) or written -/
def ScrAt (K : PySem.W.Frag) (H : Hp) (a : Addr) (ns : List Int) : Prop :=
  (∃ o, H a = some (.frz o (.lst (ns.map V.int)))) ∨
    ∃ (o : Obj) (its : Array Value) (n : Nat), K.lookup a = some o ∧ o.cls = .type "list" ∧ o.dict = none ∧ o.data = .seq its n ∧ its.size ≤ sizeLine ∧ Vals (ns.map V.int) its.toList
theorem ScrAt.sq {K : PySem.W.Frag} {H : Hp} {a : Addr} {ns : List Int} (h : ScrAt K H a ns) : SqL K H a (ns.map V.int) := by
  rcases h with ⟨o, h⟩ | h
  · exact .inl (.inr ⟨o, h⟩)
  · exact .inr h
mutual
inductive Den (K : PySem.W.Frag) (p : List Addr) (H : Hp) : V → D → Prop
  | non : Den K p H .non .non
  | bl (b : Bool) : Den K p H (.bl b) (.bl b)
  | int (i : Int) : Den K p H (.int i) (.int i)
  | str (x : Str) : Den K p H (.str x) (.str x)
  | tup {a : Addr} {vs : List V} {ds : List D} : H a = some (.tup vs) → Dens K p H vs ds → Den K p H (.ref a) (.tup ds)
  | ref {a : Addr} {n : Nat} : p[n]? = some a → Den K p H (.ref a) (.ref n)
  | scr {a : Addr} {ns : List Int} : ScrAt K H a ns → Den K p H (.ref a) (.scr ns)
inductive Dens (K : PySem.W.Frag) (p : List Addr) (H : Hp) : List V → List D → Prop
  | nil : Dens K p H [] []
  | cons {v : V} {vs : List V} {d : D} {ds : List D} : Den K p H v d → Dens K p H vs ds → Dens K p H (v :: vs) (d :: ds)
end
def Imm : HO → Prop
  | .tup _ => True
  | .frz _ _ => True
  | _ => False
/-- tuples and locked things stay -/
def Tu (H H' : Hp) : Prop := ∀ a o, H a = some o → Imm o → H' a = some o
theorem Tu.refl (H : Hp) : Tu H H := fun _ _ h _ => h
theorem Tu.trans {H H1 H2 : Hp} (a : Tu H H1) (b : Tu H1 H2) : Tu H H2 := fun x o h i => b x o (a x o h i) i
theorem Tu.new {H : Hp} {p : Addr} {o : HO} (h : H p = none) : Tu H (upd H p o) := fun a u e _ => by
  rw [upd_ne (ne_of_none e h)]
  exact e
theorem Tu.set {H : Hp} {p : Addr} {o u : HO} (h : H p = some u) (n : ¬ Imm u) : Tu H (upd H p o) := fun a v e i => by
  have ne : a ≠ p := by
    intro z
    subst z
    rw [h] at e
    cases e
    exact n i
  rw [upd_ne ne]
  exact e
theorem pre_get {p q : List Addr} (h : p <+: q) {n : Nat} {a : Addr} (e : p[n]? = some a) : q[n]? = some a := by
  obtain ⟨t, rfl⟩ := h
  rw [List.getElem?_append_left (List.getElem?_eq_some_iff.mp e).1]
  exact e
theorem pre_app (p : List Addr) (a : Addr) : p <+: p ++ [a] := ⟨[a], rfl⟩
section
variable {K : PySem.W.Frag} {p q : List Addr} {H H' : Hp}
theorem ScrAt.mono {a : Addr} {ns : List Int} (t : Tu H H') (h : ScrAt K H a ns) : ScrAt K H' a ns := by
  rcases h with ⟨o, h⟩ | h
  · exact .inl ⟨o, t a _ h trivial⟩
  · exact .inr h
mutual
theorem Den.mono (t : Tu H H') (pr : p <+: q) : ∀ {v : V} {d : D}, Den K p H v d → Den K q H' v d
  | _, _, .non => .non
  | _, _, .bl b => .bl b
  | _, _, .int i => .int i
  | _, _, .str x => .str x
  | _, _, .tup h hs => .tup (t _ _ h trivial) (Dens.mono t pr hs)
  | _, _, .ref h => .ref (pre_get pr h)
  | _, _, .scr h => .scr (h.mono t)
theorem Dens.mono (t : Tu H H') (pr : p <+: q) : ∀ {vs : List V} {ds : List D}, Dens K p H vs ds → Dens K q H' vs ds
  | _, _, .nil => .nil
  | _, _, .cons h hs => .cons (Den.mono t pr h) (Dens.mono t pr hs)
end
theorem Dens.length : ∀ {vs : List V} {ds : List D}, Dens K p H vs ds → vs.length = ds.length
  | _, _, .nil => rfl
  | _, _, .cons _ hs => by rw [List.length_cons, List.length_cons, Dens.length hs]
theorem Dens.get : ∀ {vs : List V} {ds : List D} {i : Nat} {d : D}, Dens K p H vs ds → ds[i]? = some d → ∃ v, vs[i]? = some v ∧ Den K p H v d
  | _, _, _, _, .nil, e => by simp at e
  | _, _, 0, _, .cons h _, e => by
    simp at e
    subst e
    exact ⟨_, rfl, h⟩
  | _, _, i + 1, d, .cons _ hs, e => by
    obtain ⟨v, h1, h2⟩ := Dens.get (i := i) hs (by simpa using e)
    exact ⟨v, by simpa using h1, h2⟩
theorem Dens.getV : ∀ {vs : List V} {ds : List D} {i : Nat} {v : V}, Dens K p H vs ds → vs[i]? = some v → ∃ d, ds[i]? = some d ∧ Den K p H v d
  | _, _, _, _, .nil, e => by simp at e
  | _, _, 0, _, .cons h _, e => by
    simp at e
    subst e
    exact ⟨_, rfl, h⟩
  | _, _, i + 1, d, .cons _ hs, e => by
    obtain ⟨v, h1, h2⟩ := Dens.getV (i := i) hs (by simpa using e)
    exact ⟨v, by simpa using h1, h2⟩
theorem Dens.append : ∀ {vs ws : List V} {ds es : List D}, Dens K p H vs ds → Dens K p H ws es → Dens K p H (vs ++ ws) (ds ++ es)
  | _, _, _, _, .nil, h => h
  | _, _, _, _, .cons h hs, r => .cons h (Dens.append hs r)
theorem Dens.take : ∀ {vs : List V} {ds : List D} (n : Nat), Dens K p H vs ds → Dens K p H (vs.take n) (ds.take n)
  | _, _, 0, _ => .nil
  | _, _, _ + 1, .nil => .nil
  | _, _, n + 1, .cons h hs => .cons h (Dens.take n hs)
theorem Dens.drop : ∀ {vs : List V} {ds : List D} (n : Nat), Dens K p H vs ds → Dens K p H (vs.drop n) (ds.drop n)
  | _, _, 0, h => h
  | _, _, _ + 1, .nil => .nil
  | _, _, n + 1, .cons _ hs => Dens.drop n hs
theorem Dens.set {v : V} {d : D} (h : Den K p H v d) : ∀ {vs : List V} {ds : List D} (n : Nat), Dens K p H vs ds → Dens K p H (vs.set n v) (ds.set n d)
  | _, _, _, .nil => .nil
  | _, _, 0, .cons _ hs => .cons h hs
  | _, _, n + 1, .cons g hs => .cons g (Dens.set h n hs)
theorem Dens.reverse {vs : List V} {ds : List D} (h : Dens K p H vs ds) : Dens K p H vs.reverse ds.reverse := by
  induction ds generalizing vs with
  | nil => cases h; exact .nil
  | cons d ds ih =>
    cases h with
    | cons h1 h2 =>
      rw [List.reverse_cons, List.reverse_cons]
      exact (ih h2).append (.cons h1 .nil)
end
/-- pairs of a dict, fields of an instance -/
inductive KVs (K : PySem.W.Frag) (p : List Addr) (H : Hp) : List (Key × V) → List (Key × D) → Prop
  | nil : KVs K p H [] []
  | cons {k : Key} {v : V} {d : D} {vs : List (Key × V)} {ds : List (Key × D)} : Den K p H v d → KVs K p H vs ds → KVs K p H ((k, v) :: vs) ((k, d) :: ds)
inductive FVs (K : PySem.W.Frag) (p : List Addr) (H : Hp) : List (Str × V) → List (Nat × D) → Prop
  | nil : FVs K p H [] []
  | cons {k : Nat} {v : V} {d : D} {vs : List (Str × V)} {ds : List (Nat × D)} : k < 8 → Den K p H v d → FVs K p H vs ds → FVs K p H ((fname k, v) :: vs) ((k, d) :: ds)
section
variable {K : PySem.W.Frag} {p q : List Addr} {H H' : Hp}
theorem KVs.mono (t : Tu H H') (pr : p <+: q) : ∀ {vs : List (Key × V)} {ds : List (Key × D)}, KVs K p H vs ds → KVs K q H' vs ds
  | _, _, .nil => .nil
  | _, _, .cons h hs => .cons (h.mono t pr) (KVs.mono t pr hs)
theorem FVs.mono (t : Tu H H') (pr : p <+: q) : ∀ {vs : List (Str × V)} {ds : List (Nat × D)}, FVs K p H vs ds → FVs K q H' vs ds
  | _, _, .nil => .nil
  | _, _, .cons l h hs => .cons l (h.mono t pr) (FVs.mono t pr hs)
end
/-- a plain object stands at a -/
def ObR (K : PySem.W.Frag) (p : List Addr) (H : Hp) (a : Addr) : O → Prop
  | .lst ds => ∃ vs, H a = some (.lst vs) ∧ Dens K p H vs ds
  | .dct kvs => ∃ ws, H a = some (.dK ws) ∧ KVs K p H ws kvs
  | .ins fs => ∃ dx gs, H a = some (.ins (He.ga K cname) dx gs) ∧ FVs K p H gs fs
structure Rel (K : PySem.W.Frag) (p : List Addr) (G : Gp) (H : Hp) : Prop where
  len : p.length = G.length
  nd : p.Nodup
  ob : ∀ (n : Nat) (a : Addr) (o : O), p[n]? = some a → G[n]? = some o → ObR K p H a o
section
variable {K : PySem.W.Frag} {p q : List Addr} {H H' : Hp} {G : Gp}
theorem ObR.there {a : Addr} {o : O} (h : ObR K p H a o) : ∃ u, H a = some u ∧ ¬ Imm u := by
  cases o with
  | lst ds => obtain ⟨vs, h, _⟩ := h; exact ⟨_, h, id⟩
  | dct ds => obtain ⟨vs, h, _⟩ := h; exact ⟨_, h, id⟩
  | ins fs => obtain ⟨dx, gs, h, _⟩ := h; exact ⟨_, h, id⟩
theorem ObR.mono {a : Addr} {o : O} (t : Tu H H') (pr : p <+: q) (e : H' a = H a) (h : ObR K p H a o) : ObR K q H' a o := by
  cases o with
  | lst ds => obtain ⟨vs, h, d⟩ := h; exact ⟨vs, e.trans h, d.mono t pr⟩
  | dct ds => obtain ⟨vs, h, d⟩ := h; exact ⟨vs, e.trans h, d.mono t pr⟩
  | ins fs => obtain ⟨dx, gs, h, d⟩ := h; exact ⟨dx, gs, e.trans h, d.mono t pr⟩
theorem Rel.get (r : Rel K p G H) {n : Nat} {a : Addr} (e : p[n]? = some a) : ∃ o, G[n]? = some o ∧ ObR K p H a o := by
  have h1 : n < G.length := by rw [← r.len]; exact (List.getElem?_eq_some_iff.mp e).1
  exact ⟨G[n], List.getElem?_eq_getElem h1, r.ob n a _ e (List.getElem?_eq_getElem h1)⟩
theorem Rel.fresh (r : Rel K p G H) {b : Addr} (hb : H b = none) : b ∉ p := fun hm => by
  obtain ⟨n, hn⟩ := List.getElem?_of_mem hm
  obtain ⟨o, _, h⟩ := r.get hn
  obtain ⟨u, h, _⟩ := h.there
  rw [hb] at h
  cases h
/-- all else stays as it is; nothing tracked of ours changes -/
theorem Rel.keep (r : Rel K p G H) (t : Tu H H') (k : ∀ a ∈ p, H' a = H a) : Rel K p G H' :=
  ⟨r.len, r.nd, fun n a o e g => (r.ob n a o e g).mono t (List.prefix_refl p) (k a (List.mem_of_getElem? e))⟩
theorem Rel.tup (r : Rel K p G H) {b : Addr} {o : HO} (hb : H b = none) : Rel K p G (upd H b o) :=
  r.keep (Tu.new hb) fun a ha => upd_ne fun z => r.fresh hb (z ▸ ha)
theorem Rel.new (r : Rel K p G H) {b : Addr} {ho : HO} {o : O} (hb : H b = none) (h : ObR K (p ++ [b]) (upd H b ho) b o) : Rel K (p ++ [b]) (G ++ [o]) (upd H b ho) := by
  refine ⟨by rw [List.length_append, List.length_append, r.len]; rfl, ?_, fun n a u e g => ?_⟩
  · rw [List.nodup_append]
    refine ⟨r.nd, by simp, fun x hx y hy => ?_⟩
    rw [List.mem_singleton] at hy
    subst hy
    intro z
    subst z
    exact r.fresh hb hx
  · by_cases hn : n < p.length
    · rw [List.getElem?_append_left hn] at e
      rw [List.getElem?_append_left (by rw [← r.len]; exact hn)] at g
      exact (r.ob n a u e g).mono (Tu.new hb) (pre_app p b) (upd_ne fun z => r.fresh hb (z ▸ List.mem_of_getElem? e))
    · have h1 : n < (p ++ [b]).length := (List.getElem?_eq_some_iff.mp e).1
      have h2 : n = p.length := by rw [List.length_append, List.length_singleton] at h1; omega
      subst h2
      rw [List.getElem?_append_right (Nat.le_refl _), Nat.sub_self] at e
      rw [List.getElem?_append_right (by rw [r.len]; exact Nat.le_refl _), show p.length - G.length = 0 by rw [r.len]; exact Nat.sub_self _] at g
      simp at e g
      subst e g
      exact h
theorem Rel.set (r : Rel K p G H) {b : Addr} {ho u : HO} {o : O} {n : Nat} (hn : p[n]? = some b) (hb : H b = some u) (hi : ¬ Imm u) (h : ObR K p (upd H b ho) b o) : Rel K p (G.set n o) (upd H b ho) := by
  refine ⟨by rw [List.length_set]; exact r.len, r.nd, fun m a w e g => ?_⟩
  by_cases hm : m = n
  · subst hm
    rw [hn] at e
    cases e
    have hl : m < G.length := by rw [← r.len]; exact (List.getElem?_eq_some_iff.mp hn).1
    rw [List.getElem?_set_self hl] at g
    cases g
    exact h
  · rw [List.getElem?_set_ne (Ne.symm hm)] at g
    refine (r.ob m a w e g).mono (Tu.set hb hi) (List.prefix_refl p) (upd_ne fun z => ?_)
    subst z
    exact hm (by
      obtain ⟨h1, e1⟩ := List.getElem?_eq_some_iff.mp e
      obtain ⟨h2, e2⟩ := List.getElem?_eq_some_iff.mp hn
      exact (List.getElem_inj r.nd).mp (e1.trans e2.symm))
end
section
variable {α β γ δ : Type}
/-- what is wanted of a result -/
def Co (K : PySem.W.Frag) (W : WX) (σ : St) (p : List Addr) (H : Hp) (rel : List Addr → Hp → β → α → Prop) (r : R α) (Q : β → Hp → Prop) : Prop := match r with
  | .ok d G => ∀ q H' v, p <+: q → Tu H H' → Rel K q G H' → rel q H' v d → Q v H'
  | .exc c G => ∀ q H', p <+: q → Tu H H' → Rel K q G H' → W (.ref (He.ga K (xname c))) none σ H'
  | .bad => False
variable {K : PySem.W.Frag} {W : WX} {σ : St} {p q : List Addr} {H H' : Hp} {rel : List Addr → Hp → β → α → Prop} {rel2 : List Addr → Hp → δ → γ → Prop}
theorem Co.later {r : R α} {Q : β → Hp → Prop} (h : Co K W σ p H rel r Q) (pr : p <+: q) (t : Tu H H') : Co K W σ q H' rel r Q := by
  cases r with
  | ok d G => exact fun q2 H2 v p2 t2 => h q2 H2 v (pr.trans p2) (t.trans t2)
  | exc c G => exact fun q2 H2 p2 t2 => h q2 H2 (pr.trans p2) (t.trans t2)
  | bad => exact h
theorem Co.bind {r : R α} {f : α → Gp → R γ} {Q : δ → Hp → Prop} {P : β → Hp → Prop} (h : Co K W σ p H rel2 (r.bind f) Q)
    (k : ∀ d G1 q H1 v, p <+: q → Tu H H1 → Rel K q G1 H1 → rel q H1 v d → Co K W σ q H1 rel2 (f d G1) Q → P v H1) : Co K W σ p H rel r P := by
  cases r with
  | ok d G => exact fun q H1 v pr t rl rv => k d G q H1 v pr t rl rv (Co.later (r := f d G) h pr t)
  | exc c G => exact h
  | bad => exact h
theorem Co.here {d : α} {G : Gp} {v : β} {Q : β → Hp → Prop} (h : Co K W σ p H rel (.ok d G) Q) (rl : Rel K p G H) (rv : rel p H v d) : Q v H := h p H v (List.prefix_refl p) (Tu.refl H) rl rv
end
def Envs (K : PySem.W.Frag) (p : List Addr) (H : Hp) (σ : St) (e : En) : Prop := e.length = σ.length ∧ ∀ (i : Nat) (d : D), e[i]? = some (some d) → ∃ v, σ[i]? = some (some v) ∧ Den K p H v d
section
variable {K : PySem.W.Frag} {p q : List Addr} {H H' : Hp} {σ : St} {e : En}
theorem Envs.mono (t : Tu H H') (pr : p <+: q) (h : Envs K p H σ e) : Envs K q H' σ e := ⟨h.1, fun i d g => by
  obtain ⟨v, h1, h2⟩ := h.2 i d g
  exact ⟨v, h1, h2.mono t pr⟩⟩
theorem Envs.set {v : V} {d : D} {i : Nat} (h : Envs K p H σ e) (hd : Den K p H v d) : Envs K p H (σ.set i (some v)) (e.set i (some d)) := by
  refine ⟨by rw [List.length_set, List.length_set]; exact h.1, fun j d' g => ?_⟩
  by_cases hj : j = i
  · subst hj
    have hl : j < e.length := by
      have := (List.getElem?_eq_some_iff.mp g).1
      rwa [List.length_set] at this
    rw [List.getElem?_set_self hl] at g
    cases g
    exact ⟨v, List.getElem?_set_self (by rw [← h.1]; exact hl), hd⟩
  · rw [List.getElem?_set_ne (Ne.symm hj)] at g ⊢
    exact h.2 j d' g
theorem Envs.forget {i : Nat} {w : Option V} (h : Envs K p H σ e) : Envs K p H (σ.set i w) (e.set i none) := by
  refine ⟨by rw [List.length_set, List.length_set]; exact h.1, fun j d' g => ?_⟩
  by_cases hj : j = i
  · subst hj
    have hl : j < e.length := by
      have := (List.getElem?_eq_some_iff.mp g).1
      rwa [List.length_set] at this
    rw [List.getElem?_set_self hl] at g
    cases g
  · rw [List.getElem?_set_ne (Ne.symm hj)] at g ⊢
    exact h.2 j d' g
end
def tE (K : PySem.W.Frag) (W : WX) (m : En → Gp → R D) : TE := fun σ H Q => ∃ p G e, Rel K p G H ∧ Envs K p H σ e ∧ Co K W σ p H (Den K) (m e G) Q
def tT (K : PySem.W.Frag) (W : WX) (m : En → Gp → R Bool) : TT := fun σ H Q => ∃ p G e, Rel K p G H ∧ Envs K p H σ e ∧ Co K W σ p H (fun _ _ b c => b = c) (m e G) Q
def tA (K : PySem.W.Frag) (W : WX) (m : En → Gp → R (List D)) : TA := fun σ H Q => ∃ p G e, Rel K p G H ∧ Envs K p H σ e ∧ Co K W σ p H (Dens K) (m e G) Q
def tS (K : PySem.W.Frag) (W : WX) (m : En → Gp → SR) : TS := fun D σ H => ∃ p G e, Rel K p G H ∧ Envs K p H σ e ∧ match m e G with
  | .nx e' G' => ∀ q σ' H', p <+: q → Tu H H' → Rel K q G' H' → Envs K q H' σ' e' → D.nx σ' H'
  | .rt d G' => ∀ q H' v, p <+: q → Tu H H' → Rel K q G' H' → Den K q H' v d → D.rt v H'
  | .bk e' G' => ∀ q σ' H', p <+: q → Tu H H' → Rel K q G' H' → Envs K q H' σ' e' → D.bk σ' H'
  | .ct e' G' => ∀ q σ' H', p <+: q → Tu H H' → Rel K q G' H' → Envs K q H' σ' e' → D.ct σ' H'
  | .exc c e' G' => ∀ q σ' H', p <+: q → Tu H H' → Rel K q G' H' → Envs K q H' σ' e' → W (.ref (He.ga K (xname c))) none σ' H'
  | .bad => False
def SE (X : Cx) (W : WX) (e : Expr) (m : En → Gp → R D) : Prop := PE X e (tE X.K W m)
def ST (X : Cx) (W : WX) (e : Expr) (m : En → Gp → R Bool) : Prop := PT X e (tT X.K W m)
def SA (X : Cx) (W : WX) (es : List Expr) (m : En → Gp → R (List D)) : Prop := PA X es (tA X.K W m)
def SS (X : Cx) (W : WX) (st : Stmt) (m : En → Gp → SR) : Prop := PS X st (tS X.K W m)
def SB (X : Cx) (W : WX) (b : List Stmt) (m : En → Gp → SR) : Prop := PSs X b (tS X.K W m)
theorem pe_imp {X : Cx} {e : Expr} {t t' : TE} (h : PE X e t) (k : ∀ σ H Q, t' σ H Q → t σ H Q) : PE X e t' := ⟨fun pins s σ H Q I q => h.run pins s σ H Q I (k σ H Q q)⟩
theorem pt_imp {X : Cx} {e : Expr} {t t' : TT} (h : PT X e t) (k : ∀ σ H Q, t' σ H Q → t σ H Q) : PT X e t' := ⟨fun pins s σ H Q I q => h.run pins s σ H Q I (k σ H Q q)⟩
theorem pw_imp {X : Cx} {e : Expr} {t t' : TT} (h : PW X e t) (k : ∀ σ H Q, t' σ H Q → t σ H Q) : PW X e t' := ⟨fun wh pins s σ H Q I q => h.run wh pins s σ H Q I (k σ H Q q)⟩
theorem pa_imp {X : Cx} {e : List Expr} {t t' : TA} (h : PA X e t) (k : ∀ σ H Q, t' σ H Q → t σ H Q) : PA X e t' := ⟨fun pos pins s σ H Q I q => h.run pos pins s σ H Q I (k σ H Q q)⟩
theorem ps_imp {X : Cx} {e : Stmt} {t t' : TS} (h : PS X e t) (k : ∀ D σ H, t' D σ H → t D σ H) : PS X e t' := ⟨fun pins s σ H D I q => h.run pins s σ H D I (k D σ H q)⟩
theorem pss_imp {X : Cx} {e : List Stmt} {t t' : TS} (h : PSs X e t) (k : ∀ D σ H, t' D σ H → t D σ H) : PSs X e t' := ⟨fun pins s σ H D I q => h.run pins s σ H D I (k D σ H q)⟩
end Mw
namespace Mw
open PySem L2
def big : Nat := 100000
theorem big_line {n : Nat} (h : n ≤ big) : n ≤ sizeLine := Nat.le_trans h (by decide)
theorem big_lt {n : Nat} (h : n < big) : n < sizeLine := Nat.lt_of_lt_of_le h (by decide)
def dAdd : D → D → Gp → R D
  | .int i, .int j, G => .ok (.int (i + j)) G
  | .tup xs, .tup ys, G => if xs.length + ys.length ≤ big then .ok (.tup (xs ++ ys)) G else .bad
  | .ref n, .ref m, G => (match G[n]?, G[m]? with
    | some (.lst xs), some (.lst ys) => if xs.length + ys.length ≤ big then .ok (.ref G.length) (G ++ [.lst (xs ++ ys)]) else .bad
    | _, _ => .bad)
  | _, _, _ => .bad
def dSub : D → D → Gp → R D
  | .int i, .int j, G => .ok (.int (i - j)) G
  | _, _, _ => .bad
def dMul : D → D → Gp → R D
  | .int i, .int j, G => if (-(2 ^ 64) < j ∧ j < 2 ^ 64) ∨ (-(2 ^ 64) < i ∧ i < 2 ^ 64) then .ok (.int (i * j)) G else .bad
  | .tup xs, .int k, G => if xs ≠ [] ∧ 2 ≤ k ∧ k ≤ 1000 ∧ xs.length ≤ 1000 then .ok (.tup (List.replicate k.toNat xs).flatten) G else .bad
  | _, _, _ => .bad
def dMod : D → D → Gp → R D
  | .int i, .int j, G => if 0 < j then .ok (.int (i % j)) G else .bad
  | _, _, _ => .bad
def dDiv : D → D → Gp → R D
  | .int i, .int j, G => if 0 < j ∧ j < 1073741824 then .ok (.int (i / j)) G else .bad
  | _, _, _ => .bad
def dPow : D → D → Gp → R D
  | .int i, .int j, G => if 0 ≤ j ∧ j ≤ 1000000 ∧ i.natAbs < 2 ^ 64 then .ok (.int (i ^ j.toNat)) G else .bad
  | _, _, _ => .bad
def py (G : Gp) : Nat → D → Option PyData
  | _, .non => some .none
  | _, .bl b => some (.bool b)
  | _, .int i => some (.int i)
  | _, .str x => if PyData.strOk x = true then some (.str x) else none
  | 0, .tup _ => none
  | 0, .ref _ => none
  | 0, .scr _ => none
  | n + 1, .tup ds => (ds.mapM (py G n)).map .tuple
  | n + 1, .ref r => (match G[r]? with
    | some (.lst ds) => (ds.mapM (py G n)).map .list
    | _ => none)
  | _ + 1, .scr ns => some (.list (ns.map .int))
def dEq (a b : D) (G : Gp) : R Bool := match py G 20 a, py G 20 b with
  | some x, some y => .ok (PyData.eqv x y) G
  | _, _ => .bad
def ints? : List D → Option (List Int)
  | [] => some []
  | .int i :: r => (ints? r).map (i :: ·)
  | _ :: _ => none
def ltPair (a b c d : Int) : Bool := decide (a < c) || (decide (a = c) && decide (b < d))
def dLt : D → D → Gp → R Bool
  | .int i, .int j, G => .ok (decide (i < j)) G
  | .tup [.int a, .int b], .tup [.int c, .int d], G => .ok (ltPair a b c d) G
  | .str x, .str y, G => .ok (decide (x.cps.toList < y.cps.toList)) G
  | _, _, _ => .bad
def dLe : D → D → Gp → R Bool
  | .int i, .int j, G => .ok (decide (i ≤ j)) G
  | .str x, .str y, G => .ok (!decide (y.cps.toList < x.cps.toList)) G
  | _, _, _ => .bad
def flatD : D → Bool
  | .non => true
  | .bl _ => true
  | .int _ => true
  | .str _ => true
  | _ => false
def keyD : D → Option Key
  | .int i => some (.inl i)
  | .str x => some (.inr x)
  | _ => none
def getK (kvs : List (Key × D)) (k : Key) : Option D := (kvs.find? fun kv => decide (kv.1 = k)).map (·.2)
def dIn (x : D) (y : D) (G : Gp) : R Bool := match y with
  | .str z => (match x with
    | .str ⟨⟨[c]⟩⟩ => .ok (decide (c ∈ z.cps.toList)) G
    | _ => .bad)
  | .tup ds => (match py G 20 x, ds.mapM (py G 20) with
    | some a, some bs => if flatD x && ds.all flatD then .ok (bs.any fun z => PyData.eqv z a) G else .bad
    | _, _ => .bad)
  | .ref n => (match G[n]? with
    | some (.lst ds) => (match py G 20 x, ds.mapM (py G 20) with
      | some a, some bs => .ok (bs.any fun z => PyData.eqv z a) G
      | _, _ => .bad)
    | some (.dct kvs) => (match keyD x with
      | some k => .ok (getK kvs k).isSome G
      | none => .bad)
    | _ => .bad)
  | _ => .bad
def dIx (x : D) (y : D) (G : Gp) : R D := match x with
  | .tup ds => (match y with
    | .int i => (match atI ds i with
      | some d => .ok d G
      | none => .bad)
    | _ => .bad)
  | .scr ns => (match y with
    | .int i => (match atI ns i with
      | some d => .ok (.int d) G
      | none => .bad)
    | _ => .bad)
  | .ref n => (match G[n]? with
    | some (.lst ds) => (match y with
      | .int i => (match atI ds i with
        | some d => .ok d G
        | none => .bad)
      | _ => .bad)
    | some (.dct kvs) => (match keyD y with
      | some k => (match getK kvs k with
        | some d => .ok d G
        | none => .bad)
      | none => .bad)
    | _ => .bad)
  | _ => .bad
def cutD (ds : List D) (lo hi : Option Int) : List D := (ds.drop (HT.sIx ds.length 0 lo)).take (HT.sIx ds.length ds.length hi - HT.sIx ds.length 0 lo)
def dSl (x : D) (lo hi : Option Int) (G : Gp) : R D := match x with
  | .tup ds => .ok (.tup (cutD ds lo hi)) G
  | .ref n => (match G[n]? with
    | some (.lst ds) => .ok (.ref G.length) (G ++ [.lst (cutD ds lo hi)])
    | _ => .bad)
  | _ => .bad
def dTru (x : D) (G : Gp) : R Bool := match x with
  | .non => .ok false G
  | .bl b => .ok b G
  | .int i => .ok (i != 0) G
  | .str x => if x.length ≤ big then .ok ((x.length : Int) != 0) G else .bad
  | .tup ds => .ok (!ds.isEmpty) G
  | .scr ns => .ok (!ns.isEmpty) G
  | .ref n => (match G[n]? with
    | some (.lst ds) => .ok (!ds.isEmpty) G
    | some (.dct kvs) => .ok (!kvs.isEmpty) G
    | _ => .bad)
def dLen (x : D) (G : Gp) : R D := match x with
  | .str x => if x.length ≤ big then .ok (.int x.length) G else .bad
  | .tup ds => .ok (.int ds.length) G
  | .scr ns => .ok (.int ns.length) G
  | .ref n => (match G[n]? with
    | some (.lst ds) => .ok (.int ds.length) G
    | some (.dct kvs) => .ok (.int kvs.length) G
    | _ => .bad)
  | _ => .bad
inductive Ty where
  | int | bool | str | tuple | list
def Ty.nm : Ty → String
  | .int => "int" | .bool => "bool" | .str => "str" | .tuple => "tuple" | .list => "list"
def Ty.isInt : Ty → Bool
  | .int => true
  | _ => false
def Ty.isBl : Ty → Bool
  | .bool => true
  | .int => true
  | _ => false
def Ty.isStr : Ty → Bool
  | .str => true
  | _ => false
def Ty.isTup : Ty → Bool
  | .tuple => true
  | _ => false
def Ty.isLst : Ty → Bool
  | .list => true
  | _ => false
def dIsi (x : D) (t : Ty) (G : Gp) : R Bool := match x with
  | .non => .ok false G
  | .bl _ => .ok t.isBl G
  | .int _ => .ok t.isInt G
  | .str _ => .ok t.isStr G
  | .tup _ => .ok t.isTup G
  | .scr _ => .bad
  | .ref n => (match G[n]? with
    | some (.lst _) => .ok t.isLst G
    | some (.dct _) => .ok false G
    | _ => .bad)

section
variable {X : Cx} {K : PySem.W.Frag} {W : WX} {σ : St} {p q : List Addr} {H H' : Hp} {G : Gp} {v u : V} {x y : D}
/-- an operation by values does a plain one -/
def OpM (K : PySem.W.Frag) (r : R2) (f : D → D → Gp → R D) : Prop := ∀ (W : WX) (σ : St) (p : List Addr) (G : Gp) (H : Hp) (v u : V) (x y : D) (Q : VK), Rel K p G H → Den K p H v x → Den K p H u y → Co K W σ p H (Den K) (f x y G) Q → r v u H Q
theorem inv_int {i : Int} (h : Den K p H v (.int i)) : v = .int i := by cases h; rfl
theorem inv_str {i : Str} (h : Den K p H v (.str i)) : v = .str i := by cases h; rfl
theorem inv_bl {i : Bool} (h : Den K p H v (.bl i)) : v = .bl i := by cases h; rfl
theorem inv_tup {ds : List D} (h : Den K p H v (.tup ds)) : ∃ a vs, v = .ref a ∧ H a = some (.tup vs) ∧ Dens K p H vs ds := by cases h with | tup a b => exact ⟨_, _, rfl, a, b⟩
theorem inv_ref {n : Nat} (h : Den K p H v (.ref n)) : ∃ a, v = .ref a ∧ p[n]? = some a := by cases h with | ref a => exact ⟨_, rfl, a⟩
theorem inv_scr {ns : List Int} (h : Den K p H v (.scr ns)) : ∃ a, v = .ref a ∧ ScrAt K H a ns := by cases h with | scr a => exact ⟨_, rfl, a⟩
theorem Rel.lst (r : Rel K p G H) {n : Nat} {a : Addr} {ds : List D} (e : p[n]? = some a) (g : G[n]? = some (.lst ds)) : ∃ vs, H a = some (.lst vs) ∧ Dens K p H vs ds := r.ob n a _ e g
theorem Rel.dct (r : Rel K p G H) {n : Nat} {a : Addr} {ds : List (Key × D)} (e : p[n]? = some a) (g : G[n]? = some (.dct ds)) : ∃ vs, H a = some (.dK vs) ∧ KVs K p H vs ds := r.ob n a _ e g
theorem co_bad {α β : Type} {rel : List Addr → Hp → β → α → Prop} {Q : β → Hp → Prop} {P : Prop} (h : Co K W σ p H rel (.bad : R α) Q) : P := False.elim h
/-- a new list -/
theorem co_new {Q : VK} {b : Addr} {vs : List V} {ds : List D} (r : Rel K p G H) (hb : H b = none) (hd : Dens K p H vs ds) (h : Co K W σ p H (Den K) (.ok (.ref G.length) (G ++ [.lst ds])) Q) : Q (.ref b) (upd H b (.lst vs)) :=
  h (p ++ [b]) _ (.ref b) (pre_app p b) (Tu.new hb) (r.new hb ⟨vs, upd_same, hd.mono (Tu.new hb) (pre_app p b)⟩) (.ref (by rw [← r.len, List.getElem?_append_right (Nat.le_refl _), Nat.sub_self]; rfl))
/-- a new tuple -/
theorem co_tup {Q : VK} {b : Addr} {vs : List V} {ds : List D} (r : Rel K p G H) (hb : H b = none) (hd : Dens K p H vs ds) (h : Co K W σ p H (Den K) (.ok (.tup ds) G) Q) : Q (.ref b) (upd H b (.tup vs)) :=
  h p _ (.ref b) (List.prefix_refl p) (Tu.new hb) (r.tup hb) (.tup upd_same (hd.mono (Tu.new hb) (List.prefix_refl p)))
theorem om_add : OpM K (fun x y H Q => (rI0 (fun i j => .int (i + j)) x y H Q ∨ rCatA K x y H Q) ∨ rCat x y H Q) dAdd := by
  intro W σ p G H v u x y Q r hv hu h
  unfold dAdd at h
  split at h
  · rename_i i j
    cases inv_int hv
    cases inv_int hu
    exact .inl (.inl ⟨i, j, rfl, rfl, h.here r (.int _)⟩)
  · rename_i xs ys
    split at h
    · rename_i hl
      obtain ⟨a, vs, rfl, ha, hxs⟩ := inv_tup hv
      obtain ⟨b, us, rfl, hb, hys⟩ := inv_tup hu
      have l1 := hxs.length
      have l2 := hys.length
      refine .inl (.inr ⟨a, b, vs, us, rfl, rfl, .inl (.inl ha), .inl (.inl hb), big_line (by omega), fun e => ?_, fun e1 e2 => ?_, fun e1 e2 b hb => ?_⟩)
      · subst e
        cases hxs
        exact h.here r hu
      · subst e2
        cases hys
        rw [List.append_nil] at h
        exact h.here r hv
      · exact co_tup r hb (hxs.append hys) h
    · exact co_bad h
  · rename_i n m
    split at h
    · rename_i xs ys g1 g2
      split at h
      · obtain ⟨a, rfl, ha⟩ := inv_ref hv
        obtain ⟨b, rfl, hb⟩ := inv_ref hu
        obtain ⟨vs, h1, d1⟩ := r.lst ha g1
        obtain ⟨us, h2, d2⟩ := r.lst hb g2
        have l1 := d1.length
        have l2 := d2.length
        exact .inr ⟨a, b, vs, us, rfl, rfl, h1, h2, big_line (by omega), fun c hc => co_new r hc (d1.append d2) h⟩
      · exact co_bad h
    · exact co_bad h
  · exact co_bad h
theorem om_sub : OpM K (rI0 fun i j => .int (i - j)) dSub := by
  intro W σ p G H v u x y Q r hv hu h
  unfold dSub at h
  split at h
  · rename_i i j
    cases inv_int hv
    cases inv_int hu
    exact ⟨i, j, rfl, rfl, h.here r (.int _)⟩
  · exact co_bad h
theorem om_mul : OpM K (fun x y H Q => rI CMul (fun i j => .int (i * j)) x y H Q ∨ rRepT K x y H Q) dMul := by
  intro W σ p G H v u x y Q r hv hu h
  unfold dMul at h
  split at h
  · rename_i i j
    cases inv_int hv
    cases inv_int hu
    split at h
    · rename_i hc
      exact .inl ⟨i, j, rfl, rfl, hc.symm, h.here r (.int _)⟩
    · exact co_bad h
  · rename_i xs k
    split at h
    · rename_i hc
      obtain ⟨a, vs, rfl, ha, hxs⟩ := inv_tup hv
      cases inv_int hu
      have l1 := hxs.length
      have fl : ∀ n : Nat, Dens K p H (List.replicate n vs).flatten (List.replicate n xs).flatten := fun n => by
        induction n with
        | zero => exact .nil
        | succ n ih =>
          rw [List.replicate_succ, List.replicate_succ, List.flatten_cons, List.flatten_cons]
          exact hxs.append ih
      refine .inr ⟨a, k, vs, rfl, rfl, .inl (.inl ha), fun e => ?_, hc.2.1, hc.2.2.1, by omega, fun b hb => co_tup r hb (fl _) h⟩
      subst e
      exact hc.1 (List.length_eq_zero_iff.mp l1.symm)
    · exact co_bad h
  · exact co_bad h
theorem om_mod : OpM K (rI (fun _ j => 0 < j) fun i j => .int (i % j)) dMod := by
  intro W σ p G H v u x y Q r hv hu h
  unfold dMod at h
  split at h
  · rename_i i j
    cases inv_int hv
    cases inv_int hu
    split at h
    · rename_i hc
      exact ⟨i, j, rfl, rfl, hc, h.here r (.int _)⟩
    · exact co_bad h
  · exact co_bad h
theorem om_div : OpM K (rI CDiv fun i j => .int (i / j)) dDiv := by
  intro W σ p G H v u x y Q r hv hu h
  unfold dDiv at h
  split at h
  · rename_i i j
    cases inv_int hv
    cases inv_int hu
    split at h
    · rename_i hc
      exact ⟨i, j, rfl, rfl, hc, h.here r (.int _)⟩
    · exact co_bad h
  · exact co_bad h
theorem om_pow : OpM K (rI CPow fun i j => .int (i ^ j.toNat)) dPow := by
  intro W σ p G H v u x y Q r hv hu h
  unfold dPow at h
  split at h
  · rename_i i j
    cases inv_int hv
    cases inv_int hu
    split at h
    · rename_i hc
      exact ⟨i, j, rfl, rfl, hc, h.here r (.int _)⟩
    · exact co_bad h
  · exact co_bad h
theorem mapM_some {α β : Type} {f : α → Option β} : ∀ {l : List α} {m : List β}, l.mapM f = some m → (l = [] ∧ m = []) ∨ ∃ a r b s, l = a :: r ∧ m = b :: s ∧ f a = some b ∧ r.mapM f = some s
  | [], m, h => .inl ⟨rfl, by simpa using h.symm⟩
  | a :: r, m, h => by
    rw [List.mapM_cons] at h
    cases h1 : f a with
    | none => rw [h1] at h; cases h
    | some b =>
      cases h2 : r.mapM f with
      | none => rw [h1, h2] at h; cases h
      | some s =>
        rw [h1, h2] at h
        cases h
        exact .inr ⟨a, r, b, s, rfl, rfl, h1, h2⟩
theorem mapM_none_nil {α β : Type} {f : α → Option β} : ([] : List α).mapM f = some [] := rfl
theorem shp_all {n : Nat} {xs : List PyData} (h : PyData.canLayAll0 xs = true ∧ PyData.depthAll xs ≤ n) : (PyData.tuple xs).canLay0 = true ∧ (PyData.tuple xs).depth ≤ n + 1 ∧ (PyData.list xs).canLay0 = true ∧ (PyData.list xs).depth ≤ n + 1 := by
  refine ⟨?_, ?_, ?_, ?_⟩
  · rw [PyData.canLay0]; exact h.1
  · rw [PyData.depth]; omega
  · rw [PyData.canLay0]; exact h.1
  · rw [PyData.depth]; omega
theorem ints_lay : ∀ ns : List Int, PyData.canLayAll0 (ns.map .int) = true ∧ PyData.depthAll (ns.map .int) ≤ 0
  | [] => by simp [PyData.canLayAll0, PyData.depthAll]
  | n :: r => by
    have := ints_lay r
    simp only [List.map_cons, PyData.canLayAll0, PyData.depthAll, PyData.canLay0, PyData.depth, Bool.true_and]
    exact ⟨this.1, by omega⟩
theorem ints_dp (H : Hp) : ∀ ns : List Int, DpAll K H (ns.map V.int) (ns.map .int)
  | [] => .nil
  | n :: r => .cons (.int n) (ints_dp H r)
theorem py_ok (r : Rel K p G H) : ∀ (n : Nat) (v : V) (d : D) (z : PyData), Den K p H v d → py G n d = some z → Dp K H v z ∧ z.canLay0 = true ∧ z.depth ≤ n
  | n, _, _, _, .non, h => by
    unfold py at h; cases h
    exact ⟨.non, by rw [PyData.canLay0], by rw [PyData.depth]; omega⟩
  | n, _, _, _, .bl b, h => by
    unfold py at h; cases h
    exact ⟨.bl b, by rw [PyData.canLay0], by rw [PyData.depth]; omega⟩
  | n, _, _, _, .int b, h => by
    unfold py at h; cases h
    exact ⟨.int b, by rw [PyData.canLay0], by rw [PyData.depth]; omega⟩
  | n, _, _, _, .str b, h => by
    unfold py at h
    split at h
    · rename_i hb
      cases h
      exact ⟨.str b, by rw [PyData.canLay0]; exact hb, by rw [PyData.depth]; omega⟩
    · cases h
  | 0, _, _, _, .tup _ _, h => by unfold py at h; cases h
  | 0, _, _, _, .ref _, h => by unfold py at h; cases h
  | 0, _, _, _, .scr _, h => by unfold py at h; cases h
  | n + 1, _, _, z, .tup (ds := ds) ha hs, h => by
    unfold py at h
    cases e : ds.mapM (py G n) with
    | none => rw [e] at h; cases h
    | some zs =>
      rw [e] at h
      cases h
      have all : ∀ (ds : List D) (vs : List V) (zs : List PyData), Dens K p H vs ds → ds.mapM (py G n) = some zs → DpAll K H vs zs ∧ PyData.canLayAll0 zs = true ∧ PyData.depthAll zs ≤ n := by
        intro ds
        induction ds with
        | nil =>
          intro vs zs hd hm
          cases hd
          cases (show zs = [] by simpa using hm.symm)
          exact ⟨.nil, by rw [PyData.canLayAll0], by rw [PyData.depthAll]; omega⟩
        | cons d ds ih =>
          intro vs zs hd hm
          rcases mapM_some hm with ⟨z1, _⟩ | ⟨a, r', b, s, e1, e2, e3, e4⟩
          · cases z1
          · cases e1
            subst e2
            cases hd with
            | cons h1 h2 =>
              obtain ⟨q1, q2, q3⟩ := py_ok r n _ _ _ h1 e3
              obtain ⟨q4, q5, q6⟩ := ih _ _ h2 e4
              refine ⟨.cons q1 q4, ?_, ?_⟩
              · rw [PyData.canLayAll0, q2, q5]; rfl
              · rw [PyData.depthAll]; omega
      obtain ⟨q1, q2, q3⟩ := all _ _ _ hs e
      have := shp_all ⟨q2, q3⟩
      exact ⟨.tup (.inl (.inl ha)) q1, this.1, this.2.1⟩
  | n + 1, _, _, z, .ref (n := m) ha, h => by
    unfold py at h
    split at h
    · rename_i ds g
      obtain ⟨vs, hl, hs⟩ := r.lst ha g
      cases e : ds.mapM (py G n) with
      | none => rw [e] at h; cases h
      | some zs =>
        rw [e] at h
        cases h
        have all : ∀ (ds : List D) (vs : List V) (zs : List PyData), Dens K p H vs ds → ds.mapM (py G n) = some zs → DpAll K H vs zs ∧ PyData.canLayAll0 zs = true ∧ PyData.depthAll zs ≤ n := by
          intro ds
          induction ds with
          | nil =>
            intro vs zs hd hm
            cases hd
            cases (show zs = [] by simpa using hm.symm)
            exact ⟨.nil, by rw [PyData.canLayAll0], by rw [PyData.depthAll]; omega⟩
          | cons d ds ih =>
            intro vs zs hd hm
            rcases mapM_some hm with ⟨z1, _⟩ | ⟨a, r', b, s, e1, e2, e3, e4⟩
            · cases z1
            · cases e1
              subst e2
              cases hd with
              | cons h1 h2 =>
                obtain ⟨q1, q2, q3⟩ := py_ok r n _ _ _ h1 e3
                obtain ⟨q4, q5, q6⟩ := ih _ _ h2 e4
                refine ⟨.cons q1 q4, ?_, ?_⟩
                · rw [PyData.canLayAll0, q2, q5]; rfl
                · rw [PyData.depthAll]; omega
        obtain ⟨q1, q2, q3⟩ := all _ _ _ hs e
        have := shp_all ⟨q2, q3⟩
        exact ⟨.lst (.inl (.inl hl)) q1, this.2.2.1, this.2.2.2⟩
    · cases h
  | n + 1, _, _, z, .scr (ns := ns) ha, h => by
    unfold py at h
    cases h
    have := ints_lay ns
    have q := shp_all (n := 0) this
    exact ⟨.lst ha.sq (ints_dp H ns), q.2.2.1, by omega⟩
theorem py_all (r : Rel K p G H) (n : Nat) : ∀ (ds : List D) (vs : List V) (zs : List PyData), Dens K p H vs ds → ds.mapM (py G n) = some zs → DpAll K H vs zs ∧ PyData.canLayAll0 zs = true ∧ PyData.depthAll zs ≤ n := by
  intro ds
  induction ds with
  | nil =>
    intro vs zs hd hm
    cases hd
    cases (show zs = [] by simpa using hm.symm)
    exact ⟨.nil, by rw [PyData.canLayAll0], by rw [PyData.depthAll]; omega⟩
  | cons d ds ih =>
    intro vs zs hd hm
    rcases mapM_some hm with ⟨z1, _⟩ | ⟨a, r', b, s, e1, e2, e3, e4⟩
    · cases z1
    · cases e1
      subst e2
      cases hd with
      | cons h1 h2 =>
        obtain ⟨q1, q2, q3⟩ := py_ok r n _ _ _ h1 e3
        obtain ⟨q4, q5, q6⟩ := ih _ _ h2 e4
        refine ⟨.cons q1 q4, ?_, ?_⟩
        · rw [PyData.canLayAll0, q2, q5]; rfl
        · rw [PyData.depthAll]; omega
theorem shaped_of {n : Nat} {z : PyData} (h : z.canLay0 = true ∧ z.depth ≤ n) (hn : n ≤ 64) : SeqAt.shaped z = true := by
  unfold SeqAt.shaped
  rw [h.1, decide_eq_true (show z.depth ≤ 64 by omega)]
  rfl
/-- a comparison by values does a plain one -/
def CmM (K : PySem.W.Frag) (r : R2) (f : D → D → Gp → R Bool) : Prop := ∀ (W : WX) (σ : St) (p : List Addr) (G : Gp) (H : Hp) (v u : V) (x y : D) (Q : VK), Rel K p G H → Den K p H v x → Den K p H u y →
  Co K W σ p H (fun _ _ (v : V) (b : Bool) => v = .bl b) (f x y G) Q → r v u H Q
@[simp] def notR (f : D → D → Gp → R Bool) : D → D → Gp → R Bool := fun x y G => (f x y G).bind fun b G => .ok (!b) G
theorem cm_eq : CmM K (rEqD K) dEq := by
  intro W σ p G H v u x y Q r hv hu h
  unfold dEq at h
  split at h
  · rename_i a b e1 e2
    obtain ⟨q1, q2⟩ := py_ok r 20 _ _ _ hv e1
    obtain ⟨q3, q4⟩ := py_ok r 20 _ _ _ hu e2
    exact ⟨a, b, q1, q3, shaped_of q2 (by decide), shaped_of q4 (by decide), h.here r rfl⟩
  · exact co_bad h
theorem cm_ne : CmM K (rNeD K) (notR dEq) := by
  intro W σ p G H v u x y Q r hv hu h
  unfold notR dEq at h
  split at h
  · rename_i a b e1 e2
    obtain ⟨q1, q2⟩ := py_ok r 20 _ _ _ hv e1
    obtain ⟨q3, q4⟩ := py_ok r 20 _ _ _ hu e2
    exact ⟨a, b, q1, q3, shaped_of q2 (by decide), shaped_of q4 (by decide), Co.here (d := _) (G := _) h r rfl⟩
  · exact co_bad h
def rSL (g : List Nat → List Nat → Bool) : R2 := fun x y H Q => ∃ i j : Str, x = .str i ∧ y = .str j ∧ Q (.bl (g i.cps.toList j.cps.toList)) H
def rLtP (K : PySem.W.Frag) : R2 := fun x y H Q => ∃ (a b : Addr) (i j k l : Int), x = .ref a ∧ y = .ref b ∧ SqT K H a [.int i, .int j] ∧ SqT K H b [.int k, .int l] ∧ Q (.bl (ltPair i j k l)) H
def rGtP (K : PySem.W.Frag) : R2 := fun x y H Q => ∃ (a b : Addr) (i j k l : Int), x = .ref a ∧ y = .ref b ∧ SqT K H a [.int i, .int j] ∧ SqT K H b [.int k, .int l] ∧ Q (.bl (ltPair k l i j)) H
theorem vals2 {i j : Int} {us : List Value} (h : Vals [.int i, .int j] us) : ∃ t t', us = [.int i t, .int j t'] := by
  cases h with
  | cons r1 r2 =>
    cases r2 with
    | cons r3 r4 =>
      cases r4
      obtain ⟨t, rfl⟩ := r1
      obtain ⟨t', rfl⟩ := r3
      exact ⟨t, t', rfl⟩
theorem pair_gt (i j k l : Int) : Ob.lexAt (fun n => if n = 0 then i == k else j == l) (fun n => if n = 0 then decide (k < i) else decide (l < j)) false 0 2 = ltPair k l i j := by
  unfold ltPair
  rw [Ob.lexAt_succ, Ob.lexAt_succ, Ob.lexAt_zero]
  by_cases c1 : i = k
  · subst c1
    by_cases c2 : j = l
    · subst c2; simp
    · simp [c2]
  · have : ¬ (k = i) := fun e => c1 e.symm
    simp [c1, this]
theorem pair_lt (i j k l : Int) : Ob.lexAt (fun n => if n = 0 then i == k else j == l) (fun n => if n = 0 then decide (i < k) else decide (j < l)) false 0 2 = ltPair i j k l := by
  unfold ltPair
  rw [Ob.lexAt_succ, Ob.lexAt_succ, Ob.lexAt_zero]
  by_cases c1 : i = k
  · subst c1
    by_cases c2 : j = l
    · subst c2; simp
    · simp [c2]
  · simp [c1]
theorem op_gtP {X : Cx} (hu : X.A.units < cLine) : OpR X (compareOp .Gt) (rGtP X.K) := by
  intro pins s σ H x y v u Q I rx ry h
  obtain ⟨a, b, i, j, k, l, rfl, rfl, ha, hb, q⟩ := h
  cases rx
  cases ry
  obtain ⟨its, r1, p1, _⟩ := I.tuple ha
  obtain ⟨its2, r2, p2, _⟩ := I.tuple hb
  obtain ⟨t1, t2, rfl⟩ := vals2 r1
  obtain ⟨t3, t4, rfl⟩ := vals2 r2
  have z := Ob.RcOp.tuples_gt (A := X.A) (s := s) (e := fun n => if n = 0 then i == k else j == l) (r := fun n => if n = 0 then decide (k < i) else decide (l < j)) p1 p2 hu (fun n h1 h2 => by
    match n, h1, h2 with
    | 0, _, _ => exact SeqAt.EqAt.int_int _ _ _ _
    | 1, _, _ => exact SeqAt.EqAt.int_int _ _ _ _) (fun n h1 h2 _ => by
    match n, h1, h2 with
    | 0, _, _ => exact Ob.RcOp.gt_int i k t1 t3
    | 1, _, _ => exact Ob.RcOp.gt_int j l t2 t4)
  have e : Ob.lexAt (fun n => if n = 0 then i == k else j == l) (fun n => if n = 0 then decide (k < i) else decide (l < j)) (decide ((#[Value.int i t1, .int j t2]).size > (#[Value.int k t3, .int l t4]).size)) 0 (min (#[Value.int i t1, .int j t2]).size (#[Value.int k t3, .int l t4]).size) = ltPair k l i j := pair_gt i j k l
  have z' : Ob.RcOp .Gt X.A s (.ref a) (.ref b) (ltPair k l i j) := e ▸ z
  exact z' X.prog X.w X.xe (EP X pins σ Q) ⟨.bl _, H, I, rfl, q⟩
theorem op_ltP {X : Cx} (hu : X.A.units < cLine) : OpR X (compareOp .Lt) (rLtP X.K) := by
  intro pins s σ H x y v u Q I rx ry h
  obtain ⟨a, b, i, j, k, l, rfl, rfl, ha, hb, q⟩ := h
  cases rx
  cases ry
  obtain ⟨its, r1, p1, _⟩ := I.tuple ha
  obtain ⟨its2, r2, p2, _⟩ := I.tuple hb
  obtain ⟨t1, t2, rfl⟩ := vals2 r1
  obtain ⟨t3, t4, rfl⟩ := vals2 r2
  have z := Ob.RcOp.tuples_lt (A := X.A) (s := s) (e := fun n => if n = 0 then i == k else j == l) (r := fun n => if n = 0 then decide (i < k) else decide (j < l)) p1 p2 hu (fun n h1 h2 => by
    match n, h1, h2 with
    | 0, _, _ => exact SeqAt.EqAt.int_int _ _ _ _
    | 1, _, _ => exact SeqAt.EqAt.int_int _ _ _ _) (fun n h1 h2 _ => by
    match n, h1, h2 with
    | 0, _, _ => exact Ob.RcOp.lt_int i k t1 t3
    | 1, _, _ => exact Ob.RcOp.lt_int j l t2 t4)
  have e : Ob.lexAt (fun n => if n = 0 then i == k else j == l) (fun n => if n = 0 then decide (i < k) else decide (j < l)) (decide ((#[Value.int i t1, .int j t2]).size < (#[Value.int k t3, .int l t4]).size)) 0 (min (#[Value.int i t1, .int j t2]).size (#[Value.int k t3, .int l t4]).size) = ltPair i j k l := pair_lt i j k l
  have z' : Ob.RcOp .Lt X.A s (.ref a) (.ref b) (ltPair i j k l) := e ▸ z
  exact z' X.prog X.w X.xe (EP X pins σ Q) ⟨.bl _, H, I, rfl, q⟩
theorem den_pair {p : List Addr} {H : Hp} {v : V} {i j : Int} (h : Den K p H v (.tup [.int i, .int j])) : ∃ a, v = .ref a ∧ H a = some (.tup [.int i, .int j]) := by
  obtain ⟨a, vs, rfl, ha, hs⟩ := inv_tup h
  cases hs with
  | cons h1 h2 =>
    cases h2 with
    | cons h3 h4 =>
      cases h4
      cases h1
      cases h3
      exact ⟨a, rfl, ha⟩
theorem cm_lt : CmM K (fun x y H Q => rI0 (fun i j => .bl (decide (i < j))) x y H Q ∨ ((∃ i j : Str, x = .str i ∧ y = .str j ∧ Q (.bl (decide (i.cps.toList < j.cps.toList))) H) ∨ rLtP K x y H Q)) dLt := by
  intro W σ p G H v u x y Q r hv hu h
  unfold dLt at h
  split at h
  · rename_i i j
    cases inv_int hv
    cases inv_int hu
    exact .inl ⟨i, j, rfl, rfl, h.here r rfl⟩
  · rename_i i j k l
    obtain ⟨a, rfl, ha⟩ := den_pair hv
    obtain ⟨b, rfl, hb⟩ := den_pair hu
    exact .inr (.inr ⟨a, b, i, j, k, l, rfl, rfl, .inl (.inl ha), .inl (.inl hb), h.here r rfl⟩)
  · rename_i i j
    cases inv_str hv
    cases inv_str hu
    exact .inr (.inl ⟨i, j, rfl, rfl, h.here r rfl⟩)
  · exact co_bad h
theorem cm_gt : CmM K (fun x y H Q => rI0 (fun i j => .bl (decide (j < i))) x y H Q ∨ ((∃ i j : Str, x = .str i ∧ y = .str j ∧ Q (.bl (decide (j.cps.toList < i.cps.toList))) H) ∨ rGtP K x y H Q)) (fun x y G => dLt y x G) := by
  intro W σ p G H v u x y Q r hv hu h
  dsimp only at h
  unfold dLt at h
  split at h
  · rename_i i j
    cases inv_int hv
    cases inv_int hu
    exact .inl ⟨_, _, rfl, rfl, h.here r rfl⟩
  · rename_i i j k l
    obtain ⟨a, rfl, ha⟩ := den_pair hv
    obtain ⟨b, rfl, hb⟩ := den_pair hu
    exact .inr (.inr ⟨a, b, k, l, i, j, rfl, rfl, .inl (.inl ha), .inl (.inl hb), h.here r rfl⟩)
  · rename_i i j
    cases inv_str hv
    cases inv_str hu
    exact .inr (.inl ⟨_, _, rfl, rfl, h.here r rfl⟩)
  · exact co_bad h
theorem cm_le : CmM K (fun x y H Q => rI0 (fun i j => .bl (decide (i ≤ j))) x y H Q ∨ ∃ i j : Str, x = .str i ∧ y = .str j ∧ Q (.bl (!decide (j.cps.toList < i.cps.toList))) H) dLe := by
  intro W σ p G H v u x y Q r hv hu h
  unfold dLe at h
  split at h
  · rename_i i j
    cases inv_int hv
    cases inv_int hu
    exact .inl ⟨i, j, rfl, rfl, h.here r rfl⟩
  · rename_i i j
    cases inv_str hv
    cases inv_str hu
    exact .inr ⟨i, j, rfl, rfl, h.here r rfl⟩
  · exact co_bad h
theorem cm_ge : CmM K (fun x y H Q => rI0 (fun i j => .bl (decide (j ≤ i))) x y H Q ∨ ∃ i j : Str, x = .str i ∧ y = .str j ∧ Q (.bl (!decide (i.cps.toList < j.cps.toList))) H) (fun x y G => dLe y x G) := by
  intro W σ p G H v u x y Q r hv hu h
  dsimp only at h
  unfold dLe at h
  split at h
  · rename_i i j
    cases inv_int hv
    cases inv_int hu
    exact .inl ⟨_, _, rfl, rfl, h.here r rfl⟩
  · rename_i i j
    cases inv_str hv
    cases inv_str hu
    exact .inr ⟨_, _, rfl, rfl, h.here r rfl⟩
  · exact co_bad h
end
end Mw
namespace Mw
open PySem L2
open PyProof.Rows hiding St
abbrev ME0 := En → Gp → R D
@[simp] def mVar (i : Nat) : ME0 := fun e G => match e[i]? with
  | some (some d) => .ok d G
  | _ => .bad
@[simp] def mC (d : D) : ME0 := fun _ G => .ok d G
@[simp] def mBin (f : D → D → Gp → R D) (a b : ME0) : ME0 := fun e G => (a e G).bind fun x G => (b e G).bind fun y G => f x y G
@[simp] def mCmpB (f : D → D → Gp → R Bool) (a b : ME0) : En → Gp → R Bool := fun e G => (a e G).bind fun x G => (b e G).bind fun y G => f x y G
@[simp] def mOfB (m : En → Gp → R Bool) : ME0 := fun e G => (m e G).bind fun b G => .ok (.bl b) G
@[simp] def mNeg (a : ME0) : ME0 := fun e G => (a e G).bind fun x G => match x with
  | .int i => .ok (.int (-i)) G
  | _ => .bad
section
variable {X : Cx} {W : WX} {a b c : Expr} {ma mb mc : ME0} {pos : Pos}
theorem se_var {i : Nat} {x : Str} (hN : X.N[i]? = some x) (hv : Vis X.env.scope x) (hd : (x == ("__debug__" : Str)) = false) (hcd : (x == ("__classdict__" : Str)) = false) : SE X W (.Name x pos) (mVar i) := by
  refine pe_imp (pe_var hN hv hd hcd) fun σ H Q ⟨p, G, e, r, ev, h⟩ => ?_
  unfold mVar at h
  split at h
  · rename_i d g
    obtain ⟨v, h1, h2⟩ := ev.2 i d g
    exact ⟨v, h1, h.here r h2⟩
  · exact co_bad h
theorem co_val {K : PySem.W.Frag} {σ : St} {p : List Addr} {G : Gp} {H : Hp} {Q : VK} {v : V} (d : D) {z : R D} (h : Co K W σ p H (Den K) z Q) (e : z = .ok d G) (r : Rel K p G H) (dv : Den K p H v d) : Q v H := by
  subst e
  exact h.here r dv
theorem se_int {i : Int} {j : Nat} : SE X W (.Constant (.int i) j pos) (mC (.int i)) := pe_imp pe_int fun σ H Q ⟨p, G, e, r, ev, h⟩ => co_val (D.int i) h rfl r (Den.int i)
theorem se_bl {i : Bool} {j : Nat} : SE X W (.Constant (.bool i) j pos) (mC (.bl i)) := pe_imp pe_bl fun σ H Q ⟨p, G, e, r, ev, h⟩ => co_val (D.bl i) h rfl r (Den.bl i)
theorem se_str {i : Str} {j : Nat} : SE X W (.Constant (.str i) j pos) (mC (.str i)) := pe_imp pe_str fun σ H Q ⟨p, G, e, r, ev, h⟩ => co_val (D.str i) h rfl r (Den.str i)
theorem se_non {j : Nat} : SE X W (.Constant .none j pos) (mC .non) := pe_imp pe_non fun σ H Q ⟨p, G, e, r, ev, h⟩ => co_val D.non h rfl r Den.non
/-- a constant of the module -/
theorem se_gint {x : Str} {i : Int} (hg : Gl X x) (hm : ∃ t, X.mg x = some (.int i t)) (hd : (x == ("__debug__" : Str)) = false) : SE X W (.Name x pos) (mC (.int i)) := by
  obtain ⟨t, hm⟩ := hm
  exact pe_imp (pe_glob (v := .int i) hg hm ⟨t, rfl⟩ hd) fun σ H Q ⟨p, G, e, r, ev, h⟩ => co_val (D.int i) h rfl r (Den.int i)
theorem se_gstr {x : Str} {i : Str} (hg : Gl X x) (hm : ∃ t, X.mg x = some (.str i t)) (hd : (x == ("__debug__" : Str)) = false) : SE X W (.Name x pos) (mC (.str i)) := by
  obtain ⟨t, hm⟩ := hm
  exact pe_imp (pe_glob (v := .str i) hg hm ⟨t, rfl⟩ hd) fun σ H Q ⟨p, G, e, r, ev, h⟩ => co_val (D.str i) h rfl r (Den.str i)
/-- two operands, one behind the other -/
theorem read2 {r : R2} {f : D → D → Gp → R D} (hf : OpM X.K r f) {σ : St} {H : Hp} {Q : VK} (h : tE X.K W (mBin f ma mb) σ H Q) : tOp r (tE X.K W ma) (tE X.K W mb) σ H Q := by
  obtain ⟨p, G, e, rl, ev, h⟩ := h
  refine ⟨p, G, e, rl, ev, h.bind fun x G1 q H1 v pr t r1 dv h1 => ?_⟩
  refine ⟨q, G1, e, r1, ev.mono t pr, h1.bind fun y G2 q2 H2 u pr2 t2 r2 du h2 => ?_⟩
  exact hf W σ q2 G2 H2 v u x y Q r2 (dv.mono t2 pr2) du h2
theorem se_bin {op : Operator} {r : R2} {f : D → D → Gp → R D} (ho : OpR X (binaryOp op) r) (hf : OpM X.K r f) (ha : SE X W a ma) (hb : SE X W b mb) : SE X W (.BinOp a op b pos) (mBin f ma mb) :=
  pe_imp (pe_op ho ha hb) fun _ _ _ h => read2 hf h
theorem se_add (ha : SE X W a ma) (hb : SE X W b mb) : SE X W (.BinOp a .Add b pos) (mBin dAdd ma mb) := se_bin ((op_add.or op_catA).or op_cat) om_add ha hb
theorem se_sub (ha : SE X W a ma) (hb : SE X W b mb) : SE X W (.BinOp a .Sub b pos) (mBin dSub ma mb) := se_bin op_sub om_sub ha hb
theorem se_mul (ha : SE X W a ma) (hb : SE X W b mb) : SE X W (.BinOp a .Mult b pos) (mBin dMul ma mb) := se_bin (op_mul.or op_repT) om_mul ha hb
theorem se_mod (ha : SE X W a ma) (hb : SE X W b mb) : SE X W (.BinOp a .Mod b pos) (mBin dMod ma mb) := se_bin op_mod om_mod ha hb
theorem se_div (ha : SE X W a ma) (hb : SE X W b mb) : SE X W (.BinOp a .FloorDiv b pos) (mBin dDiv ma mb) := se_bin op_fdiv om_div ha hb
theorem se_pow (ha : SE X W a ma) (hb : SE X W b mb) : SE X W (.BinOp a .Pow b pos) (mBin dPow ma mb) := se_bin op_pow om_pow ha hb
theorem se_neg (ha : SE X W a ma) : SE X W (.UnaryOp .USub a pos) (mNeg ma) := by
  refine pe_imp (pe_un un_neg ha) fun σ H Q ⟨p, G, e, rl, ev, h⟩ => ?_
  refine ⟨p, G, e, rl, ev, h.bind fun x G1 q H1 v pr t r1 dv h1 => ?_⟩
  split at h1
  · cases inv_int dv
    exact ⟨_, rfl, h1.here r1 (.int _)⟩
  · exact co_bad h1
theorem ofB {m : En → Gp → R Bool} {p : List Addr} {G : Gp} {e : En} {σ : St} {H : Hp} {Q : VK} (h : Co X.K W σ p H (Den X.K) (mOfB m e G) Q) : Co X.K W σ p H (fun _ _ (v : V) (b : Bool) => v = .bl b) (m e G) Q := by
  refine h.bind fun b G1 q H1 v pr t r1 dv h1 => ?_
  subst dv
  exact h1.here r1 (.bl b)
theorem ofT {m : En → Gp → R Bool} {p : List Addr} {G : Gp} {e : En} {σ : St} {H : Hp} {Q : Bool → Hp → Prop} (h : Co X.K W σ p H (fun _ _ (b c : Bool) => b = c) (m e G) Q) : Co X.K W σ p H (fun _ _ (v : V) (b : Bool) => v = .bl b) (m e G) (fun x H' => ∃ k, x = .bl k ∧ Q k H') := by
  cases hm : m e G with
  | ok b G1 =>
    rw [hm] at h
    exact fun q H' v pr t r1 dv => ⟨b, dv, h q H' b pr t r1 rfl⟩
  | exc c G1 => rw [hm] at h; exact h
  | bad => rw [hm] at h; exact h
theorem readC {r : R2} {f : D → D → Gp → R Bool} (hf : CmM X.K r f) {σ : St} {p : List Addr} {G : Gp} {e : En} {H : Hp} {Q : VK} (rl : Rel X.K p G H) (ev : Envs X.K p H σ e) (h : Co X.K W σ p H (fun _ _ (v : V) (b : Bool) => v = .bl b) (mCmpB f ma mb e G) Q) :
    tOp r (tE X.K W ma) (tE X.K W mb) σ H Q := by
  refine ⟨p, G, e, rl, ev, h.bind fun x G1 q H1 v pr t r1 dv h1 => ?_⟩
  refine ⟨q, G1, e, r1, ev.mono t pr, h1.bind fun y G2 q2 H2 u pr2 t2 r2 du h2 => ?_⟩
  exact hf W σ q2 G2 H2 v u x y Q r2 (dv.mono t2 pr2) du h2
theorem se_cmp {op : CmpOp} {r : R2} {f : D → D → Gp → R Bool} (ho : OpR X (compareOp op) r) (hf : CmM X.K r f) (ha : SE X W a ma) (hb : SE X W b mb) (hm : behindInMarks op b = false) : SE X W (.Compare a [op] [b] pos) (mOfB (mCmpB f ma mb)) :=
  pe_imp (pe_cmpR ho ha hb hm) fun _ _ _ ⟨p, G, e, rl, ev, h⟩ => readC hf rl ev (ofB h)
theorem st_cmp {op : CmpOp} {r : R2} {f : D → D → Gp → R Bool} (ho : OpR X (compareOp op) r) (hf : CmM X.K r f) (ha : SE X W a ma) (hb : SE X W b mb) (hm : behindInMarks op b = false) : ST X W (.Compare a [op] [b] pos) (mCmpB f ma mb) :=
  pt_imp (pt_cmpR ho ha hb hm) fun _ _ _ ⟨p, G, e, rl, ev, h⟩ => readC hf rl ev (ofT h)
/-- x in y -/
def rInDct : R2 := fun x y H Q => ∃ a o, y = .ref a ∧ DGet H a x o ∧ Q (.bl o.isSome) H
def rNotInDct : R2 := fun x y H Q => ∃ a o, y = .ref a ∧ DGet H a x o ∧ Q (.bl (!o.isSome)) H
theorem op_inDct (hu : X.A.units + 1 < cLine) : OpR X (compareOp .In) rInDct := by
  intro pins s σ H x y v u Q I rx ry h
  obtain ⟨a, o, rfl, g, q⟩ := h
  obtain rfl : u = Value.ref a := ry
  exact d_in hu I g rx fun s3 I3 => ⟨.bl o.isSome, H, I3, rfl, q⟩
theorem op_notInDct (hu : X.A.units + 1 < cLine) : OpR X (compareOp .NotIn) rNotInDct := by
  intro pins s σ H x y v u Q I rx ry h
  obtain ⟨a, o, rfl, g, q⟩ := h
  obtain rfl : u = Value.ref a := ry
  exact d_notIn hu I g rx fun s3 I3 => ⟨.bl (!o.isSome), H, I3, rfl, q⟩
theorem den_key {K : PySem.W.Frag} {p : List Addr} {H : Hp} {v : V} {x : D} {k : Key} (h : Den K p H v x) (e : keyD x = some k) : v = kV k := by
  cases h <;> simp [keyD] at e <;> subst e <;> rfl
theorem kvs_get {K : PySem.W.Frag} {p : List Addr} {H : Hp} {k : Key} : ∀ {ws : List (Key × V)} {ds : List (Key × D)}, KVs K p H ws ds →
    (∀ d, getK ds k = some d → ∃ v, valV ws k = some v ∧ Den K p H v d) ∧ (getK ds k = none → valV ws k = none)
  | _, _, .nil => ⟨fun d e => (nomatch e), fun _ => rfl⟩
  | _, _, .cons (k := k') (v := v') (d := d') hd hs => by
    have ih := kvs_get (k := k) hs
    by_cases hk : k' = k
    · subst hk
      refine ⟨fun d e => ⟨v', by simp [valV], ?_⟩, fun e => ?_⟩
      · simp [getK] at e
        subst e
        exact hd
      · simp [getK] at e
    · refine ⟨fun d e => ?_, fun e => ?_⟩
      · simp [getK, hk] at e
        obtain ⟨v, h1, h2⟩ := ih.1 d (by simp [getK, e])
        exact ⟨v, by rw [valV_neg hk]; exact h1, h2⟩
      · rw [valV_neg hk]
        refine ih.2 ?_
        unfold getK at e ⊢
        rw [List.find?_cons, show decide ((k', d').1 = k) = false from decide_eq_false hk] at e
        exact e
theorem kvs_some {K : PySem.W.Frag} {p : List Addr} {H : Hp} {k : Key} {ws : List (Key × V)} {ds : List (Key × D)} (h : KVs K p H ws ds) : (valV ws k).isSome = (getK ds k).isSome := by
  cases e : getK ds k with
  | none => rw [(kvs_get h).2 e] <;> rfl
  | some d =>
    obtain ⟨v, h1, _⟩ := (kvs_get h).1 d e
    rw [h1]
    rfl
theorem py_flat {K : PySem.W.Frag} {p : List Addr} {H : Hp} {G : Gp} {v : V} {x : D} {z : PyData} {n : Nat} (h : Den K p H v x) (f : flatD x = true) (e : py G n x = some z) : flatV v = true ∧ ∀ {w : V} {y : D} {z' : PyData}, Den K p H w y → flatD y = true → py G n y = some z' → eqV w v = PyData.eqv z' z := by
  cases h with
  | non =>
    unfold py at e; cases e
    refine ⟨rfl, fun {w y z'} hw fw ew => ?_⟩
    cases hw <;> first | cases fw | skip
    all_goals (unfold py at ew; try split at ew)
    all_goals (cases ew)
    all_goals (unfold PyData.eqv; rfl)
  | bl b =>
    unfold py at e; cases e
    refine ⟨rfl, fun {w y z'} hw fw ew => ?_⟩
    cases hw <;> first | cases fw | skip
    all_goals (unfold py at ew; try split at ew)
    all_goals (cases ew)
    all_goals (unfold PyData.eqv; rfl)
  | int b =>
    unfold py at e; cases e
    refine ⟨rfl, fun {w y z'} hw fw ew => ?_⟩
    cases hw <;> first | cases fw | skip
    all_goals (unfold py at ew; try split at ew)
    all_goals (cases ew)
    all_goals (unfold PyData.eqv; rfl)
  | str b =>
    unfold py at e
    split at e
    · cases e
      refine ⟨rfl, fun {w y z'} hw fw ew => ?_⟩
      cases hw <;> first | cases fw | skip
      all_goals (unfold py at ew; try split at ew)
      all_goals (cases ew)
      all_goals (unfold PyData.eqv; rfl)
    · cases e
  | tup _ _ => cases f
  | ref _ => cases f
  | scr _ => cases f

theorem any_flat {K : PySem.W.Frag} {p : List Addr} {H : Hp} {G : Gp} {n : Nat} {v : V} {x : D} {z : PyData} (h : Den K p H v x) (f : flatD x = true) (e : py G n x = some z) : ∀ {ws : List V} {ds : List D} {zs : List PyData}, Dens K p H ws ds → ds.all flatD = true → ds.mapM (py G n) = some zs →
    ws.all flatV = true ∧ inV v ws = zs.any fun y => PyData.eqv y z
  | _, _, _, .nil, _, hm => by
    cases (show _ = [] by simpa using hm.symm)
    exact ⟨rfl, rfl⟩
  | _, _, _, .cons h1 h2, hf, hm => by
    rcases mapM_some hm with ⟨z1, _⟩ | ⟨a, r', b, s, e1, e2, e3, e4⟩
    · cases z1
    · cases e1
      subst e2
      rw [List.all_cons, Bool.and_eq_true] at hf
      obtain ⟨i1, i2⟩ := any_flat h f e h2 hf.2 e4
      obtain ⟨j1, _⟩ := py_flat h1 hf.1 e3
      have j2 := (py_flat h f e).2 h1 hf.1 e3
      refine ⟨by rw [List.all_cons, j1, i1]; rfl, ?_⟩
      unfold inV at i2 ⊢
      rw [List.any_cons, List.any_cons, i2, j2]
def rInA (K : PySem.W.Frag) : R2 := fun x y H Q => (((∃ (c : Nat) (z : Str), x = .str ⟨#[c]⟩ ∧ y = .str z ∧ Q (.bl (decide (c ∈ z.cps.toList))) H) ∨ rIn K false x y H Q) ∨ rInD K x y H Q) ∨ rInDct x y H Q
def rNotInA (K : PySem.W.Frag) : R2 := fun x y H Q => (((∃ (c : Nat) (z : Str), x = .str ⟨#[c]⟩ ∧ y = .str z ∧ Q (.bl (!decide (c ∈ z.cps.toList))) H) ∨ rIn K true x y H Q) ∨ rNotInD K x y H Q) ∨ rNotInDct x y H Q
theorem op_inA (hu : X.A.units + 65 < cLine) : OpR X (compareOp .In) (rInA X.K) := ((op_in_sign.or op_in_seq).or (op_inD hu)).or (op_inDct (by omega))
theorem op_notInA (hu : X.A.units + 65 < cLine) : OpR X (compareOp .NotIn) (rNotInA X.K) := ((op_notIn_sign.or op_notIn_seq).or (op_notInD hu)).or (op_notInDct (by omega))
theorem cm_inG {K : PySem.W.Frag} (neg : Bool) : CmM K (if neg = true then rNotInA K else rInA K) (if neg = true then notR dIn else dIn) := by
  intro W σ p G H v u x y Q r hv hu h
  have key : Co K W σ p H (fun _ _ (v : V) (b : Bool) => v = .bl (cond neg (!b) b)) (dIn x y G) Q := by
    cases neg with
    | false => exact h
    | true =>
      have h' : Co K W σ p H (fun _ _ (v : V) (b : Bool) => v = .bl b) ((dIn x y G).bind fun b G => .ok (!b) G) Q := h
      refine h'.bind fun b G1 q H1 v pr t r1 dv h1 => ?_
      subst dv
      exact h1.here r1 rfl
  clear h
  have fin : ∀ b, dIn x y G = .ok b G → Q (.bl (cond neg (!b) b)) H := fun b e => by
    rw [e] at key
    exact key.here r rfl
  unfold dIn at key
  split at key
  · rename_i z
    split at key
    · rename_i c
      cases inv_str hv
      cases inv_str hu
      have q := fin _ rfl
      cases neg with
      | false => exact .inl (.inl (.inl ⟨c, z, rfl, rfl, q⟩))
      | true => exact .inl (.inl (.inl ⟨c, z, rfl, rfl, q⟩))
    · exact co_bad key
  · rename_i ds
    split at key
    · rename_i a bs e1 e2
      split at key
      · rename_i hf
        rw [Bool.and_eq_true] at hf
        obtain ⟨a2, vs, rfl, ha, hxs⟩ := inv_tup hu
        obtain ⟨f1, _⟩ := py_flat hv hf.1 e1
        obtain ⟨f2, f3⟩ := any_flat hv hf.1 e1 hxs hf.2 e2
        have q := key.here r rfl
        rw [← f3] at q
        cases neg with
        | false => exact .inl (.inl (.inr ⟨a2, vs, rfl, .inr (.inl (.inl ha)), f1, f2, q⟩))
        | true => exact .inl (.inl (.inr ⟨a2, vs, rfl, .inr (.inl (.inl ha)), f1, f2, q⟩))
      · exact co_bad key
    · exact co_bad key
  · rename_i n
    split at key
    · rename_i ds g
      split at key
      · rename_i a bs e1 e2
        obtain ⟨a2, rfl, ha⟩ := inv_ref hu
        obtain ⟨vs, hl, hxs⟩ := r.lst ha g
        obtain ⟨q1, q2⟩ := py_ok r 20 _ _ _ hv e1
        obtain ⟨q3, q4, q5⟩ := py_all r 20 _ _ _ hxs e2
        have sh := shp_all ⟨q4, q5⟩
        have q := key.here r rfl
        cases neg with
        | false => exact .inl (.inr ⟨a, bs, q1, .lst (.inl (.inl hl)) q3, shaped_of q2 (by decide), shaped_of sh.2.2 (by decide), q⟩)
        | true => exact .inl (.inr ⟨a, bs, q1, .lst (.inl (.inl hl)) q3, shaped_of q2 (by decide), shaped_of sh.2.2 (by decide), q⟩)
      · exact co_bad key
    · rename_i kvs g
      split at key
      · rename_i k ek
        obtain ⟨a2, rfl, ha⟩ := inv_ref hu
        obtain ⟨ws, hl, hk⟩ := r.dct ha g
        cases den_key hv ek
        have q := key.here r rfl
        rw [← kvs_some hk] at q
        cases neg with
        | false => exact .inr ⟨a2, _, rfl, DGet.k hl, q⟩
        | true => exact .inr ⟨a2, _, rfl, DGet.k hl, q⟩
      · exact co_bad key
    · exact co_bad key
  · exact co_bad key
theorem cm_in {K : PySem.W.Frag} : CmM K (rInA K) dIn := cm_inG false
theorem cm_notIn {K : PySem.W.Frag} : CmM K (rNotInA K) (notR dIn) := cm_inG true
def isNonD : D → Bool
  | .non => true
  | _ => false
/-- x is None, True, False -/
def dIs (x y : D) (G : Gp) : R Bool := match y with
  | .non => .ok (isNonD x) G
  | .bl b => (match x with
    | .bl c => .ok (c == b) G
    | _ => .bad)
  | _ => .bad
theorem bl_dec (a b : Bool) : decide (a = b) = (a == b) := by cases a <;> cases b <;> rfl
theorem non_dec {K : PySem.W.Frag} {p : List Addr} {H : Hp} {v : V} {x : D} (h : Den K p H v x) : decide (v = .non) = isNonD x := by
  cases h <;> first | rfl | exact decide_eq_false (fun z => nomatch z)
theorem cm_is {K : PySem.W.Frag} : CmM K (fun x y H Q => (y = .non ∧ Q (.bl (decide (x = .non))) H) ∨ ∃ a b, x = .bl a ∧ y = .bl b ∧ Q (.bl (decide (a = b))) H) dIs := by
  intro W σ p G H v u x y Q r hv hu h
  unfold dIs at h
  split at h
  · cases hu
    have q := h.here r rfl
    rw [← non_dec hv] at q
    exact .inl ⟨rfl, q⟩
  · cases hu
    split at h
    · cases hv
      refine .inr ⟨_, _, rfl, rfl, ?_⟩
      rw [bl_dec]
      exact h.here r rfl
    · exact co_bad h
  · exact co_bad h
theorem cm_isnot {K : PySem.W.Frag} : CmM K (fun x y H Q => (y = .non ∧ Q (.bl (!decide (x = .non))) H) ∨ ∃ a b, x = .bl a ∧ y = .bl b ∧ Q (.bl (!decide (a = b))) H) (notR dIs) := by
  intro W σ p G H v u x y Q r hv hu h
  unfold notR dIs at h
  split at h
  · cases hu
    rw [R.bind_ok] at h
    have q := h.here r rfl
    rw [← non_dec hv] at q
    exact .inl ⟨rfl, q⟩
  · cases hu
    split at h
    · cases hv
      rw [R.bind_ok] at h
      refine .inr ⟨_, _, rfl, rfl, ?_⟩
      rw [bl_dec]
      exact h.here r rfl
    · exact co_bad h
  · exact co_bad h
inductive Cop where
  | eq | ne | lt | le | gt | ge | isC | isNot | inC | notIn
def Cop.op : Cop → CmpOp
  | .eq => .Eq | .ne => .NotEq | .lt => .Lt | .le => .LtE | .gt => .Gt | .ge => .GtE | .isC => .Is | .isNot => .IsNot | .inC => .In | .notIn => .NotIn
@[simp] def Cop.f : Cop → D → D → Gp → R Bool
  | .eq => dEq | .ne => notR dEq | .lt => dLt | .le => dLe | .gt => fun x y G => dLt y x G | .ge => fun x y G => dLe y x G | .isC => dIs | .isNot => notR dIs | .inC => dIn | .notIn => notR dIn
theorem cop_ok (hu : X.A.units + 65 < cLine) : ∀ o : Cop, ∃ r, OpR X (compareOp o.op) r ∧ CmM X.K r o.f
  | .eq => ⟨_, op_eqD (by omega), cm_eq⟩
  | .ne => ⟨_, op_neD (by omega), cm_ne⟩
  | .lt => ⟨_, op_lt.or (op_lt_str.or (op_ltP (by omega))), cm_lt⟩
  | .le => ⟨_, op_le.or op_le_str, cm_le⟩
  | .gt => ⟨_, op_gt.or (op_gt_str.or (op_gtP (by omega))), cm_gt⟩
  | .ge => ⟨_, op_ge.or op_ge_str, cm_ge⟩
  | .isC => ⟨_, op_isN.or op_is_bl, cm_is⟩
  | .isNot => ⟨_, op_notN.or op_isnot_bl, cm_isnot⟩
  | .inC => ⟨_, op_inA hu, cm_in⟩
  | .notIn => ⟨_, op_notInA hu, cm_notIn⟩
theorem se_cop (hu : X.A.units + 65 < cLine) (o : Cop) (ha : SE X W a ma) (hb : SE X W b mb) (hm : behindInMarks o.op b = false) : SE X W (.Compare a [o.op] [b] pos) (mOfB (mCmpB o.f ma mb)) := by
  obtain ⟨r, h1, h2⟩ := cop_ok (X := X) hu o
  exact se_cmp h1 h2 ha hb hm
theorem st_cop (hu : X.A.units + 65 < cLine) (o : Cop) (ha : SE X W a ma) (hb : SE X W b mb) (hm : behindInMarks o.op b = false) : ST X W (.Compare a [o.op] [b] pos) (mCmpB o.f ma mb) := by
  obtain ⟨r, h1, h2⟩ := cop_ok (X := X) hu o
  exact st_cmp h1 h2 ha hb hm
/-- a < b < c -/
@[simp] def mChain (f g : D → D → Gp → R Bool) (a b c : ME0) : ME0 := fun e G => (a e G).bind fun x G => (b e G).bind fun y G => (f x y G).bind fun k G => if k = true then (c e G).bind fun z G => (g y z G).bind fun k G => .ok (.bl k) G else .ok (.bl false) G
theorem se_chain (hu : X.A.units + 65 < cLine) (o o' : Cop) (ha : SE X W a ma) (hb : SE X W b mb) (hc : SE X W c mc) (hm : lastMarks [o.op, o'.op] [b, c] = false) : SE X W (.Compare a [o.op, o'.op] [b, c] pos) (mChain o.f o'.f ma mb mc) := by
  obtain ⟨r, h1, h2⟩ := cop_ok (X := X) hu o
  obtain ⟨r', h1', h2'⟩ := cop_ok (X := X) hu o'
  refine pe_imp (pe_chain h1 h1' ha hb hc hm) fun σ H Q ⟨p, G, e, rl, ev, h⟩ => ?_
  refine ⟨p, G, e, rl, ev, h.bind fun x G1 q H1 v pr t r1 dv h1 => ?_⟩
  refine ⟨q, G1, e, r1, ev.mono t pr, h1.bind fun y G2 q2 H2 u pr2 t2 r2 du h2x => ?_⟩
  refine h2 W σ q2 G2 H2 v u x y _ r2 (dv.mono t2 pr2) du (h2x.bind fun k G3 q3 H3 w pr3 t3 r3 dk h3 => ⟨k, dk, ?_⟩)
  cases k with
  | false => exact co_val (.bl false) h3 rfl r3 (.bl false)
  | true =>
    refine ⟨q3, G3, e, r3, ((ev.mono t pr).mono t2 pr2).mono t3 pr3, Co.bind (r := mc e G3) h3 fun z G4 q4 H4 w' pr4 t4 r4 dz h4 => ?_⟩
    refine h2' W σ q4 G4 H4 u w' y z Q r4 ((du.mono t3 pr3).mono t4 pr4) dz (h4.bind fun k G5 q5 H5 w2 pr5 t5 r5 dk5 h5 => ?_)
    subst dk5
    exact co_val (.bl k) h5 rfl r5 (.bl k)
def rIxDct : R2 := fun x y H Q => ∃ a v, x = .ref a ∧ DGet H a y (some v) ∧ Q v H
theorem ix_dct (hu : X.A.units + 1 < cLine) : IxR X rIxDct := by
  intro value slice pins s σ H x y v u Q I rx ry h hs
  obtain ⟨a, z, rfl, g, q⟩ := h
  obtain rfl : v = Value.ref a := rx
  exact tail_any (dict_typeIs I g) slot_dict_getitem.lookup (d_getItem hu I g ry fun w' s3 I3 rw' => ⟨z, H, I3, rw', q⟩) hs
theorem atI_den {K : PySem.W.Frag} {p : List Addr} {H : Hp} {ws : List V} {ds : List D} {i : Int} {d : D} (h : Dens K p H ws ds) (e : atI ds i = some d) : ∃ v, atI ws i = some v ∧ Den K p H v d := by
  unfold atI at e ⊢
  rw [h.length]
  cases hi : ixN ds.length i with
  | none => rw [hi] at e; cases e
  | some j =>
    rw [hi] at e
    exact h.get e
theorem atI_int {ns : List Int} {i d : Int} (e : atI ns i = some d) : atI (ns.map V.int) i = some (.int d) := by
  unfold atI at e ⊢
  rw [List.length_map]
  cases hi : ixN ns.length i with
  | none => rw [hi] at e; cases e
  | some j =>
    rw [hi] at e
    have e' : ns[j]? = some d := e
    show (ns.map V.int)[j]? = some (.int d)
    rw [List.getElem?_map, e']
    rfl
theorem om_ix {K : PySem.W.Frag} : OpM K (fun x y H Q => (rIxL K x y H Q ∨ rIxT K x y H Q) ∨ rIxDct x y H Q) dIx := by
  intro W σ p G H v u x y Q r hv hu h
  unfold dIx at h
  split at h
  · split at h
    · split at h
      · rename_i e
        obtain ⟨a, vs, rfl, ha, hxs⟩ := inv_tup hv
        cases inv_int hu
        obtain ⟨w, h1, h2⟩ := atI_den hxs e
        exact .inl (.inr ⟨a, vs, _, w, rfl, rfl, .inl (.inl ha), h1, h.here r h2⟩)
      · exact co_bad h
    · exact co_bad h
  · split at h
    · split at h
      · rename_i e
        obtain ⟨a, rfl, ha⟩ := inv_scr hv
        cases inv_int hu
        exact .inl (.inl ⟨a, _, _, _, rfl, rfl, ha.sq, atI_int e, h.here r (.int _)⟩)
      · exact co_bad h
    · exact co_bad h
  · split at h
    · rename_i g
      split at h
      · split at h
        · rename_i e
          obtain ⟨a, rfl, ha⟩ := inv_ref hv
          cases inv_int hu
          obtain ⟨vs, hl, hxs⟩ := r.lst ha g
          obtain ⟨w, h1, h2⟩ := atI_den hxs e
          exact .inl (.inl ⟨a, vs, _, w, rfl, rfl, .inl (.inl hl), h1, h.here r h2⟩)
        · exact co_bad h
      · exact co_bad h
    · rename_i g
      split at h
      · rename_i k ek
        split at h
        · rename_i d e
          obtain ⟨a, rfl, ha⟩ := inv_ref hv
          obtain ⟨ws, hl, hk⟩ := r.dct ha g
          cases den_key hu ek
          obtain ⟨w, h1, h2⟩ := (kvs_get hk).1 d e
          exact .inr ⟨a, w, rfl, by rw [← h1]; exact DGet.k hl, h.here r h2⟩
        · exact co_bad h
      · exact co_bad h
    · exact co_bad h
  · exact co_bad h
theorem se_ix (hu : X.A.units + 65 < cLine) (ha : SE X W a ma) (hb : SE X W b mb) (hs : PlainIx b) : SE X W (.Subscript a b pos) (mBin dIx ma mb) :=
  pe_imp (pe_ix ((ix_list.or ix_tup).or (ix_dct (by omega))) ha hb hs) fun _ _ _ h => read2 om_ix h
@[simp] def mPart (m : Option ME0) : En → Gp → R (Option Int) := match m with
  | none => fun _ G => .ok none G
  | some m => fun e G => (m e G).bind fun x G => match x with
    | .int i => .ok (some i) G
    | _ => .bad
@[simp] def mSl (a : ME0) (lo hi : Option ME0) : ME0 := fun e G => (a e G).bind fun x G => (mPart lo e G).bind fun l G => (mPart hi e G).bind fun h G => dSl x l h G
def tO (K : PySem.W.Frag) (W : WX) (m : En → Gp → R (Option Int)) : TO := fun σ H Q => ∃ p G e, Rel K p G H ∧ Envs K p H σ e ∧ Co K W σ p H (fun _ _ (b c : Option Int) => b = c) (m e G) Q
theorem po_imp {e : Option Expr} {t t' : TO} (h : PO X e t) (k : ∀ σ H Q, t' σ H Q → t σ H Q) : PO X e t' := ⟨fun pins s σ H Q I q => h.run pins s σ H Q I (k σ H Q q)⟩
theorem so_none : PO X none (tO X.K W (mPart none)) := po_imp po_none fun σ H Q ⟨p, G, e, rl, ev, h⟩ => Co.here (d := (none : Option Int)) (G := G) h rl rfl
theorem so_some (ha : SE X W a ma) : PO X (some a) (tO X.K W (mPart (some ma))) := by
  refine po_imp (po_some ha) fun σ H Q ⟨p, G, e, rl, ev, h⟩ => ?_
  refine ⟨p, G, e, rl, ev, Co.bind (r := ma e G) h fun x G1 q H1 v pr t r1 dv h1 => ?_⟩
  split at h1
  · cases inv_int dv
    exact ⟨_, rfl, h1.here r1 rfl⟩
  · exact co_bad h1
theorem cut_den {K : PySem.W.Frag} {p : List Addr} {H : Hp} {ws : List V} {ds : List D} {lo hi : Option Int} (h : Dens K p H ws ds) : Dens K p H (cutV ws lo hi) (cutD ds lo hi) := by
  unfold cutV cutD
  rw [h.length]
  exact (h.drop _).take _
theorem cutD_whole {ds : List D} {lo hi : Option Int} (h : HT.sIx ds.length 0 lo = 0 ∧ HT.sIx ds.length ds.length hi = ds.length) : cutD ds lo hi = ds := by
  unfold cutD
  rw [h.1, h.2]
  simp
theorem se_sl {lo hi : Option Expr} {ml mh : Option ME0} {p2 : Pos} (ha : SE X W a ma) (hl : PO X lo (tO X.K W (mPart ml))) (hh : PO X hi (tO X.K W (mPart mh))) : SE X W (.Subscript a (.Slice lo hi none p2) pos) (mSl ma ml mh) := by
  refine pe_imp (pe_slice (sl_tupA.or sl_list) ha hl hh) fun σ H Q ⟨p, G, e, rl, ev, h⟩ => ?_
  refine ⟨p, G, e, rl, ev, h.bind fun x G1 q H1 v pr t r1 dv h1 => ?_⟩
  refine ⟨q, G1, e, r1, ev.mono t pr, h1.bind fun l G2 q2 H2 l' pr2 t2 r2 dl h2 => ?_⟩
  refine ⟨q2, G2, e, r2, (ev.mono t pr).mono t2 pr2, h2.bind fun u G3 q3 H3 u' pr3 t3 r3 du h3 => ?_⟩
  subst dl du
  have dv3 := (dv.mono t2 pr2).mono t3 pr3
  unfold dSl at h3
  split at h3
  · rename_i ds
    obtain ⟨a, vs, rfl, ha, hxs⟩ := inv_tup dv3
    have hl := hxs.length
    refine .inl ⟨a, vs, rfl, .inl (.inl ha), fun z => ?_, fun z b hb => co_tup r3 hb (cut_den hxs) h3⟩
    rw [hl] at z
    rw [cutD_whole z] at h3
    exact h3.here r3 dv3
  · split at h3
    · rename_i g
      obtain ⟨a, rfl, ha⟩ := inv_ref dv3
      obtain ⟨vs, hl, hxs⟩ := r3.lst ha g
      exact .inr ⟨a, vs, rfl, .inl (.inl hl), fun b hb => co_new r3 hb (cut_den hxs) h3⟩
    · exact co_bad h3
  · exact co_bad h3
@[simp] def mTru (a : ME0) : En → Gp → R Bool := fun e G => (a e G).bind fun x G => dTru x G
theorem dens_empty {K : PySem.W.Frag} {p : List Addr} {H : Hp} {vs : List V} {ds : List D} (h : Dens K p H vs ds) : vs.isEmpty = ds.isEmpty := by cases h <;> rfl
theorem kvs_empty {K : PySem.W.Frag} {p : List Addr} {H : Hp} {vs : List (Key × V)} {ds : List (Key × D)} (h : KVs K p H vs ds) : vs.isEmpty = ds.isEmpty := by cases h <;> rfl
theorem tru_of {K : PySem.W.Frag} {σ : St} {p : List Addr} {G : Gp} {H : Hp} {v : V} {x : D} {Q : Bool → Hp → Prop} (r : Rel K p G H) (dv : Den K p H v x) (h : Co K W σ p H (fun _ _ (b c : Bool) => b = c) (dTru x G) Q) : ∃ k, TruV K v H k ∧ Q k H := by
  unfold dTru at h
  split at h
  · cases dv; exact ⟨false, rfl, h.here r rfl⟩
  · cases dv; exact ⟨_, rfl, h.here r rfl⟩
  · cases dv; exact ⟨_, rfl, h.here r rfl⟩
  · cases dv
    split at h
    · rename_i hb
      exact ⟨_, ⟨big_line hb, rfl⟩, h.here r rfl⟩
    · exact co_bad h
  · obtain ⟨a, vs, rfl, ha, hxs⟩ := inv_tup dv
    refine ⟨!vs.isEmpty, .inr (.inl ⟨vs, .inl (.inl ha), rfl⟩), ?_⟩
    rw [dens_empty hxs]
    exact h.here r rfl
  · obtain ⟨a, rfl, ha⟩ := inv_scr dv
    refine ⟨!(List.map V.int _).isEmpty, .inl ⟨_, ha.sq, rfl⟩, ?_⟩
    rw [List.isEmpty_map]
    exact h.here r rfl
  · split at h
    · rename_i g
      obtain ⟨a, rfl, ha⟩ := inv_ref dv
      obtain ⟨vs, hl, hxs⟩ := r.lst ha g
      refine ⟨!vs.isEmpty, .inl ⟨vs, .inl (.inl hl), rfl⟩, ?_⟩
      rw [dens_empty hxs]
      exact h.here r rfl
    · rename_i g
      obtain ⟨a, rfl, ha⟩ := inv_ref dv
      obtain ⟨vs, hl, hxs⟩ := r.dct ha g
      refine ⟨!vs.isEmpty, .inr (.inr ⟨vs, hl, rfl⟩), ?_⟩
      rw [kvs_empty hxs]
      exact h.here r rfl
    · exact co_bad h
theorem st_tru (ha : SE X W a ma) (he : ∀ whole, isTrue a X.env whole = (do let v ← whole; standAt a.pos; holding [v] (truthy v))) : ST X W a (mTru ma) := by
  refine pt_imp (pt_truth ha he) fun σ H Q ⟨p, G, e, rl, ev, h⟩ => ?_
  exact ⟨p, G, e, rl, ev, h.bind fun x G1 q H1 v pr t r1 dv h1 => tru_of r1 dv h1⟩
@[simp] def mNotT (t : En → Gp → R Bool) : En → Gp → R Bool := fun e G => (t e G).bind fun b G => .ok (!b) G
@[simp] def mAndT (t u : En → Gp → R Bool) : En → Gp → R Bool := fun e G => (t e G).bind fun b G => if b = true then u e G else .ok false G
@[simp] def mOrT (t u : En → Gp → R Bool) : En → Gp → R Bool := fun e G => (t e G).bind fun b G => if b = true then .ok true G else u e G
@[simp] def mIf (t : En → Gp → R Bool) (a b : ME0) : ME0 := fun e G => (t e G).bind fun k G => if k = true then a e G else b e G
/-- as values, bools -/
@[simp] def mAndV (a b : ME0) : ME0 := fun e G => (a e G).bind fun x G => match x with
  | .bl true => b e G
  | .bl false => .ok (.bl false) G
  | _ => .bad
@[simp] def mOrV (a b : ME0) : ME0 := fun e G => (a e G).bind fun x G => match x with
  | .bl true => .ok (.bl true) G
  | .bl false => b e G
  | _ => .bad
variable {ta tb : En → Gp → R Bool}
theorem read_not {σ : St} {H : Hp} {Q : Bool → Hp → Prop} (h : tT X.K W (mNotT ta) σ H Q) : tNot (tT X.K W ta) σ H Q := by
  obtain ⟨p, G, e, rl, ev, h⟩ := h
  refine ⟨p, G, e, rl, ev, h.bind fun b G1 q H1 b' pr t r1 dv h1 => ?_⟩
  subst dv
  exact h1.here r1 rfl
theorem read_and {σ : St} {H : Hp} {Q : Bool → Hp → Prop} (h : tT X.K W (mAndT ta tb) σ H Q) : tAnd (tT X.K W ta) (tT X.K W tb) σ H Q := by
  obtain ⟨p, G, e, rl, ev, h⟩ := h
  refine ⟨p, G, e, rl, ev, h.bind fun b G1 q H1 b' pr t r1 dv h1 => ?_⟩
  subst dv
  cases b' with
  | true => exact ⟨q, G1, e, r1, ev.mono t pr, h1⟩
  | false => exact Co.here (d := false) (G := G1) h1 r1 rfl
theorem read_or {σ : St} {H : Hp} {Q : Bool → Hp → Prop} (h : tT X.K W (mOrT ta tb) σ H Q) : tOr (tT X.K W ta) (tT X.K W tb) σ H Q := by
  obtain ⟨p, G, e, rl, ev, h⟩ := h
  refine ⟨p, G, e, rl, ev, h.bind fun b G1 q H1 b' pr t r1 dv h1 => ?_⟩
  subst dv
  cases b' with
  | true => exact Co.here (d := true) (G := G1) h1 r1 rfl
  | false => exact ⟨q, G1, e, r1, ev.mono t pr, h1⟩
theorem st_not (ha : ST X W a ta) : ST X W (.UnaryOp .Not a pos) (mNotT ta) := pt_imp (pt_not ha) fun _ _ _ h => read_not h
theorem se_if (hc : ST X W c ta) (ha : SE X W a ma) (hb : SE X W b mb) : SE X W (.IfExp c a b pos) (mIf ta ma mb) := by
  refine pe_imp (pe_ifExp hc ha hb) fun σ H Q ⟨p, G, e, rl, ev, h⟩ => ?_
  refine ⟨p, G, e, rl, ev, h.bind fun b G1 q H1 b' pr t r1 dv h1 => ?_⟩
  subst dv
  cases b' with
  | true => exact ⟨q, G1, e, r1, ev.mono t pr, h1⟩
  | false => exact ⟨q, G1, e, r1, ev.mono t pr, h1⟩
theorem se_notV (ha : SE X W a ma) : SE X W (.UnaryOp .Not a pos) (fun e G => (ma e G).bind fun x G => (dTru x G).bind fun b G => .ok (.bl (!b)) G) := by
  refine pe_imp (pe_notT ha) fun σ H Q ⟨p, G, e, rl, ev, h⟩ => ?_
  refine ⟨p, G, e, rl, ev, h.bind fun x G1 q H1 v pr t r1 dv h1 => ?_⟩
  refine tru_of (Q := fun k H' => Q (.bl (!k)) H') r1 dv (h1.bind fun k G2 q2 H2 k' pr2 t2 r2 dk h2 => ?_)
  subst dk
  exact h2.here r2 (.bl _)
theorem read_andV {σ : St} {H : Hp} {Q : VK} (h : tE X.K W (mAndV ma mb) σ H Q) : tAndV (tE X.K W ma) (tE X.K W mb) σ H Q := by
  obtain ⟨p, G, e, rl, ev, h⟩ := h
  refine ⟨p, G, e, rl, ev, h.bind fun x G1 q H1 v pr t r1 dv h1 => ?_⟩
  split at h1
  · cases inv_bl dv
    exact ⟨true, rfl, ⟨q, G1, e, r1, ev.mono t pr, h1⟩⟩
  · cases inv_bl dv
    exact ⟨false, rfl, h1.here r1 (.bl _)⟩
  · exact co_bad h1
theorem read_orV {σ : St} {H : Hp} {Q : VK} (h : tE X.K W (mOrV ma mb) σ H Q) : tOrV (tE X.K W ma) (tE X.K W mb) σ H Q := by
  obtain ⟨p, G, e, rl, ev, h⟩ := h
  refine ⟨p, G, e, rl, ev, h.bind fun x G1 q H1 v pr t r1 dv h1 => ?_⟩
  split at h1
  · cases inv_bl dv
    exact ⟨true, rfl, h1.here r1 (.bl _)⟩
  · cases inv_bl dv
    exact ⟨false, rfl, ⟨q, G1, e, r1, ev.mono t pr, h1⟩⟩
  · exact co_bad h1
end
end Mw
namespace Mw
open PySem L2
open PyProof.Rows hiding St
abbrev MA0 := En → Gp → R (List D)
@[simp] def maNil : MA0 := fun _ G => .ok [] G
@[simp] def maCons (a : ME0) (r : MA0) : MA0 := fun e G => (a e G).bind fun x G => (r e G).bind fun xs G => .ok (x :: xs) G
@[simp] def mTup (m : MA0) : ME0 := fun e G => (m e G).bind fun ds G => if ds.length ≤ big then .ok (.tup ds) G else .bad
@[simp] def mLst (m : MA0) : ME0 := fun e G => (m e G).bind fun ds G => if ds.length ≤ big then .ok (.ref G.length) (G ++ [.lst ds]) else .bad
@[simp] def mCall (f : List D → Gp → R D) (m : MA0) : ME0 := fun e G => (m e G).bind fun ds G => f ds G
section
variable {X : Cx} {W : WX} {a b c : Expr} {es : List Expr} {ma mb mc : ME0} {m : MA0} {pos : Pos}
theorem sa_nil : SA X W [] maNil := pa_imp pa_nil fun σ H Q ⟨p, G, e, rl, ev, h⟩ => Co.here (d := ([] : List D)) (G := G) h rl .nil
theorem sa_cons (ha : SE X W a ma) (hr : SA X W es m) (hs : starEach (a :: es) X.env = (false, eval a X.env) :: starEach es X.env) : SA X W (a :: es) (maCons ma m) := by
  refine pa_imp (pa_cons ha hr hs) fun σ H Q ⟨p, G, e, rl, ev, h⟩ => ?_
  refine ⟨p, G, e, rl, ev, h.bind fun x G1 q H1 v pr t r1 dv h1 => ?_⟩
  refine ⟨q, G1, e, r1, ev.mono t pr, h1.bind fun xs G2 q2 H2 vs pr2 t2 r2 dvs h2 => ?_⟩
  exact h2.here r2 (.cons (dv.mono t2 pr2) dvs)
theorem se_tup {k : Nat} (h : SA X W es m) : SE X W (.Tuple es k pos) (mTup m) := by
  refine pe_imp (pe_tup h) fun σ H Q ⟨p, G, e, rl, ev, h⟩ => ?_
  refine ⟨p, G, e, rl, ev, h.bind fun ds G1 q H1 vs pr t r1 dv h1 => ?_⟩
  split at h1
  · rename_i hl
    exact ⟨big_line (by rw [dv.length]; exact hl), fun b hb => co_tup r1 hb dv h1⟩
  · exact co_bad h1
theorem se_lst (h : SA X W es m) : SE X W (.List es pos) (mLst m) := by
  refine pe_imp (pe_lst h) fun σ H Q ⟨p, G, e, rl, ev, h⟩ => ?_
  refine ⟨p, G, e, rl, ev, h.bind fun ds G1 q H1 vs pr t r1 dv h1 => ?_⟩
  split at h1
  · rename_i hl
    exact ⟨big_line (by rw [dv.length]; exact hl), fun b hb => co_new r1 hb dv h1⟩
  · exact co_bad h1
/-- a call by values does a plain one -/
def CbM (K : PySem.W.Frag) (r : List V → Hp → VK → Prop) (f : List D → Gp → R D) : Prop := ∀ (W : WX) (σ : St) (p : List Addr) (G : Gp) (H : Hp) (vs : List V) (ds : List D) (Q : VK), Rel K p G H → Dens K p H vs ds → Co K W σ p H (Den K) (f ds G) Q → r vs H Q
theorem read_cb {r : List V → Hp → VK → Prop} {f : List D → Gp → R D} (hf : CbM X.K r f) {σ : St} {H : Hp} {Q : VK} (h : tE X.K W (mCall f m) σ H Q) : tCB r (tA X.K W m) σ H Q := by
  obtain ⟨p, G, e, rl, ev, h⟩ := h
  exact ⟨p, G, e, rl, ev, h.bind fun ds G1 q H1 vs pr t r1 dv h1 => hf W σ q G1 H1 vs ds Q r1 dv h1⟩
theorem se_cb {id : String} {x : Str} {r : List V → Hp → VK → Prop} {f : List D → Gp → R D} {p0 : Pos} (hc : CallR X (.builtin id) r) (hf : CbM X.K r f) (hg : Gl X x) (hm : X.mg x = none) (hv : bootBuiltins x = some (.builtin id)) (ha : SA X W (a :: es) m) (hn : x ≠ "__name__") (hdb : (x == ("__debug__" : Str)) = false)
    (he : starEach (a :: es) X.env = (false, eval a X.env) :: starEach es X.env) (hpl : (backTo pos (starEach es X.env)).any (·.1) = false) : SE X W (.Call (.Name x p0) (a :: es) [] pos) (mCall f m) :=
  pe_imp (pe_callB hc hg hm hv ha hn hdb he hpl) fun _ _ _ h => read_cb hf h
theorem se_cty {T : String} {x : Str} {r : List V → Hp → VK → Prop} {f : List D → Gp → R D} {p0 : Pos} (hc : CallR X (.type T) r) (hf : CbM X.K r f) (hg : Gl X x) (hm : X.mg x = none) (hv : bootBuiltins x = some (.type T)) (ha : SA X W (a :: es) m) (hn : x ≠ "__name__") (hdb : (x == ("__debug__" : Str)) = false)
    (he : starEach (a :: es) X.env = (false, eval a X.env) :: starEach es X.env) (hpl : (backTo pos (starEach es X.env)).any (·.1) = false) : SE X W (.Call (.Name x p0) (a :: es) [] pos) (mCall f m) :=
  pe_imp (pe_callTy hc hg hm hv ha hn hdb he hpl) fun _ _ _ h => read_cb hf h
def fLen : List D → Gp → R D
  | [x], G => dLen x G
  | _, _ => .bad
def fMax : List D → Gp → R D
  | [.int i, .int j], G => .ok (.int (max i j)) G
  | _, _ => .bad
def fMin : List D → Gp → R D
  | [.int i, .int j], G => .ok (.int (min i j)) G
  | _, _ => .bad
def fInt : List D → Gp → R D
  | [.int i], G => .ok (.int i) G
  | [.bl b], G => .ok (.int (if b then 1 else 0)) G
  | _, _ => .bad
def fList : List D → Gp → R D
  | [.tup ds], G => .ok (.ref G.length) (G ++ [.lst ds])
  | [.ref n], G => (match G[n]? with
    | some (.lst ds) => .ok (.ref G.length) (G ++ [.lst ds])
    | _ => .bad)
  | _, _ => .bad
def fTuple : List D → Gp → R D
  | [.tup ds], G => .ok (.tup ds) G
  | [.ref n], G => (match G[n]? with
    | some (.lst ds) => .ok (.tup ds) G
    | _ => .bad)
  | _, _ => .bad
def putD (kvs : List (Key × D)) (k : Key) (v : D) : List (Key × D) :=
  if (kvs.any fun kv => decide (kv.1 = k)) = true then kvs.map (fun kv => if kv.1 = k then (kv.1, v) else kv) else kvs ++ [(k, v)]
def dropD (kvs : List (Key × D)) (k : Key) : List (Key × D) := kvs.filter fun kv => decide (kv.1 ≠ k)
def mergeD (kvs more : List (Key × D)) : List (Key × D) := more.foldl (fun acc kv => putD acc kv.1 kv.2) kvs
def pairs? : List D → Option (List (Key × D))
  | [] => some []
  | .tup [k, v] :: r => (match keyD k, pairs? r with
    | some k, some r => some ((k, v) :: r)
    | _, _ => none)
  | _ :: _ => none
def fDict : List D → Gp → R D
  | [.ref n], G => (match G[n]? with
    | some (.lst ds) => (match pairs? ds with
      | some kvs => .ok (.ref G.length) (G ++ [.dct (mergeD [] kvs)])
      | none => .bad)
    | _ => .bad)
  | _, _ => .bad
def strs? : List Key → Option (List Str)
  | [] => some []
  | .inr x :: r => (strs? r).map (x :: ·)
  | _ :: _ => none
def leS (x y : Str) : Bool := !decide (y.cps.toList < x.cps.toList)
def sortI (ns : List Int) : List Int := ns.mergeSort (fun a b => decide (a ≤ b))
def sortS (xs : List Str) : List Str := xs.mergeSort leS
def fSorted : List D → Gp → R D
  | [.ref n], G => (match G[n]? with
    | some (.lst ds) => (match ints? ds with
      | some ns => .ok (.ref G.length) (G ++ [.lst ((sortI ns).map .int)])
      | none => .bad)
    | some (.dct kvs) => (match strs? (kvs.map (·.1)) with
      | some xs => if xs.length < 64 then .ok (.ref G.length) (G ++ [.lst ((sortS xs).map .str)]) else .bad
      | none => .bad)
    | _ => .bad)
  | _, _ => .bad
variable {K : PySem.W.Frag}
theorem inv1 {p : List Addr} {H : Hp} {vs : List V} {x : D} (h : Dens K p H vs [x]) : ∃ v, vs = [v] ∧ Den K p H v x := by
  cases h with
  | cons h1 h2 => cases h2; exact ⟨_, rfl, h1⟩
theorem inv2 {p : List Addr} {H : Hp} {vs : List V} {x y : D} (h : Dens K p H vs [x, y]) : ∃ v w, vs = [v, w] ∧ Den K p H v x ∧ Den K p H w y := by
  cases h with
  | cons h1 h2 =>
    obtain ⟨w, rfl, h3⟩ := inv1 h2
    exact ⟨_, w, rfl, h1, h3⟩
theorem kvs_len {p : List Addr} {H : Hp} : ∀ {vs : List (Key × V)} {ds : List (Key × D)}, KVs K p H vs ds → vs.length = ds.length
  | _, _, .nil => rfl
  | _, _, .cons _ hs => by rw [List.length_cons, List.length_cons, kvs_len hs]
theorem kvs_keys {p : List Addr} {H : Hp} : ∀ {vs : List (Key × V)} {ds : List (Key × D)}, KVs K p H vs ds → vs.map (·.1) = ds.map (·.1)
  | _, _, .nil => rfl
  | _, _, .cons _ hs => by rw [List.map_cons, List.map_cons, kvs_keys hs]
def rLenA (K : PySem.W.Frag) : List V → Hp → VK → Prop := fun xs H Q => ((∃ p ys, xs = [.ref p] ∧ (SqL K H p ys ∨ SqT K H p ys) ∧ Q (.int ys.length) H) ∨ ∃ z, xs = [.str z] ∧ z.length ≤ sizeLine ∧ Q (.int z.length) H) ∨ ∃ a kvs, xs = [V.ref a] ∧ H a = some (.dK kvs) ∧ Q (.int kvs.length) H
theorem cb_len : CbM K (rLenA K) fLen := by
  intro W σ p G H vs ds Q r hd h
  unfold fLen at h
  split at h
  · obtain ⟨v, rfl, dv⟩ := inv1 hd
    unfold dLen at h
    split at h
    · split at h
      · rename_i hb
        cases inv_str dv
        exact .inl (.inr ⟨_, rfl, big_line hb, h.here r (.int _)⟩)
      · exact co_bad h
    · obtain ⟨a, vs, rfl, ha, hxs⟩ := inv_tup dv
      refine .inl (.inl ⟨a, vs, rfl, .inr (.inl (.inl ha)), ?_⟩)
      rw [hxs.length]
      exact h.here r (.int _)
    · obtain ⟨a, rfl, ha⟩ := inv_scr dv
      refine .inl (.inl ⟨a, _, rfl, .inl ha.sq, ?_⟩)
      rw [List.length_map]
      exact h.here r (.int _)
    · split at h
      · rename_i g
        obtain ⟨a, rfl, ha⟩ := inv_ref dv
        obtain ⟨vs, hl, hxs⟩ := r.lst ha g
        refine .inl (.inl ⟨a, vs, rfl, .inl (.inl (.inl hl)), ?_⟩)
        rw [hxs.length]
        exact h.here r (.int _)
      · rename_i g
        obtain ⟨a, rfl, ha⟩ := inv_ref dv
        obtain ⟨vs, hl, hxs⟩ := r.dct ha g
        refine .inr ⟨a, vs, rfl, hl, ?_⟩
        rw [kvs_len hxs]
        exact h.here r (.int _)
      · exact co_bad h
    · exact co_bad h
  · exact co_bad h
theorem cb_max : CbM K (fun xs H Q => ∃ i j, xs = [.int i, .int j] ∧ Q (.int (if j > i then j else i)) H) fMax := by
  intro W σ p G H vs ds Q r hd h
  unfold fMax at h
  split at h
  · rename_i i j
    obtain ⟨v, w, rfl, d1, d2⟩ := inv2 hd
    cases inv_int d1
    cases inv_int d2
    refine ⟨i, j, rfl, ?_⟩
    rw [show (if j > i then j else i) = max i j by split <;> omega]
    exact h.here r (.int _)
  · exact co_bad h
theorem cb_min : CbM K (fun xs H Q => ∃ i j, xs = [.int i, .int j] ∧ Q (.int (if j < i then j else i)) H) fMin := by
  intro W σ p G H vs ds Q r hd h
  unfold fMin at h
  split at h
  · rename_i i j
    obtain ⟨v, w, rfl, d1, d2⟩ := inv2 hd
    cases inv_int d1
    cases inv_int d2
    refine ⟨i, j, rfl, ?_⟩
    rw [show (if j < i then j else i) = min i j by split <;> omega]
    exact h.here r (.int _)
  · exact co_bad h
theorem cb_int : CbM K (fun xs H Q => (∃ i, xs = [.int i] ∧ Q (.int i) H) ∨ ∃ k, xs = [.bl k] ∧ Q (.int (if k then 1 else 0)) H) fInt := by
  intro W σ p G H vs ds Q r hd h
  unfold fInt at h
  split at h
  · obtain ⟨v, rfl, dv⟩ := inv1 hd
    cases inv_int dv
    exact .inl ⟨_, rfl, h.here r (.int _)⟩
  · obtain ⟨v, rfl, dv⟩ := inv1 hd
    cases inv_bl dv
    exact .inr ⟨_, rfl, h.here r (.int _)⟩
  · exact co_bad h
theorem cb_list : CbM K (fun xs H Q => ∃ p ys, xs = [.ref p] ∧ (SqL K H p ys ∨ SqT K H p ys) ∧ ∀ l, H l = none → Q (.ref l) (upd H l (.lst ys))) fList := by
  intro W σ p G H vs ds Q r hd h
  unfold fList at h
  split at h
  · obtain ⟨v, rfl, dv⟩ := inv1 hd
    obtain ⟨a, vs, rfl, ha, hxs⟩ := inv_tup dv
    exact ⟨a, vs, rfl, .inr (.inl (.inl ha)), fun b hb => co_new r hb hxs h⟩
  · obtain ⟨v, rfl, dv⟩ := inv1 hd
    split at h
    · rename_i g
      obtain ⟨a, rfl, ha⟩ := inv_ref dv
      obtain ⟨vs, hl, hxs⟩ := r.lst ha g
      exact ⟨a, vs, rfl, .inl (.inl (.inl hl)), fun b hb => co_new r hb hxs h⟩
    · exact co_bad h
  · exact co_bad h
theorem cb_tuple : CbM K (fun xs H Q => ∃ p ys, xs = [.ref p] ∧ ((SqL K H p ys ∧ ∀ l, H l = none → Q (.ref l) (upd H l (.tup ys))) ∨ (SqT K H p ys ∧ Q (.ref p) H))) fTuple := by
  intro W σ p G H vs ds Q r hd h
  unfold fTuple at h
  split at h
  · obtain ⟨v, rfl, dv⟩ := inv1 hd
    obtain ⟨a, vs, rfl, ha, hxs⟩ := inv_tup dv
    exact ⟨a, vs, rfl, .inr ⟨.inl (.inl ha), h.here r dv⟩⟩
  · obtain ⟨v, rfl, dv⟩ := inv1 hd
    split at h
    · rename_i g
      obtain ⟨a, rfl, ha⟩ := inv_ref dv
      obtain ⟨vs, hl, hxs⟩ := r.lst ha g
      exact ⟨a, vs, rfl, .inl ⟨.inl (.inl hl), fun b hb => co_tup r hb hxs h⟩⟩
    · exact co_bad h
  · exact co_bad h
theorem kvs_put {p : List Addr} {H : Hp} {k : Key} {v : V} {d : D} (hd : Den K p H v d) {vs : List (Key × V)} {ds : List (Key × D)} (h : KVs K p H vs ds) : KVs K p H (putK vs k v) (putD ds k d) := by
  have any_eq : ∀ {vs : List (Key × V)} {ds : List (Key × D)}, KVs K p H vs ds → (vs.any fun kv => decide (kv.1 = k)) = (ds.any fun kv => decide (kv.1 = k)) := by
    intro vs ds h
    induction h with
    | nil => rfl
    | cons h1 h2 ih => rw [List.any_cons, List.any_cons, ih]
  have map_eq : ∀ {vs : List (Key × V)} {ds : List (Key × D)}, KVs K p H vs ds → KVs K p H (vs.map (fun kv => if kv.1 = k then (kv.1, v) else kv)) (ds.map (fun kv => if kv.1 = k then (kv.1, d) else kv)) := by
    intro vs ds h
    induction h with
    | nil => exact .nil
    | @cons k' v' d' vs ds h1 h2 ih =>
      rw [List.map_cons, List.map_cons]
      by_cases hk : k' = k
      · rw [if_pos hk, if_pos hk]; exact .cons hd ih
      · rw [if_neg hk, if_neg hk]; exact .cons h1 ih
  have app_eq : ∀ {vs : List (Key × V)} {ds : List (Key × D)}, KVs K p H vs ds → KVs K p H (vs ++ [(k, v)]) (ds ++ [(k, d)]) := by
    intro vs ds h
    induction h with
    | nil => exact .cons hd .nil
    | cons h1 h2 ih => exact .cons h1 ih
  unfold putK putD
  rw [any_eq h]
  split
  · exact map_eq h
  · exact app_eq h
theorem kvs_drop {p : List Addr} {H : Hp} {k : Key} {vs : List (Key × V)} {ds : List (Key × D)} (h : KVs K p H vs ds) : KVs K p H (dropK vs k) (dropD ds k) := by
  unfold dropK dropD
  induction h with
  | nil => exact .nil
  | @cons k' v' d' vs ds h1 h2 ih =>
    rw [List.filter_cons, List.filter_cons]
    split
    · rename_i hk
      exact .cons h1 ih
    · exact ih
theorem kvs_merge {p : List Addr} {H : Hp} {vs : List (Key × V)} {ds : List (Key × D)} (h : KVs K p H vs ds) : ∀ {ws : List (Key × V)} {cs : List (Key × D)}, KVs K p H ws cs → KVs K p H (mergeK ws vs) (mergeD cs ds) := by
  induction h with
  | nil => exact fun h => h
  | cons h1 h2 ih => exact fun h => ih (kvs_put h1 h)
/-- the pairs of a list, as the call of dict reads them -/
theorem pairs_ok {p : List Addr} {H : Hp} : ∀ {ds : List D} {kvs : List (Key × D)} {vs : List V}, pairs? ds = some kvs → Dens K p H vs ds → ∃ (ps : List Addr) (ws : List (Key × V)), vs = ps.map V.ref ∧ Paired (fun p kv => SqT K H p [kV kv.1, kv.2]) ps ws ∧ KVs K p H ws kvs
  | [], kvs, vs, e, h => by
    cases h
    cases e
    exact ⟨[], [], rfl, .nil, .nil⟩
  | d :: ds, kvs, vs, e, h => by
    cases h with
    | cons h1 h2 =>
      unfold pairs? at e
      split at e
      · cases ‹_ :: _ = []›
      · rename_i k v r q
        cases q
        split at e
        · rename_i k' r' e1 e2
          cases e
          obtain ⟨ps, ws, rfl, hp, hk⟩ := pairs_ok e2 h2
          obtain ⟨a, us, rfl, ha, hus⟩ := inv_tup h1
          obtain ⟨v1, v2, rfl, d1, d2⟩ := inv2 hus
          cases den_key d1 e1
          exact ⟨a :: ps, (k', v2) :: ws, rfl, .cons (.inl (.inl ha)) hp, .cons d2 hk⟩
        · cases e
      · cases e
theorem cb_dict : CbM K (fun xs H Q => ∃ (a : Addr) (ps : List Addr) (kvs : List (Key × V)), xs = [.ref a] ∧ SqL K H a (ps.map V.ref) ∧ Paired (fun p kv => SqT K H p [kV kv.1, kv.2]) ps kvs ∧ ∀ p, H p = none → Q (.ref p) (upd H p (.dK (mergeK [] kvs)))) fDict := by
  intro W σ p G H vs ds Q r hd h
  unfold fDict at h
  split at h
  · obtain ⟨v, rfl, dv⟩ := inv1 hd
    split at h
    · rename_i g
      split at h
      · rename_i kvs e
        obtain ⟨a, rfl, ha⟩ := inv_ref dv
        obtain ⟨vs, hl, hxs⟩ := r.lst ha g
        obtain ⟨ps, ws, rfl, hp, hk⟩ := pairs_ok e hxs
        refine ⟨a, ps, ws, rfl, .inl (.inl hl), hp, fun b hb => ?_⟩
        exact h (p ++ [b]) _ (.ref b) (pre_app p b) (Tu.new hb) (r.new hb ⟨_, upd_same, (kvs_merge hk .nil).mono (Tu.new hb) (pre_app p b)⟩) (.ref (by rw [← r.len, List.getElem?_append_right (Nat.le_refl _), Nat.sub_self]; rfl))
      · exact co_bad h
    · exact co_bad h
  · exact co_bad h
theorem ints_ok {p : List Addr} {H : Hp} : ∀ {ds : List D} {ns : List Int} {vs : List V}, ints? ds = some ns → Dens K p H vs ds → vs = ns.map V.int
  | [], ns, vs, e, h => by
    cases h
    cases e
    rfl
  | d :: ds, ns, vs, e, h => by
    cases h with
    | cons h1 h2 =>
      unfold ints? at e
      split at e
      · cases ‹_ :: _ = []›
      · rename_i i r q
        cases q
        cases e2 : ints? ds with
        | none => rw [e2] at e; cases e
        | some ms =>
          rw [e2] at e
          cases e
          rw [ints_ok e2 h2, inv_int h1]
          rfl
      · cases e
theorem dens_ints {p : List Addr} {H : Hp} : ∀ ns : List Int, Dens K p H (ns.map V.int) (ns.map D.int)
  | [] => .nil
  | n :: r => .cons (.int n) (dens_ints r)
theorem dens_strs {p : List Addr} {H : Hp} : ∀ ns : List Str, Dens K p H (ns.map V.str) (ns.map D.str)
  | [] => .nil
  | n :: r => .cons (.str n) (dens_strs r)
theorem sortI_unique {a b : List Int} (h : a.Perm b) (s : a.Pairwise (· ≤ ·)) : a = sortI b := by
  refine PySem.W.ksm_same (h.trans (List.mergeSort_perm _ _).symm) s ?_
  have := List.pairwise_mergeSort (le := fun a b : Int => decide (a ≤ b)) (fun a b c h1 h2 => by simp at *; omega) (fun a b => by simp; omega) b
  exact this.imp fun h => by simpa using h
theorem strs_ok : ∀ {ks : List Key} {xs : List Str}, strs? ks = some xs → ks = xs.map Sum.inr
  | [], xs, e => by cases e; rfl
  | k :: ks, xs, e => by
    unfold strs? at e
    split at e
    · cases ‹_ :: _ = []›
    · rename_i x r q
      cases q
      cases e2 : strs? ks with
      | none => rw [e2] at e; cases e
      | some ms =>
        rw [e2] at e
        cases e
        rw [strs_ok e2]
        rfl
    · cases e

theorem leS_iff {x y : Str} : leS x y = true ↔ x.cps.toList ≤ y.cps.toList := by
  unfold leS
  rw [Bool.not_eq_true', decide_eq_false_iff_not]
  exact List.not_lt
theorem leS_trans {x y z : Str} (h1 : leS x y = true) (h2 : leS y z = true) : leS x z = true := leS_iff.mpr (List.le_trans (leS_iff.mp h1) (leS_iff.mp h2))
theorem leS_total (x y : Str) : (leS x y || leS y x) = true := by
  rw [Bool.or_eq_true, leS_iff, leS_iff]
  exact List.le_total _ _
theorem cps_inj {x y : Str} (h : x.cps.toList = y.cps.toList) : x = y := by
  obtain ⟨⟨a⟩⟩ := x
  obtain ⟨⟨b⟩⟩ := y
  cases h
  rfl
theorem leS_anti {x y : Str} (h1 : leS x y = true) (h2 : leS y x = true) : x = y := cps_inj (List.le_antisymm (leS_iff.mp h1) (leS_iff.mp h2))
theorem rising_pw : ∀ {l : List Str} {x : Str}, risingS x l = true → (x :: l).Pairwise (fun a b => leS a b = true)
  | [], x, _ => by simp
  | y :: l, x, h => by
    unfold risingS at h
    rw [Bool.and_eq_true, Bool.not_eq_true', PyProof.Rows.ltCps_eq] at h
    have hxy : leS x y = true := by unfold leS; rw [h.1]; rfl
    have ih := rising_pw h.2
    rw [List.pairwise_cons] at ih ⊢
    refine ⟨fun z hz => ?_, List.pairwise_cons.mpr ih⟩
    rcases List.mem_cons.mp hz with rfl | hz
    · exact hxy
    · exact leS_trans hxy (ih.1 z hz)
theorem sortedS_pw {l : List Str} (h : sortedS l = true) : l.Pairwise (fun a b => leS a b = true) := by
  cases l with
  | nil => exact .nil
  | cons x l => exact rising_pw h
theorem sortS_pw (b : List Str) : (sortS b).Pairwise (fun a b => leS a b = true) := List.pairwise_mergeSort (le := leS) (fun _ _ _ => leS_trans) leS_total b
theorem sortS_unique {a b : List Str} (h : a.Perm b) (s : a.Pairwise (fun a b => leS a b = true)) : a = sortS b :=
  List.Perm.eq_of_pairwise (fun x y _ _ h1 h2 => leS_anti h1 h2) s (sortS_pw b) (h.trans (List.mergeSort_perm _ _).symm)
def rSortA (K : PySem.W.Frag) : List V → Hp → VK → Prop := fun xs H Q => rSortedI K xs H Q ∨ ∃ (a : Addr) (kvs : List (Key × V)) (ks : List Str), xs = [.ref a] ∧ Rd H a (.dK kvs) ∧ kvs.map (·.1) = ks.map Sum.inr ∧ ks.length < 64 ∧
    ∀ ys p, ys.Perm ks → sortedS ys = true → H p = none → Q (.ref p) (upd H p (.lst (ys.map V.str)))
theorem cb_sorted : CbM K (rSortA K) fSorted := by
  intro W σ p G H vs ds Q r hd h
  unfold fSorted at h
  split at h
  · obtain ⟨v, rfl, dv⟩ := inv1 hd
    obtain ⟨a, rfl, ha⟩ := inv_ref dv
    split at h
    · rename_i g
      split at h
      · rename_i ns e
        obtain ⟨vs, hl, hxs⟩ := r.lst ha g
        cases ints_ok e hxs
        refine .inl ⟨a, ns, rfl, .inl (.inl hl), fun ns' b hp hs hb => ?_⟩
        cases sortI_unique hp hs
        exact co_new r hb (dens_ints _) h
      · exact co_bad h
    · rename_i g
      split at h
      · rename_i xs e
        split at h
        · rename_i h64
          obtain ⟨ws, hl, hk⟩ := r.dct ha g
          refine .inr ⟨a, ws, xs, rfl, .inl hl, by rw [kvs_keys hk]; exact strs_ok e, h64, fun ys b hp hs hb => ?_⟩
          cases sortS_unique hp (sortedS_pw hs)
          exact co_new r hb (dens_strs _) h
        · exact co_bad h
      · exact co_bad h
    · exact co_bad h
  · exact co_bad h
@[simp] def mIsi (t : Ty) (a : ME0) : En → Gp → R Bool := fun e G => (a e G).bind fun x G => dIsi x t G
theorem se_isi {t : Ty} {p1 p2 : Pos} (ha : SE X W a ma) (hgI : Gl X "isinstance") (hmI : X.mg "isinstance" = none) (hgT : Gl X (Str.ofString t.nm)) (hmT : X.mg (Str.ofString t.nm) = none)
    (he : starEach [a, .Name (Str.ofString t.nm) p2] X.env = (false, eval a X.env) :: starEach [.Name (Str.ofString t.nm) p2] X.env) : SE X W (.Call (.Name "isinstance" p1) [a, .Name (Str.ofString t.nm) p2] [] pos) (mOfB (mIsi t ma)) := by
  have hT : PE X (.Name (Str.ofString t.nm) p2) (tC (.ty t.nm)) := by
    cases t
    · exact pe_bltn hgT hmT (by decide +kernel : bootBuiltins (Str.ofString "int") = some (.type "int")) rfl (by decide +kernel) (by decide +kernel)
    · exact pe_bltn hgT hmT (by decide +kernel : bootBuiltins (Str.ofString "bool") = some (.type "bool")) rfl (by decide +kernel) (by decide +kernel)
    · exact pe_bltn hgT hmT (by decide +kernel : bootBuiltins (Str.ofString "str") = some (.type "str")) rfl (by decide +kernel) (by decide +kernel)
    · exact pe_bltn hgT hmT (by decide +kernel : bootBuiltins (Str.ofString "tuple") = some (.type "tuple")) rfl (by decide +kernel) (by decide +kernel)
    · exact pe_bltn hgT hmT (by decide +kernel : bootBuiltins (Str.ofString "list") = some (.type "list")) rfl (by decide +kernel) (by decide +kernel)
  refine pe_imp (pe_callB call_isi hgI hmI (by decide +kernel) (pa_cons ha (pa_cons hT pa_nil rfl) he) (by decide) (by decide) he rfl) fun σ H Q ⟨p, G, e, rl, ev, h⟩ => ?_
  have h' : Co X.K W σ p H (Den X.K) ((ma e G).bind fun x G => (dIsi x t G).bind fun b G => .ok (D.bl b) G) Q := by
    unfold mOfB mIsi at h
    cases hm : ma e G <;> rw [hm] at h <;> exact h
  refine ⟨p, G, e, rl, ev, h'.bind fun x G1 q H1 v pr t1 r1 dv h1 => ?_⟩
  show rIsi X.K [v, .ty t.nm] H1 Q
  have go : ∀ (ty : String) (b : Bool), TyX X.K H1 v (.type ty) → kitB ty t.nm = some b → dIsi x t G1 = .ok b G1 → rIsi X.K [v, .ty t.nm] H1 Q := fun ty b h2 h3 h4 => by
    rw [h4, R.bind_ok] at h1
    exact ⟨v, _, _, _, b, rfl, .ty _, h2, kit_ty h3, h1.here r1 (.bl b)⟩
  cases x with
  | non => cases dv; cases t <;> exact go "NoneType" _ (.base .non) (by decide +kernel) rfl
  | bl b => cases dv; cases t <;> exact go "bool" _ (.base (.bl b)) (by decide +kernel) rfl
  | int b => cases dv; cases t <;> exact go "int" _ (.base (.int b)) (by decide +kernel) rfl
  | str b => cases dv; cases t <;> exact go "str" _ (.base (.str b)) (by decide +kernel) rfl
  | tup ds =>
    obtain ⟨a, vs, rfl, ha, hxs⟩ := inv_tup dv
    cases t <;> exact go "tuple" _ (.base (.tup ha)) (by decide +kernel) rfl
  | scr ns => exact co_bad (α := D) h1
  | ref n =>
    obtain ⟨a, rfl, ha⟩ := inv_ref dv
    have hi : dIsi (.ref n) t G1 = (match G1[n]? with
      | some (.lst _) => .ok t.isLst G1
      | some (.dct _) => .ok false G1
      | _ => .bad) := rfl
    cases g : G1[n]? with
    | none => rw [hi, g] at h1; exact co_bad (α := D) h1
    | some o =>
      cases o with
      | lst ds =>
        obtain ⟨vs, hl, hxs⟩ := r1.lst ha g
        rw [g] at hi
        cases t <;> exact go "list" _ (.base (.lst hl)) (by decide +kernel) hi
      | dct ds =>
        obtain ⟨vs, hl, hxs⟩ := r1.dct ha g
        rw [g] at hi
        cases t <;> exact go "dict" _ (.base (.dK hl)) (by decide +kernel) hi
      | ins fs => rw [hi, g] at h1; exact co_bad (α := D) h1
end
end Mw
namespace Mw
open PySem L2
open PyProof.Rows hiding St
mutual
def D.beq : D → D → Bool
  | .non, .non => true
  | .bl a, .bl b => a == b
  | .int a, .int b => decide (a = b)
  | .str a, .str b => decide (a = b)
  | .tup a, .tup b => beqs a b
  | .ref a, .ref b => decide (a = b)
  | .scr a, .scr b => decide (a = b)
  | _, _ => false
def beqs : List D → List D → Bool
  | [], [] => true
  | a :: r, b :: s => D.beq a b && beqs r s
  | _, _ => false
end
mutual
theorem D.beq_eq : ∀ {a b : D}, D.beq a b = true → a = b
  | .non, b, h => by cases b <;> first | rfl | (unfold D.beq at h; cases h)
  | .bl a, b, h => by
    cases b <;> first | (unfold D.beq at h; cases h; done) | skip
    unfold D.beq at h
    rw [eq_of_beq h]
  | .int a, b, h => by
    cases b <;> first | (unfold D.beq at h; cases h; done) | skip
    unfold D.beq at h
    rw [of_decide_eq_true h]
  | .str a, b, h => by
    cases b <;> first | (unfold D.beq at h; cases h; done) | skip
    unfold D.beq at h
    rw [of_decide_eq_true h]
  | .tup a, b, h => by
    cases b <;> first | (unfold D.beq at h; cases h; done) | skip
    unfold D.beq at h
    rw [beqs_eq h]
  | .ref a, b, h => by
    cases b <;> first | (unfold D.beq at h; cases h; done) | skip
    unfold D.beq at h
    rw [of_decide_eq_true h]
  | .scr a, b, h => by
    cases b <;> first | (unfold D.beq at h; cases h; done) | skip
    unfold D.beq at h
    rw [of_decide_eq_true h]
theorem beqs_eq : ∀ {a b : List D}, beqs a b = true → a = b
  | [], b, h => by cases b <;> first | rfl | (unfold beqs at h; cases h)
  | x :: r, b, h => by
    cases b with
    | nil => unfold beqs at h; cases h
    | cons y s =>
      unfold beqs at h
      rw [Bool.and_eq_true] at h
      rw [D.beq_eq h.1, beqs_eq h.2]
end
mutual
theorem D.beq_self : ∀ a : D, D.beq a a = true
  | .non => by unfold D.beq; rfl
  | .bl a => by unfold D.beq; exact beq_self_eq_true a
  | .int a => by unfold D.beq; exact decide_eq_true rfl
  | .str a => by unfold D.beq; exact decide_eq_true rfl
  | .tup a => by unfold D.beq; exact beqs_self a
  | .ref a => by unfold D.beq; exact decide_eq_true rfl
  | .scr a => by unfold D.beq; exact decide_eq_true rfl
theorem beqs_self : ∀ a : List D, beqs a a = true
  | [] => by unfold beqs; rfl
  | x :: r => by unfold beqs; rw [D.beq_self x, beqs_self r]; rfl
end
/-- the items, and the list (a place of the plain heap) that is not to change meanwhile -/
structure Src where
  ds : List D
  at_ : Option Nat
def Src.still (s : Src) (G : Gp) : Bool := match s.at_ with
  | none => true
  | some n => (match G[n]? with
    | some (.lst ds) => beqs ds s.ds
    | _ => false)
theorem Src.still_none {ds : List D} {G : Gp} : (Src.mk ds none).still G = true := rfl
theorem Src.still_some {ds : List D} {n : Nat} {G : Gp} (h : G[n]? = some (.lst ds)) : (Src.mk ds (some n)).still G = true := by
  show (match G[n]? with
    | some (.lst es) => beqs es ds
    | _ => false) = true
  rw [h]
  exact beqs_self ds
structure ItM (K : PySem.W.Frag) (p : List Addr) (H : Hp) (J : It) (s : Src) : Prop where
  stop : ∀ q G H', p <+: q → Tu H H' → Rel K q G H' → s.still G = true → J.stop s.ds.length H'
  go : ∀ (i : Nat) (d : D) q G H', p <+: q → Tu H H' → Rel K q G H' → s.still G = true → s.ds[i]? = some d → J.go i H' ∧ ∀ x H2, J.yld i H' x H2 → Tu H' H2 ∧ Rel K q G H2 ∧ Den K q H2 x d
theorem ItM.later {K : PySem.W.Frag} {p q : List Addr} {H H' : Hp} {J : It} {s : Src} (h : ItM K p H J s) (pr : p <+: q) (t : Tu H H') : ItM K q H' J s :=
  ⟨fun q2 G H2 p2 t2 => h.stop q2 G H2 (pr.trans p2) (t.trans t2), fun i d q2 G H2 p2 t2 => h.go i d q2 G H2 (pr.trans p2) (t.trans t2)⟩
abbrev MI0 := En → Gp → R Src
def tI (K : PySem.W.Frag) (W : WX) (m : MI0) : TI := fun σ H Q => ∃ p G e, Rel K p G H ∧ Envs K p H σ e ∧ Co K W σ p H (fun q H' J s => ItM K q H' J s ∧ ∃ G', Rel K q G' H' ∧ s.still G' = true) (m e G) Q
/-- as above; what is left of the heap -/
def CoI (K : PySem.W.Frag) (W : WX) (σ : St) (p : List Addr) (H : Hp) (r : R Src) (Q : It → Hp → Prop) : Prop := match r with
  | .ok s G => s.still G = true ∧ ∀ q H' J, p <+: q → Tu H H' → Rel K q G H' → ItM K q H' J s → Q J H'
  | .exc c G => ∀ q H', p <+: q → Tu H H' → Rel K q G H' → W (.ref (He.ga K (xname c))) none σ H'
  | .bad => False
def tIt (K : PySem.W.Frag) (W : WX) (m : MI0) : TI := fun σ H Q => ∃ p G e, Rel K p G H ∧ Envs K p H σ e ∧ CoI K W σ p H (m e G) Q
def SI (X : Cx) (W : WX) (tg iter : Expr) (m : MI0) : Prop := PI X tg iter (tIt X.K W m)
theorem CoI.later {K : PySem.W.Frag} {W : WX} {σ : St} {p q : List Addr} {H H' : Hp} {r : R Src} {Q : It → Hp → Prop} (h : CoI K W σ p H r Q) (pr : p <+: q) (t : Tu H H') : CoI K W σ q H' r Q := by
  cases r with
  | ok d G => exact ⟨h.1, fun q2 H2 v p2 t2 => h.2 q2 H2 v (pr.trans p2) (t.trans t2)⟩
  | exc c G => exact fun q2 H2 p2 t2 => h q2 H2 (pr.trans p2) (t.trans t2)
  | bad => exact h
theorem CoI.bind {α β : Type} {K : PySem.W.Frag} {W : WX} {σ : St} {p : List Addr} {H : Hp} {rel : List Addr → Hp → β → α → Prop} {r : R α} {f : α → Gp → R Src} {Q : It → Hp → Prop} {P : β → Hp → Prop} (h : CoI K W σ p H (r.bind f) Q)
    (k : ∀ d G1 q H1 v, p <+: q → Tu H H1 → Rel K q G1 H1 → rel q H1 v d → CoI K W σ q H1 (f d G1) Q → P v H1) : Co K W σ p H rel r P := by
  cases r with
  | ok d G => exact fun q H1 v pr t rl rv => k d G q H1 v pr t rl rv (CoI.later (r := f d G) h pr t)
  | exc c G => exact h
  | bad => exact h
theorem pi_imp {X : Cx} {tg e : Expr} {t t' : TI} (h : PI X tg e t) (k : ∀ σ H Q, t' σ H Q → t σ H Q) : PI X tg e t' := ⟨fun pins s σ H Q I q => h.run pins s σ H Q I (k σ H Q q)⟩
theorem pi_or {X : Cx} {tg e : Expr} {t t' : TI} (h : PI X tg e t) (h' : PI X tg e t') : PI X tg e (fun σ H Q => t σ H Q ∨ t' σ H Q) := ⟨fun pins s σ H Q I q => q.elim (h.run pins s σ H Q I) (h'.run pins s σ H Q I)⟩
def chars (x : Str) : List D := x.cps.toList.map fun c => D.str ⟨#[c]⟩
/-- what a value is walked as -/
def dSrc (x : D) (G : Gp) : R Src := match x with
  | .tup ds => .ok ⟨ds, none⟩ G
  | .str x => .ok ⟨chars x, none⟩ G
  | .ref n => (match G[n]? with
    | some (.lst ds) => .ok ⟨ds, some n⟩ G
    | _ => .bad)
  | _ => .bad
@[simp] def miVal (a : ME0) : MI0 := fun e G => (a e G).bind fun x G => dSrc x G
def rangeD (i : Int) (n : Nat) : List D := (List.range n).map fun (k : Nat) => D.int (i + (k : Int))
@[simp] def miRange1 (m : MA0) : MI0 := fun e G => (m e G).bind fun ds G => match ds with
  | [.int j] => if -100000 < j ∧ j < 100000 then .ok ⟨rangeD 0 j.toNat, none⟩ G else .bad
  | _ => .bad
@[simp] def miRange2 (m : MA0) : MI0 := fun e G => (m e G).bind fun ds G => match ds with
  | [.int i, .int j] => if -100000 < i ∧ i < 100000 ∧ -100000 < j ∧ j < 100000 then .ok ⟨rangeD i (j - i).toNat, none⟩ G else .bad
  | _ => .bad
section
variable {X : Cx} {W : WX} {a b c tg : Expr} {es : List Expr} {ma mb mc : ME0} {m : MA0} {pos : Pos}
theorem CoI.here {K : PySem.W.Frag} {σ : St} {p : List Addr} {H : Hp} {s : Src} {G : Gp} {J : It} {Q : It → Hp → Prop} (h : CoI K W σ p H (.ok s G) Q) (rl : Rel K p G H) (j : ItM K p H J s) : Q J H := h.2 p H J (List.prefix_refl p) (Tu.refl H) rl j
theorem still_ref {K : PySem.W.Frag} {q : List Addr} {n : Nat} {ds : List D} {G : Gp} (h : (Src.mk ds (some n)).still G = true) : G[n]? = some (.lst ds) := by
  unfold Src.still at h
  dsimp only at h
  split at h
  · rename_i g
    rw [g, beqs_eq h]
  · cases h
theorem sqL_inj {H : Hp} {K : PySem.W.Frag} {a : Addr} {xs ys : List V} (h : H a = some (.lst xs)) : SqL K H a xs := .inl (.inl h)
theorem si_val (ha : SE X W a ma) : SI X W tg a (miVal ma) := by
  refine pi_imp (pi_or (pi_or (pi_tup ha) (pi_list ha)) (pi_str ha)) fun σ H Q ⟨p, G, e, rl, ev, h⟩ => ?_
  have h' : CoI X.K W σ p H ((ma e G).bind fun x G => dSrc x G) Q := h
  cases hm : ma e G with
  | bad => rw [hm] at h'; exact h'.elim
  | exc c G1 => exact .inl (.inl ⟨p, G, e, rl, ev, by rw [hm] at h' ⊢; exact h'⟩)
  | ok x G1 =>
    rw [hm, R.bind_ok] at h'
    have go : ∀ {P : V → Hp → Prop}, (∀ q H1 v, p <+: q → Tu H H1 → Rel X.K q G1 H1 → Den X.K q H1 v x → P v H1) → tE X.K W ma σ H P := fun k => ⟨p, G, e, rl, ev, by rw [hm]; exact k⟩
    have nk : ∀ q H1, p <+: q → Tu H H1 → CoI X.K W σ q H1 (dSrc x G1) Q := fun q H1 pr t => CoI.later h' pr t
    cases x with
    | tup ds =>
      refine .inl (.inl (go fun q H1 v pr t r1 dv => ?_))
      obtain ⟨b, vs, rfl, hb, hxs⟩ := inv_tup dv
      refine ⟨b, rfl, ⟨vs, .inl (.inl hb)⟩, (nk q H1 pr t).here r1 ⟨fun q2 G2 H2 p2 t2 r2 _ => ⟨vs, .inl (.inl (t2 _ _ hb trivial)), by rw [hxs.length]; exact Nat.le_refl _⟩, fun i d q2 G2 H2 p2 t2 r2 _ hd => ?_⟩⟩
      have hb2 : H2 b = some (.tup vs) := t2 _ _ hb trivial
      obtain ⟨w, hw, dw⟩ := (hxs.mono t2 p2).get hd
      refine ⟨⟨vs, w, .inl (.inl hb2), hw⟩, fun y H3 hy => ?_⟩
      obtain ⟨rfl, hy⟩ := hy
      have := hy vs (.inl (.inl hb2))
      rw [hw] at this
      cases this
      exact ⟨Tu.refl _, r2, dw⟩
    | str z =>
      refine .inr (go fun q H1 v pr t r1 dv => ?_)
      cases inv_str dv
      have hl : (chars z).length = z.cps.size := by unfold chars; rw [List.length_map]; exact Array.length_toList
      refine ⟨z, rfl, (nk q H1 pr t).here r1 ⟨fun q2 G2 H2 p2 t2 r2 _ => by show z.cps.size ≤ (chars z).length; rw [hl]; exact Nat.le_refl _, fun i d q2 G2 H2 p2 t2 r2 _ hd => ?_⟩⟩
      have hd' : (chars z)[i]? = some d := hd
      unfold chars at hd'
      rw [List.getElem?_map] at hd'
      cases hc : z.cps.toList[i]? with
      | none => rw [hc] at hd'; cases hd'
      | some k =>
        rw [hc] at hd'
        cases hd'
        have hk : z.cps[i]? = some k := by rw [← Array.getElem?_toList]; exact hc
        refine ⟨by show i < z.cps.size; exact (Array.getElem?_eq_some_iff.mp hk).1, fun y H3 hy => ?_⟩
        obtain ⟨rfl, k', hk', rfl⟩ := hy
        rw [hk] at hk'
        cases hk'
        exact ⟨Tu.refl _, r2, .str _⟩
    | ref n =>
      refine .inl (.inr (go fun q H1 v pr t r1 dv => ?_))
      have nk' := nk q H1 pr t
      cases g : G1[n]? with
      | none =>
        rw [show dSrc (.ref n) G1 = .bad by show (match G1[n]? with | some (.lst ds) => (.ok ⟨ds, some n⟩ G1 : R Src) | _ => .bad) = .bad; rw [g]] at nk'
        exact nk'.elim
      | some o =>
        cases o with
        | dct _ =>
          rw [show dSrc (.ref n) G1 = .bad by show (match G1[n]? with | some (.lst ds) => (.ok ⟨ds, some n⟩ G1 : R Src) | _ => .bad) = .bad; rw [g]] at nk'
          exact nk'.elim
        | ins _ =>
          rw [show dSrc (.ref n) G1 = .bad by show (match G1[n]? with | some (.lst ds) => (.ok ⟨ds, some n⟩ G1 : R Src) | _ => .bad) = .bad; rw [g]] at nk'
          exact nk'.elim
        | lst ds =>
          rw [show dSrc (.ref n) G1 = .ok ⟨ds, some n⟩ G1 by show (match G1[n]? with | some (.lst ds) => (.ok ⟨ds, some n⟩ G1 : R Src) | _ => .bad) = _; rw [g]] at nk'
          obtain ⟨b, rfl, hb⟩ := inv_ref dv
          obtain ⟨vs, hl, hxs⟩ := r1.lst hb g
          refine ⟨b, rfl, ⟨vs, .inl (.inl hl)⟩, nk'.here r1 ⟨fun q2 G2 H2 p2 t2 r2 st => ?_, fun i d q2 G2 H2 p2 t2 r2 st hd => ?_⟩⟩
          · obtain ⟨ws, hl2, hx2⟩ := r2.lst (pre_get p2 hb) (still_ref (K := X.K) (q := q2) st)
            exact ⟨ws, .inl (.inl hl2), by rw [hx2.length]; exact Nat.le_refl _⟩
          · obtain ⟨ws, hl2, hx2⟩ := r2.lst (pre_get p2 hb) (still_ref (K := X.K) (q := q2) st)
            obtain ⟨w, hw, dw⟩ := hx2.get hd
            refine ⟨⟨ws, w, .inl (.inl hl2), hw⟩, fun y H3 hy => ?_⟩
            obtain ⟨rfl, hy⟩ := hy
            have := hy ws (.inl (.inl hl2))
            rw [hw] at this
            cases this
            exact ⟨Tu.refl _, r2, dw⟩
    | non => exact h'.elim
    | bl _ => exact h'.elim
    | int _ => exact h'.elim
    | scr _ => exact h'.elim
theorem itr_m {K : PySem.W.Frag} {p : List Addr} {H : Hp} {lo : Int} {n : Nat} : ItM K p H (Itr lo n) ⟨rangeD lo n, none⟩ := by
  refine ⟨fun q G H' pr t r _ => by show n ≤ (rangeD lo n).length; unfold rangeD; rw [List.length_map, List.length_range]; exact Nat.le_refl _, fun i d q G H' pr t r _ hd => ?_⟩
  have hd' : (rangeD lo n)[i]? = some d := hd
  unfold rangeD at hd'
  rw [List.getElem?_map] at hd'
  cases hc : (List.range n)[i]? with
  | none => rw [hc] at hd'; cases hd'
  | some k =>
    rw [hc] at hd'
    cases hd'
    obtain ⟨h1, h2⟩ := List.getElem?_eq_some_iff.mp hc
    rw [List.getElem_range] at h2
    subst h2
    rw [List.length_range] at h1
    refine ⟨h1, fun x H2 hy => ?_⟩
    obtain ⟨rfl, rfl⟩ := hy
    exact ⟨Tu.refl _, r, .int _⟩
theorem si_range1 {p0 : Pos} (hg : Gl X "range") (hm : X.mg "range" = none) (ha : SA X W [a] m) (hs : starEach [a] X.env = [(false, eval a X.env)]) : SI X W tg (.Call (.Name "range" p0) [a] [] pos) (miRange1 m) := by
  refine pi_imp (pi_range1 hg hm ha hs) fun σ H Q ⟨p, G, e, rl, ev, h⟩ => ?_
  refine ⟨p, G, e, rl, ev, CoI.bind (r := m e G) h fun ds G1 q H1 vs pr t r1 dv h1 => ?_⟩
  split at h1
  · split at h1
    · rename_i j hj
      obtain ⟨v, rfl, d1⟩ := inv1 dv
      cases inv_int d1
      exact ⟨j, rfl, by omega, by omega, h1.here r1 itr_m⟩
    · exact h1.elim
  · exact h1.elim
theorem si_range2 {p0 : Pos} (hg : Gl X "range") (hm : X.mg "range" = none) (ha : SA X W [a, b] m) (hs : starEach [a, b] X.env = [(false, eval a X.env), (false, eval b X.env)]) (hs2 : starEach [b] X.env = [(false, eval b X.env)]) : SI X W tg (.Call (.Name "range" p0) [a, b] [] pos) (miRange2 m) := by
  refine pi_imp (pi_range2 hg hm ha hs hs2) fun σ H Q ⟨p, G, e, rl, ev, h⟩ => ?_
  refine ⟨p, G, e, rl, ev, CoI.bind (r := m e G) h fun ds G1 q H1 vs pr t r1 dv h1 => ?_⟩
  split at h1
  · split at h1
    · rename_i i j hj
      obtain ⟨v, w, rfl, d1, d2⟩ := inv2 dv
      cases inv_int d1
      cases inv_int d2
      exact ⟨i, j, rfl, by omega, h1.here r1 itr_m⟩
    · exact h1.elim
  · exact h1.elim
inductive Tg where
  | nm (i : Nat) | tp (is : List Nat)
@[simp] def setAll : List Nat → List D → En → Option En
  | [], [], e => some e
  | i :: is, d :: ds, e => setAll is ds (e.set i (some d))
  | _, _, _ => none
@[simp] def Tg.set : Tg → D → En → Option En
  | .nm i, d, e => some (e.set i (some d))
  | .tp is, .tup ds, e => setAll is ds e
  | .tp _, _, _ => none
theorem wipe_get (σ : St) (i : Nat) : ∀ vs : List Nat, (L2.wipe σ vs)[i]? = if i ∈ vs then (σ[i]?).map (fun _ => none) else σ[i]?
  | [] => by rw [if_neg (by simp)]; rfl
  | v :: vs => by
    show ((L2.wipe σ vs).set v none)[i]? = _
    by_cases h : i = v
    · subst h
      rw [if_pos (by simp)]
      by_cases hl : i < σ.length
      · rw [List.getElem?_set_self (by rw [L2.wipe_length]; exact hl), List.getElem?_eq_getElem hl]
        rfl
      · rw [List.getElem?_eq_none (by rw [List.length_set, L2.wipe_length]; omega), List.getElem?_eq_none (by omega)]
        rfl
    · rw [List.getElem?_set_ne (Ne.symm h), wipe_get σ i vs]
      simp [h]
theorem wipe_set {σ : St} {i : Nat} {x : Option V} {vs : List Nat} (h : i ∈ vs) : L2.wipe (σ.set i x) vs = L2.wipe σ vs := by
  apply List.ext_getElem?
  intro j
  rw [wipe_get, wipe_get]
  by_cases hj : j = i
  · subst hj
    rw [if_pos h, if_pos h]
    by_cases hl : j < σ.length
    · rw [List.getElem?_set_self hl, List.getElem?_eq_getElem hl]
      rfl
    · rw [List.getElem?_eq_none (by rw [List.length_set]; omega), List.getElem?_eq_none (by omega)]
  · rw [List.getElem?_set_ne (Ne.symm hj)]
theorem wipe_wipe (σ : St) (vs : List Nat) : L2.wipe (L2.wipe σ vs) vs = L2.wipe σ vs := by
  apply List.ext_getElem?
  intro j
  rw [wipe_get, wipe_get]
  split
  · rw [Option.map_map]; rfl
  · rfl
def Tg.slots : Tg → List Nat
  | .nm i => [i]
  | .tp is => is
/-- a target stores -/
def GoT (K : PySem.W.Frag) (g : TG) (t : Tg) : Prop := ∀ (p : List Addr) (H : Hp) (σ : St) (e e' : En) (v : V) (d : D) (Q : St → Hp → Prop), Envs K p H σ e → Den K p H v d → t.set d e = some e' →
  (∀ σ', Envs K p H σ' e' → (∀ vs, (∀ i ∈ t.slots, i ∈ vs) → L2.wipe σ' vs = L2.wipe σ vs) → Q σ' H) → g v σ H Q
theorem got_name {K : PySem.W.Frag} {i : Nat} : GoT K (gName i) (.nm i) := fun p H σ e e' v d Q ev dv h k => by
  cases h
  exact k _ (ev.set dv) fun vs hv => wipe_set (hv i (by simp [Tg.slots]))
def gAll : List Nat → TGs
  | [] => gNil
  | i :: is => gCons (gName i) (gAll is)
theorem got_all {K : PySem.W.Frag} : ∀ (is : List Nat) (p : List Addr) (H : Hp) (σ : St) (e e' : En) (vs : List V) (ds : List D) (Q : St → Hp → Prop), Envs K p H σ e → Dens K p H vs ds → setAll is ds e = some e' →
    (∀ σ', Envs K p H σ' e' → (∀ vs, (∀ i ∈ is, i ∈ vs) → L2.wipe σ' vs = L2.wipe σ vs) → Q σ' H) → gAll is vs σ H Q
  | [], p, H, σ, e, e', vs, ds, Q, ev, dv, h, k => by
    cases dv with
    | nil => cases h; exact ⟨rfl, k σ ev fun _ _ => rfl⟩
    | cons _ _ => cases h
  | i :: is, p, H, σ, e, e', vs, ds, Q, ev, dv, h, k => by
    cases dv with
    | nil => cases h
    | cons d1 d2 => exact ⟨_, _, rfl, got_all is p H _ _ e' _ _ Q (ev.set d1) d2 h fun σ' ev' hw => k σ' ev' fun vs hv => (hw vs fun j hj => hv j (List.mem_cons_of_mem _ hj)).trans (wipe_set (hv i (by simp)))⟩
theorem setAll_len : ∀ {is : List Nat} {ds : List D} {e e' : En}, setAll is ds e = some e' → is.length = ds.length
  | [], [], _, _, _ => rfl
  | [], _ :: _, _, _, h => by cases h
  | _ :: _, [], _, _, h => by cases h
  | i :: is, d :: ds, e, e', h => by rw [List.length_cons, List.length_cons, setAll_len (is := is) (ds := ds) h]
theorem got_tup {K : PySem.W.Frag} {is : List Nat} {n : Nat} (hn : n = is.length) : GoT K (gTup K n (gAll is)) (.tp is) := fun p H σ e e' v d Q ev dv h k => by
  cases d with
  | tup ds =>
    obtain ⟨a, vs, rfl, ha, hxs⟩ := inv_tup dv
    exact ⟨a, vs, rfl, .inl (.inl ha), by rw [hxs.length, hn]; exact (setAll_len h).symm, got_all is p H σ e e' vs ds Q ev hxs h k⟩
  | _ => cases h
abbrev MS0 := En → Gp → SR
def forGo (t : Tg) (b : MS0) (s : Src) : List D → MS0
  | [] => fun e G => .nx e G
  | d :: ds => fun e G => match t.set d e with
    | none => .bad
    | some e1 => (match b e1 G with
      | .nx e2 G2 => if s.still G2 = true then forGo t b s ds e2 G2 else .bad
      | .ct e2 G2 => if s.still G2 = true then forGo t b s ds e2 G2 else .bad
      | .bk e2 G2 => .nx e2 G2
      | .rt d G2 => .rt d G2
      | .exc c e2 G2 => .exc c e2 G2
      | .bad => .bad)
def mFor (t : Tg) (it : MI0) (b : MS0) : MS0 := fun e G => match it e G with
  | .ok s G1 => if s.still G1 = true then forGo t b s s.ds e G1 else .bad
  | .exc c G1 => .exc c e G1
  | .bad => .bad
/-- what is wanted of a statement's result -/
def CoS (K : PySem.W.Frag) (W : WX) (p : List Addr) (H : Hp) (r : SR) (D : Ends) : Prop := match r with
  | .nx e' G' => ∀ q σ' H', p <+: q → Tu H H' → Rel K q G' H' → Envs K q H' σ' e' → D.nx σ' H'
  | .rt d G' => ∀ q H' v, p <+: q → Tu H H' → Rel K q G' H' → Den K q H' v d → D.rt v H'
  | .bk e' G' => ∀ q σ' H', p <+: q → Tu H H' → Rel K q G' H' → Envs K q H' σ' e' → D.bk σ' H'
  | .ct e' G' => ∀ q σ' H', p <+: q → Tu H H' → Rel K q G' H' → Envs K q H' σ' e' → D.ct σ' H'
  | .exc c e' G' => ∀ q σ' H', p <+: q → Tu H H' → Rel K q G' H' → Envs K q H' σ' e' → W (.ref (He.ga K (xname c))) none σ' H'
  | .bad => False
theorem CoS.later {K : PySem.W.Frag} {p q : List Addr} {H H' : Hp} {r : SR} {D : Ends} (h : CoS K W p H r D) (pr : p <+: q) (t : Tu H H') : CoS K W q H' r D := by
  cases r with
  | nx e G => exact fun q2 s2 H2 p2 t2 => h q2 s2 H2 (pr.trans p2) (t.trans t2)
  | rt e G => exact fun q2 H2 s2 p2 t2 => h q2 H2 s2 (pr.trans p2) (t.trans t2)
  | bk e G => exact fun q2 s2 H2 p2 t2 => h q2 s2 H2 (pr.trans p2) (t.trans t2)
  | ct e G => exact fun q2 s2 H2 p2 t2 => h q2 s2 H2 (pr.trans p2) (t.trans t2)
  | exc c e G => exact fun q2 s2 H2 p2 t2 => h q2 s2 H2 (pr.trans p2) (t.trans t2)
  | bad => exact h
theorem tS_iff {K : PySem.W.Frag} {m : MS0} {D : Ends} {σ : St} {H : Hp} : tS K W m D σ H ↔ ∃ p G e, Rel K p G H ∧ Envs K p H σ e ∧ CoS K W p H (m e G) D := Iff.rfl
theorem ss_for {body : List Stmt} {t : Tg} {g : TG} {it : MI0} {mb : MS0} (hp : PassesOwn (model X.prog X.w) X.A X.env X.xe) (hc : X.calm = true) (hi : SI X W tg a it) (hg : PG X tg g) (ht : GoT X.K g t) (hb : SB X W body mb)
    (hs : ∀ x, foldedSetIterable a X.env x = pure x) : SS X W (.For tg a body [] pos) (mFor t it mb) := by
  refine ps_imp (ps_for hp hc hi hg hb hs) fun D σ H ⟨p, G, e, rl, ev, h⟩ => ?_
  have h' : CoS X.K W p H (mFor t it mb e G) D := h
  refine ⟨p, G, e, rl, ev, ?_⟩
  unfold mFor at h'
  cases hm : it e G with
  | bad => rw [hm] at h'; exact h'
  | exc c G1 =>
    rw [hm] at h'
    exact fun q H1 pr t1 r1 => h' q σ H1 pr t1 r1 (ev.mono t1 pr)
  | ok s G1 =>
    rw [hm] at h'
    dsimp only at h'
    split at h'
    · rename_i hst
      refine ⟨hst, fun q1 H1 J pr1 t1 r1 jm => ?_⟩
      refine ⟨fun i m' σ' H' => m' = s.ds.length - i ∧ i ≤ s.ds.length ∧ ∃ q G2 e2, q1 <+: q ∧ Tu H1 H' ∧ Rel X.K q G2 H' ∧ Envs X.K q H' σ' e2 ∧ s.still G2 = true ∧ CoS X.K W q H' (forGo t mb s (s.ds.drop i) e2 G2) D,
        ⟨s.ds.length, by omega, Nat.zero_le _, q1, G1, e, List.prefix_refl _, Tu.refl _, r1, ev.mono t1 pr1, hst, h'.later pr1 t1⟩, ?_⟩
      rintro i m' σ' H' ⟨rfl, hi', q, G2, e2, pr2, t2, r2, ev2, st2, c2⟩
      by_cases hlt : i < s.ds.length
      · have hd : s.ds[i]? = some s.ds[i] := List.getElem?_eq_getElem hlt
        have hdr : s.ds.drop i = s.ds[i] :: s.ds.drop (i + 1) := List.drop_eq_getElem_cons hlt
        rw [hdr] at c2
        unfold forGo at c2
        cases hset : t.set s.ds[i] e2 with
        | none => rw [hset] at c2; exact c2.elim
        | some e1 =>
          rw [hset] at c2
          obtain ⟨jg, jy⟩ := jm.go i _ q G2 H' pr2 t2 r2 st2 hd
          refine .inr ⟨jg, fun σ3 H3 => ∃ q3 G3 e3, q1 <+: q3 ∧ Tu H1 H3 ∧ Rel X.K q3 G3 H3 ∧ Envs X.K q3 H3 σ3 e3 ∧ s.still G3 = true ∧ CoS X.K W q3 H3 (forGo t mb s (s.ds.drop (i + 1)) e3 G3) D, fun σ3 H3 h3 => ⟨s.ds.length - (i + 1), by omega, rfl, hlt, h3⟩, fun x H3 hy => ?_⟩
          obtain ⟨t3, r3, dx⟩ := jy x H3 hy
          refine ht q H3 σ' e2 e1 x _ _ (ev2.mono t3 (List.prefix_refl _)) dx hset fun σ4 ev4 _ => ?_
          refine ⟨q, G2, e1, r3, ev4, ?_⟩
          dsimp only at c2
          have c3 := CoS.later (W := W) c2 (List.prefix_refl q) t3
          show CoS X.K W q H3 (mb e1 G2) _
          cases hb2 : mb e1 G2 with
          | nx e5 G5 =>
            rw [hb2] at c3
            dsimp only at c3
            split at c3
            · rename_i st5
              exact fun q5 σ5 H5 p5 t5 r5 ev5 => ⟨q5, G5, e5, pr2.trans p5, (t2.trans t3).trans t5, r5, ev5, st5, c3.later p5 t5⟩
            · exact c3.elim
          | ct e5 G5 =>
            rw [hb2] at c3
            dsimp only at c3
            split at c3
            · rename_i st5
              exact fun q5 σ5 H5 p5 t5 r5 ev5 => ⟨q5, G5, e5, pr2.trans p5, (t2.trans t3).trans t5, r5, ev5, st5, c3.later p5 t5⟩
            · exact c3.elim
          | bk e5 G5 => rw [hb2] at c3; exact c3
          | rt d5 G5 => rw [hb2] at c3; exact c3
          | exc k5 e5 G5 => rw [hb2] at c3; exact c3
          | bad => rw [hb2] at c3; exact c3.elim
      · have e0 : i = s.ds.length := by omega
        subst e0
        rw [List.drop_length] at c2
        exact .inl ⟨jm.stop q G2 H' pr2 t2 r2 st2, c2 q σ' H' (List.prefix_refl _) (Tu.refl _) r2 ev2⟩
    · exact h'.elim
def whileGo (c : En → Gp → R Bool) (b : MS0) : Nat → MS0
  | 0 => fun _ _ => .bad
  | n + 1 => fun e G => match c e G with
    | .bad => .bad
    | .exc k G1 => .exc k e G1
    | .ok false G1 => .nx e G1
    | .ok true G1 => (match b e G1 with
      | .nx e2 G2 => whileGo c b n e2 G2
      | .ct e2 G2 => whileGo c b n e2 G2
      | .bk e2 G2 => .nx e2 G2
      | .rt d G2 => .rt d G2
      | .exc c e2 G2 => .exc c e2 G2
      | .bad => .bad)
theorem ss_while {body : List Stmt} {mc : En → Gp → R Bool} {mb : MS0} (n : Nat) (hp : PassesOwn (model X.prog X.w) X.A X.env X.xe) (hc : ST X W c mc) (hb : SB X W body mb) : SS X W (.While c body [] pos) (whileGo mc mb n) := by
  refine ps_imp (ps_while hp hc hb) fun D σ H ⟨p, G, e, rl, ev, h⟩ => ?_
  have h' : CoS X.K W p H (whileGo mc mb n e G) D := h
  refine ⟨fun m σ' H' => ∃ q G2 e2, p <+: q ∧ Tu H H' ∧ Rel X.K q G2 H' ∧ Envs X.K q H' σ' e2 ∧ CoS X.K W q H' (whileGo mc mb m e2 G2) D, ⟨n, p, G, e, List.prefix_refl _, Tu.refl _, rl, ev, h'⟩, ?_⟩
  rintro m σ' H' ⟨q, G2, e2, pr2, t2, r2, ev2, c2⟩
  cases m with
  | zero => exact c2.elim
  | succ m =>
    unfold whileGo at c2
    refine ⟨q, G2, e2, r2, ev2, ?_⟩
    cases hm : mc e2 G2 with
    | bad => rw [hm] at c2; exact c2
    | exc k G1 =>
      rw [hm] at c2
      exact fun q1 H1 pr t1 r1 => c2 q1 σ' H1 pr t1 r1 (ev2.mono t1 pr)
    | ok k G1 =>
      rw [hm] at c2
      intro q1 H1 k' p1 t1 r1 hk
      subst hk
      cases k' with
      | false => exact c2 q1 σ' H1 p1 t1 r1 (ev2.mono t1 p1)
      | true =>
        refine ⟨fun σ3 H3 => ∃ q3 G3 e3, p <+: q3 ∧ Tu H H3 ∧ Rel X.K q3 G3 H3 ∧ Envs X.K q3 H3 σ3 e3 ∧ CoS X.K W q3 H3 (whileGo mc mb m e3 G3) D, fun σ3 H3 h3 => ⟨m, Nat.lt_succ_self m, h3⟩, ?_⟩
        refine ⟨q1, G1, e2, r1, ev2.mono t1 p1, ?_⟩
        dsimp only at c2
        have c3 := CoS.later (W := W) c2 p1 t1
        show CoS X.K W q1 H1 (mb e2 G1) _
        cases hb2 : mb e2 G1 with
        | nx e5 G5 =>
          rw [hb2] at c3
          exact fun q5 σ5 H5 p5 t5 r5 ev5 => ⟨q5, G5, e5, (pr2.trans p1).trans p5, (t2.trans t1).trans t5, r5, ev5, CoS.later (W := W) c3 p5 t5⟩
        | ct e5 G5 =>
          rw [hb2] at c3
          exact fun q5 σ5 H5 p5 t5 r5 ev5 => ⟨q5, G5, e5, (pr2.trans p1).trans p5, (t2.trans t1).trans t5, r5, ev5, CoS.later (W := W) c3 p5 t5⟩
        | bk e5 G5 => rw [hb2] at c3; exact c3
        | rt d5 G5 => rw [hb2] at c3; exact c3
        | exc k5 e5 G5 => rw [hb2] at c3; exact c3
        | bad => rw [hb2] at c3; exact c3.elim
def wipeE (e : En) : List Nat → En
  | [] => e
  | v :: vs => (wipeE e vs).set v none
theorem Envs.wipe {K : PySem.W.Frag} {p : List Addr} {H : Hp} {σ : St} {e : En} (h : Envs K p H σ e) : ∀ vs : List Nat, Envs K p H (L2.wipe σ vs) (wipeE e vs)
  | [] => h
  | v :: vs => (Envs.wipe h vs).forget
def lcGo (t : Tg) (tst : En → Gp → R Bool) (elt : ME0) (s : Src) (n : Nat) (e : En) : List D → Gp → R D
  | [], G => .ok (.ref n) G
  | d :: ds, G => match t.set d e with
    | none => .bad
    | some e1 => (match tst e1 G with
      | .ok true G1 => (match elt e1 G1 with
        | .ok y G2 => (match G2[n]? with
          | some (.lst acc) => if acc.length < big ∧ s.still (G2.set n (.lst (acc ++ [y]))) = true then lcGo t tst elt s n e ds (G2.set n (.lst (acc ++ [y]))) else .bad
          | _ => .bad)
        | _ => .bad)
      | .ok false G1 => if s.still G1 = true then lcGo t tst elt s n e ds G1 else .bad
      | _ => .bad)
def mLc (t : Tg) (it : MI0) (tst : En → Gp → R Bool) (elt : ME0) (vs : List Nat) : ME0 := fun e G => match it e G with
  | .ok s G1 => if s.still G1 = true ∧ s.still (G1 ++ [.lst []]) = true then lcGo t tst elt s G1.length (wipeE e vs) s.ds (G1 ++ [.lst []]) else .bad
  | .exc c G1 => .exc c G1
  | .bad => .bad
abbrev W0 : WX := fun _ _ _ _ => False
/-- the reading of a comprehension -/
theorem read_lc {t : Tg} {g : TG} {it : MI0} {tst : En → Gp → R Bool} {elt : ME0} {vs : List Nat} {K : PySem.W.Frag} (ht : GoT K g t) (hsl : ∀ i ∈ t.slots, i ∈ vs) {σ : St} {H : Hp} {Q : VK} (h : tE K W (mLc t it tst elt vs) σ H Q) :
    tLc (tIt K W it) g (tT K W0 tst) (tE K W0 elt) vs σ H Q := by
  obtain ⟨p, G, e, rl, ev, h⟩ := h
  refine ⟨p, G, e, rl, ev, ?_⟩
  unfold mLc at h
  cases hm : it e G with
  | bad => rw [hm] at h; exact h
  | exc c G1 => rw [hm] at h; exact h
  | ok s G1 =>
    rw [hm] at h
    dsimp only at h
    split at h
    · rename_i hst
      refine ⟨hst.1, fun q1 H1 J pr1 t1 r1 jm D0 hD0 => ?_⟩
      have rn : Rel K (q1 ++ [D0]) (G1 ++ [.lst []]) (upd H1 D0 (.lst [])) := r1.new hD0 ⟨[], upd_same, .nil⟩
      have hn : (q1 ++ [D0])[G1.length]? = some D0 := by rw [← r1.len, List.getElem?_append_right (Nat.le_refl _), Nat.sub_self]; rfl
      have ew := (ev.mono t1 pr1).wipe vs
      refine ⟨fun i m' H' => m' = s.ds.length - i ∧ i ≤ s.ds.length ∧ ∃ q G2, q1 ++ [D0] <+: q ∧ Tu H1 H' ∧ Rel K q G2 H' ∧ s.still G2 = true ∧ Co K W σ q H' (Den K) (lcGo t tst elt s G1.length (wipeE e vs) (s.ds.drop i) G2) Q,
        ⟨s.ds.length, by omega, Nat.zero_le _, q1 ++ [D0], G1 ++ [.lst []], List.prefix_refl _, Tu.new hD0, rn, hst.2, h.later (pr1.trans (pre_app q1 D0)) (t1.trans (Tu.new hD0))⟩, ?_⟩
      rintro i m' H' ⟨rfl, hi', q, G2, pr2, t2, r2, st2, c2⟩
      have pq : q1 <+: q := (pre_app q1 D0).trans pr2
      by_cases hlt : i < s.ds.length
      · have hd : s.ds[i]? = some s.ds[i] := List.getElem?_eq_getElem hlt
        have hdr : s.ds.drop i = s.ds[i] :: s.ds.drop (i + 1) := List.drop_eq_getElem_cons hlt
        rw [hdr] at c2
        unfold lcGo at c2
        cases hset : t.set s.ds[i] (wipeE e vs) with
        | none => rw [hset] at c2; exact c2.elim
        | some e1 =>
          rw [hset] at c2
          dsimp only at c2
          obtain ⟨jg, jy⟩ := jm.go i _ q G2 H' pq t2 r2 st2 hd
          refine .inr ⟨jg, fun H3 => ∃ q3 G3, q1 ++ [D0] <+: q3 ∧ Tu H1 H3 ∧ Rel K q3 G3 H3 ∧ s.still G3 = true ∧ Co K W σ q3 H3 (Den K) (lcGo t tst elt s G1.length (wipeE e vs) (s.ds.drop (i + 1)) G3) Q, fun H3 h3 => ⟨s.ds.length - (i + 1), by omega, rfl, hlt, h3⟩, fun x H3 hy => ?_⟩
          obtain ⟨t3, r3, dx⟩ := jy x H3 hy
          refine ht q H3 _ (wipeE e vs) e1 x _ _ ((ew.mono t2 pq).mono t3 (List.prefix_refl _)) dx hset fun σ4 ev4 hw => ⟨(hw vs hsl).trans (wipe_wipe σ vs), ?_⟩
          refine ⟨q, G2, e1, r3, ev4, ?_⟩
          have c3 := Co.later c2 (List.prefix_refl q) t3
          cases hb2 : tst e1 G2 with
          | bad => rw [hb2] at c3; exact c3.elim
          | exc k5 G5 => rw [hb2] at c3; exact c3.elim
          | ok b5 G5 =>
            rw [hb2] at c3
            intro q5 H5 b' p5 t5 r5 hb'
            subst hb'
            cases b' with
            | false =>
              dsimp only at c3
              split at c3
              · rename_i st5
                exact ⟨q5, G5, pr2.trans p5, (t2.trans t3).trans t5, r5, st5, c3.later p5 t5⟩
              · exact c3.elim
            | true =>
              dsimp only at c3
              refine ⟨q5, G5, e1, r5, ev4.mono t5 p5, ?_⟩
              cases he2 : elt e1 G5 with
              | bad => rw [he2] at c3; exact c3.elim
              | exc k6 G6 => rw [he2] at c3; exact c3.elim
              | ok y G6 =>
                rw [he2] at c3
                dsimp only at c3
                intro q6 H6 v6 p6 t6 r6 dv6
                have hn6 : q6[G1.length]? = some D0 := pre_get ((pr2.trans p5).trans p6) hn
                cases g6 : G6[G1.length]? with
                | none => rw [g6] at c3; exact c3.elim
                | some o6 =>
                  rw [g6] at c3
                  cases o6 with
                  | dct _ => exact c3.elim
                  | ins _ => exact c3.elim
                  | lst acc =>
                    dsimp only at c3
                    split at c3
                    · rename_i st6
                      obtain ⟨ws, hl6, hx6⟩ := r6.lst hn6 g6
                      have tu6 : Tu H6 (upd H6 D0 (.lst (ws ++ [v6]))) := Tu.set hl6 id
                      refine ⟨ws, hl6, big_lt (by rw [hx6.length]; exact st6.1), q6, _, (pr2.trans p5).trans p6, ((((t2.trans t3).trans t5).trans t6).trans tu6), r6.set (o := .lst (acc ++ [y])) hn6 hl6 id ⟨_, upd_same, (hx6.append (.cons dv6 .nil)).mono tu6 (List.prefix_refl _)⟩, st6.2, Co.later c3 (p5.trans p6) ((t5.trans t6).trans tu6)⟩
                    · exact c3.elim
      · have e0 : i = s.ds.length := by omega
        subst e0
        rw [List.drop_length] at c2
        have c3 : Co K W σ q H' (Den K) (.ok (.ref G1.length) G2) Q := c2
        exact .inl ⟨jm.stop q G2 H' pq t2 r2 st2, c3.here r2 (.ref (pre_get pr2 hn))⟩
    · exact h.elim
def PTsM (X : Cx) (ifs : List Expr) (m : En → Gp → R Bool) : Prop := PTs X ifs (tT X.K W0 m)
def mYes : En → Gp → R Bool := fun _ G => .ok true G
theorem pts_imp {ifs : List Expr} {t t' : TT} (h : PTs X ifs t) (k : ∀ σ H Q, t' σ H Q → t σ H Q) : PTs X ifs t' := ⟨fun pins s σ H Q I q => h.run pins s σ H Q I (k σ H Q q)⟩
theorem ptm_nil : PTsM X [] mYes := pts_imp pts_nil fun σ H Q ⟨p, G, e, rl, ev, h⟩ => Co.here (d := true) (G := G) h rl rfl
theorem ptm_one {m : En → Gp → R Bool} (h : ST X W0 c m) : PTsM X [c] m := pts_one h
theorem se_lc {elt iter : Expr} {ifs : List Expr} {scope : Scope} {own : List (Str × Nat)} {t : Tg} {g : TG} {it : MI0} {tst : En → Gp → R Bool} {me : ME0} (hc : X.calm = true) (hN : X.N.Nodup) (hi : SI X W tg iter it) (ok : BlkOk X.N X.env.scope scope own)
    (hg : ∀ (s : Shared) (H : Hp) (C : Addr) (cl : List (Str × Addr)) (fp : List Addr), PG (X.blk s H scope (compEnvC scope cl C X.env) fp) tg g) (hgt : GoT X.K g t) (hsl : ∀ i ∈ t.slots, i ∈ own.map (·.2))
    (ht : ∀ (s : Shared) (H : Hp) (C : Addr) (cl : List (Str × Addr)) (fp : List Addr), PTsM (X.blk s H scope (compEnvC scope cl C X.env) fp) ifs tst)
    (he : ∀ (s : Shared) (H : Hp) (C : Addr) (cl : List (Str × Addr)) (fp : List Addr), SE (X.blk s H scope (compEnvC scope cl C X.env) fp) W0 elt me) (hs : ∀ x, foldedSetIterable iter X.env x = pure x) :
    SE X W (.ListComp elt [⟨tg, iter, ifs, 0⟩] scope pos) (mLc t it tst me (own.map (·.2))) :=
  pe_imp (pe_lc (tt := tT X.K W0 tst) (te := tE X.K W0 me) hc hN hi ok hg ht he hs) fun _ _ _ h => read_lc hgt hsl h
/-- x = [..] on one line -/
@[simp] def mAsg (t : Tg) (a : ME0) : MS0 := fun e G => match a e G with
  | .ok d G1 => (match t.set d e with
    | some e1 => .nx e1 G1
    | none => .bad)
  | .exc c G1 => .exc c e G1
  | .bad => .bad
theorem read_asg {K : PySem.W.Frag} {t : Tg} {g : TG} {te : TE} {D : Ends} {σ : St} {H : Hp} {m : ME0} (hgt : GoT K g t) (k : ∀ Q, tE K W m σ H Q → te σ H Q) (h : tS K W (mAsg t m) D σ H) : tAsg te g D σ H := by
  obtain ⟨p, G, e, rl, ev, h⟩ := h
  refine k _ ⟨p, G, e, rl, ev, ?_⟩
  have h' : CoS K W p H (mAsg t m e G) D := h
  unfold mAsg at h'
  cases hm : m e G with
  | bad => rw [hm] at h'; exact h'
  | exc c G1 => rw [hm] at h'; exact fun q H1 pr t1 r1 => h' q σ H1 pr t1 r1 (ev.mono t1 pr)
  | ok d G1 =>
    rw [hm] at h'
    dsimp only at h'
    intro q H1 v pr t1 r1 dv
    cases hs : t.set d e with
    | none => rw [hs] at h'; exact h'.elim
    | some e1 =>
      rw [hs] at h'
      exact hgt q H1 σ e e1 v d _ (ev.mono t1 pr) dv hs fun σ' ev' _ => h' q σ' H1 pr t1 r1 ev'
theorem ss_setLc {i : Nat} {y : Str} {py spos : Pos} {elt iter : Expr} {ifs : List Expr} {scope : Scope} {own : List (Str × Nat)} {t : Tg} {g : TG} {it : MI0} {tst : En → Gp → R Bool} {me : ME0} (hc : X.calm = true) (hN : X.N.Nodup) (hy : X.N[i]? = some y) (hyl : X.env.scope.names.lookup y = some .local)
    (hsw : swapsWith (.ListComp elt [⟨tg, iter, ifs, 0⟩] scope pos) (some (.Name y py)) spos.line X.env = pure true) (hi : SI X W tg iter it) (ok : BlkOk X.N X.env.scope scope own)
    (hg : ∀ (s : Shared) (H : Hp) (C : Addr) (cl : List (Str × Addr)) (fp : List Addr), PG (X.blk s H scope (compEnvC scope cl C X.env) fp) tg g) (hgt : GoT X.K g t) (hsl : ∀ i ∈ t.slots, i ∈ own.map (·.2))
    (ht : ∀ (s : Shared) (H : Hp) (C : Addr) (cl : List (Str × Addr)) (fp : List Addr), PTsM (X.blk s H scope (compEnvC scope cl C X.env) fp) ifs tst)
    (he : ∀ (s : Shared) (H : Hp) (C : Addr) (cl : List (Str × Addr)) (fp : List Addr), SE (X.blk s H scope (compEnvC scope cl C X.env) fp) W0 elt me) (hs : ∀ x, foldedSetIterable iter X.env x = pure x) :
    SS X W (.Assign [.Name y py] (.ListComp elt [⟨tg, iter, ifs, 0⟩] scope pos) spos) (mAsg (.nm i) (mLc t it tst me (own.map (·.2)))) :=
  ps_imp (ps_setLc (tt := tT X.K W0 tst) (te := tE X.K W0 me) hc hN hy hyl hsw hi ok hg ht he hs) fun D σ H h => read_asg got_name (fun Q q => read_lc hgt hsl q) h
end
end Mw
namespace Mw
open PySem L2
open PyProof.Rows hiding St
section
variable {X : Cx} {W : WX} {a b c o tg : Expr} {es : List Expr} {ma mb mc mo : ME0} {m : MA0} {pos : Pos}
theorem ss_asg {t : Tg} {g : TG} (ha : SE X W a ma) (hg : PG X tg g) (hgt : GoT X.K g t) (hs : swapsWithSole [tg] a pos.line X.env = pure false) (hw : swappedStores [tg] a X.env = pure none) (h1 : (assignEach [tg] X.env).map (·.2) = [assign tg X.env]) :
    SS X W (.Assign [tg] a pos) (mAsg t ma) := ps_imp (ps_asg ha hg hs hw h1) fun D σ H h => read_asg hgt (fun Q q => q) h
@[simp] def mDrop (a : ME0) : MS0 := fun e G => match a e G with
  | .ok _ G1 => .nx e G1
  | .exc c G1 => .exc c e G1
  | .bad => .bad
@[simp] def mRet (a : ME0) : MS0 := fun e G => match a e G with
  | .ok d G1 => .rt d G1
  | .exc c G1 => .exc c e G1
  | .bad => .bad
@[simp] def mRetN : MS0 := fun _ G => .rt .non G
@[simp] def mNext : MS0 := fun e G => .nx e G
@[simp] def mCont : MS0 := fun e G => .ct e G
@[simp] def mSeq (s t : MS0) : MS0 := fun e G => match s e G with
  | .nx e1 G1 => t e1 G1
  | r => r
@[simp] def mIfS (t : En → Gp → R Bool) (s u : MS0) : MS0 := fun e G => match t e G with
  | .ok true G1 => s e G1
  | .ok false G1 => u e G1
  | .exc c G1 => .exc c e G1
  | .bad => .bad
theorem ss_expr (ha : SE X W a ma) (hs : swapsWith a none pos.line X.env = pure false) : SS X W (.Expr a pos) (mDrop ma) := by
  refine ps_imp (ps_expr ha hs) fun D σ H ⟨p, G, e, rl, ev, h⟩ => ⟨p, G, e, rl, ev, ?_⟩
  have h' : CoS X.K W p H (mDrop ma e G) D := h
  unfold mDrop at h'
  cases hm : ma e G with
  | bad => rw [hm] at h'; exact h'
  | exc c G1 => rw [hm] at h'; exact fun q H1 pr t1 r1 => h' q σ H1 pr t1 r1 (ev.mono t1 pr)
  | ok d G1 => rw [hm] at h'; exact fun q H1 v pr t1 r1 _ => h' q σ H1 pr t1 r1 (ev.mono t1 pr)
theorem ss_ret (ha : SE X W a ma) : SS X W (.Return (some a) pos) (mRet ma) := by
  refine ps_imp (ps_ret ha) fun D σ H ⟨p, G, e, rl, ev, h⟩ => ⟨p, G, e, rl, ev, ?_⟩
  have h' : CoS X.K W p H (mRet ma e G) D := h
  unfold mRet at h'
  cases hm : ma e G with
  | bad => rw [hm] at h'; exact h'
  | exc c G1 => rw [hm] at h'; exact fun q H1 pr t1 r1 => h' q σ H1 pr t1 r1 (ev.mono t1 pr)
  | ok d G1 => rw [hm] at h'; exact fun q H1 v pr t1 r1 dv => h' q H1 v pr t1 r1 dv
theorem ss_retN : SS X W (.Return none pos) mRetN := ps_imp ps_retN fun D σ H ⟨p, G, e, rl, ev, h⟩ => h p H .non (List.prefix_refl _) (Tu.refl _) rl .non
theorem ss_pass : SS X W (.Pass pos) mNext := ps_imp ps_pass fun D σ H ⟨p, G, e, rl, ev, h⟩ => h p σ H (List.prefix_refl _) (Tu.refl _) rl ev
theorem ss_cont : SS X W (.Continue pos) mCont := ps_imp ps_continue fun D σ H ⟨p, G, e, rl, ev, h⟩ => h p σ H (List.prefix_refl _) (Tu.refl _) rl ev
theorem sb_nil : SB X W [] mNext := pss_imp pss_nil fun D σ H ⟨p, G, e, rl, ev, h⟩ => h p σ H (List.prefix_refl _) (Tu.refl _) rl ev
theorem sb_cons {st : Stmt} {rest : List Stmt} {ms mt : MS0} (h1 : SS X W st ms) (h2 : SB X W rest mt) : SB X W (st :: rest) (mSeq ms mt) := by
  refine pss_imp (pss_cons h1 h2) fun D σ H ⟨p, G, e, rl, ev, h⟩ => ⟨p, G, e, rl, ev, ?_⟩
  have h' : CoS X.K W p H (mSeq ms mt e G) D := h
  show CoS X.K W p H (ms e G) _
  unfold mSeq at h'
  cases hm : ms e G with
  | nx e1 G1 =>
    rw [hm] at h'
    exact fun q σ1 H1 pr t1 r1 ev1 => ⟨q, G1, e1, r1, ev1, CoS.later h' pr t1⟩
  | rt d G1 => rw [hm] at h'; exact h'
  | bk d G1 => rw [hm] at h'; exact h'
  | ct d G1 => rw [hm] at h'; exact h'
  | exc c d G1 => rw [hm] at h'; exact h'
  | bad => rw [hm] at h'; exact h'
theorem ss_if {tt : En → Gp → R Bool} {s u : List Stmt} {ms mu : MS0} (hc : ST X W c tt) (h1 : SB X W s ms) (h2 : SB X W u mu) : SS X W (.If c s u pos) (mIfS tt ms mu) := by
  refine ps_imp (ps_if hc h1 h2) fun D σ H ⟨p, G, e, rl, ev, h⟩ => ⟨p, G, e, rl, ev, ?_⟩
  have h' : CoS X.K W p H (mIfS tt ms mu e G) D := h
  unfold mIfS at h'
  cases hm : tt e G with
  | bad => rw [hm] at h'; exact h'
  | exc c G1 => rw [hm] at h'; exact fun q H1 pr t1 r1 => h' q σ H1 pr t1 r1 (ev.mono t1 pr)
  | ok k G1 =>
    rw [hm] at h'
    intro q H1 k' pr t1 r1 hk
    subst hk
    cases k' with
    | true => exact ⟨q, G1, e, r1, ev.mono t1 pr, CoS.later h' pr t1⟩
    | false => exact ⟨q, G1, e, r1, ev.mono t1 pr, CoS.later h' pr t1⟩
def dSet (o i v : D) (G : Gp) : Option Gp := match o with
  | .ref n => (match G[n]? with
    | some (.lst ds) => (match i with
      | .int k => (match ixN ds.length k with
        | some j => some (G.set n (.lst (ds.set j v)))
        | none => none)
      | _ => none)
    | some (.dct kvs) => (match keyD i with
      | some k => if kvs.length < big then some (G.set n (.dct (putD kvs k v))) else none
      | none => none)
    | _ => none)
  | _ => none
def mSetI (o i v : ME0) : MS0 := fun e G => match (v e G).bind fun z G => (o e G).bind fun x G => (i e G).bind fun y G => .ok (x, y, z) G with
  | .ok (x, y, z) G1 => (match dSet x y z G1 with
    | some G2 => .nx e G2
    | none => .bad)
  | .exc c G1 => .exc c e G1
  | .bad => .bad
def rSetD : V → V → V → Hp → (Hp → Prop) → Prop := fun o i v H Q => ∃ a H4, o = .ref a ∧ DPut H a i v H4 ∧ Q H4
theorem set_dct (hu : X.A.units + 1 < cLine) : PSet X rSetD := by
  intro pins s σ H o i v ov iv u Q I ro ri rv h
  obtain ⟨a, H4, rfl, g, q⟩ := h
  obtain rfl : ov = Value.ref a := ro
  exact d_setItem hu I g ri rv fun s4 I4 => ⟨H4, I4, q⟩
theorem PSet.or {t t' : TSet} (h : PSet X t) (h' : PSet X t') : PSet X (fun o i v H Q => t o i v H Q ∨ t' o i v H Q) := by
  intro pins s σ H o i v ov iv u Q I ro ri rv q
  rcases q with q | q
  · exact h pins s σ H o i v ov iv u Q I ro ri rv q
  · exact h' pins s σ H o i v ov iv u Q I ro ri rv q
theorem set_ok {K : PySem.W.Frag} {p : List Addr} {G G2 : Gp} {H : Hp} {o i v : V} {x y z : D} {Q : Hp → Prop} (r : Rel K p G H) (dx : Den K p H o x) (dy : Den K p H i y) (dz : Den K p H v z) (e : dSet x y z G = some G2)
    (k : ∀ H', Tu H H' → Rel K p G2 H' → Q H') : rSetL o i v H Q ∨ rSetD o i v H Q := by
  unfold dSet at e
  split at e
  · obtain ⟨a, rfl, ha⟩ := inv_ref dx
    split at e
    · rename_i g
      split at e
      · split at e
        · rename_i j hj
          cases e
          cases inv_int dy
          obtain ⟨vs, hl, hxs⟩ := r.lst ha g
          have tu : Tu H (upd H a (.lst (vs.set j v))) := Tu.set hl id
          exact .inl ⟨a, vs, _, j, rfl, rfl, hl, by rw [hxs.length]; exact hj, k _ tu (r.set (o := .lst _) ha hl id ⟨_, upd_same, (hxs.set dz j).mono tu (List.prefix_refl _)⟩)⟩
        · cases e
      · cases e
    · rename_i g
      split at e
      · rename_i kk hk
        split at e
        · rename_i hl0
          cases e
          cases den_key dy hk
          obtain ⟨vs, hl, hxs⟩ := r.dct ha g
          have tu : Tu H (upd H a (.dK (putK vs kk v))) := Tu.set hl id
          exact .inr ⟨a, _, rfl, DPut.k hl (by rw [kvs_len hxs]; exact big_lt hl0), k _ tu (r.set (o := .dct _) ha hl id ⟨_, upd_same, (kvs_put dz hxs).mono tu (List.prefix_refl _)⟩)⟩
        · cases e
      · cases e
    · cases e
  · cases e
theorem ss_setI {p2 : Pos} (hu : X.A.units + 65 < cLine) (ho : SE X W o mo) (hb : SE X W b mb) (ha : SE X W a ma) (has : ∀ v, assign (.Subscript o b p2) X.env v = (do
      let ov ← holding [v] (eval o X.env)
      let iv ← holding [v, ov] (eval b X.env)
      standAt p2
      holding [v, ov, iv] (setItem ov iv v)
      release [v, ov, iv] []))
    (hs : swapsWithSole [.Subscript o b p2] a pos.line X.env = pure false) (hw : swappedStores [.Subscript o b p2] a X.env = pure none) (h1 : (assignEach [.Subscript o b p2] X.env).map (·.2) = [assign (.Subscript o b p2) X.env]) :
    SS X W (.Assign [.Subscript o b p2] a pos) (mSetI mo mb ma) := by
  refine ps_imp (ps_asg ha (pg_sub ho hb (PSet.or set_list (set_dct (by omega))) has) hs hw h1) fun D σ H ⟨p, G, e, rl, ev, h⟩ => ⟨p, G, e, rl, ev, ?_⟩
  have h' : CoS X.K W p H (mSetI mo mb ma e G) D := h
  unfold mSetI at h'
  cases hm : ma e G with
  | bad => rw [hm] at h'; exact h'
  | exc c G1 => rw [hm] at h'; exact fun q H1 pr t1 r1 => h' q σ H1 pr t1 r1 (ev.mono t1 pr)
  | ok z G1 =>
    rw [hm, R.bind_ok] at h'
    intro q1 H1 v p1 t1 r1 dv
    refine ⟨q1, G1, e, r1, ev.mono t1 p1, ?_⟩
    cases hm2 : mo e G1 with
    | bad => rw [hm2] at h'; exact h'
    | exc c G2 => rw [hm2] at h'; exact fun q H2 pr t2 r2 => h' q σ H2 (p1.trans pr) (t1.trans t2) r2 ((ev.mono t1 p1).mono t2 pr)
    | ok x G2 =>
      rw [hm2, R.bind_ok] at h'
      intro q2 H2 w p2 t2 r2 dw
      refine ⟨q2, G2, e, r2, (ev.mono t1 p1).mono t2 p2, ?_⟩
      cases hm3 : mb e G2 with
      | bad => rw [hm3] at h'; exact h'
      | exc c G3 => rw [hm3] at h'; exact fun q H3 pr t3 r3 => h' q σ H3 ((p1.trans p2).trans pr) ((t1.trans t2).trans t3) r3 (((ev.mono t1 p1).mono t2 p2).mono t3 pr)
      | ok y G3 =>
        rw [hm3, R.bind_ok] at h'
        intro q3 H3 u p3 t3 r3 du
        dsimp only at h'
        cases hd : dSet x y z G3 with
        | none => rw [hd] at h'; exact h'.elim
        | some G4 =>
          rw [hd] at h'
          exact set_ok r3 (dw.mono t3 p3) du ((dv.mono t2 p2).mono t3 p3) hd fun H4 t4 r4 => h' q3 σ H4 ((p1.trans p2).trans p3) (((t1.trans t2).trans t3).trans t4) r4 ((((ev.mono t1 p1).mono t2 p2).mono t3 p3).mono t4 (List.prefix_refl _))
@[simp] def mAug (i : Nat) (a : ME0) : MS0 := fun e G => match e[i]? with
  | some (some (.int x)) => (match a e G with
    | .ok (.int y) G1 => .nx (e.set i (some (.int (x + y)))) G1
    | .ok _ _ => .bad
    | .exc c G1 => .exc c e G1
    | .bad => .bad)
  | _ => .bad
theorem ss_aug {i : Nat} {x : Str} {p2 : Pos} (hN : X.N.Nodup) (hi : X.N[i]? = some x) (hx : Loc X.env.scope x) (ha : SE X W a ma) (hf : X.fn x = true ∨ X.env.scope.names.lookup x = some .local) : SS X W (.AugAssign (.Name x p2) .Add a pos) (mAug i ma) := by
  refine ps_imp (ps_aug hN hi hx ha ip_add hf) fun D σ H ⟨p, G, e, rl, ev, h⟩ => ?_
  have h' : CoS X.K W p H (mAug i ma e G) D := h
  unfold mAug at h'
  split at h'
  · rename_i x0 hx0
    obtain ⟨v0, h0, d0⟩ := ev.2 i _ hx0
    cases inv_int d0
    refine ⟨_, h0, p, G, e, rl, ev, ?_⟩
    cases hm : ma e G with
    | bad => rw [hm] at h'; exact h'
    | exc c G1 => rw [hm] at h'; exact fun q H1 pr t1 r1 => h' q σ H1 pr t1 r1 (ev.mono t1 pr)
    | ok d G1 =>
      rw [hm] at h'
      intro q H1 v pr t1 r1 dv
      cases d with
      | int y =>
        cases inv_int dv
        exact ⟨x0, y, rfl, rfl, h' q _ H1 pr t1 r1 ((ev.mono t1 pr).set (.int _))⟩
      | _ => exact h'.elim
  · exact h'.elim
end
end Mw
namespace Mw
open PySem L2
open PyProof.Rows hiding St
def getF : List (Nat × D) → Nat → Option D
  | [], _ => none
  | (g, x) :: r, f => if g = f then some x else getF r f
def putFd (f : Nat) (v : D) : List (Nat × D) → List (Nat × D)
  | [] => [(f, v)]
  | (g, x) :: r => if g = f then (g, v) :: r else (g, x) :: putFd f v r
theorem fname_inj {i j : Nat} (hi : i < 8) (hj : j < 8) (h : fname i = fname j) : i = j := by
  have key : ∀ a : Fin 8, ∀ b : Fin 8, fname a.1 = fname b.1 → a.1 = b.1 := by decide +kernel
  exact key ⟨i, hi⟩ ⟨j, hj⟩ h
def isF (x : Str) : Bool := (List.range 8).any fun k => decide (fname k = x)
section
variable {X : Cx} {W : WX} {a b c o tg : Expr} {es : List Expr} {ma mb mc mo : ME0} {m : MA0} {pos : Pos} {K : PySem.W.Frag} {p : List Addr} {H : Hp}
theorem fvs_get {f : Nat} (hf : f < 8) : ∀ {gs : List (Str × V)} {fs : List (Nat × D)} {d : D}, FVs K p H gs fs → getF fs f = some d → ∃ v, gs.lookup (fname f) = some v ∧ Den K p H v d
  | _, _, _, .nil, e => by cases e
  | _, _, d, .cons (k := k) l h hs, e => by
    unfold getF at e
    split at e
    · rename_i hk
      cases e
      subst hk
      exact ⟨_, by simp [List.lookup], h⟩
    · rename_i hk
      obtain ⟨v, h1, h2⟩ := fvs_get hf hs e
      refine ⟨v, ?_, h2⟩
      have ne : (fname f == fname k) = false := beq_eq_false_iff_ne.mpr fun z => hk (fname_inj l hf z.symm)
      simp only [List.lookup, ne]
      exact h1
theorem fvs_put {f : Nat} (hf : f < 8) {v : V} {d : D} (dv : Den K p H v d) : ∀ {gs : List (Str × V)} {fs : List (Nat × D)}, FVs K p H gs fs → FVs K p H (putF (fname f) v gs) (putFd f d fs)
  | _, _, .nil => .cons hf dv .nil
  | _, _, .cons (k := k) l h hs => by
    unfold putF putFd
    by_cases hk : k = f
    · subst hk
      rw [if_pos rfl, if_pos rfl]
      exact .cons l dv hs
    · rw [if_neg hk, if_neg fun z => hk (fname_inj l hf z)]
      exact .cons l h (fvs_put hf dv hs)
theorem fvs_no {x : Str} (hx : isF x = false) : ∀ {gs : List (Str × V)} {fs : List (Nat × D)}, FVs K p H gs fs → gs.lookup x = none
  | _, _, .nil => rfl
  | _, _, .cons (k := k) l h hs => by
    have ne : (x == fname k) = false := beq_eq_false_iff_ne.mpr fun z => by
      unfold isF at hx
      have := List.any_eq_false.mp hx k (List.mem_range.mpr l)
      rw [z] at this
      exact this (decide_eq_true rfl)
    simp only [List.lookup, ne]
    exact fvs_no hx hs
theorem fvs_len : ∀ {gs : List (Str × V)} {fs : List (Nat × D)}, FVs K p H gs fs → gs.length = fs.length
  | _, _, .nil => rfl
  | _, _, .cons _ _ hs => by rw [List.length_cons, List.length_cons, fvs_len hs]
theorem Rel.ins {G : Gp} (r : Rel K p G H) {n : Nat} {a : Addr} {fs : List (Nat × D)} (e : p[n]? = some a) (g : G[n]? = some (.ins fs)) : ∃ dx gs, H a = some (.ins (He.ga K cname) dx gs) ∧ FVs K p H gs fs := r.ob n a _ e g
def dFld (f : Nat) (x : D) (G : Gp) : R D := match x with
  | .ref n => (match G[n]? with
    | some (.ins fs) => (match getF fs f with
      | some d => .ok d G
      | none => .bad)
    | _ => .bad)
  | _ => .bad
@[simp] def mFld (f : Nat) (a : ME0) : ME0 := fun e G => (a e G).bind fun x G => dFld f x G
theorem se_fld {f : Nat} (hf : f < 8) (cl : Cls X.K (He.ga X.K cname)) (na : NoAttr X.K (He.ga X.K cname) (fname f)) (ha : SE X W a ma) (hb : attributeBase a (fname f) X.env (eval a X.env) = eval a X.env) : SE X W (.Attribute a (fname f) pos) (mFld f ma) := by
  refine pe_imp (pe_fld ha hb) fun σ H Q ⟨p, G, e, rl, ev, h⟩ => ⟨p, G, e, rl, ev, h.bind fun x G1 q H1 v pr t r1 dv h1 => ?_⟩
  unfold dFld at h1
  split at h1
  · split at h1
    · rename_i g
      split at h1
      · rename_i d hd
        obtain ⟨b, rfl, hb⟩ := inv_ref dv
        obtain ⟨dx, gs, ho, hfs⟩ := r1.ins hb g
        obtain ⟨w, h2, h3⟩ := fvs_get hf hfs hd
        exact ⟨b, _, dx, gs, w, rfl, ho, cl, na, h2, h1.here r1 h3⟩
      · exact co_bad h1
    · exact co_bad h1
  · exact co_bad h1
def dSetF (f : Nat) (x z : D) (G : Gp) : Option Gp := match x with
  | .ref n => (match G[n]? with
    | some (.ins fs) => if fs.length < 100 then some (G.set n (.ins (putFd f z fs))) else none
    | _ => none)
  | _ => none
def mSetF (f : Nat) (o v : ME0) : MS0 := fun e G => match (v e G).bind fun z G => (o e G).bind fun x G => .ok (x, z) G with
  | .ok (x, z) G1 => (match dSetF f x z G1 with
    | some G2 => .nx e G2
    | none => .bad)
  | .exc c G1 => .exc c e G1
  | .bad => .bad
theorem ss_fld {f : Nat} {p2 : Pos} (hf : f < 8) (cl : Cls X.K (He.ga X.K cname)) (na : NoAttr X.K (He.ga X.K cname) (fname f)) (ho : SE X W o mo) (ha : SE X W a ma) (hs : swapsWith a (some (.Attribute o (fname f) p2)) pos.line X.env = pure false) :
    SS X W (.Assign [.Attribute o (fname f) p2] a pos) (mSetF f mo ma) := by
  refine ps_imp (ps_fld ho ha hs) fun D σ H ⟨p, G, e, rl, ev, h⟩ => ⟨p, G, e, rl, ev, ?_⟩
  have h' : CoS X.K W p H (mSetF f mo ma e G) D := h
  unfold mSetF at h'
  cases hm : ma e G with
  | bad => rw [hm] at h'; exact h'
  | exc c G1 => rw [hm] at h'; exact fun q H1 pr t1 r1 => h' q σ H1 pr t1 r1 (ev.mono t1 pr)
  | ok z G1 =>
    rw [hm, R.bind_ok] at h'
    intro q1 H1 v p1 t1 r1 dv
    refine ⟨q1, G1, e, r1, ev.mono t1 p1, ?_⟩
    cases hm2 : mo e G1 with
    | bad => rw [hm2] at h'; exact h'
    | exc c G2 => rw [hm2] at h'; exact fun q H2 pr t2 r2 => h' q σ H2 (p1.trans pr) (t1.trans t2) r2 ((ev.mono t1 p1).mono t2 pr)
    | ok x G2 =>
      rw [hm2, R.bind_ok] at h'
      intro q2 H2 w p2 t2 r2 dw
      dsimp only at h'
      cases hd : dSetF f x z G2 with
      | none => rw [hd] at h'; exact h'.elim
      | some G3 =>
        rw [hd] at h'
        unfold dSetF at hd
        split at hd
        · split at hd
          · rename_i g
            split at hd
            · rename_i hl
              cases hd
              obtain ⟨b, rfl, hb⟩ := inv_ref dw
              obtain ⟨dx, gs, ho, hfs⟩ := r2.ins hb g
              have tu : Tu H2 (upd H2 b (.ins (He.ga X.K cname) dx (putF (fname f) v gs))) := Tu.set ho id
              refine ⟨b, _, dx, gs, rfl, ho, cl, na, by rw [fvs_len hfs]; omega, ?_⟩
              refine h' q2 σ _ (p1.trans p2) ((t1.trans t2).trans tu) (r2.set (o := .ins _) hb ho id ⟨dx, _, upd_same, ?_⟩) (((ev.mono t1 p1).mono t2 p2).mono tu (List.prefix_refl _))
              exact (fvs_put hf (dv.mono t2 p2) hfs).mono tu (List.prefix_refl _)
            · cases hd
          · cases hd
        · cases hd
/-- o.f += e (whole numbers) -/
def mAugF (f : Nat) (o v : ME0) : MS0 := fun e G => match (o e G).bind fun x G => (dFld f x G).bind fun y G => (v e G).bind fun z G => .ok (x, y, z) G with
  | .ok (x, .int y, .int z) G1 => (match dSetF f x (.int (y + z)) G1 with
    | some G2 => .nx e G2
    | none => .bad)
  | .ok _ _ => .bad
  | .exc c G1 => .exc c e G1
  | .bad => .bad
theorem ss_augF {f : Nat} {p2 : Pos} (hf : f < 8) (cl : Cls X.K (He.ga X.K cname)) (na : NoAttr X.K (He.ga X.K cname) (fname f)) (ho : SE X W o mo) (ha : SE X W a ma) :
    SS X W (.AugAssign (.Attribute o (fname f) p2) .Add a pos) (mAugF f mo ma) := by
  refine ps_imp (ps_fldaug ho ha in_add) fun D σ H ⟨p, G, e, rl, ev, h⟩ => ⟨p, G, e, rl, ev, ?_⟩
  have h' : CoS X.K W p H (mAugF f mo ma e G) D := h
  unfold mAugF at h'
  cases hm : mo e G with
  | bad => rw [hm] at h'; exact h'
  | exc c G1 => rw [hm] at h'; exact fun q H1 pr t1 r1 => h' q σ H1 pr t1 r1 (ev.mono t1 pr)
  | ok x G1 =>
    rw [hm, R.bind_ok] at h'
    intro q1 H1 v p1 t1 r1 dv
    cases x with
    | ref n =>
      obtain ⟨b, rfl, hb⟩ := inv_ref dv
      cases g : G1[n]? with
      | none => rw [show dFld f (.ref n) G1 = .bad by simp only [dFld, g]] at h'; exact h'.elim
      | some o1 =>
        cases o1 with
        | lst _ => rw [show dFld f (.ref n) G1 = .bad by simp only [dFld, g]] at h'; exact h'.elim
        | dct _ => rw [show dFld f (.ref n) G1 = .bad by simp only [dFld, g]] at h'; exact h'.elim
        | ins fs =>
          cases hy : getF fs f with
          | none => rw [show dFld f (.ref n) G1 = .bad by simp only [dFld, g, hy]] at h'; exact h'.elim
          | some y =>
            rw [show dFld f (.ref n) G1 = .ok y G1 by simp only [dFld, g, hy], R.bind_ok] at h'
            obtain ⟨dx, gs, ho, hfs⟩ := r1.ins hb g
            obtain ⟨w, h2, h3⟩ := fvs_get hf hfs hy
            refine ⟨b, _, dx, gs, w, rfl, ho, cl, na, h2, q1, G1, e, r1, ev.mono t1 p1, ?_⟩
            cases hm2 : ma e G1 with
            | bad => rw [hm2] at h'; exact h'
            | exc c G2 => rw [hm2] at h'; exact fun q H2 pr t2 r2 => h' q σ H2 (p1.trans pr) (t1.trans t2) r2 ((ev.mono t1 p1).mono t2 pr)
            | ok z G2 =>
              rw [hm2, R.bind_ok] at h'
              intro q2 H2 u p2 t2 r2 du
              cases y with
              | int y =>
                cases z with
                | int z =>
                  cases inv_int h3
                  cases inv_int du
                  refine ⟨y, z, rfl, rfl, ?_⟩
                  dsimp only at h'
                  cases hd : dSetF f (.ref n) (.int (y + z)) G2 with
                  | none => rw [hd] at h'; exact h'.elim
                  | some G3 =>
                    rw [hd] at h'
                    unfold dSetF at hd
                    dsimp only at hd
                    split at hd
                    · rename_i g2
                      split at hd
                      · rename_i hl
                        cases hd
                        obtain ⟨dx2, gs2, ho2, hfs2⟩ := r2.ins (pre_get p2 hb) g2
                        have tu : Tu H2 (upd H2 b (.ins (He.ga X.K cname) dx2 (putF (fname f) (.int (y + z)) gs2))) := Tu.set ho2 id
                        refine ⟨dx2, gs2, ho2, by rw [fvs_len hfs2]; omega, ?_⟩
                        refine h' q2 σ _ (p1.trans p2) ((t1.trans t2).trans tu) (r2.set (o := .ins _) (pre_get p2 hb) ho2 id ⟨dx2, _, upd_same, ?_⟩) (((ev.mono t1 p1).mono t2 p2).mono tu (List.prefix_refl _))
                        exact (fvs_put hf (.int _) hfs2).mono tu (List.prefix_refl _)
                      · cases hd
                    · cases hd
                | _ => exact h'.elim
              | _ => exact h'.elim
    | _ => exact h'.elim
def isL (x : D) (G : Gp) : R Unit := match x with
  | .ref n => (match G[n]? with
    | some (.lst _) => .ok () G
    | _ => .bad)
  | _ => .bad
def dApp (x y : D) (G : Gp) : R D := match x with
  | .ref n => (match G[n]? with
    | some (.lst ds) => if ds.length < big then .ok .non (G.set n (.lst (ds ++ [y]))) else .bad
    | _ => .bad)
  | _ => .bad
@[simp] def mApp (o a : ME0) : ME0 := fun e G => (o e G).bind fun x G => (isL x G).bind fun _ G => (a e G).bind fun y G => dApp x y G
theorem se_app {apos : Pos} (ho : SE X W o mo) (ha : SE X W a ma) (hbase : attributeBase o "append" X.env (eval o X.env) = eval o X.env)
    (hfew : ((backTo pos (starEach [a] X.env)).all (fun x => !x.1) && (backToKw pos (keywordEach [] X.env)).all (fun x => x.1.isSome) && decide (([a] : List Expr).length + ([] : List Keyword).length + (if ([] : List Keyword).isEmpty then 0 else 1) < 30)) = true)
    (hline : (apos.endLine == pos.line) = true) (hs : starEach [a] X.env = (false, eval a X.env) :: starEach [] X.env) : SE X W (.Call (.Attribute o "append" apos) [a] [] pos) (mApp mo ma) := by
  refine pe_imp (pe_bm PySem.F.plainAttrs_list PySem.F.slot_list_append PySem.F.type_list_append mt_append ho (pa_cons ha pa_nil hs) hbase hfew hline hs rfl) fun σ H Q ⟨p, G, e, rl, ev, h⟩ => ⟨p, G, e, rl, ev, h.bind fun x G1 q H1 v pr t r1 dv h1 => ?_⟩
  cases x with
  | ref n =>
    obtain ⟨b, rfl, hb⟩ := inv_ref dv
    cases g : G1[n]? with
    | none => rw [show isL (.ref n) G1 = .bad by simp only [isL, g]] at h1; exact co_bad (α := D) h1
    | some o1 =>
      cases o1 with
      | dct _ => rw [show isL (.ref n) G1 = .bad by simp only [isL, g]] at h1; exact co_bad (α := D) h1
      | ins _ => rw [show isL (.ref n) G1 = .bad by simp only [isL, g]] at h1; exact co_bad (α := D) h1
      | lst ds =>
        rw [show isL (.ref n) G1 = .ok () G1 by simp only [isL, g], R.bind_ok] at h1
        obtain ⟨vs, hl, hxs⟩ := r1.lst hb g
        refine ⟨.inl ⟨rfl, vs, .inl (.inl hl)⟩, q, G1, e, r1, ev.mono t pr, h1.bind fun y G2 q2 H2 w pr2 t2 r2 dw h2 => ?_⟩
        unfold dApp at h2
        dsimp only at h2
        split at h2
        · rename_i g2
          split at h2
          · rename_i hlen
            obtain ⟨vs2, hl2, hxs2⟩ := r2.lst (pre_get pr2 hb) g2
            have tu : Tu H2 (upd H2 b (.lst (vs2 ++ [w]))) := Tu.set hl2 id
            refine ⟨b, vs2, w, rfl, rfl, hl2, big_lt (by rw [hxs2.length]; exact hlen), ?_⟩
            exact h2 q2 _ .non (List.prefix_refl _) tu (r2.set (o := .lst _) (pre_get pr2 hb) hl2 id ⟨_, upd_same, (hxs2.append (.cons dw .nil)).mono tu (List.prefix_refl _)⟩) .non
          · exact co_bad h2
        · exact co_bad h2
  | _ => exact co_bad (α := D) h1
def isDc (x : D) (G : Gp) : R Unit := match x with
  | .ref n => (match G[n]? with
    | some (.dct _) => .ok () G
    | _ => .bad)
  | _ => .bad
def dGet2 (x y z : D) (G : Gp) : R D := match x with
  | .ref n => (match G[n]? with
    | some (.dct kvs) => (match keyD y with
      | some k => .ok ((getK kvs k).getD z) G
      | none => .bad)
    | _ => .bad)
  | _ => .bad
@[simp] def mGet2 (o a b : ME0) : ME0 := fun e G => (o e G).bind fun x G => (isDc x G).bind fun _ G => (a e G).bind fun y G => (b e G).bind fun z G => dGet2 x y z G
def dPop2 (x y z : D) (G : Gp) : R D := match x with
  | .ref n => (match G[n]? with
    | some (.dct kvs) => (match keyD y with
      | some k => (match getK kvs k with
        | some d => .ok d (G.set n (.dct (dropD kvs k)))
        | none => .ok z G)
      | none => .bad)
    | _ => .bad)
  | _ => .bad
@[simp] def mPop2 (o a b : ME0) : ME0 := fun e G => (o e G).bind fun x G => (isDc x G).bind fun _ G => (a e G).bind fun y G => (b e G).bind fun z G => dPop2 x y z G
def dPop1 (x y : D) (G : Gp) : R D := match x with
  | .ref n => (match G[n]? with
    | some (.dct kvs) => (match keyD y with
      | some k => (match getK kvs k with
        | some d => .ok d (G.set n (.dct (dropD kvs k)))
        | none => .bad)
      | none => .bad)
    | _ => .bad)
  | _ => .bad
@[simp] def mPop1 (o a : ME0) : ME0 := fun e G => (o e G).bind fun x G => (isDc x G).bind fun _ G => (a e G).bind fun y G => dPop1 x y G
theorem isDc_inv {x : D} {G : Gp} : (∃ n kvs, x = .ref n ∧ G[n]? = some (.dct kvs) ∧ isDc x G = .ok () G) ∨ isDc x G = .bad := by
  unfold isDc
  split
  · rename_i n
    split
    · rename_i g
      exact .inl ⟨n, _, rfl, g, rfl⟩
    · exact .inr rfl
  · exact .inr rfl
theorem se_get2 {apos : Pos} (hu : X.A.units + 65 < cLine) (ho : SE X W o mo) (ha : SE X W a ma) (hb : SE X W b mb) (mm : M2 X o "get" apos a b pos) : SE X W (.Call (.Attribute o "get" apos) [a, b] [] pos) (mGet2 mo ma mb) := by
  refine pe_imp (pe_dget2 (by omega) ho ha hb mm) fun σ H Q ⟨p, G, e, rl, ev, h⟩ => ⟨p, G, e, rl, ev, h.bind fun x G1 q H1 v pr t r1 dv h1 => ?_⟩
  rcases isDc_inv (x := x) (G := G1) with ⟨n, kvs, rfl, g, e1⟩ | e1
  · rw [e1, R.bind_ok] at h1
    obtain ⟨d, rfl, hd⟩ := inv_ref dv
    obtain ⟨ws, hl, hk⟩ := r1.dct hd g
    refine ⟨d, rfl, .inl ⟨ws, .inl hl⟩, q, G1, e, r1, ev.mono t pr, h1.bind fun y G2 q2 H2 w pr2 t2 r2 dw h2 => ?_⟩
    refine ⟨q2, G2, e, r2, (ev.mono t pr).mono t2 pr2, h2.bind fun z G3 q3 H3 u pr3 t3 r3 du h3 => ?_⟩
    unfold dGet2 at h3
    dsimp only at h3
    split at h3
    · rename_i kvs3 g3
      split at h3
      · rename_i k hk3
        obtain ⟨ws3, hl3, hk3'⟩ := r3.dct (pre_get (pr2.trans pr3) hd) g3
        cases den_key (dw.mono t3 pr3) hk3
        refine ⟨_, DGet.k hl3, ?_⟩
        cases hg : getK kvs3 k with
        | none =>
          rw [(kvs_get hk3').2 hg]
          rw [hg] at h3
          exact h3.here r3 du
        | some dd =>
          obtain ⟨w3, e3, d3⟩ := (kvs_get hk3').1 dd hg
          rw [e3]
          rw [hg] at h3
          exact h3.here r3 d3
      · exact co_bad h3
    · exact co_bad h3
  · rw [e1] at h1
    exact co_bad (α := D) h1
theorem se_pop2 {apos : Pos} (ho : SE X W o mo) (ha : SE X W a ma) (hb : SE X W b mb) (mm : M2 X o "pop" apos a b pos) : SE X W (.Call (.Attribute o "pop" apos) [a, b] [] pos) (mPop2 mo ma mb) := by
  refine pe_imp (pe_dpop2 ho ha hb mm) fun σ H Q ⟨p, G, e, rl, ev, h⟩ => ⟨p, G, e, rl, ev, h.bind fun x G1 q H1 v pr t r1 dv h1 => ?_⟩
  rcases isDc_inv (x := x) (G := G1) with ⟨n, kvs, rfl, g, e1⟩ | e1
  · rw [e1, R.bind_ok] at h1
    obtain ⟨d, rfl, hd⟩ := inv_ref dv
    obtain ⟨ws, hl, hk⟩ := r1.dct hd g
    refine ⟨d, rfl, .inl ⟨ws, .inl hl⟩, q, G1, e, r1, ev.mono t pr, h1.bind fun y G2 q2 H2 w pr2 t2 r2 dw h2 => ?_⟩
    refine ⟨q2, G2, e, r2, (ev.mono t pr).mono t2 pr2, h2.bind fun z G3 q3 H3 u pr3 t3 r3 du h3 => ?_⟩
    unfold dPop2 at h3
    dsimp only at h3
    split at h3
    · rename_i kvs3 g3
      split at h3
      · rename_i k hk3
        have hd3 := pre_get (pr2.trans pr3) hd
        obtain ⟨ws3, hl3, hk3'⟩ := r3.dct hd3 g3
        cases den_key (dw.mono t3 pr3) hk3
        refine ⟨ws3, k, hl3, rfl, fun v3 e3 => ?_, fun e3 => ?_⟩
        · cases hg : getK kvs3 k with
          | none =>
            rw [(kvs_get hk3').2 hg] at e3
            cases e3
          | some dd =>
            rw [hg] at h3
            obtain ⟨w3, e4, d3⟩ := (kvs_get hk3').1 dd hg
            rw [e4] at e3
            cases e3
            have tu : Tu H3 (upd H3 d (.dK (dropK ws3 k))) := Tu.set hl3 id
            exact h3 q3 _ _ (List.prefix_refl _) tu (r3.set (o := .dct _) hd3 hl3 id ⟨_, upd_same, (kvs_drop hk3').mono tu (List.prefix_refl _)⟩) (d3.mono tu (List.prefix_refl _))
        · cases hg : getK kvs3 k with
          | none =>
            rw [hg] at h3
            exact h3.here r3 du
          | some dd =>
            obtain ⟨w3, e4, d3⟩ := (kvs_get hk3').1 dd hg
            rw [e4] at e3
            cases e3
      · exact co_bad h3
    · exact co_bad h3
  · rw [e1] at h1
    exact co_bad (α := D) h1
theorem se_pop1 {apos : Pos} (ho : SE X W o mo) (ha : SE X W a ma) (mm : M1 X o "pop" apos a pos) : SE X W (.Call (.Attribute o "pop" apos) [a] [] pos) (mPop1 mo ma) := by
  refine pe_imp (pe_dpop1 ho ha mm) fun σ H Q ⟨p, G, e, rl, ev, h⟩ => ⟨p, G, e, rl, ev, h.bind fun x G1 q H1 v pr t r1 dv h1 => ?_⟩
  rcases isDc_inv (x := x) (G := G1) with ⟨n, kvs, rfl, g, e1⟩ | e1
  · rw [e1, R.bind_ok] at h1
    obtain ⟨d, rfl, hd⟩ := inv_ref dv
    obtain ⟨ws, hl, hk⟩ := r1.dct hd g
    refine ⟨d, rfl, .inl ⟨ws, .inl hl⟩, q, G1, e, r1, ev.mono t pr, h1.bind fun y G2 q2 H2 w pr2 t2 r2 dw h2 => ?_⟩
    unfold dPop1 at h2
    dsimp only at h2
    split at h2
    · rename_i kvs3 g3
      split at h2
      · rename_i k hk3
        split at h2
        · rename_i dd hg
          have hd3 := pre_get pr2 hd
          obtain ⟨ws3, hl3, hk3'⟩ := r2.dct hd3 g3
          cases den_key dw hk3
          obtain ⟨w3, e4, d3⟩ := (kvs_get hk3').1 dd hg
          have tu : Tu H2 (upd H2 d (.dK (dropK ws3 k))) := Tu.set hl3 id
          exact ⟨ws3, k, w3, hl3, rfl, e4, h2 q2 _ _ (List.prefix_refl _) tu (r2.set (o := .dct _) hd3 hl3 id ⟨_, upd_same, (kvs_drop hk3').mono tu (List.prefix_refl _)⟩) (d3.mono tu (List.prefix_refl _))⟩
        · exact co_bad h2
      · exact co_bad h2
    · exact co_bad h2
  · rw [e1] at h1
    exact co_bad (α := D) h1
abbrev FM := List D → Gp → R D
def spM (K : PySem.W.Frag) (n : Nat) (f : FM) : Sp := fun vs H Q E => ∃ p G ds, Rel K p G H ∧ Dens K p H vs ds ∧ ds.length = n ∧ Co K (fun c d _ H => E c d H) [] p H (Den K) (f ds G) Q
theorem co_wx {α β : Type} {W W' : WX} {σ σ' : St} {G : Gp} {rel : List Addr → Hp → β → α → Prop} {r : R α} {Q : β → Hp → Prop} (h : Co K W σ p H rel r Q) (e : ∀ c d H, W c d σ H → W' c d σ' H) : Co K W' σ' p H rel r Q := by
  cases r with
  | ok d G => exact h
  | exc c G => exact fun q H' pr t rl => e _ _ _ (h q H' pr t rl)
  | bad => exact h
@[simp] def mCallF (n : Nat) (f : FM) (m : MA0) : ME0 := fun e G => (m e G).bind fun ds G => if ds.length = n then f ds G else .bad
variable {k : Nat} {f : Addr} {fd : FuncData} {ps : List Str} {F : FM}
abbrev FnM (X : Cx) (k : Nat) (f : Addr) (fd : FuncData) (ps : List Str) (F : FM) : Prop := FnOk X.prog X.w X.K X.mg X.base (L2.CX X.prog X.w) k f fd ps (spM X.K ps.length F)
theorem read_call {σ : St} {H : Hp} {Q : VK} (h : tE X.K W (mCallF ps.length F m) σ H Q) : tCallS (spM X.K ps.length F) (WE W) (tA X.K W m) σ H Q := by
  obtain ⟨p, G, e, rl, ev, h⟩ := h
  refine ⟨p, G, e, rl, ev, h.bind fun ds G1 q H1 vs pr t r1 dv h1 => ?_⟩
  split at h1
  · rename_i hl
    exact ⟨q, G1, ds, r1, dv, hl, co_wx (G := G1) h1 fun c d H z => z⟩
  · exact co_bad h1
theorem se_call {x : Str} {p0 : Pos} (tk : Takes X W) (Fn : FnM X k f fd ps F) (hr : Room k X.A) (hg : Gl X x) (hm : X.mg x = some (.ref f)) (hk : PySem.W.keepIn X.K (.ref f) = true) (hb : Binds X.K fd ps []) (ha : SA X W (a :: es) m) (hdb : (x == ("__debug__" : Str)) = false)
    (he : starEach (a :: es) X.env = (false, eval a X.env) :: starEach es X.env) (hpl : (backTo pos (starEach es X.env)).any (·.1) = false) : SE X W (.Call (.Name x p0) (a :: es) [] pos) (mCallF ps.length F m) :=
  pe_imp (pe_callS (E := WE W) Fn hr hg hm hk hb (fun σ => passAt tk σ) ha hdb he hpl) fun _ _ _ h => read_call h
theorem pe_callS0 {CX : CXT} {sp : Sp} {E : St → XK} {x : Str} {p0 : Pos} (Fn : FnOk X.prog X.w X.K X.mg X.base CX k f fd ps sp) (hr : Room k X.A) (hg : Gl X x) (hm : X.mg x = some (.ref f)) (hk : PySem.W.keepIn X.K (.ref f) = true) (hb : Binds X.K fd ps []) (hx : ∀ σ, PassesAt CX X σ (E σ)) (hdb : (x == ("__debug__" : Str)) = false) :
    PE X (.Call (.Name x p0) [] [] pos) (tCallS sp E tNil) := by
  refine ⟨fun pins s σ H Q I h => ?_⟩
  refine wpAny_Call_Name_kw (ld_glob I hg hm ?_ hdb)
  exact PySem.W.callWith_K0 I.kIn hk (run_fnS (us := []) Fn hr hb (hx σ) I .nil h)
theorem se_call0 {x : Str} {p0 : Pos} (tk : Takes X W) (Fn : FnM X k f fd ps F) (hr : Room k X.A) (hg : Gl X x) (hm : X.mg x = some (.ref f)) (hk : PySem.W.keepIn X.K (.ref f) = true) (hb : Binds X.K fd ps []) (hdb : (x == ("__debug__" : Str)) = false) :
    SE X W (.Call (.Name x p0) [] [] pos) (mCallF ps.length F maNil) := by
  refine pe_imp (pe_callS0 (E := WE W) Fn hr hg hm hk hb (fun σ => passAt tk σ) hdb) fun σ H Q h => ?_
  have h2 := read_call (X := X) (W := W) (ps := ps) (F := F) (m := maNil) h
  obtain ⟨p, G, e, rl, ev, h3⟩ := h2
  exact Co.here (d := ([] : List D)) (G := G) h3 rl .nil
/-- o.m(..) -/
def tMethS (C : Addr) (mn : Str) (sp : Sp) (E : St → XK) (ta : TE) (t : TA) : TE := fun σ H Q => ta σ H fun x H1 => ∃ a dx fs, x = .ref a ∧ H1 a = some (.ins C dx fs) ∧ fs.lookup mn = none ∧ t σ H1 fun vs H2 => sp (x :: vs) H2 Q (E σ)
theorem pe_methX {CX : CXT} {sp : Sp} {E : St → XK} {C : Addr} {mn : Str} {ta : TE} {t : TA} {apos : Pos} {pl : Sem Bool} (he : PE X o ta) (cl : Cls X.K C) (hm : Meth X.K C mn f) (Fn : FnOk X.prog X.w X.K X.mg X.base CX k f fd ps sp) (hr : Room k X.A) (hb : Binds X.K fd ps []) (hx : ∀ σ, PassesAt CX X σ (E σ)) (ha : PA X (a :: es) t)
    (hst : starEach (a :: es) X.env = (false, eval a X.env) :: starEach es X.env) (hpl : (backTo pos (starEach es X.env)).any (·.1) = false)
    (ht : eval (.Call (.Attribute o mn apos) (a :: es) [] pos) X.env = (do
      let ov ← eval o X.env
      standAt apos.atName
      let (f, first) ← holding [ov] (getMethod ov mn pl)
      callWith pos f first (backTo pos (starEach (a :: es) X.env)) (backToKw pos (keywordEach [] X.env)))) :
    PE X (.Call (.Attribute o mn apos) (a :: es) [] pos) (tMethS C mn sp E ta t) := by
  refine ⟨fun pins s σ H Q I h => ?_⟩
  refine PySem.W.methodCall_KW (pl := pl) (thn (he.run pins s σ H _ I h) fun u s1 ⟨x, H1, I1, rx, a, dx, fs, ex, ea, l, q⟩ => ?_) ht
  subst ex
  obtain rfl : u = Value.ref a := rx
  refine getmeth_ok I1 ea cl hm l ?_
  refine PySem.W.callWith_K (first := [.ref a]) (h₀ := X.base) I.ok.mod.kin hm.kp (thn (ha.run pos pins s1 σ H1 _ I1 q) fun us s2 ⟨vs, H2, I2, r, q2⟩ => ⟨I2.kIn, ?_⟩) hst hpl
  exact run_fnS (us := .ref a :: us) (vs := .ref a :: vs) Fn hr hb (hx σ) I2 (.cons rfl r) q2
theorem pe_methX0 {CX : CXT} {sp : Sp} {E : St → XK} {C : Addr} {mn : Str} {ta : TE} {apos : Pos} {pl : Sem Bool} (he : PE X o ta) (cl : Cls X.K C) (hm : Meth X.K C mn f) (Fn : FnOk X.prog X.w X.K X.mg X.base CX k f fd ps sp) (hr : Room k X.A) (hb : Binds X.K fd ps []) (hx : ∀ σ, PassesAt CX X σ (E σ))
    (ht : eval (.Call (.Attribute o mn apos) [] [] pos) X.env = (do
      let ov ← eval o X.env
      standAt apos.atName
      let (f, first) ← holding [ov] (getMethod ov mn pl)
      callWith pos f first (backTo pos (starEach [] X.env)) (backToKw pos (keywordEach [] X.env)))) :
    PE X (.Call (.Attribute o mn apos) [] [] pos) (tMethS C mn sp E ta tNil) := by
  refine ⟨fun pins s σ H Q I h => ?_⟩
  refine PySem.W.methodCall_KW (pl := pl) (thn (he.run pins s σ H _ I h) fun u s1 ⟨x, H1, I1, rx, a, dx, fs, ex, ea, l, q⟩ => ?_) ht
  subst ex
  obtain rfl : u = Value.ref a := rx
  refine getmeth_ok I1 ea cl hm l ?_
  exact PySem.W.callWith_K0 (first := [.ref a]) I1.kIn hm.kp (run_fnS (us := [.ref a]) (vs := [.ref a]) Fn hr hb (hx σ) I1 (.cons rfl .nil) q)
def isIn (x : D) (G : Gp) : R Unit := match x with
  | .ref n => (match G[n]? with
    | some (.ins _) => .ok () G
    | _ => .bad)
  | _ => .bad
@[simp] def mMeth (n : Nat) (f : FM) (o : ME0) (m : MA0) : ME0 := fun e G => (o e G).bind fun x G => (isIn x G).bind fun _ G => (m e G).bind fun ds G => if ds.length + 1 = n then f (x :: ds) G else .bad
theorem isIn_inv {x : D} {G : Gp} : (∃ n fs, x = .ref n ∧ G[n]? = some (.ins fs) ∧ isIn x G = .ok () G) ∨ isIn x G = .bad := by
  unfold isIn
  split
  · rename_i n
    split
    · rename_i g
      exact .inl ⟨n, _, rfl, g, rfl⟩
    · exact .inr rfl
  · exact .inr rfl
theorem read_meth {mn : Str} {tA' : TA} (hmn : isF mn = false) (ht : ∀ σ H Q, tA X.K W m σ H Q → tA' σ H Q) {σ : St} {H : Hp} {Q : VK} (h : tE X.K W (mMeth ps.length F mo m) σ H Q) : tMethS (He.ga X.K cname) mn (spM X.K ps.length F) (WE W) (tE X.K W mo) tA' σ H Q := by
  obtain ⟨p, G, e, rl, ev, h⟩ := h
  refine ⟨p, G, e, rl, ev, h.bind fun x G1 q H1 v pr t r1 dv h1 => ?_⟩
  rcases isIn_inv (x := x) (G := G1) with ⟨n, fs, rfl, g, e1⟩ | e1
  · rw [e1, R.bind_ok] at h1
    obtain ⟨b, rfl, hb⟩ := inv_ref dv
    obtain ⟨dx, gs, ho, hfs⟩ := r1.ins hb g
    refine ⟨b, dx, gs, rfl, ho, fvs_no hmn hfs, ht _ _ _ ⟨q, G1, e, r1, ev.mono t pr, h1.bind fun ds G2 q2 H2 vs pr2 t2 r2 dvs h2 => ?_⟩⟩
    split at h2
    · rename_i hl
      exact ⟨q2, G2, .ref n :: ds, r2, .cons (dv.mono t2 pr2) dvs, hl, co_wx (G := G2) h2 fun c d H z => z⟩
    · exact co_bad h2
  · rw [e1] at h1
    exact co_bad (α := D) h1
theorem se_meth {mn : Str} {apos : Pos} {pl : Sem Bool} (hmn : isF mn = false) (tk : Takes X W) (ho : SE X W o mo) (cl : Cls X.K (He.ga X.K cname)) (hm : Meth X.K (He.ga X.K cname) mn f) (Fn : FnM X k f fd ps F) (hr : Room k X.A) (hb : Binds X.K fd ps []) (ha : SA X W (a :: es) m)
    (hst : starEach (a :: es) X.env = (false, eval a X.env) :: starEach es X.env) (hpl : (backTo pos (starEach es X.env)).any (·.1) = false)
    (ht : eval (.Call (.Attribute o mn apos) (a :: es) [] pos) X.env = (do
      let ov ← eval o X.env
      standAt apos.atName
      let (f, first) ← holding [ov] (getMethod ov mn pl)
      callWith pos f first (backTo pos (starEach (a :: es) X.env)) (backToKw pos (keywordEach [] X.env)))) : SE X W (.Call (.Attribute o mn apos) (a :: es) [] pos) (mMeth ps.length F mo m) :=
  pe_imp (pe_methX (E := WE W) ho cl hm Fn hr hb (fun σ => passAt tk σ) ha hst hpl ht) fun _ _ _ h => read_meth hmn (fun _ _ _ q => q) h
theorem se_meth0 {mn : Str} {apos : Pos} {pl : Sem Bool} (hmn : isF mn = false) (tk : Takes X W) (ho : SE X W o mo) (cl : Cls X.K (He.ga X.K cname)) (hm : Meth X.K (He.ga X.K cname) mn f) (Fn : FnM X k f fd ps F) (hr : Room k X.A) (hb : Binds X.K fd ps [])
    (ht : eval (.Call (.Attribute o mn apos) [] [] pos) X.env = (do
      let ov ← eval o X.env
      standAt apos.atName
      let (f, first) ← holding [ov] (getMethod ov mn pl)
      callWith pos f first (backTo pos (starEach [] X.env)) (backToKw pos (keywordEach [] X.env)))) : SE X W (.Call (.Attribute o mn apos) [] [] pos) (mMeth ps.length F mo maNil) :=
  pe_imp (pe_methX0 (E := WE W) ho cl hm Fn hr hb (fun σ => passAt tk σ) ht) fun _ _ _ h => read_meth hmn (fun σ H Q ⟨p, G, e, rl, ev, q⟩ => Co.here (d := ([] : List D)) (G := G) q rl .nil) h
end
end Mw
namespace Mw
open PySem L2
open PyProof.Rows hiding St
section
variable {X : Cx} {W : WX} {a b c o tg : Expr} {es : List Expr} {ma mb mc mo : ME0} {m : MA0} {pos : Pos} {K : PySem.W.Frag} {p : List Addr} {H : Hp}
@[simp] def mChainT (f g : D → D → Gp → R Bool) (a b c : ME0) : En → Gp → R Bool := fun e G => (a e G).bind fun x G => (b e G).bind fun y G => (f x y G).bind fun k G => if k = true then (c e G).bind fun z G => g y z G else .ok false G
theorem st_chain (hu : X.A.units + 65 < cLine) (o o' : Cop) (ha : SE X W a ma) (hb : SE X W b mb) (hc : SE X W c mc) (hm : lastMarks [o.op, o'.op] [b, c] = false) : ST X W (.Compare a [o.op, o'.op] [b, c] pos) (mChainT o.f o'.f ma mb mc) := by
  obtain ⟨r, h1, h2⟩ := cop_ok (X := X) hu o
  obtain ⟨r', h1', h2'⟩ := cop_ok (X := X) hu o'
  refine pt_imp (pt_chain h1 h1' ha hb hc hm) fun σ H Q ⟨p, G, e, rl, ev, h⟩ => ?_
  refine ⟨p, G, e, rl, ev, h.bind fun x G1 q H1 v pr t r1 dv h1 => ?_⟩
  refine ⟨q, G1, e, r1, ev.mono t pr, h1.bind fun y G2 q2 H2 u pr2 t2 r2 du h2x => ?_⟩
  refine h2 W σ q2 G2 H2 v u x y _ r2 (dv.mono t2 pr2) du (h2x.bind fun k G3 q3 H3 w pr3 t3 r3 dk h3 => ⟨k, dk, ?_⟩)
  cases k with
  | false => exact ⟨false, rfl, Co.here (d := false) (G := G3) h3 r3 rfl⟩
  | true =>
    refine ⟨q3, G3, e, r3, ((ev.mono t pr).mono t2 pr2).mono t3 pr3, Co.bind (r := mc e G3) h3 fun z G4 q4 H4 w' pr4 t4 r4 dz h4 => ?_⟩
    refine h2' W σ q4 G4 H4 u w' y z _ r4 ((du.mono t3 pr3).mono t4 pr4) dz ?_
    cases hg : o'.f y z G4 with
    | bad => rw [hg] at h4; exact h4
    | exc cc G5 => rw [hg] at h4; exact h4
    | ok k G5 =>
      rw [hg] at h4
      exact fun q5 H5 w5 pr5 t5 r5 dk5 => ⟨k, dk5, h4 q5 H5 k pr5 t5 r5 rfl⟩
@[simp] def mRaise (c : Nat) : MS0 := fun e G => .exc c e G
structure ExcF (K : PySem.W.Frag) (mg : Str → Option Value) (c : Nat) : Prop where
  g : mg (xname c) = some (.ref (He.ga K (xname c)))
  x : PySem.W.excIn K (He.ga K (xname c)) He.veBase "ValueError.__new__" = true
  k : PySem.W.keepIn K (.ref (He.ga K (xname c))) = true
  b : PySem.W.subIn K (.ref (He.ga K (xname c))) (.type "BaseException") = some true
  t : PySem.W.typeIn K (.ref (He.ga K (xname c))) = some (.type "type")
theorem xname_plain (c : Nat) : (xname c == ("__debug__" : Str)) = false := by
  unfold xname
  split <;> decide +kernel
theorem ss_raise {c : Nat} {mt : Str} {j : Nat} {p1 p2 p3 : Pos} (hc : X.calm = true) (tk : Takes X W) (Ex : ExcF X.K X.mg c) (hg : Gl X (xname c)) : SS X W (.Raise (some (.Call (.Name (xname c) p1) [.Constant (.str mt) j p2] [] p3)) none pos) (mRaise c) := by
  refine ps_imp (ps_raise hc tk (pmk_own PySem.F.excBase_ValueError Ex.x Ex.g Ex.k (raises_own Ex.b Ex.t) hg (xname_plain c))) fun D σ H ⟨p, G, e, rl, ev, h⟩ => ?_
  exact h p σ H (List.prefix_refl _) (Tu.refl _) rl ev
def exSub (c h : Nat) : Bool := decide (c = h) || decide (h = 0)
def hdGo (xs : List Nat) : List (Nat × MS0) → Nat → MS0
  | [], c => fun e G => .exc c e G
  | (h, s) :: r, c => fun e G => if xs.contains c = true then (if exSub c h = true then (match s e G with
    | .exc _ _ _ => .bad
    | x => x) else hdGo xs r c e G) else .bad
def mTry (xs : List Nat) (b : MS0) (hs : List (Nat × MS0)) : MS0 := fun e G => match b e G with
  | .exc c e1 G1 => hdGo xs hs c e1 G1
  | r => r
def hdL (K : PySem.W.Frag) (hs : List (Nat × MS0)) : List (Value × (Addr → Value → Option Addr → TS)) := hs.map fun h => (.ref (He.ga K (xname h.1)), fun _ _ _ => tS K W0 h.2)
theorem read_hds {xs : List Nat} {D : Ends} (hx : ∀ c ∈ xs, ∀ h ∈ xs, PySem.W.exmOne K (.ref (He.ga K (xname c))) (.ref (He.ga K (xname h))) = some (exSub c h)) {c : Nat} {e : En} {G : Gp} : ∀ (hs : List (Nat × MS0)), (∀ h ∈ hs, h.1 ∈ xs) → CoS K W p H (hdGo xs hs c e G) D →
    ∀ q σ' H', p <+: q → Tu H H' → Rel K q G H' → Envs K q H' σ' e → wMany K W D (hdL K hs) (.ref (He.ga K (xname c))) none σ' H'
  | [], _, h => fun q σ' H' pr t rl ev => h q σ' H' pr t rl ev
  | (hc, s) :: r, hm, h => fun q σ' H' pr t rl ev => by
    unfold hdGo at h
    split at h
    · rename_i hcx
      have hcx' : c ∈ xs := by simpa using hcx
      refine ⟨exSub c hc, hx c hcx' hc (hm (hc, s) (by simp)), fun hb a _ => ?_, fun hb => ?_⟩
      · rw [if_pos hb] at h
        refine ⟨q, G, e, rl, ev, ?_⟩
        show CoS K W0 q H' (s e G) D
        have h2 := CoS.later (W := W) h pr t
        cases hs2 : s e G with
        | nx e5 G5 => rw [hs2] at h2; exact h2
        | ct e5 G5 => rw [hs2] at h2; exact h2
        | bk e5 G5 => rw [hs2] at h2; exact h2
        | rt d5 G5 => rw [hs2] at h2; exact h2
        | exc k5 e5 G5 => rw [hs2] at h2; exact h2.elim
        | bad => rw [hs2] at h2; exact h2.elim
      · rw [if_neg (by rw [hb]; decide)] at h
        exact read_hds hx r (fun z hz => hm z (List.mem_cons_of_mem _ hz)) h q σ' H' pr t rl ev
    · exact h.elim
theorem ss_try {xs : List Nat} {body : List Stmt} {h₀ : ExceptHandler} {hds : List ExceptHandler} {mb : MS0} {hs : List (Nat × MS0)} (hx : ∀ c ∈ xs, ∀ h ∈ xs, PySem.W.exmOne X.K (.ref (He.ga X.K (xname c))) (.ref (He.ga X.K (xname h))) = some (exSub c h)) (hm : ∀ h ∈ hs, h.1 ∈ xs)
    (hst : X.stack = X.env :: X.outer) (hf : X.env.frame = some X.env.locals) (tk : Takes X W)
    (hb : ∀ (W' : WX) (pn : List (Addr × Obj)) (xe : Value → Shared → Prop), Takes (X.tr pn xe) W' → PassesOwn (model X.prog X.w) X.A X.env xe → SB (X.tr pn xe) W' body mb)
    (hh : HdsOk X (h₀ :: hds) (hdL X.K hs)) : SS X W (.Try body (h₀ :: hds) [] [] pos) (mTry xs mb hs) := by
  refine ps_imp (ps_try_many (tb := fun W' => tS X.K W' mb) hst hf tk hb hh) fun D σ H ⟨p, G, e, rl, ev, h⟩ => ⟨p, G, e, rl, ev, ?_⟩
  have h' : CoS X.K W p H (mTry xs mb hs e G) D := h
  show CoS X.K (wMany X.K W D (hdL X.K hs)) p H (mb e G) D
  unfold mTry at h'
  cases hm2 : mb e G with
  | nx e5 G5 => rw [hm2] at h'; exact h'
  | ct e5 G5 => rw [hm2] at h'; exact h'
  | bk e5 G5 => rw [hm2] at h'; exact h'
  | rt d5 G5 => rw [hm2] at h'; exact h'
  | bad => rw [hm2] at h'; exact h'
  | exc c e1 G1 =>
    rw [hm2] at h'
    exact read_hds hx hs hm h'
end
end Mw
namespace Mw
open PySem L2 L2.DX
open PyProof.Rows hiding St
abbrev kvOf (e : Str × Int) : Key × V := (Sum.inr e.1, V.int e.2)
def encKV (e : Str × Int) : PyData := .tuple [.str e.1, .int e.2]
def leKV (a b : Str × Int) : Bool := leS a.1 b.1
theorem dataLt_kv {x y : Str} {i j : Int} (h : x ≠ y) : PySem.W.dataLt (.tuple [.str x, .int i]) (.tuple [.str y, .int j]) = decide (x.cps.toList < y.cps.toList) := by
  have hne : (Sum.inr x.cps.toList : Int ⊕ List Nat) ≠ Sum.inr y.cps.toList := fun z => h (PySem.W.str_of_cps (Sum.inr.inj z))
  rw [← PySem.W.dataLt_str]
  unfold PySem.W.dataLt
  simp only [PySem.W.keyToks, PySem.W.keyToksAll, List.cons_append, List.nil_append]
  rw [show ∀ a b : List (Int ⊕ List Nat), PyProof.Rows.lexLt PyProof.Rows.itemOrd (Sum.inl 1 :: a) (Sum.inl 1 :: b) = PyProof.Rows.lexLt PyProof.Rows.itemOrd a b from fun a b => PySem.W.lex_pre [.inl 1] a b]
  exact PySem.W.lex_atom hne _ _
theorem dataLe_kv {a b : Str × Int} (h : a.1 ≠ b.1) : PySem.W.dataLe false encKV a b = leKV a b := by
  show (!PySem.W.dataLt (encKV b) (encKV a)) = _
  unfold encKV
  rw [dataLt_kv (Ne.symm h)]
  rfl
theorem dataLe_self (a : Str × Int) : PySem.W.dataLe false encKV a a = true := by
  show (!PySem.W.dataLt (encKV a) (encKV a)) = true
  unfold PySem.W.dataLt
  rw [PyProof.Rows.lex_irrefl]
  rfl
theorem leKV_self (a : Str × Int) : leKV a a = true := by
  unfold leKV
  exact leS_iff.mpr (List.le_refl _)
/-- d.items() -/
def rItemsK : V → List V → Hp → VK → Prop := fun x xs H Q => ∃ (a : Addr) (kvs : List (Key × V)), x = .ref a ∧ xs = [] ∧ H a = some (.dK kvs) ∧ ∀ p, H p = none → Q (.ref p) (upd H p (itemsO p a))
def rSortKV : List V → Hp → VK → Prop := fun vs H Q => ∃ (p a : Addr) (ks : List (Str × Int)), vs = [.ref p] ∧ H p = some (itemsO p a) ∧ H a = some (.dK (ks.map kvOf)) ∧
  ∀ (H' : Hp) (l : Addr) (zs : List (Addr × Str × Int)), (∀ b o, H b = some o → H' b = some o) → H l = none → H' l = some (.lst (zs.map fun z => V.ref z.1)) → zs.map (·.2) = ks.mergeSort leKV →
    (∀ z ∈ zs, H z.1 = none ∧ H' z.1 = some (.tup [.str z.2.1, .int z.2.2])) → Q (.ref l) H'
section
variable {X : Cx}
theorem mt_itemsK : MtR X "dict.items" rItemsK := by
  intro pins s σ H x xs v us Q I rx rxs h
  obtain ⟨a, kvs, rfl, rfl, ha, q⟩ := h
  cases rx
  cases rxs
  obtain ⟨z, hd, vs, rel, o, es, ep, ho, hx, hdat, _⟩ := dk_of I.hok ha
  refine DT.callItems (es := es) (ep := ep) hd ⟨o, ho, hx, hdat⟩ ?_
  have hf : H s.heap.objs.size = none := I.hok.fresh (Nat.le_refl _)
  exact ⟨.ref s.heap.objs.size, upd H s.heap.objs.size (itemsO s.heap.objs.size a), I.laid (t' := s.toks) (fun b u e => Heap.get?_push_of_some _ e) (Nat.le_refl _) (itemsO_ok (Heap.get?_push_size _ rfl)), rfl, q _ hf⟩
theorem kv_at {prog : Program} {w : World} {es : List DictEntry} {vs : List (Key × Value)} {ks : List (Str × Int)} (h1 : KV (ks.map kvOf) vs) (h2 : Pairs (mixKind prog w) es vs) : ∀ {j : Nat} {en : DictEntry}, es[j]? = some en → ∃ e t t', ks[j]? = some e ∧ en.key = .str e.1 t ∧ en.val = .int e.2 t' := by
  induction h2 generalizing ks with
  | nil => intro j en h; simp at h
  | @cons e kv es vs k1 k2 hr ih =>
    cases ks with
    | nil => cases h1
    | cons z ks =>
      cases h1 with
      | cons hz hzs =>
        intro j en h
        cases j with
        | zero =>
          simp at h
          subst h
          obtain ⟨hz1, t', hz2⟩ := hz
          have k1' : keyIs kv.1 e.key = true := k1
          rw [← hz1] at k1'
          rcases keyIs_shape k1' with ⟨i, t, q1, q2⟩ | ⟨y, t, q1, q2⟩
          · exact nomatch q1
          · have q1' : z.1 = y := Sum.inr.inj q1
            exact ⟨z, t, t', rfl, by rw [q2, q1'], by rw [k2]; exact hz2⟩
        | succ j => exact ih hzs (by simpa using h)
theorem cr_sortKV (hc : X.calm = true) (hu : X.A.units + 64 < cLine) : CallR X (.builtin "sorted") rSortKV := by
  intro pins s σ H xs us Q I r h
  obtain ⟨p, a, ks, rfl, hp, ha, q⟩ := h
  obtain rfl := Vals.ref1 r
  have view : s.heap.IsItemsView p a := (show ObjOk X.prog X.w H s.heap p (itemsO p a) from I.hok p _ hp).1
  obtain ⟨z, hd, vs, rel, o, es, ep, ho, hx, hdat, his, hpr, hn⟩ := dk_of I.hok ha
  have l1 : (ks.map kvOf).length = vs.length := Paired.length rel
  rw [List.length_map] at l1 z
  have l2 : es.toList.length = vs.length := hpr.length
  rw [Array.length_toList] at l2
  have hh : X.A.handled = none := I.ok.hd hc
  refine DT.sortedI (es := es) (ep := ep) hh view ⟨o, ho, hx, hdat⟩ (by omega) fun h' tk as hk hlt hl hG => ?_
  have lak : as.length = ks.length := by omega
  have nd : as.Nodup := List.Pairwise.imp (fun h => Nat.ne_of_lt h) hG.rise
  have keysEq : ∀ {l1 : List (Key × V)} {l2 : List (Key × Value)}, KV l1 l2 → l1.map (·.1) = l2.map (·.1) := by
    intro l1 l2 h
    unfold KV at h
    induction h with
    | nil => rfl
    | cons hz _ ih => rw [List.map_cons, List.map_cons, ih, hz.1]
  have ndk : (ks.map (·.1)).Nodup := by
    have e := keysEq rel
    rw [List.map_map] at e
    rw [← e] at hn
    have hn' : (ks.map fun e => (Sum.inr e.1 : Key)).Nodup := hn
    rw [List.nodup_iff_pairwise_ne, List.pairwise_map] at hn' ⊢
    exact hn'.imp fun hne hz => hne (by rw [hz])
  -- the pairs that were made
  have pr : ∀ (j : Nat) (b : Addr), as[j]? = some b → ∃ (e : Str × Int) (t t' : Tok), ks[j]? = some e ∧ h'.get? b = some { cls := .type "tuple", data := .seq #[Value.str e.1 t, Value.int e.2 t'] } := by
    intro j b hj
    obtain ⟨en, he, hg⟩ := hG.pairs j b hj
    have he' : es.toList[j]? = some en := by rw [Array.getElem?_toList]; exact he
    obtain ⟨e, t, t', h1, h2, h3⟩ := kv_at rel hpr he'
    exact ⟨e, t, t', h1, by rw [hg, h2, h3]⟩
  have hob : (h'.push { cls := .type "list", data := .seq (as.map Value.ref).toArray }).get? h'.objs.size = some (seqObj "list" (as.map Value.ref).toArray 0) := Heap.get?_push_size _ rfl
  have kb : ∀ b o, s.heap.get? b = some o → (h'.push { cls := .type "list", data := .seq (as.map Value.ref).toArray }).get? b = some o := fun b o e => Heap.get?_push_of_some _ (hk b o e)
  have ne0 : ∀ b o, h'.get? b = some o → b ≠ h'.objs.size := fun b o e => Nat.ne_of_lt (Heap.lt_size e)
  generalize hh2 : h'.push { cls := .type "list", data := .seq (as.map Value.ref).toArray } = h2 at hob kb ⊢
  have ka : ∀ b o, h'.get? b = some o → h2.get? b = some o := fun b o e => by rw [← hh2]; exact Heap.get?_push_of_some _ e
  -- the sort
  have each : ∀ (L : List Addr) (M : List (Str × Int)), L.length = M.length → (∀ (j : Nat) (b : Addr), L[j]? = some b → ∃ (e : Str × Int) (t t' : Tok), M[j]? = some e ∧ h'.get? b = some { cls := .type "tuple", data := .seq #[Value.str e.1 t, Value.int e.2 t'] }) →
      PySem.W.EachIs (fun v (b : Addr × Str × Int) => v = Value.ref b.1) (L.map Value.ref) (L.zip M) ∧ PySem.W.EachIs (fun v (b : Addr × Str × Int) => ∃ as, Reads h2 v (encKV b.2) as ∧ h'.objs.size ∉ as) (L.map Value.ref) (L.zip M) := by
    intro L
    induction L with
    | nil => intro M _ _; exact ⟨.nil, .nil⟩
    | cons b L ih =>
      intro M hL hp
      cases M with
      | nil => cases hL
      | cons e M =>
        obtain ⟨i1, i2⟩ := ih M (by simpa using hL) fun j b' hj => by
          obtain ⟨e', t, t', g1, g2⟩ := hp (j + 1) b' (by simpa using hj)
          exact ⟨e', t, t', by simpa using g1, g2⟩
        obtain ⟨e', t, t', g1, g2⟩ := hp 0 b rfl
        have ee : e' = e := (Option.some.inj g1).symm
        subst ee
        refine ⟨.cons rfl i1, .cons ⟨_, Reads.tuple (ka _ _ g2) rfl rfl (ReadsAll.cons (Reads.str _ _) (ReadsAll.cons (Reads.int _ _) ReadsAll.nil)), ?_⟩ i2⟩
        have := ne0 _ _ g2
        first
          | (simp; done)
          | (simp; exact fun z => this z.symm)
  obtain ⟨each1, each2⟩ := each as ks lak pr
  have mapz : (as.zip ks).map (·.2) = ks := List.map_snd_zip (by omega)
  have enc2 : (as.zip ks).map (fun b => encKV b.2) = ks.map encKV := by
    rw [show (fun b : Addr × Str × Int => encKV b.2) = encKV ∘ (·.2) from rfl, ← List.map_map, mapz]
  refine PySem.W.list_sort_data (A := X.A.in1) (s := { s with heap := h2, toks := tk }) (bs := as.zip ks) (enc := fun b => encKV b.2) (R := fun v (b : Addr × Str × Int) => v = Value.ref b.1) hob each1 each2 ?_ ?_ (by rw [List.length_zip]; omega) (fun b _ => ?_) fun out ol oe => ?_
  · rw [enc2]
    intro d hd d' hd'
    obtain ⟨e, _, rfl⟩ := List.mem_map.mp hd
    obtain ⟨e', _, rfl⟩ := List.mem_map.mp hd'
    unfold encKV
    simp [PySem.W.alike, PySem.W.alikeAll]
  · rw [enc2]
    refine .inl fun d hd => ?_
    obtain ⟨e, _, rfl⟩ := List.mem_map.mp hd
    exact ⟨_, _, rfl⟩
  · show X.A.units + 1 + 1 + (encKV b.2).depth < cLine
    have : (encKV b.2).depth ≤ 1 := by
      unfold encKV
      simp [PyData.depth, PyData.depthAll]
    omega
  · show EP X pins σ Q (.ref h'.objs.size) { s with heap := sortedHeap h2 h'.objs.size (as.map Value.ref) (List.toArray out), toks := tk }
    generalize hzs : (as.zip ks).mergeSort (PySem.W.dataLe false fun b => encKV b.2) = zs at oe
    have pz : zs.Perm (as.zip ks) := by rw [← hzs]; exact List.mergeSort_perm _ _
    have hout : out = zs.map fun z => Value.ref z.1 := by
      clear ol hzs pz
      induction oe with
      | nil => rfl
      | cons hr _ ih => rw [List.map_cons, ← ih, hr]
    have idx : ∀ z ∈ zs, ∃ j : Nat, as[j]? = some z.1 ∧ ks[j]? = some z.2 := by
      intro z' hz'
      obtain ⟨j, hj⟩ := List.mem_iff_getElem?.mp (pz.mem_iff.mp hz')
      exact ⟨j, List.getElem?_zip_eq_some.mp hj⟩
    have hsort : zs.map (·.2) = ks.mergeSort leKV := by
      rw [← hzs, PySem.W.sort_maps (r := PySem.W.dataLe false fun b : Addr × Str × Int => encKV b.2) (s := PySem.W.dataLe false encKV) (f := fun z : Addr × Str × Int => z.2) (fun _ _ _ _ => rfl), mapz]
      refine PySem.W.sort_congr fun x hx y hy => ?_
      by_cases hxy : x.1 = y.1
      · have e : x = y := by
          obtain ⟨i, hi⟩ := List.mem_iff_getElem?.mp hx
          obtain ⟨j, hj⟩ := List.mem_iff_getElem?.mp hy
          have e1 : (ks.map (·.1))[i]? = some x.1 := by rw [List.getElem?_map, hi]; rfl
          have e2 : (ks.map (·.1))[j]? = some y.1 := by rw [List.getElem?_map, hj]; rfl
          have e3 : i = j := (List.getElem?_inj (List.getElem?_eq_some_iff.mp e1).1 ndk).mp (by rw [e1, e2, hxy])
          subst e3
          rw [hi] at hj
          exact Option.some.inj hj
        subst e
        rw [dataLe_self, leKV_self]
      · exact dataLe_kv hxy
    have kF : ∀ b o, b ≠ h'.objs.size → h2.get? b = some o → (sortedHeap h2 h'.objs.size (as.map Value.ref) (List.toArray out)).get? b = some o := fun b o hb e => (PyProof.Rows.sortedHeap_old hb (Heap.lt_size e)).trans e
    have kS : ∀ b o, s.heap.get? b = some o → (sortedHeap h2 h'.objs.size (as.map Value.ref) (List.toArray out)).get? b = some o := fun b o e => kF b o (ne0 _ _ (hk b o e)) (kb b o e)
    obtain ⟨eF, heF⟩ := PyProof.Rows.sortedHeap_at (vs := as.map Value.ref) (out := List.toArray out) hob
    have I1 : Inv X pins σ H { s with heap := sortedHeap h2 h'.objs.size (as.map Value.ref) (List.toArray out), toks := tk } := I.kept (t' := tk) kS
    have hn0 : H h'.objs.size = none := I.hok.fresh (Nat.le_of_lt hlt)
    have hlen : (zs.map fun z => V.ref z.1).length ≤ sizeLine := by
      have e := pz.length_eq
      rw [List.length_zip] at e
      rw [List.length_map]
      omega
    have rv : Vals (zs.map fun z => V.ref z.1) (List.toArray out).toList := by
      rw [hout]
      exact vals_maps (fun z : Addr × Str × Int => V.ref z.1) (fun z => Value.ref z.1) zs fun _ _ => rfl
    have I2 : Inv X pins σ (upd H h'.objs.size (.lst (zs.map fun z => V.ref z.1))) { s with heap := sortedHeap h2 h'.objs.size (as.map Value.ref) (List.toArray out), toks := tk } :=
      I1.take (h' := sortedHeap h2 h'.objs.size (as.map Value.ref) (List.toArray out)) (t' := tk) (fun b ob _ e => e) (I.fpOk (Nat.le_of_lt hlt) hn0) ⟨hlen, (List.toArray out).toList, eF, rv, heF⟩
    obtain ⟨H2, I3, g, qt⟩ := takeT (P := fun b vs => ∃ (j : Nat) (e : Str × Int), as[j]? = some b ∧ ks[j]? = some e ∧ vs = [.str e.1, .int e.2]) I as _ I2 nd fun b hb => by
      obtain ⟨j, hj⟩ := List.mem_iff_getElem?.mp hb
      obtain ⟨e, t, t', he, hg⟩ := pr j b hj
      have hbl : s.heap.objs.size ≤ b := Nat.le_of_lt (hG.above b hb)
      refine ⟨hbl, ?_, [.str e.1, .int e.2], ⟨j, e, hj, he, rfl⟩, fun H3 => ⟨(by rw [sizeLine_eq]; show 2 ≤ 16777216; omega), [Value.str e.1 t, Value.int e.2 t'], .cons ⟨_, rfl⟩ (.cons ⟨_, rfl⟩ .nil), ⟨_, kF _ _ (ne0 _ _ hg) (ka _ _ hg), rfl, 0, rfl⟩⟩⟩
      rw [upd_ne (ne0 _ _ hg)]
      exact I.hok.fresh hbl
    have gr : ∀ b o, H b = some o → H2 b = some o := fun b o e => g b o (by rw [upd_ne (ne_of_none e hn0)]; exact e)
    refine ⟨.ref h'.objs.size, H2, I3, rfl, q H2 h'.objs.size zs gr hn0 (g _ _ upd_same) hsort fun z' hz' => ?_⟩
    obtain ⟨i, i1, i2⟩ := idx z' hz'
    obtain ⟨vs', ⟨j, e, j1, j2, ev⟩, hH⟩ := qt z'.1 (List.mem_of_getElem? i1)
    have eij : i = j := (List.getElem?_inj (List.getElem?_eq_some_iff.mp i1).1 nd).mp (i1.trans j1.symm)
    subst eij
    have ee : e = z'.2 := Option.some.inj (j2.symm.trans i2)
    rw [ev, ee] at hH
    exact ⟨I.hok.fresh (Nat.le_of_lt (hG.above _ (List.mem_of_getElem? i1))), hH⟩
end
def kvI? : List (Key × D) → Option (List (Str × Int))
  | [] => some []
  | (.inr x, .int i) :: r => (kvI? r).map ((x, i) :: ·)
  | _ :: _ => none
def sortKV (ks : List (Str × Int)) : List (Str × Int) := ks.mergeSort leKV
def pairD (e : Str × Int) : D := .tup [.str e.1, .int e.2]
def dSItems (x : D) (G : Gp) : R D := match x with
  | .ref n => (match G[n]? with
    | some (.dct kvs) => (match kvI? kvs with
      | some ks => .ok (.ref G.length) (G ++ [.lst ((sortKV ks).map pairD)])
      | none => .bad)
    | _ => .bad)
  | _ => .bad
@[simp] def mSItems (o : ME0) : ME0 := fun e G => (o e G).bind fun x G => dSItems x G
section
variable {X : Cx} {W : WX} {o : Expr} {mo : ME0} {pos : Pos} {K : PySem.W.Frag} {p : List Addr} {H : Hp}
theorem kvI_ok : ∀ {ws : List (Key × V)} {kvs : List (Key × D)} {ks : List (Str × Int)}, KVs K p H ws kvs → kvI? kvs = some ks → ws = ks.map kvOf
  | _, _, ks, .nil, e => by cases e; rfl
  | _, _, ks, .cons (k := k) (d := d) (ds := ds) h hs, e => by
    unfold kvI? at e
    split at e
    · cases ‹_ :: _ = []›
    · rename_i x i r q
      cases q
      cases e2 : kvI? ds with
      | none => rw [e2] at e; cases e
      | some ms =>
        rw [e2] at e
        cases e
        rw [kvI_ok hs e2, inv_int h]
        rfl
    · cases e
theorem se_sitems {p0 apos cpos : Pos} (hc : X.calm = true) (hu : X.A.units + 65 < cLine) (hg : Gl X "sorted") (hm : X.mg "sorted" = none) (ho : SE X W o mo) (hbase : attributeBase o "items" X.env (eval o X.env) = eval o X.env) (hline : (apos.endLine == cpos.line) = true) :
    SE X W (.Call (.Name "sorted" p0) [.Call (.Attribute o "items" apos) [] [] cpos] [] pos) (mSItems mo) := by
  have h1 : PE X (.Call (.Attribute o "items" apos) [] [] cpos) (tBM0 X.K "dict" rItemsK (tE X.K W mo)) := pe_bm0 PySem.F.plainAttrs_dict PySem.F.slot_dict_items PySem.F.type_dict_items mt_itemsK ho hbase hline
  refine pe_imp (pe_callB (cr_sortKV hc (by omega)) hg hm (by decide +kernel) (pa_cons h1 pa_nil rfl) (by decide) (by decide) rfl rfl) fun σ H Q ⟨p, G, e, rl, ev, h⟩ => ⟨p, G, e, rl, ev, h.bind fun x G1 q H1 v pr t r1 dv h2 => ?_⟩
  unfold dSItems at h2
  split at h2
  · split at h2
    · rename_i g
      split at h2
      · rename_i ks hks
        obtain ⟨d, rfl, hd⟩ := inv_ref dv
        obtain ⟨ws, hl, hk⟩ := r1.dct hd g
        cases kvI_ok hk hks
        refine ⟨.inr (.inr (.inl ⟨rfl, .inl ⟨_, hl⟩⟩)), d, _, rfl, rfl, hl, fun b hb => ?_⟩
        refine ⟨b, d, ks, rfl, upd_same, by rw [upd_ne (ne_of_none hl hb)]; exact hl, fun H' l zs ext hnl hl' hz hzt => ?_⟩
        have rb : Rel X.K q G1 (upd H1 b (itemsO b d)) := r1.tup hb
        have tu1 : Tu H1 (upd H1 b (itemsO b d)) := Tu.new hb
        have tu2 : Tu (upd H1 b (itemsO b d)) H' := fun c o' e' _ => ext c o' e'
        have r2 : Rel X.K q G1 H' := rb.keep tu2 fun c hcm => by
          obtain ⟨nn, hnn⟩ := List.getElem?_of_mem hcm
          obtain ⟨oo, _, hoo⟩ := rb.get hnn
          obtain ⟨u, hu1, _⟩ := hoo.there
          rw [hu1]
          exact ext c u hu1
        -- the list and its tuples
        have hlq : l ∉ q := fun hm2 => by
          obtain ⟨nn, hnn⟩ := List.getElem?_of_mem hm2
          obtain ⟨oo, _, hoo⟩ := rb.get hnn
          obtain ⟨u, hu1, _⟩ := hoo.there
          rw [hnl] at hu1
          cases hu1
        have dz : ∀ zs' : List (Addr × Str × Int), (∀ z ∈ zs', H' z.1 = some (.tup [.str z.2.1, .int z.2.2])) → Dens X.K (q ++ [l]) H' (zs'.map fun z => V.ref z.1) ((zs'.map (·.2)).map pairD) := by
          intro zs'
          induction zs' with
          | nil => intro _; exact .nil
          | cons z zs' ih => exact fun hz' => .cons (.tup (hz' z (by simp)) (.cons (.str _) (.cons (.int _) .nil))) (ih fun y hy => hz' y (List.mem_cons_of_mem _ hy))
        have dd := dz zs fun z hz' => (hzt z hz').2
        rw [hz] at dd
        have rn : Rel X.K (q ++ [l]) (G1 ++ [.lst ((sortKV ks).map pairD)]) H' := by
          refine ⟨by rw [List.length_append, List.length_append, r2.len]; rfl, ?_, fun n a u e' g' => ?_⟩
          · rw [List.nodup_append]
            refine ⟨r2.nd, by simp, fun x hx y hy => ?_⟩
            rw [List.mem_singleton] at hy
            subst hy
            intro z
            subst z
            exact hlq hx
          · by_cases hnl2 : n < q.length
            · rw [List.getElem?_append_left hnl2] at e'
              rw [List.getElem?_append_left (by rw [← r2.len]; exact hnl2)] at g'
              exact (r2.ob n a u e' g').mono (Tu.refl _) (pre_app q l) rfl
            · have h1 : n < (q ++ [l]).length := (List.getElem?_eq_some_iff.mp e').1
              have h2 : n = q.length := by rw [List.length_append, List.length_singleton] at h1; omega
              subst h2
              rw [List.getElem?_append_right (Nat.le_refl _), Nat.sub_self] at e'
              rw [List.getElem?_append_right (by rw [r2.len]; exact Nat.le_refl _), show q.length - G1.length = 0 by rw [r2.len]; exact Nat.sub_self _] at g'
              simp at e' g'
              subst e' g'
              exact ⟨_, hl', dd⟩
        exact h2 (q ++ [l]) H' (.ref l) (pre_app q l) (tu1.trans tu2) rn (.ref (by rw [← r2.len, List.getElem?_append_right (Nat.le_refl _), Nat.sub_self]; rfl))
      · exact co_bad h2
    · exact co_bad h2
  · exact co_bad h2
end
end Mw
namespace Mw
open PySem L2
open PyProof.Rows hiding St
/-- enumerate(v) of what iter begins as o -/
theorem enum_makes {v : Value} {o : Obj} {P : Heap → Prop} (B : Begins v o P) :
    Meets (Builtin.«enumerate.__new__» ⟨[.type "enumerate", v], []⟩) (fun _ R s => P s.heap ∧
      R (.ok (.ret (.ref (s.heap.push o).objs.size))) { s with heap := (s.heap.push o).push { cls := .type "enumerate", data := .fields #[.none, .bool false, .ref s.heap.objs.size, rawInt 0, .none, .none] } }) :=
  .of_wp fun prog w A R s h => by
    obtain ⟨hp, g, d, tk, os⟩ := s
    obtain ⟨hl, h⟩ := h
    have hsub := sub_enumerate
    have q1 : ∀ {A' : Around} {E : Value → Shared → Prop} {Q : Value → Shared → Prop}, Q (.ref hp.objs.size) ⟨(hp.push o), g, d, tk, os⟩ → wpAny (model prog w) A' (pyIter v) Q E ⟨hp, g, d, tk, os⟩ :=
      fun q => B.iter prog w _ _ ⟨hp, g, d, tk, os⟩ _ (B.keeps _ _ hl fun b o' e => e) q
    wp_walk using q1
    refine wpAny_stack_any fun st => wpAny_pure ?_
    split
    · rename_i c _ _ _ _ _
      cases (c == Value.type "enumerate") <;> (wp_walk using q1) <;> exact ⟨_, rfl, h⟩
    · wp_walk using q1
      exact ⟨_, rfl, h⟩
theorem enum_call {prog : Program} {w : World} {A : Around} {E : Value → Shared → Prop} {s : Shared} {v : Value} {o : Obj} {P : Heap → Prop} {Q : Value → Shared → Prop} (B : Begins v o P) (hP : P s.heap)
    (k : IsEnum ((s.heap.push o).push { cls := .type "enumerate", data := .fields #[.none, .bool false, .ref s.heap.objs.size, rawInt 0, .none, .none] }) (s.heap.objs.size + 1) s.heap.objs.size 0 .none →
      Q (.ref (s.heap.objs.size + 1)) { s with heap := (s.heap.push o).push { cls := .type "enumerate", data := .fields #[.none, .bool false, .ref s.heap.objs.size, rawInt 0, .none, .none] } }) :
    wpAny (model prog w) A (call (.type "enumerate") [v]) Q E s := by
  refine callType_new F.called_enumerate (by decide) (F.typeCall_enumerate_1 _) (F.newCall_enumerate_1 _) (fun obj => F.args_object_init_2 obj _) F.entry_enumerate_new (enum_makes B) ⟨hP, ?_⟩
  have sz : (s.heap.push o).objs.size = s.heap.objs.size + 1 := Heap.size_push ..
  show _ ∧ _
  rw [sz]
  have ie : IsEnum ((s.heap.push o).push { cls := .type "enumerate", data := .fields #[.none, .bool false, .ref s.heap.objs.size, rawInt 0, .none, .none] }) (s.heap.objs.size + 1) s.heap.objs.size 0 .none := by
    have g := Heap.get?_push_size (s.heap.push o) (o := { cls := .type "enumerate", data := .fields #[.none, .bool false, .ref s.heap.objs.size, rawInt 0, .none, .none] }) rfl
    rw [sz] at g
    exact g
  exact ⟨⟨_, ie, rfl⟩, k ie⟩
/-- the tuple at a, each item in a new pair -/
def IteT (K : PySem.W.Frag) (a : Addr) : It :=
  ⟨fun i H => ∃ (xs : List V) (x : V), SqT K H a xs ∧ xs[i]? = some x, fun i H v H' => ∃ T x, v = .ref T ∧ H T = none ∧ H' = upd H T (.tup [.int (i : Nat), x]) ∧ ∀ xs, SqT K H a xs → xs[i]? = some x, fun i H => ∃ xs : List V, SqT K H a xs ∧ xs.length = i⟩
theorem tup_ne_iter {h : Heap} {a it : Addr} {i : Nat} {items : Array Value} (ht : h.IsTuple a items) (hi : h.IsTupleIter it a i) : a ≠ it := fun z => by
  obtain ⟨o, ho, _, n, hd⟩ := ht
  obtain ⟨o', ho', _, hd'⟩ := hi
  rw [z, ho'] at ho
  cases ho
  rw [hd'] at hd
  cases hd
theorem tup_ne_enum {h : Heap} {a e it : Addr} {i : Int} {old : Value} {items : Array Value} (ht : h.IsTuple a items) (he : IsEnum h e it i old) : e ≠ a := fun z => by
  obtain ⟨o, ho, _, n, hd⟩ := ht
  have he' := he
  unfold IsEnum at he'
  rw [z, ho] at he'
  cases he'
  cases hd
theorem turn_enumT {P : Program} {w : World} {K : PySem.W.Frag} {elts : List Expr} {kk : Nat} {tpos : Pos} (a e it : Addr) :
    Turn P w K (.Tuple elts kk tpos) (IteT K a) [e, it] e (fun i h => (∃ old, IsEnum h e it ((i : Nat) : Int) old) ∧ h.IsTupleIter it a i ∧ e ≠ it) where
  mem := by simp
  obj := fun i h st b hb => by
    obtain ⟨⟨old, he⟩, ⟨o, ho, hc, hd⟩, _⟩ := st
    rcases List.mem_cons.mp hb with z | z
    · rw [z]; exact ⟨_, he, fun v q => nomatch q⟩
    · rw [List.mem_singleton.mp z]; exact ⟨o, ho, fun v q => by rw [hd] at q; cases q⟩
  keep := fun i h h' st k => by
    obtain ⟨⟨old, he⟩, hi, hne⟩ := st
    exact ⟨⟨old, k e (by simp) _ he⟩, hi.at fun o q => k it (by simp) o q, hne⟩
  item := by
    intro X hP hw hK hc i pins s σ H E I hf st hg
    subst hP hw hK
    obtain ⟨⟨old, he⟩, hit, hne⟩ := st
    obtain ⟨xs, x, hq, hx⟩ := hg
    obtain ⟨its, rv, p, hz⟩ := I.tuple hq
    obtain ⟨u, hu, ru⟩ := rv.get hx
    have ht : s.heap.IsTuple a its.toArray := p
    have hel : e < s.heap.objs.size := Heap.lt_size he
    have hil : it < s.heap.objs.size := by obtain ⟨_, q, _⟩ := hit; exact Heap.lt_size q
    have hai := tup_ne_iter ht hit
    have hea := tup_ne_enum ht he
    have hlt : i < its.toArray.size := by
      have := (List.getElem?_eq_some_iff.mp hu).1
      simpa using this
    refine wpAny_pyNext_enum_itemD (Draws.tuple (show X.A.in1.handled = none from I.ok.hd hc) it a hai its.toArray) he ⟨hit, ht⟩ hlt hne (by simp [hne, hea]) fun x' h' tk hx' ho hit' hT hsz hk => ?_
    have ex : x' = u := by
      have h1 : its.toArray[i]? = some u := by simpa using hu
      exact Option.some.inj (hx'.symm.trans h1)
    subst ex
    refine ⟨_, rfl, wpAny_letOwnedTupleGo_enum (s := { s with heap := h', toks := tk + 1 }) ho fun h'' he' sb => ?_⟩
    have hT2 : h''.get? s.heap.objs.size = some { cls := .type "tuple", data := .seq #[.int i tk, x'] } := (sb.2 _ (Nat.ne_of_gt hel)).trans hT
    have new : ObjOk X.prog X.w (upd H s.heap.objs.size (.tup [.int (i : Nat), x])) h'' s.heap.objs.size (.tup [.int (i : Nat), x]) :=
      ⟨by show 2 ≤ sizeLine; decide, [.int i tk, x'], .cons ⟨_, rfl⟩ (.cons ru .nil), ⟨_, hT2, rfl, _, rfl⟩⟩
    have I1 : Inv X pins σ (upd H s.heap.objs.size (.tup [.int (i : Nat), x])) { s with heap := h'', toks := tk + 1 } :=
      I.turnedNew (ch := [e, it]) (fun b ob hb q => (sb.2 b (fun z => hb (by simp [z]))).trans (hk b ob (fun z => hb (by simp [z])) (fun z => hb (by simp [z])) q)) hf (Nat.le_refl _) new
    refine ⟨.ref s.heap.objs.size, _, I1, rfl, ⟨_, x, rfl, I.hok.fresh (Nat.le_refl _), rfl, fun ys hy => by rw [I.tuple_inj hy hq]; exact hx⟩, ⟨⟨x', ?_⟩, hit'.1.at fun o q => (sb.2 it (Ne.symm hne)).trans q, hne⟩, fun b hb => ?_⟩
    · rw [show ((i + 1 : Nat) : Int) = (i : Int) + 1 by omega]
      exact he'
    · have hb' : b < s.heap.objs.size := by
        rcases List.mem_cons.mp hb with z | z
        · rw [z]; exact hel
        · rw [List.mem_singleton.mp z]; exact hil
      rw [upd_ne (Nat.ne_of_lt hb')]
      exact (hf b hb).1
  done := by
    intro X hP hw hK hc i pins s σ H E I hf st hg
    subst hP hw hK
    obtain ⟨⟨old, he⟩, hit, hne⟩ := st
    obtain ⟨xs, hq, hx⟩ := hg
    obtain ⟨its, rv, p, hz⟩ := I.tuple hq
    have ht : s.heap.IsTuple a its.toArray := p
    obtain ⟨f0, f1, f2, f3, f4, f5⟩ := hf it (by simp)
    have hn : i = its.toArray.size := by have := rv.length; simp; omega
    subst hn
    exact wpAny_pyNext_enum_endD (Draws.tuple (show X.A.in1.handled = none from I.ok.hd hc) it a (tup_ne_iter ht hit) its.toArray) he ⟨hit, ht⟩ fun h' eb => ⟨rfl, I.turned (t' := s.toks) (fun b o hb q => eb b o hb q) f0 f1 f3 f4 f5⟩
  self := fun A i s Q E st h => by
    obtain ⟨⟨_, he⟩, _⟩ := st
    exact wpAny_pyIter_enum he h
def iEnumT (K : PySem.W.Frag) (ta : TA) : TI := fun σ H R => ta σ H fun vs H1 => ∃ a xs, vs = [.ref a] ∧ SqT K H1 a xs ∧ R (IteT K a) H1
theorem pi_enumT {X : Cx} {e : Expr} {ta : TA} {p pos tpos : Pos} {elts : List Expr} {kk : Nat} (hg : Gl X "enumerate") (hm : X.mg "enumerate" = none) (ha : PA X [e] ta) (hs : starEach [e] X.env = [(false, eval e X.env)]) :
    PI X (.Tuple elts kk tpos) (.Call (.Name "enumerate" p) [e] [] pos) (iEnumT X.K ta) := by
  refine ⟨fun pins s σ H R I h => ?_⟩
  refine Call_ (ld_blt I hg hm boot_enumerate (PyProof.Rows.callWith_type1 (thn (ha.run pos pins s σ H _ I h) fun us s1 ⟨vs, H1, I1, r1, q1⟩ => ?_) hs rfl))
  obtain ⟨a, xs, ex, hq, q⟩ := q1
  subst ex
  cases r1 with
  | cons r rr =>
    cases rr
    cases r
    obtain ⟨its, rv, p', hz⟩ := I1.tuple hq
    have ht : s1.heap.IsTuple a its.toArray := p'
    refine enum_call (begins_tuple a its.toArray) ht fun he => wpAny_pyIter_enum he ?_
    have I2 : Inv X pins σ H1 { s1 with heap := (s1.heap.push { cls := .type "tuple_iterator", data := .fields #[.ref a, .int 0 0] }).push { cls := .type "enumerate", data := .fields #[.none, .bool false, .ref s1.heap.objs.size, rawInt 0, .none, .none] } } := I1.kept (t' := s1.toks) fun b o g => Heap.get?_push_of_some _ (Heap.get?_push_of_some _ g)
    refine ⟨s1.heap.objs.size + 1, [s1.heap.objs.size + 1, s1.heap.objs.size], _, _, H1, rfl, I2, turn_enumT a (s1.heap.objs.size + 1) s1.heap.objs.size, ⟨⟨.none, he⟩, ⟨_, Heap.get?_push_of_some _ (Heap.get?_push_size _ rfl), rfl, rfl⟩, Nat.succ_ne_self _⟩, fun b hb => ?_, q⟩
    have hle : s1.heap.objs.size ≤ b := by
      rcases List.mem_cons.mp hb with z | z
      · rw [z]; exact Nat.le_add_right _ _
      · rw [List.mem_singleton.mp z]; exact Nat.le_refl _
    exact I1.fpOk hle (I1.hok.fresh hle)
def enumD (ds : List D) : List D := ds.zipIdx.map fun x => .tup [.int (x.2 : Nat), x.1]
@[simp] def miEnum (a : ME0) : MI0 := fun e G => (a e G).bind fun x G => match x with
  | .tup ds => .ok ⟨enumD ds, none⟩ G
  | _ => .bad
theorem enumD_get {ds : List D} {i : Nat} {d : D} (h : (enumD ds)[i]? = some d) : ∃ x, ds[i]? = some x ∧ d = .tup [.int (i : Nat), x] := by
  unfold enumD at h
  rw [List.getElem?_map, List.getElem?_zipIdx] at h
  cases hx : ds[i]? with
  | none => rw [hx] at h; cases h
  | some x =>
    rw [hx] at h
    simp at h
    exact ⟨x, rfl, h.symm⟩
theorem si_enumT {X : Cx} {W : WX} {a : Expr} {ma : ME0} {p0 pos tpos : Pos} {elts : List Expr} {kk : Nat} (hg : Gl X "enumerate") (hm : X.mg "enumerate" = none) (ha : SE X W a ma) (hs : starEach [a] X.env = [(false, eval a X.env)]) : SI X W (.Tuple elts kk tpos) (.Call (.Name "enumerate" p0) [a] [] pos) (miEnum ma) := by
  refine pi_imp (pi_enumT hg hm (sa_cons ha sa_nil hs) hs) fun σ H Q ⟨p, G, e, rl, ev, h⟩ => ?_
  have h' : CoI X.K W σ p H ((ma e G).bind fun x G => match x with
    | .tup ds => .ok ⟨enumD ds, none⟩ G
    | _ => .bad) Q := h
  refine ⟨p, G, e, rl, ev, ?_⟩
  show Co X.K W σ p H (Dens X.K) (maCons ma maNil e G) _
  unfold maCons maNil
  cases hm : ma e G with
  | bad => rw [hm] at h'; exact h'.elim
  | exc c G1 => rw [hm] at h'; exact h'
  | ok x G1 =>
    rw [hm, R.bind_ok] at h'
    intro q H1 vs pr t r1 dv
    obtain ⟨v, rfl, dv1⟩ := inv1 dv
    cases x with
    | tup ds =>
      obtain ⟨b, ws, rfl, hb, hxs⟩ := inv_tup dv1
      have h2 : CoI X.K W σ q H1 (.ok ⟨enumD ds, none⟩ G1) Q := CoI.later h' pr t
      refine ⟨b, ws, rfl, .inl (.inl hb), h2.here r1 ⟨fun q2 G2 H2 p2 t2 r2 _ => ⟨ws, .inl (.inl (t2 _ _ hb trivial)), ?_⟩, fun i d q2 G2 H2 p2 t2 r2 _ hd => ?_⟩⟩
      · show ws.length = (enumD ds).length
        unfold enumD
        rw [List.length_map, List.length_zipIdx, hxs.length]
      · obtain ⟨x, hx, rfl⟩ := enumD_get hd
        have hb2 : H2 b = some (.tup ws) := t2 _ _ hb trivial
        obtain ⟨w, hw, dw⟩ := (hxs.mono t2 p2).get hx
        refine ⟨⟨ws, w, .inl (.inl hb2), hw⟩, fun y H3 hy => ?_⟩
        obtain ⟨T, z, rfl, hT, rfl, hz⟩ := hy
        have ez : z = w := Option.some.inj ((hz ws (.inl (.inl hb2))).symm.trans hw)
        subst ez
        exact ⟨Tu.new hT, r2.tup hT, .tup upd_same (.cons (.int _) (.cons (dw.mono (Tu.new hT) (List.prefix_refl _)) .nil))⟩
    | _ => exact h'.elim
end Mw
namespace Mw
open PySem L2
open PyProof.Rows hiding St
section
variable {X : Cx} {W : WX} {k : Nat} {f C : Addr} {fd : FuncData} {ps : List Str} {F : FM} {a : Expr} {es : List Expr} {m : MA0} {pos : Pos}
theorem makeS_run {CX : CXT} {sp : Sp} {E : St → XK} {pins : List (Addr × Obj)} {σ : St} {H : Hp} {s : Shared} {Q : VK} {us : List Value} {vs : List V} (M : Mk X.K C f) (Fn : FnOk X.prog X.w X.K X.mg X.base CX k f fd ps sp) (hr : Room (k + 1) X.A) (hb : Binds X.K fd ps []) (hx : PassesAt CX X σ (E σ)) (I : Inv X pins σ H s) (r : Vals vs us)
    (h : ∀ y dx, H y = none → H dx = none → dx ≠ y → sp (.ref y :: vs) (upd (upd H dx (.own y)) y (.ins C dx [])) (fun v H2 => v = .non ∧ Q (.ref y) H2) (E σ)) : wpAny (model X.prog X.w) X.A (call (.ref C) us) (EP X pins σ Q) X.xe s := by
  have n1 : H (s.heap.objs.size + 1) = none := I.hok.fresh (Nat.le_succ _)
  have n2 : H s.heap.objs.size = none := I.hok.fresh (Nat.le_refl _)
  have z := h _ _ n1 n2 (Nat.ne_of_lt (Nat.lt_succ_self _))
  have J := Inv.made (C := C) I
  have rr : Vals (V.ref (s.heap.objs.size + 1) :: vs) (Value.ref (s.heap.objs.size + 1) :: us) := .cons rfl r
  have hl : (Value.ref (s.heap.objs.size + 1) :: us).length = ps.length := rr.length.symm.trans (Fn.len _ _ _ _ z)
  have bd := hb _ (Value.ref (s.heap.objs.size + 1) :: us) J.kIn (by rw [List.append_nil]; exact hl)
  rw [List.append_nil] at bd
  have run := Fn.run _ X.stack _ _ ⟨Value.ref (s.heap.objs.size + 1) :: us, []⟩ _ _ _ _ (hr.make C us []) (J.env0.make C us []) bd rr z
  refine wpAny_call (make_map (f := f) I.kIn M.makes M.init (beq_iff_eq.mp M.fn) (codeAny_mono run fun o s2 q => ?_))
  cases o with
  | error e => exact hx pins _ _ e s2 J q
  | ok fl =>
    cases fl with
    | next => cases q
    | brk => cases q
    | cont => cases q
    | ret u =>
      obtain ⟨v, H3, J3, rv, ev, q3⟩ := J.after q
      cases ev
      exact ⟨rv, V.ref (s.heap.objs.size + 1), H3, J3, rfl, q3⟩
/-- C(..), by the state -/
def tMakeS (C : Addr) (sp : Sp) (E : St → XK) (t : TA) : TE := fun σ H Q => t σ H fun vs H1 => ∀ y dx, H1 y = none → H1 dx = none → dx ≠ y → sp (.ref y :: vs) (upd (upd H1 dx (.own y)) y (.ins C dx [])) (fun v H2 => v = .non ∧ Q (.ref y) H2) (E σ)
theorem pe_makeS {CX : CXT} {sp : Sp} {E : St → XK} {x : Str} {p0 : Pos} {t : TA} (M : Mk X.K C f) (Fn : FnOk X.prog X.w X.K X.mg X.base CX k f fd ps sp) (hr : Room (k + 1) X.A) (hg : Gl X x) (hm : X.mg x = some (.ref C)) (hb : Binds X.K fd ps []) (hx : ∀ σ, PassesAt CX X σ (E σ)) (ha : PA X (a :: es) t) (hdb : (x == ("__debug__" : Str)) = false)
    (he : starEach (a :: es) X.env = (false, eval a X.env) :: starEach es X.env) (hpl : (backTo pos (starEach es X.env)).any (·.1) = false) : PE X (.Call (.Name x p0) (a :: es) [] pos) (tMakeS C sp E t) := by
  refine ⟨fun pins s σ H Q I h => wpAny_Call_Name_kw (ld_glob I hg hm ?_ hdb)⟩
  exact PySem.W.callWith_K (h₀ := X.base) I.ok.mod.kin M.kp (thn (ha.run pos pins s σ H _ I h) fun us s1 ⟨vs, H1, J, r, q⟩ => ⟨J.kIn, makeS_run M Fn hr hb (hx σ) J r q⟩) he hpl
def isNon (d : D) : Bool := match d with
  | .non => true
  | _ => false
@[simp] def mMake (n : Nat) (f : FM) (m : MA0) : ME0 := fun e G => (m e G).bind fun ds G1 => if ds.length + 1 = n then ((f (.ref G1.length :: ds) (G1 ++ [.ins []])).bind fun r G2 => if isNon r = true then .ok (.ref G1.length) G2 else .bad) else .bad
theorem read_make {σ : St} {H : Hp} {Q : VK} (h : tE X.K W (mMake ps.length F m) σ H Q) : tMakeS (He.ga X.K cname) (spM X.K ps.length F) (WE W) (tA X.K W m) σ H Q := by
  obtain ⟨p, G, e, rl, ev, h⟩ := h
  refine ⟨p, G, e, rl, ev, h.bind fun ds G1 q H1 vs pr t r1 dv h1 => ?_⟩
  intro y dx hy hdx hne
  split at h1
  · rename_i hl
    have r2 : Rel X.K q G1 (upd H1 dx (.own y)) := r1.tup hdx
    have hy2 : upd H1 dx (.own y) y = none := by rw [upd_ne (Ne.symm hne)]; exact hy
    have t2 : Tu H1 (upd H1 dx (.own y)) := Tu.new hdx
    have t3 : Tu (upd H1 dx (.own y)) (upd (upd H1 dx (.own y)) y (.ins (He.ga X.K cname) dx [])) := Tu.new hy2
    have r3 : Rel X.K (q ++ [y]) (G1 ++ [.ins []]) (upd (upd H1 dx (.own y)) y (.ins (He.ga X.K cname) dx [])) := r2.new hy2 ⟨dx, [], upd_same, .nil⟩
    have hq : (q ++ [y])[G1.length]? = some y := by rw [← r1.len]; simp
    refine ⟨q ++ [y], G1 ++ [.ins []], .ref G1.length :: ds, r3, .cons (.ref hq) (dv.mono (t2.trans t3) (pre_app q y)), hl, ?_⟩
    have h2 := Co.later h1 (pre_app q y) (t2.trans t3)
    refine co_wx (G := G1) (Co.bind h2 fun d G3 q3 H3 v pr3 t4 r4 dv3 h3 => ?_) fun c d H z => z
    split at h3
    · rename_i hd
      cases d with
      | non =>
        cases dv3
        exact ⟨rfl, h3.here r4 (.ref (by
          obtain ⟨u, hu⟩ := pr3
          rw [← hu, List.getElem?_append_left (by rw [List.length_append, r1.len]; simp), hq]))⟩
      | _ => cases hd
    · exact co_bad h3
  · exact co_bad h1
theorem se_make {x : Str} {p0 : Pos} (tk : Takes X W) (M : Mk X.K (He.ga X.K cname) f) (Fn : FnM X k f fd ps F) (hr : Room (k + 1) X.A) (hg : Gl X x) (hm : X.mg x = some (.ref (He.ga X.K cname))) (hb : Binds X.K fd ps []) (ha : SA X W (a :: es) m) (hdb : (x == ("__debug__" : Str)) = false)
    (he : starEach (a :: es) X.env = (false, eval a X.env) :: starEach es X.env) (hpl : (backTo pos (starEach es X.env)).any (·.1) = false) : SE X W (.Call (.Name x p0) (a :: es) [] pos) (mMake ps.length F m) :=
  pe_imp (pe_makeS (E := WE W) M Fn hr hg hm hb (fun σ => passAt tk σ) ha hdb he hpl) fun _ _ _ h => read_make h
end
end Mw
namespace Mw
open PySem L2
open PyProof.Rows hiding St
section
variable {X : Cx} {W : WX} {a c : Expr} {ta tc : TE} {ma mc : ME0} {pos p2 : Pos}
def tRev (K : PySem.W.Frag) (ta : TE) (tc : TO) : TE := fun σ H Q => ta σ H fun x H1 => tc σ H1 fun k H2 => k = some (-1) ∧ ∃ l xs, x = .ref l ∧ SqL K H2 l xs ∧ ∀ p, H2 p = none → Q (.ref p) (upd H2 p (.lst xs.reverse))
theorem pe_rev (ha : PE X a ta) {tc : TO} (hc : PO X (some c) tc) : PE X (.Subscript a (.Slice none none (some c) p2) pos) (tRev X.K ta tc) := by
  refine ⟨fun pins s σ H Q I h => Subscript_ (thn (ha.run pins s σ H _ I h) fun v s1 ⟨x, H1, I1, r1, q1⟩ => ?_)⟩
  refine wpAny_Slice ?_
  rw [evalPart_none]
  refine wpAny_pure (wpAny_pure (thn (hc.run pins s1 σ H1 _ I1 q1) fun vk s3 ⟨k, H3, I3, pk, hk, l, xs, hx, hl, q⟩ => ?_))
  subst hk hx
  cases r1
  have J : Inv X pins σ H3 { s3 with heap := s3.heap.push { cls := .type "slice", data := .fields #[.none, .none, vk] } } := I3.kept (t' := s3.toks) fun b ob g => Heap.get?_push_of_some _ g
  obtain ⟨its, r, ht, hz⟩ := J.list hl
  have hlen := r.length
  refine tail_any (ops := [.ref l, .ref s3.heap.objs.size]) ht.isList.typeIs slot_list_getitem.lookup (wpAny_getItem_list_slice ht.isList (Heap.IsSliceOf.new ..) .none .none pk (by simp) ?_ (by rw [List.size_toArray] <;> omega)) (by with_unfolding_all rfl)
  rw [PySem.W.krv_pick]
  refine ⟨V.ref _, _, J.laid (t' := s3.toks) (o := .lst xs.reverse) (fun b ob g => Heap.get?_push_of_some _ g) (Nat.le_refl _) ?_, rfl, q _ (J.hok.fresh (Nat.le_refl _))⟩
  exact ⟨by rw [List.length_reverse]; exact hz, its.reverse, 0, r.reverse, Heap.get?_push_size _ rfl⟩
def dRev (x k : D) (G : Gp) : R D := match x, k with
  | .ref n, .int (-1) => (match G[n]? with
    | some (.lst ds) => .ok (.ref G.length) (G ++ [.lst ds.reverse])
    | _ => .bad)
  | _, _ => .bad
@[simp] def mRev (a c : ME0) : ME0 := fun e G => (a e G).bind fun x G => (c e G).bind fun k G => dRev x k G
theorem se_rev (ha : SE X W a ma) (hc : SE X W c mc) : SE X W (.Subscript a (.Slice none none (some c) p2) pos) (mRev ma mc) := by
  refine pe_imp (pe_rev ha (po_some hc)) fun σ H Q ⟨p, G, e, rl, ev, h⟩ => ?_
  refine ⟨p, G, e, rl, ev, h.bind fun x G1 q H1 v pr t r1 dv h1 => ?_⟩
  refine ⟨q, G1, e, r1, ev.mono t pr, h1.bind fun k G2 q2 H2 w pr2 t2 r2 dk h2 => ?_⟩
  have dv2 := dv.mono t2 pr2
  unfold dRev at h2
  split at h2
  · rename_i n
    cases dk
    split at h2
    · rename_i ds g
      obtain ⟨b, rfl, hb⟩ := inv_ref dv2
      obtain ⟨vs, hv, hd⟩ := r2.lst hb g
      exact ⟨-1, rfl, rfl, b, vs, rfl, .inl (.inl hv), fun y hy => co_new r2 hy hd.reverse h2⟩
    · exact co_bad h2
  · exact co_bad h2
end
end Mw
namespace Mw
open PySem L2
open PyProof.Rows hiding St
inductive Bop where
  | add | sub | mul | mod | div | pow
def Bop.op : Bop → Operator
  | .add => .Add | .sub => .Sub | .mul => .Mult | .mod => .Mod | .div => .FloorDiv | .pow => .Pow
@[simp] def Bop.f : Bop → D → D → Gp → R D
  | .add => dAdd | .sub => dSub | .mul => dMul | .mod => dMod | .div => dDiv | .pow => dPow
inductive Blt where
  | len | max | min | int | list | tuple | dict | sorted
def Blt.nm : Blt → Str
  | .len => "len" | .max => "max" | .min => "min" | .int => "int" | .list => "list" | .tuple => "tuple" | .dict => "dict" | .sorted => "sorted"
@[simp] def Blt.f : Blt → FM
  | .len => fLen | .max => fMax | .min => fMin | .int => fInt | .list => fList | .tuple => fTuple | .dict => fDict | .sorted => fSorted
mutual
inductive ME where
  | var (i : Nat) | non | bl (b : Bool) | int (i : Int) | str (x : Str) | gint (x : Str) (i : Int) | gstr (x y : Str)
  | bin (o : Bop) (a b : ME) | neg (a : ME) | cmp (o : Cop) (a b : ME) | chain (o o' : Cop) (a b c : ME)
  | notE (a : ME) | andE (es : MEs) | orE (es : MEs) | ifE (c a b : ME)
  | tup (es : MEs) | lst (es : MEs) | ix (a b : ME) | sl (a : ME) (lo hi : MO) | fld (f : Nat) (a : ME)
  | isi (t : Ty) (a : ME) | blt (b : Blt) (a : ME) (es : MEs) | call (f : Nat) (es : MEs) | meth (f : Nat) (o : ME) (es : MEs) | rev (a c : ME) | make (f : Nat) (es : MEs)
  | app (o a : ME) | get2 (o a b : ME) | pop1 (o a : ME) | pop2 (o a b : ME) | sitems (o : ME)
  | lc (elt : ME) (t : Tg) (it : MIt) (tst : MO) (own : List (Str × Nat))
inductive MEs where
  | nil | cons (a : ME) (r : MEs)
inductive MO where
  | none | some (a : ME)
inductive MIt where
  | val (a : ME) | range1 (a : ME) | range2 (a b : ME) | enum (a : ME)
end
abbrev MT0 := En → Gp → R Bool
@[simp] def pl (m : ME0) : ME0 × MT0 := (m, mTru m)
@[simp] def mNotV (a : ME0) : ME0 := fun e G => (a e G).bind fun x G => (dTru x G).bind fun b G => .ok (.bl (!b)) G
structure Fns where
  F : Nat → FM
  ar : Nat → Nat
mutual
@[simp] def eP (Γ : Fns) : ME → ME0 × MT0
  | .var i => pl (mVar i)
  | .non => pl (mC .non)
  | .bl b => pl (mC (.bl b))
  | .int i => pl (mC (.int i))
  | .str x => pl (mC (.str x))
  | .gint _ i => pl (mC (.int i))
  | .gstr _ y => pl (mC (.str y))
  | .bin o a b => pl (mBin o.f (eP Γ a).1 (eP Γ b).1)
  | .neg a => pl (mNeg (eP Γ a).1)
  | .cmp o a b => (mOfB (mCmpB o.f (eP Γ a).1 (eP Γ b).1), mCmpB o.f (eP Γ a).1 (eP Γ b).1)
  | .chain o o' a b c => (mChain o.f o'.f (eP Γ a).1 (eP Γ b).1 (eP Γ c).1, mChainT o.f o'.f (eP Γ a).1 (eP Γ b).1 (eP Γ c).1)
  | .notE a => (mNotV (eP Γ a).1, mNotT (eP Γ a).2)
  | .andE es => eAnd Γ es
  | .orE es => eOr Γ es
  | .ifE c a b => (mIf (eP Γ c).2 (eP Γ a).1 (eP Γ b).1, fun _ _ => .bad)
  | .tup es => pl (mTup (eA Γ es))
  | .lst es => pl (mLst (eA Γ es))
  | .ix a b => pl (mBin dIx (eP Γ a).1 (eP Γ b).1)
  | .sl a lo hi => pl (mSl (eP Γ a).1 (eO Γ lo) (eO Γ hi))
  | .fld f a => pl (mFld f (eP Γ a).1)
  | .isi t a => (mOfB (mIsi t (eP Γ a).1), mTru (mOfB (mIsi t (eP Γ a).1)))
  | .blt b a es => pl (mCall b.f (maCons (eP Γ a).1 (eA Γ es)))
  | .call f es => pl (mCallF (Γ.ar f) (Γ.F f) (eA Γ es))
  | .meth f o es => pl (mMeth (Γ.ar f) (Γ.F f) (eP Γ o).1 (eA Γ es))
  | .rev a c => pl (mRev (eP Γ a).1 (eP Γ c).1)
  | .make f es => pl (mMake (Γ.ar f) (Γ.F f) (eA Γ es))
  | .app o a => pl (mApp (eP Γ o).1 (eP Γ a).1)
  | .get2 o a b => pl (mGet2 (eP Γ o).1 (eP Γ a).1 (eP Γ b).1)
  | .pop1 o a => pl (mPop1 (eP Γ o).1 (eP Γ a).1)
  | .pop2 o a b => pl (mPop2 (eP Γ o).1 (eP Γ a).1 (eP Γ b).1)
  | .sitems o => pl (mSItems (eP Γ o).1)
  | .lc elt t it tst own => pl (mLc t (eI Γ it) (eTst Γ tst) (eP Γ elt).1 (own.map (·.2)))
@[simp] def eA (Γ : Fns) : MEs → MA0
  | .nil => maNil
  | .cons a r => maCons (eP Γ a).1 (eA Γ r)
@[simp] def eAnd (Γ : Fns) : MEs → ME0 × MT0
  | .nil => (fun _ _ => .bad, fun _ _ => .bad)
  | .cons a r => (match r with
    | .nil => eP Γ a
    | .cons _ _ => (mAndV (eP Γ a).1 (eAnd Γ r).1, mAndT (eP Γ a).2 (eAnd Γ r).2))
@[simp] def eOr (Γ : Fns) : MEs → ME0 × MT0
  | .nil => (fun _ _ => .bad, fun _ _ => .bad)
  | .cons a r => (match r with
    | .nil => eP Γ a
    | .cons _ _ => (mOrV (eP Γ a).1 (eOr Γ r).1, mOrT (eP Γ a).2 (eOr Γ r).2))
@[simp] def eO (Γ : Fns) : MO → Option ME0
  | .none => none
  | .some a => some (eP Γ a).1
@[simp] def eTst (Γ : Fns) : MO → MT0
  | .none => mYes
  | .some a => (eP Γ a).2
@[simp] def eI (Γ : Fns) : MIt → MI0
  | .val a => miVal (eP Γ a).1
  | .range1 a => miRange1 (maCons (eP Γ a).1 maNil)
  | .range2 a b => miRange2 (maCons (eP Γ a).1 (maCons (eP Γ b).1 maNil))
  | .enum a => miEnum (eP Γ a).1
end
def visB (sc : Scope) (x : Str) : Bool := match sc.names.lookup x with
  | some .local => true
  | some .cell => true
  | some .free => true
  | _ => false
def locB (sc : Scope) (x : Str) : Bool := match sc.names.lookup x with
  | some .local => true
  | some .cell => true
  | _ => false
def glB (sc : Scope) (x : Str) : Bool := match sc.names.lookup x with
  | some .globalImplicit => true
  | _ => false
def okN (x : Str) : Bool := !(x == ("__debug__" : Str)) && (!(x == ("__classdict__" : Str)) && !decide (x = "__name__"))
/-- no star, no slice, no display of a set, no comprehension of other kinds -/
def plainB : Expr → Bool
  | .BoolOp .. => true
  | .BinOp .. => true
  | .UnaryOp .. => true
  | .IfExp .. => true
  | .ListComp .. => true
  | .Compare .. => true
  | .Call .. => true
  | .Constant .. => true
  | .Attribute .. => true
  | .Subscript .. => true
  | .Name .. => true
  | .List .. => true
  | .Tuple .. => true
  | _ => false
def noLcB : Expr → Bool
  | .ListComp .. => false
  | _ => true
/-- a receiver -/
def rcvB : Expr → Bool
  | .Name .. => true
  | .Attribute .. => true
  | .Subscript .. => true
  | _ => false
theorem pl_star {e : Expr} (h : plainB e = true) (es : List Expr) (env : Env) : starEach (e :: es) env = (false, eval e env) :: starEach es env := by
  cases e <;> first | (cases h; done) | rfl
theorem pl_fold {e : Expr} (h : plainB e = true) (env : Env) (x : Value) : foldedSetIterable e env x = pure x := by
  cases e <;> first | (cases h; done) | rfl
theorem pl_marks {e : Expr} (h : plainB e = true) (op : CmpOp) : behindInMarks op e = false := by
  cases e <;> first | (cases h; done) | rfl
theorem pl_ix {e : Expr} (h : plainB e = true) : PlainIx e := by
  cases e <;> first | (cases h; done) | exact fun _ _ => rfl
theorem pl_swap {e : Expr} (h : plainB e = true) (h2 : noLcB e = true) (t : Option Expr) (l : Nat) (env : Env) : swapsWith e t l env = pure false := by
  cases e <;> first | (cases h; done) | (cases h2; done) | rfl
theorem pl_swapA {e : Expr} (h : plainB e = true) (o : Expr) (f : Str) (p : Pos) (l : Nat) (env : Env) : swapsWith e (some (.Attribute o f p)) l env = pure false := by
  cases e <;> first | (cases h; done) | rfl
theorem pl_swapS {e : Expr} (h : plainB e = true) (o i : Expr) (p : Pos) (l : Nat) (env : Env) : swapsWith e (some (.Subscript o i p)) l env = pure false := by
  cases e <;> first | (cases h; done) | rfl
theorem rc_base {e : Expr} (h : rcvB e = true) (f : Str) (env : Env) (w : Sem Value) : attributeBase e f env w = w := by
  cases e <;> first | (cases h; done) | rfl
theorem rc_plain {e : Expr} (h : rcvB e = true) : plainB e = true := by
  cases e <;> first | (cases h; done) | rfl
structure Ct where
  nm : Nat → Str
  fs : List Nat
  ms : List Nat
  bl : List Str
  gis : List (Str × Int)
  gss : List (Str × Str)
  xs : List Nat
  cls : Bool
  calm : Bool
  ini : List Nat
def onName (z : Expr) (k : Str → Bool) : Bool := match z with
  | .Name x _ => k x
  | _ => false
theorem onName_inv {z : Expr} {k : Str → Bool} (h : onName z k = true) : ∃ (x : Str) (p : Pos), z = .Name x p ∧ k x = true := by
  unfold onName at h
  split at h
  · exact ⟨_, _, rfl, h⟩
  · cases h
def onConst (z : Expr) (k : Const → Bool) : Bool := match z with
  | .Constant c _ _ => k c
  | _ => false
theorem onConst_inv {z : Expr} {k : Const → Bool} (h : onConst z k = true) : ∃ (c : Const) (j : Nat) (p : Pos), z = .Constant c j p ∧ k c = true := by
  unfold onConst at h
  split at h
  · exact ⟨_, _, _, rfl, h⟩
  · cases h
def onBin (z : Expr) (k : Expr → Operator → Expr → Bool) : Bool := match z with
  | .BinOp a o b _ => k a o b
  | _ => false
theorem onBin_inv {z : Expr} {k : Expr → Operator → Expr → Bool} (h : onBin z k = true) : ∃ (a : Expr) (o : Operator) (b : Expr) (p : Pos), z = .BinOp a o b p ∧ k a o b = true := by
  unfold onBin at h
  split at h
  · exact ⟨_, _, _, _, rfl, h⟩
  · cases h
def onUn (z : Expr) (k : UnaryOp → Expr → Bool) : Bool := match z with
  | .UnaryOp o a _ => k o a
  | _ => false
theorem onUn_inv {z : Expr} {k : UnaryOp → Expr → Bool} (h : onUn z k = true) : ∃ (o : UnaryOp) (a : Expr) (p : Pos), z = .UnaryOp o a p ∧ k o a = true := by
  unfold onUn at h
  split at h
  · exact ⟨_, _, _, rfl, h⟩
  · cases h
def onCmp (z : Expr) (k : Expr → List CmpOp → List Expr → Bool) : Bool := match z with
  | .Compare a os bs _ => k a os bs
  | _ => false
theorem onCmp_inv {z : Expr} {k : Expr → List CmpOp → List Expr → Bool} (h : onCmp z k = true) : ∃ (a : Expr) (os : List CmpOp) (bs : List Expr) (p : Pos), z = .Compare a os bs p ∧ k a os bs = true := by
  unfold onCmp at h
  split at h
  · exact ⟨_, _, _, _, rfl, h⟩
  · cases h
def onBool (z : Expr) (k : BoolOp → List Expr → Bool) : Bool := match z with
  | .BoolOp o es _ => k o es
  | _ => false
theorem onBool_inv {z : Expr} {k : BoolOp → List Expr → Bool} (h : onBool z k = true) : ∃ (o : BoolOp) (es : List Expr) (p : Pos), z = .BoolOp o es p ∧ k o es = true := by
  unfold onBool at h
  split at h
  · exact ⟨_, _, _, rfl, h⟩
  · cases h
def onIf (z : Expr) (k : Expr → Expr → Expr → Bool) : Bool := match z with
  | .IfExp c a b _ => k c a b
  | _ => false
theorem onIf_inv {z : Expr} {k : Expr → Expr → Expr → Bool} (h : onIf z k = true) : ∃ (c a b : Expr) (p : Pos), z = .IfExp c a b p ∧ k c a b = true := by
  unfold onIf at h
  split at h
  · exact ⟨_, _, _, _, rfl, h⟩
  · cases h
def onTup (z : Expr) (k : List Expr → Bool) : Bool := match z with
  | .Tuple es _ _ => k es
  | _ => false
theorem onTup_inv {z : Expr} {k : List Expr → Bool} (h : onTup z k = true) : ∃ (es : List Expr) (j : Nat) (p : Pos), z = .Tuple es j p ∧ k es = true := by
  unfold onTup at h
  split at h
  · exact ⟨_, _, _, rfl, h⟩
  · cases h
def onList (z : Expr) (k : List Expr → Bool) : Bool := match z with
  | .List es _ => k es
  | _ => false
theorem onList_inv {z : Expr} {k : List Expr → Bool} (h : onList z k = true) : ∃ (es : List Expr) (p : Pos), z = .List es p ∧ k es = true := by
  unfold onList at h
  split at h
  · exact ⟨_, _, rfl, h⟩
  · cases h
def onSub (z : Expr) (k : Expr → Expr → Bool) : Bool := match z with
  | .Subscript a b _ => k a b
  | _ => false
theorem onSub_inv {z : Expr} {k : Expr → Expr → Bool} (h : onSub z k = true) : ∃ (a b : Expr) (p : Pos), z = .Subscript a b p ∧ k a b = true := by
  unfold onSub at h
  split at h
  · exact ⟨_, _, _, rfl, h⟩
  · cases h
def onAttr (z : Expr) (k : Expr → Str → Bool) : Bool := match z with
  | .Attribute a x _ => k a x
  | _ => false
theorem onAttr_inv {z : Expr} {k : Expr → Str → Bool} (h : onAttr z k = true) : ∃ (a : Expr) (x : Str) (p : Pos), z = .Attribute a x p ∧ k a x = true := by
  unfold onAttr at h
  split at h
  · exact ⟨_, _, _, rfl, h⟩
  · cases h
def onSlice (z : Expr) (k : Option Expr → Option Expr → Bool) : Bool := match z with
  | .Slice lo hi none _ => k lo hi
  | _ => false
theorem onSlice_inv {z : Expr} {k : Option Expr → Option Expr → Bool} (h : onSlice z k = true) : ∃ (lo hi : Option Expr) (p : Pos), z = .Slice lo hi none p ∧ k lo hi = true := by
  unfold onSlice at h
  split at h
  · exact ⟨_, _, _, rfl, h⟩
  · cases h
def onSlice3 (z : Expr) (k : Expr → Bool) : Bool := match z with
  | .Slice none none (some c) _ => k c
  | _ => false
theorem onSlice3_inv {z : Expr} {k : Expr → Bool} (h : onSlice3 z k = true) : ∃ (c : Expr) (p : Pos), z = .Slice none none (some c) p ∧ k c = true := by
  unfold onSlice3 at h
  split at h
  · exact ⟨_, _, rfl, h⟩
  · cases h
def onCallN (z : Expr) (k : Str → List Expr → Bool) : Bool := match z with
  | .Call (.Name x _) es [] _ => k x es
  | _ => false
theorem onCallN_inv {z : Expr} {k : Str → List Expr → Bool} (h : onCallN z k = true) : ∃ (x : Str) (p0 : Pos) (es : List Expr) (p : Pos), z = .Call (.Name x p0) es [] p ∧ k x es = true := by
  unfold onCallN at h
  split at h
  · exact ⟨_, _, _, _, rfl, h⟩
  · cases h
def onCallA (z : Expr) (k : Expr → Str → Pos → List Expr → Pos → Bool) : Bool := match z with
  | .Call (.Attribute o x ap) es [] p => k o x ap es p
  | _ => false
theorem onCallA_inv {z : Expr} {k : Expr → Str → Pos → List Expr → Pos → Bool} (h : onCallA z k = true) : ∃ (o : Expr) (x : Str) (ap : Pos) (es : List Expr) (p : Pos), z = .Call (.Attribute o x ap) es [] p ∧ k o x ap es p = true := by
  unfold onCallA at h
  split at h
  · exact ⟨_, _, _, _, _, rfl, h⟩
  · cases h
def onLc (z : Expr) (k : Expr → List Comprehension → Scope → Bool) : Bool := match z with
  | .ListComp e gs sc _ => k e gs sc
  | _ => false
theorem onLc_inv {z : Expr} {k : Expr → List Comprehension → Scope → Bool} (h : onLc z k = true) : ∃ (e : Expr) (gs : List Comprehension) (sc : Scope) (p : Pos), z = .ListComp e gs sc p ∧ k e gs sc = true := by
  unfold onLc at h
  split at h
  · exact ⟨_, _, _, _, rfl, h⟩
  · cases h
def on1 (z : List Expr) (k : Expr → Bool) : Bool := match z with
  | [a] => k a
  | _ => false
theorem on1_inv {z : List Expr} {k : Expr → Bool} (h : on1 z k = true) : ∃ (a : Expr), z = [a] ∧ k a = true := by
  unfold on1 at h
  split at h
  · exact ⟨_, rfl, h⟩
  · cases h
def on2 (z : List Expr) (k : Expr → Expr → Bool) : Bool := match z with
  | [a, b] => k a b
  | _ => false
theorem on2_inv {z : List Expr} {k : Expr → Expr → Bool} (h : on2 z k = true) : ∃ (a b : Expr), z = [a, b] ∧ k a b = true := by
  unfold on2 at h
  split at h
  · exact ⟨_, _, rfl, h⟩
  · cases h
def onC (z : List Expr) (k : Expr → List Expr → Bool) : Bool := match z with
  | a :: r => k a r
  | _ => false
theorem onC_inv {z : List Expr} {k : Expr → List Expr → Bool} (h : onC z k = true) : ∃ (a : Expr) (r : List Expr), z = a :: r ∧ k a r = true := by
  unfold onC at h
  split at h
  · exact ⟨_, _, rfl, h⟩
  · cases h
def onO1 (z : List CmpOp) (k : CmpOp → Bool) : Bool := match z with
  | [a] => k a
  | _ => false
theorem onO1_inv {z : List CmpOp} {k : CmpOp → Bool} (h : onO1 z k = true) : ∃ a, z = [a] ∧ k a = true := by
  unfold onO1 at h
  split at h
  · exact ⟨_, rfl, h⟩
  · cases h
def onO2 (z : List CmpOp) (k : CmpOp → CmpOp → Bool) : Bool := match z with
  | [a, b] => k a b
  | _ => false
theorem onO2_inv {z : List CmpOp} {k : CmpOp → CmpOp → Bool} (h : onO2 z k = true) : ∃ a b, z = [a, b] ∧ k a b = true := by
  unfold onO2 at h
  split at h
  · exact ⟨_, _, rfl, h⟩
  · cases h
def onG1 (z : List Comprehension) (k : Expr → Expr → List Expr → Bool) : Bool := match z with
  | [⟨t, i, f, 0⟩] => k t i f
  | _ => false
theorem onG1_inv {z : List Comprehension} {k : Expr → Expr → List Expr → Bool} (h : onG1 z k = true) : ∃ t i f, z = [⟨t, i, f, 0⟩] ∧ k t i f = true := by
  unfold onG1 at h
  split at h
  · exact ⟨_, _, _, rfl, h⟩
  · cases h
def onSome (z : Option Expr) (k : Expr → Bool) : Bool := match z with
  | some a => k a
  | none => false
theorem onSome_inv {z : Option Expr} {k : Expr → Bool} (h : onSome z k = true) : ∃ a, z = some a ∧ k a = true := by
  unfold onSome at h
  split at h
  · exact ⟨_, rfl, h⟩
  · cases h
/-- pairs come to a tuple of names -/
def itOk : MIt → Expr → Bool
  | .enum _, tg => (match tg with
    | .Tuple .. => true
    | _ => false)
  | _, _ => true
def mtTs (N : List Str) : List Nat → Scope → List Expr → Bool
  | [], _, es => es.isEmpty
  | i :: is, sc, es => onC es fun a r => onName a fun x => decide (N[i]? = some x) && (locB sc x && mtTs N is sc r)
def mtT (N : List Str) : Tg → Scope → Expr → Bool
  | .nm i, sc, e => onName e fun x => decide (N[i]? = some x) && locB sc x
  | .tp is, sc, e => onTup e fun es => mtTs N is sc es
mutual
def mtE (C : Ct) (N : List Str) : ME → Scope → Expr → Bool
  | .var i, sc, e => onName e fun x => decide (N[i]? = some x) && (visB sc x && okN x)
  | .non, _, e => onConst e fun c => decide (c = .none)
  | .bl b, _, e => onConst e fun c => decide (c = .bool b)
  | .int i, _, e => onConst e fun c => decide (c = .int i)
  | .str x, _, e => onConst e fun c => decide (c = .str x)
  | .gint x i, sc, e => onName e fun y => decide (y = x) && (glB sc x && (okN x && decide ((x, i) ∈ C.gis)))
  | .gstr x z, sc, e => onName e fun y => decide (y = x) && (glB sc x && (okN x && decide ((x, z) ∈ C.gss)))
  | .bin o a b, sc, e => onBin e fun a' o' b' => decide (o' = o.op) && (mtE C N a sc a' && mtE C N b sc b')
  | .neg a, sc, e => onUn e fun o a' => decide (o = .USub) && mtE C N a sc a'
  | .cmp o a b, sc, e => onCmp e fun a' os bs => onO1 os fun o' => on1 bs fun b' => decide (o' = o.op) && (mtE C N a sc a' && mtE C N b sc b')
  | .chain o q a b c, sc, e => onCmp e fun a' os bs => onO2 os fun o' q' => on2 bs fun b' c' => decide (o' = o.op) && (decide (q' = q.op) && (mtE C N a sc a' && (mtE C N b sc b' && mtE C N c sc c')))
  | .notE a, sc, e => onUn e fun o a' => decide (o = .Not) && mtE C N a sc a'
  | .andE es, sc, e => onBool e fun o es' => decide (o = .And) && mtEs C N es sc es'
  | .orE es, sc, e => onBool e fun o es' => decide (o = .Or) && mtEs C N es sc es'
  | .ifE c a b, sc, e => onIf e fun c' a' b' => mtE C N c sc c' && (mtE C N a sc a' && mtE C N b sc b')
  | .tup es, sc, e => onTup e fun es' => mtEs C N es sc es'
  | .lst es, sc, e => onList e fun es' => mtEs C N es sc es'
  | .ix a b, sc, e => onSub e fun a' b' => mtE C N a sc a' && mtE C N b sc b'
  | .sl a lo hi, sc, e => onSub e fun a' b' => onSlice b' fun lo' hi' => mtE C N a sc a' && (mtO C N lo sc lo' && mtO C N hi sc hi')
  | .fld f a, sc, e => onAttr e fun a' x => decide (x = fname f) && (decide (f < 8) && (C.cls && (rcvB a' && mtE C N a sc a')))
  | .isi t a, sc, e => onCallN e fun x es => on2 es fun a' b' => onName b' fun y => decide (x = "isinstance") && (decide (y = Str.ofString t.nm) && (glB sc "isinstance" && (glB sc (Str.ofString t.nm) && (decide ((("isinstance" : Str)) ∈ C.bl) && (decide ((Str.ofString t.nm) ∈ C.bl) && mtE C N a sc a')))))
  | .blt b a es, sc, e => onCallN e fun x es0 => onC es0 fun a' es' => C.calm && (decide (x = b.nm) && (glB sc b.nm && (decide (b.nm ∈ C.bl) && (mtE C N a sc a' && mtEs C N es sc es'))))
  | .call f es, sc, e => onCallN e fun x es' => C.calm && (decide (x = C.nm f) && (glB sc (C.nm f) && (okN (C.nm f) && (decide (f ∈ C.fs) && mtEs C N es sc es'))))
  | .rev a c, sc, e => onSub e fun a' b' => onSlice3 b' fun c' => mtE C N a sc a' && mtE C N c sc c'
  | .make f es, sc, e => onCallN e fun x es' => C.calm && (C.cls && (decide (x = cname) && (glB sc cname && (decide (f ∈ C.ini) && (!es'.isEmpty && mtEs C N es sc es')))))
  | .meth f o es, sc, e => onCallA e fun o' x ap es' p => C.calm && (decide (x = C.nm f) && (!isF (C.nm f) && (decide (f ∈ C.ms) && (C.cls && (rcvB o' && ((ap.endLine == p.line) && (decide (es'.length < 29) && (mtE C N o sc o' && mtEs C N es sc es'))))))))
  | .app o a, sc, e => onCallA e fun o' x ap es' p => on1 es' fun a' => decide (x = "append") && (rcvB o' && ((ap.endLine == p.line) && (mtE C N o sc o' && mtE C N a sc a')))
  | .get2 o a b, sc, e => onCallA e fun o' x ap es' p => on2 es' fun a' b' => decide (x = "get") && (rcvB o' && ((ap.endLine == p.line) && (mtE C N o sc o' && (mtE C N a sc a' && mtE C N b sc b'))))
  | .pop1 o a, sc, e => onCallA e fun o' x ap es' p => on1 es' fun a' => decide (x = "pop") && (rcvB o' && ((ap.endLine == p.line) && (mtE C N o sc o' && mtE C N a sc a')))
  | .pop2 o a b, sc, e => onCallA e fun o' x ap es' p => on2 es' fun a' b' => decide (x = "pop") && (rcvB o' && ((ap.endLine == p.line) && (mtE C N o sc o' && (mtE C N a sc a' && mtE C N b sc b'))))
  | .sitems o, sc, e => onCallN e fun s es' => on1 es' fun i => onCallA i fun o' x ap es2 cp => C.calm && (decide (s = "sorted") && (decide (x = "items") && (es2.isEmpty && (glB sc "sorted" && (decide ((("sorted" : Str)) ∈ C.bl) && (rcvB o' && ((ap.endLine == cp.line) && mtE C N o sc o')))))))
  | .lc elt t it tst own, sc, e => onLc e fun elt' gs scope => onG1 gs fun tg' iter' ifs' => C.calm && (blkC N sc scope own && (t.slots.all (fun i => decide (i ∈ own.map (·.2))) && (mtT N t scope tg' && ((itOk it tg' && mtI C N it sc iter') && (mtIfs C N tst scope ifs' && mtE C N elt scope elt')))))
def mtEs (C : Ct) (N : List Str) : MEs → Scope → List Expr → Bool
  | .nil, _, es => es.isEmpty
  | .cons a r, sc, es => onC es fun a' r' => mtE C N a sc a' && mtEs C N r sc r'
def mtO (C : Ct) (N : List Str) : MO → Scope → Option Expr → Bool
  | .none, _, e => e.isNone
  | .some a, sc, e => onSome e fun a' => mtE C N a sc a'
def mtIfs (C : Ct) (N : List Str) : MO → Scope → List Expr → Bool
  | .none, _, es => es.isEmpty
  | .some a, sc, es => on1 es fun a' => mtE C N a sc a'
def mtI (C : Ct) (N : List Str) : MIt → Scope → Expr → Bool
  | .val a, sc, e => mtE C N a sc e
  | .range1 a, sc, e => onCallN e fun x es => on1 es fun a' => decide (x = "range") && (glB sc "range" && (decide ((("range" : Str)) ∈ C.bl) && mtE C N a sc a'))
  | .range2 a b, sc, e => onCallN e fun x es => on2 es fun a' b' => decide (x = "range") && (glB sc "range" && (decide ((("range" : Str)) ∈ C.bl) && (mtE C N a sc a' && mtE C N b sc b')))
  | .enum a, sc, e => onCallN e fun x es => on1 es fun a' => decide (x = "enumerate") && (glB sc "enumerate" && (decide ((("enumerate" : Str)) ∈ C.bl) && mtE C N a sc a'))
end
end Mw
namespace Mw
open PySem L2
open PyProof.Rows hiding St
structure ScR (sc : Scope) (env : Env) : Prop where
  kind : env.scope.kind = .function
  gl : ∀ x, sc.names.lookup x = some .globalImplicit → env.scope.names.lookup x = some .globalImplicit
  lc : ∀ x, sc.names.lookup x = some .local → env.scope.names.lookup x = some .local
  ce : ∀ x, sc.names.lookup x = some .cell → env.scope.names.lookup x = some .cell
  fr : ∀ x, sc.names.lookup x = some .free → env.scope.names.lookup x = some .free ∨ env.scope.names.lookup x = some .cell
theorem lookup_relabel (f : Str × NameKind → Str × NameKind) (hf : ∀ y, (f y).1 = y.1) : ∀ (names : List (Str × NameKind)) (x : Str) (k : NameKind), names.lookup x = some k → ∃ k', (names.map f).lookup x = some k' ∧ k' = (f (x, k)).2
  | [], _, _, h => by simp at h
  | (n, k0) :: r, x, k, h => by
    rw [List.map_cons]
    by_cases hx : x = n
    · subst hx
      rw [List.lookup_cons, beq_self_eq_true] at h
      have hk : k0 = k := Option.some.inj h
      subst hk
      refine ⟨(f (x, k0)).2, ?_, rfl⟩
      have e : f (x, k0) = (x, (f (x, k0)).2) := by
        have := hf (x, k0)
        exact Prod.ext this rfl
      rw [e, List.lookup_cons, beq_self_eq_true]
    · have hb : (x == n) = false := beq_eq_false_iff_ne.mpr hx
      rw [List.lookup_cons, hb] at h
      obtain ⟨k', h1, h2⟩ := lookup_relabel f hf r x k h
      refine ⟨k', ?_, h2⟩
      have e : f (n, k0) = (n, (f (n, k0)).2) := Prod.ext (hf (n, k0)) rfl
      rw [e, List.lookup_cons, hb]
      exact h1
theorem ScR.blk {sc scope : Scope} {env : Env} (h : ScR sc env) (hk : scope.kind = .function) (cl : List (Str × Addr)) (C : Addr) : ScR scope (compEnvC scope cl C env) := by
  have key : ∀ x k, scope.names.lookup x = some k → ∃ k', (compEnvC scope cl C env).scope.names.lookup x = some k' ∧ (k' = k ∨ (k = .free ∧ k' = .cell)) := fun x k hx => by
    obtain ⟨k', h1, h2⟩ := lookup_relabel (fun (y : Str × NameKind) => if (y.2 == .free && env.scope.kind == .function && env.kindOf y.1 == some .cell) then (y.1, .cell) else (y.1, y.2)) (fun y => by split <;> rfl) scope.names x k hx
    refine ⟨k', h1, ?_⟩
    rw [h2]
    dsimp only
    split
    · rename_i hc
      rw [Bool.and_eq_true, Bool.and_eq_true] at hc
      exact .inr ⟨eq_of_beq hc.1.1, rfl⟩
    · exact .inl rfl
  refine ⟨hk, fun x hx => ?_, fun x hx => ?_, fun x hx => ?_, fun x hx => ?_⟩
  · obtain ⟨k', h1, h2 | h2⟩ := key x _ hx
    · rw [h1, h2]
    · exact nomatch h2.1
  · obtain ⟨k', h1, h2 | h2⟩ := key x _ hx
    · rw [h1, h2]
    · exact nomatch h2.1
  · obtain ⟨k', h1, h2 | h2⟩ := key x _ hx
    · rw [h1, h2]
    · exact nomatch h2.1
  · obtain ⟨k', h1, h2 | h2⟩ := key x _ hx
    · rw [h1, h2]; exact .inl rfl
    · rw [h1, h2.2]; exact .inr rfl
structure Fx (C : Ct) (Γ : Fns) (ps : Nat → List Str) (k : Nat) (P : Program) (w : World) (K : PySem.W.Frag) (mg : Str → Option Value) (base : Heap) : Prop where
  ar : ∀ f, Γ.ar f = (ps f).length
  fn : ∀ f ∈ C.fs, ∃ a fd, mg (C.nm f) = some (.ref a) ∧ PySem.W.keepIn K (.ref a) = true ∧ Binds K fd (ps f) [] ∧ FnOk P w K mg base (L2.CX P w) k a fd (ps f) (spM K (ps f).length (Γ.F f))
  me : ∀ f ∈ C.ms, ∃ a fd, Meth K (He.ga K cname) (C.nm f) a ∧ Binds K fd (ps f) [] ∧ FnOk P w K mg base (L2.CX P w) k a fd (ps f) (spM K (ps f).length (Γ.F f))
  ini : ∀ f ∈ C.ini, ∃ j a fd, j + 1 ≤ k ∧ Mk K (He.ga K cname) a ∧ Binds K fd (ps f) [] ∧ FnOk P w K mg base (L2.CX P w) j a fd (ps f) (spM K (ps f).length (Γ.F f))
  cg : C.cls = true → mg cname = some (.ref (He.ga K cname))
  bl : ∀ x ∈ C.bl, mg x = none
  gi : ∀ x i, (x, i) ∈ C.gis → ∃ t, mg x = some (.int i t)
  gs : ∀ x i, (x, i) ∈ C.gss → ∃ t, mg x = some (.str i t)
  xc : ∀ c ∈ C.xs, ExcF K mg c
  xm : ∀ c ∈ C.xs, ∀ h ∈ C.xs, PySem.W.exmOne K (.ref (He.ga K (xname c))) (.ref (He.ga K (xname h))) = some (exSub c h)
  cl : C.cls = true → Cls K (He.ga K cname) ∧ ∀ f, f < 8 → NoAttr K (He.ga K cname) (fname f)
structure Gd (C : Ct) (Γ : Fns) (ps : Nat → List Str) (k : Nat) (X : Cx) (W : WX) (N : List Str) (sc : Scope) : Prop where
  fx : Fx C Γ ps k X.prog X.w X.K X.mg X.base
  nN : X.N = N
  nd : N.Nodup
  sr : ScR sc X.env
  tk : Takes X W
  un : X.A.units + 65 < cLine
  calm : C.calm = true → X.calm = true ∧ Room k X.A
  fnc : ∀ x, sc.names.lookup x = some .cell → X.fn x = true
theorem ba {a b : Bool} (h : (a && b) = true) : a = true ∧ b = true := Bool.and_eq_true_iff.mp h
section
variable {C : Ct} {Γ : Fns} {ps : Nat → List Str} {k : Nat} {X : Cx} {W : WX} {N : List Str} {sc : Scope}
theorem Gd.vis (g : Gd C Γ ps k X W N sc) {x : Str} (h : visB sc x = true) : Vis X.env.scope x := by
  unfold visB at h
  split at h
  · rename_i hx; exact .inl (g.sr.lc x hx)
  · rename_i hx; exact .inr (.inl (g.sr.ce x hx))
  · rename_i hx
    rcases g.sr.fr x hx with z | z
    · exact .inr (.inr z)
    · exact .inr (.inl z)
  · cases h
theorem Gd.gl (g : Gd C Γ ps k X W N sc) {x : Str} (h : glB sc x = true) : Gl X x := by
  unfold glB at h
  split at h
  · rename_i hx; exact g.sr.gl x hx
  · cases h
theorem Gd.loc (g : Gd C Γ ps k X W N sc) {x : Str} (h : locB sc x = true) : Loc X.env.scope x ∧ (X.fn x = true ∨ X.env.scope.names.lookup x = some .local) := by
  unfold locB at h
  split at h
  · rename_i hx; exact ⟨.inl (g.sr.lc x hx), .inr (g.sr.lc x hx)⟩
  · rename_i hx; exact ⟨.inr (g.sr.ce x hx), .inl (g.fnc x hx)⟩
  · cases h
theorem okN_1 {x : Str} (h : okN x = true) : (x == ("__debug__" : Str)) = false ∧ (x == ("__classdict__" : Str)) = false ∧ x ≠ "__name__" := by
  unfold okN at h
  obtain ⟨h1, h2⟩ := ba h
  obtain ⟨h2, h3⟩ := ba h2
  simp only [Bool.not_eq_true'] at h1 h2 h3
  exact ⟨h1, h2, of_decide_eq_false h3⟩
theorem Gd.blk (g : Gd C Γ ps k X W N sc) {scope : Scope} (hk : scope.kind = .function) (s : Shared) (H : Hp) (cl : List (Str × Addr)) (Ca : Addr) (fp : List Addr) : Gd C Γ ps k (X.blk s H scope (compEnvC scope cl Ca X.env) fp) W0 N scope :=
  ⟨g.fx, g.nN, g.nd, g.sr.blk hk cl Ca, takes0, g.un, g.calm, fun x hx => by show (scope.names.lookup x == some .cell) = true; rw [hx]; rfl⟩
theorem blkR {sc scope : Scope} {env : Env} {N : List Str} {own : List (Str × Nat)} (h : ScR sc env) (b : blkC N sc scope own = true) : BlkOk N env.scope scope own := by
  have q := blkOk_by b
  refine ⟨q.kind, q.uniq, q.ix, fun y hy e => ?_, q.own⟩
  rcases q.free y hy e with z | z
  · exact .inl (h.ce _ z)
  · rcases h.fr _ z with u | u
    · exact .inr u
    · exact .inl u
theorem pgsT (g : Gd C Γ ps k X W N sc) : ∀ (is : List Nat) (es : List Expr), mtTs N is sc es = true → PGs X es (gAll is) ∧ (assignEach es X.env).length = is.length ∧ (assignEach es X.env).findIdx? (·.1) = none
  | [], es, h => by
    cases es with
    | nil => exact ⟨pgs_nil, rfl, rfl⟩
    | cons _ _ => rw [mtTs] at h; cases h
  | i :: is, es, h => by
    rw [mtTs] at h
    obtain ⟨e, r, rfl, h⟩ := onC_inv h
    obtain ⟨x, p0, rfl, h⟩ := onName_inv h
    obtain ⟨h1, h2⟩ := ba h
    obtain ⟨h2, h3⟩ := ba h2
    obtain ⟨i1, i2, i3⟩ := pgsT g is r h3
    obtain ⟨l1, l2⟩ := g.loc h2
    refine ⟨pgs_cons (pg_name (by rw [g.nN]; exact g.nd) (by rw [g.nN]; exact of_decide_eq_true h1) l1 l2) i1 rfl, ?_, ?_⟩
    · show (assignEach r X.env).length + 1 = _
      rw [i2]
      rfl
    · have e : assignEach (.Name x p0 :: r) X.env = (false, assign (.Name x p0) X.env) :: assignEach r X.env := rfl
      rw [e, List.findIdx?_cons, i3]
      rfl
def gT (K : PySem.W.Frag) : Tg → TG
  | .nm i => gName i
  | .tp is => gTup K is.length (gAll is)
theorem gT_go {K : PySem.W.Frag} (t : Tg) : GoT K (gT K t) t := by
  cases t with
  | nm i => exact got_name
  | tp is => exact got_tup rfl
theorem pgT (g : Gd C Γ ps k X W N sc) (hc : C.calm = true) {t : Tg} {e : Expr} (h : mtT N t sc e = true) : PG X e (gT X.K t) ∧ (assignEach [e] X.env).map (·.2) = [assign e X.env] := by
  cases t with
  | nm i =>
    rw [mtT] at h
    obtain ⟨x, p0, rfl, h⟩ := onName_inv h
    obtain ⟨h1, h2⟩ := ba h
    obtain ⟨l1, l2⟩ := g.loc h2
    exact ⟨pg_name (by rw [g.nN]; exact g.nd) (by rw [g.nN]; exact of_decide_eq_true h1) l1 l2, rfl⟩
  | tp is =>
    rw [mtT] at h
    obtain ⟨es, j, p0, rfl, h⟩ := onTup_inv h
    obtain ⟨i1, i2, i3⟩ := pgsT g is _ h
    exact ⟨pg_tup (g.calm hc).1 i1 i2 i3, rfl⟩
theorem bop_ok (o : Bop) {a b : Expr} {ma mb : ME0} {pos : Pos} (ha : SE X W a ma) (hb : SE X W b mb) : SE X W (.BinOp a o.op b pos) (mBin o.f ma mb) := by
  cases o
  · exact se_add ha hb
  · exact se_sub ha hb
  · exact se_mul ha hb
  · exact se_mod ha hb
  · exact se_div ha hb
  · exact se_pow ha hb
theorem star_all {es : List Expr} (h : ∀ e ∈ es, plainB e = true) (env : Env) (pos : Pos) : (backTo pos (starEach es env)).any (·.1) = false ∧ (backTo pos (starEach es env)).all (fun x => !x.1) = true := by
  induction es with
  | nil => exact ⟨rfl, rfl⟩
  | cons e es ih =>
    rw [pl_star (h e (by simp)) es env]
    obtain ⟨i1, i2⟩ := ih fun z hz => h z (List.mem_cons_of_mem _ hz)
    exact ⟨i1, i2⟩
theorem blt_ok (hc : X.calm = true) (b : Blt) {a : Expr} {es : List Expr} {m : MA0} {p0 pos : Pos} (hg : Gl X b.nm) (hm : X.mg b.nm = none) (ha : SA X W (a :: es) m) (he : starEach (a :: es) X.env = (false, eval a X.env) :: starEach es X.env) (hpl : (backTo pos (starEach es X.env)).any (·.1) = false) :
    SE X W (.Call (.Name b.nm p0) (a :: es) [] pos) (mCall b.f m) := by
  cases b
  · exact se_cb ((call_len_seq.or call_len_str).or call_lenD) cb_len hg hm (by decide +kernel : bootBuiltins "len" = some (.builtin "len")) ha (by decide +kernel) (by decide +kernel) he hpl
  · exact se_cb (call_max2 hc) cb_max hg hm (by decide +kernel : bootBuiltins "max" = some (.builtin "max")) ha (by decide +kernel) (by decide +kernel) he hpl
  · exact se_cb (call_min2 hc) cb_min hg hm (by decide +kernel : bootBuiltins "min" = some (.builtin "min")) ha (by decide +kernel) (by decide +kernel) he hpl
  · exact se_cty call_int1 cb_int hg hm (by decide +kernel : bootBuiltins "int" = some (.type "int")) ha (by decide +kernel) (by decide +kernel) he hpl
  · exact se_cty call_list_of cb_list hg hm (by decide +kernel : bootBuiltins "list" = some (.type "list")) ha (by decide +kernel) (by decide +kernel) he hpl
  · exact se_cty call_tuple_of cb_tuple hg hm (by decide +kernel : bootBuiltins "tuple" = some (.type "tuple")) ha (by decide +kernel) (by decide +kernel) he hpl
  · exact se_cty (call_dictP hc) cb_dict hg hm (by decide +kernel : bootBuiltins "dict" = some (.type "dict")) ha (by decide +kernel) (by decide +kernel) he hpl
  · exact se_cb (cr_sortedI.or (call_sortedD hc)) cb_sorted hg hm (by decide +kernel : bootBuiltins "sorted" = some (.builtin "sorted")) ha (by decide +kernel) (by decide +kernel) he hpl
theorem st_never {e : Expr} : ST X W e (fun _ _ => .bad) := ⟨fun pins s σ H Q I h => by
  obtain ⟨p, G, e, rl, ev, h⟩ := h
  exact h.elim⟩
abbrev Ok3 (X : Cx) (W : WX) (e : Expr) (m : ME0 × MT0) : Prop := plainB e = true ∧ SE X W e m.1 ∧ ST X W e m.2
theorem ok_pl {e : Expr} {m : ME0} (h1 : plainB e = true) (h2 : SE X W e m) (he : ∀ whole, isTrue e X.env whole = (do let v ← whole; standAt e.pos; holding [v] (truthy v))) : Ok3 X W e (pl m) := ⟨h1, h2, st_tru h2 he⟩
theorem mt_nil {ms : MEs} {es : List Expr} (h : mtEs C N ms sc es = true) (e : es = []) : eA Γ ms = maNil := by
  cases ms with
  | nil => rfl
  | cons a r => rw [mtEs] at h; subst e; cases h
theorem m1_ok {o a : Expr} {m : Str} {ap p : Pos} (ho : rcvB o = true) (ha : plainB a = true) (hl : (ap.endLine == p.line) = true) : M1 X o m ap a p := by
  have e : starEach [a] X.env = [(false, eval a X.env)] := pl_star ha [] X.env
  exact ⟨rc_base ho m X.env _, by rw [e]; rfl, hl, by rw [e]; rfl⟩
theorem m2_ok {o a b : Expr} {m : Str} {ap p : Pos} (ho : rcvB o = true) (ha : plainB a = true) (hb : plainB b = true) (hl : (ap.endLine == p.line) = true) : M2 X o m ap a b p := by
  have e : starEach [a, b] X.env = [(false, eval a X.env), (false, eval b X.env)] := (pl_star ha [b] X.env).trans (congrArg _ (pl_star hb [] X.env))
  exact ⟨rc_base ho m X.env _, by rw [e]; rfl, hl, by rw [e]; rfl⟩
theorem meth_ht {o : Expr} {m : Str} {ap p : Pos} {es : List Expr} (ho : rcvB o = true) (hl : (ap.endLine == p.line) = true) (hs : ∀ e ∈ es, plainB e = true) (hn : es.length < 29) :
    eval (.Call (.Attribute o m ap) es [] p) X.env = (do
      let ov ← eval o X.env
      standAt ap.atName
      let (f, first) ← holding [ov] (getMethod ov m (plainOf o X.env))
      callWith p f first (backTo p (starEach es X.env)) (backToKw p (keywordEach [] X.env))) := by
  have h1 : eval (.Call (.Attribute o m ap) es [] p) X.env = (do
      let ov ← attributeBase o m X.env (eval o X.env)
      standAt ap.atName
      methodCall o m ap p X.env ov (es.length + ([] : List Keyword).length) (backTo p (starEach es X.env)) (backToKw p (keywordEach [] X.env))) := rfl
  have hf : methodCallForm (es.length + ([] : List Keyword).length) (backTo p (starEach es X.env)) (backToKw p (keywordEach [] X.env)) = true := by
    show ((backTo p (starEach es X.env)).all (fun x => !x.1) && true && decide (es.length + 0 + 0 < 30)) = true
    rw [(star_all hs X.env p).2]
    simp
    omega
  rw [h1, rc_base ho m X.env]
  congr 1
  funext ov
  congr 1
  funext _
  exact mcall_line hf hl
abbrev Ok4 (X : Cx) (W : WX) (es : List Expr) (m : MA0) : Prop := (∀ e ∈ es, plainB e = true) ∧ SA X W es m
theorem mt_blt (g : Gd C Γ ps k X W N sc) (hc : C.calm = true) (b : Blt) {a : Expr} {es : List Expr} {m : MA0} {p0 pos : Pos} (hg : glB sc b.nm = true) (hm : b.nm ∈ C.bl) (h : Ok4 X W (a :: es) m) : SE X W (.Call (.Name b.nm p0) (a :: es) [] pos) (mCall b.f m) :=
  blt_ok (g.calm hc).1 b (g.gl hg) (g.fx.bl _ hm) h.2 (pl_star (h.1 a (by simp)) es X.env) (star_all (fun e he => h.1 e (List.mem_cons_of_mem _ he)) X.env pos).1
theorem mt_call (g : Gd C Γ ps k X W N sc) (hc : C.calm = true) {f : Nat} {es : List Expr} {m : MA0} {p0 pos : Pos} (hg : glB sc (C.nm f) = true) (ho : okN (C.nm f) = true) (hf : f ∈ C.fs) (h : Ok4 X W es m) (h0 : es = [] → m = maNil) : SE X W (.Call (.Name (C.nm f) p0) es [] pos) (mCallF (Γ.ar f) (Γ.F f) m) := by
  obtain ⟨a, fd, e1, e2, e3, e4⟩ := g.fx.fn f hf
  rw [g.fx.ar f]
  cases es with
  | nil => rw [h0 rfl]; exact se_call0 g.tk e4 (g.calm hc).2 (g.gl hg) e1 e2 e3 (okN_1 ho).1
  | cons e es => exact se_call g.tk e4 (g.calm hc).2 (g.gl hg) e1 e2 e3 h.2 (okN_1 ho).1 (pl_star (h.1 e (by simp)) es X.env) (star_all (fun e he => h.1 e (List.mem_cons_of_mem _ he)) X.env pos).1
theorem mt_meth (g : Gd C Γ ps k X W N sc) (hc : C.calm = true) (hk : C.cls = true) {f : Nat} {o : Expr} {mo : ME0} {es : List Expr} {m : MA0} {ap pos : Pos} (hi : isF (C.nm f) = false) (hf : f ∈ C.ms) (hr : rcvB o = true) (hl : (ap.endLine == pos.line) = true) (hn : es.length < 29) (hmo : SE X W o mo) (h : Ok4 X W es m) (h0 : es = [] → m = maNil) :
    SE X W (.Call (.Attribute o (C.nm f) ap) es [] pos) (mMeth (Γ.ar f) (Γ.F f) mo m) := by
  obtain ⟨a, fd, e1, e2, e3⟩ := g.fx.me f hf
  rw [g.fx.ar f]
  cases es with
  | nil => rw [h0 rfl]; exact se_meth0 hi g.tk hmo (g.fx.cl hk).1 e1 e3 (g.calm hc).2 e2 (meth_ht hr hl h.1 hn)
  | cons e es => exact se_meth hi g.tk hmo (g.fx.cl hk).1 e1 e3 (g.calm hc).2 e2 h.2 (pl_star (h.1 e (by simp)) es X.env) (star_all (fun e he => h.1 e (List.mem_cons_of_mem _ he)) X.env pos).1 (meth_ht hr hl h.1 hn)
theorem mt_make (g : Gd C Γ ps k X W N sc) (hc : C.calm = true) (hk : C.cls = true) {f : Nat} {es : List Expr} {m : MA0} {p0 pos : Pos} (hg : glB sc cname = true) (hf : f ∈ C.ini) (hne : es.isEmpty = false) (h : Ok4 X W es m) : SE X W (.Call (.Name cname p0) es [] pos) (mMake (Γ.ar f) (Γ.F f) m) := by
  obtain ⟨j, a, fd, e0, e1, e2, e3⟩ := g.fx.ini f hf
  rw [g.fx.ar f]
  cases es with
  | nil => cases hne
  | cons e es => exact se_make g.tk e1 e3 ((g.calm hc).2.mono e0) (g.gl hg) (g.fx.cg hk) e2 h.2 (by decide) (pl_star (h.1 e (by simp)) es X.env) (star_all (fun e he => h.1 e (List.mem_cons_of_mem _ he)) X.env pos).1
theorem st_imp {e : Expr} {m m' : MT0} (h : ST X W e m) (q : m' = m) : ST X W e m' := q ▸ h
end
section
variable {C : Ct} {Γ : Fns} {ps : Nat → List Str} {k : Nat} {N : List Str}
mutual
theorem sdE : ∀ (me : ME) {X : Cx} {W : WX} {sc : Scope} {e : Expr}, Gd C Γ ps k X W N sc → mtE C N me sc e = true → Ok3 X W e (eP Γ me)
  | .var i, X, W, sc, e, g, h => by
    rw [mtE] at h
    obtain ⟨x, p, rfl, h⟩ := onName_inv h
    obtain ⟨h1, h⟩ := ba h
    obtain ⟨h2, h3⟩ := ba h
    exact ok_pl rfl (se_var (by rw [g.nN]; exact of_decide_eq_true h1) (g.vis h2) (okN_1 h3).1 (okN_1 h3).2.1) fun _ => rfl
  | .non, X, W, sc, e, g, h => by
    rw [mtE] at h
    obtain ⟨c, j, p, rfl, h⟩ := onConst_inv h
    obtain rfl := of_decide_eq_true h
    exact ok_pl rfl se_non fun _ => rfl
  | .bl b, X, W, sc, e, g, h => by
    rw [mtE] at h
    obtain ⟨c, j, p, rfl, h⟩ := onConst_inv h
    obtain rfl := of_decide_eq_true h
    exact ok_pl rfl se_bl fun _ => rfl
  | .int b, X, W, sc, e, g, h => by
    rw [mtE] at h
    obtain ⟨c, j, p, rfl, h⟩ := onConst_inv h
    obtain rfl := of_decide_eq_true h
    exact ok_pl rfl se_int fun _ => rfl
  | .str b, X, W, sc, e, g, h => by
    rw [mtE] at h
    obtain ⟨c, j, p, rfl, h⟩ := onConst_inv h
    obtain rfl := of_decide_eq_true h
    exact ok_pl rfl se_str fun _ => rfl
  | .gint x i, X, W, sc, e, g, h => by
    rw [mtE] at h
    obtain ⟨y, p, rfl, h⟩ := onName_inv h
    obtain ⟨h1, h⟩ := ba h
    obtain ⟨h2, h⟩ := ba h
    obtain ⟨h3, h4⟩ := ba h
    obtain rfl := of_decide_eq_true h1
    exact ok_pl rfl (se_gint (g.gl h2) (g.fx.gi _ _ (of_decide_eq_true h4)) (okN_1 h3).1) fun _ => rfl
  | .gstr x i, X, W, sc, e, g, h => by
    rw [mtE] at h
    obtain ⟨y, p, rfl, h⟩ := onName_inv h
    obtain ⟨h1, h⟩ := ba h
    obtain ⟨h2, h⟩ := ba h
    obtain ⟨h3, h4⟩ := ba h
    obtain rfl := of_decide_eq_true h1
    exact ok_pl rfl (se_gstr (g.gl h2) (g.fx.gs _ _ (of_decide_eq_true h4)) (okN_1 h3).1) fun _ => rfl
  | .bin o a b, X, W, sc, e, g, h => by
    rw [mtE] at h
    obtain ⟨a', o', b', p, rfl, h⟩ := onBin_inv h
    obtain ⟨h1, h⟩ := ba h
    obtain ⟨h2, h3⟩ := ba h
    obtain rfl := of_decide_eq_true h1
    exact ok_pl rfl (bop_ok o (sdE a g h2).2.1 (sdE b g h3).2.1) fun _ => rfl
  | .neg a, X, W, sc, e, g, h => by
    rw [mtE] at h
    obtain ⟨o, a', p, rfl, h⟩ := onUn_inv h
    obtain ⟨h1, h2⟩ := ba h
    obtain rfl := of_decide_eq_true h1
    exact ok_pl rfl (se_neg (sdE a g h2).2.1) fun _ => rfl
  | .cmp o a b, X, W, sc, e, g, h => by
    rw [mtE] at h
    obtain ⟨a', os, bs, p, rfl, h⟩ := onCmp_inv h
    obtain ⟨o', rfl, h⟩ := onO1_inv h
    obtain ⟨b', rfl, h⟩ := on1_inv h
    obtain ⟨h1, h⟩ := ba h
    obtain ⟨h2, h3⟩ := ba h
    obtain rfl := of_decide_eq_true h1
    have ib := sdE b g h3
    exact ⟨rfl, se_cop g.un o (sdE a g h2).2.1 ib.2.1 (pl_marks ib.1 _), st_cop g.un o (sdE a g h2).2.1 ib.2.1 (pl_marks ib.1 _)⟩
  | .chain o q a b c, X, W, sc, e, g, h => by
    rw [mtE] at h
    obtain ⟨a', os, bs, p, rfl, h⟩ := onCmp_inv h
    obtain ⟨o', q', rfl, h⟩ := onO2_inv h
    obtain ⟨b', c', rfl, h⟩ := on2_inv h
    obtain ⟨h1, h⟩ := ba h
    obtain ⟨h2, h⟩ := ba h
    obtain ⟨h3, h⟩ := ba h
    obtain ⟨h4, h5⟩ := ba h
    obtain rfl := of_decide_eq_true h1
    obtain rfl := of_decide_eq_true h2
    have ic := sdE c g h5
    exact ⟨rfl, se_chain g.un o q (sdE a g h3).2.1 (sdE b g h4).2.1 ic.2.1 (pl_marks ic.1 _), st_chain g.un o q (sdE a g h3).2.1 (sdE b g h4).2.1 ic.2.1 (pl_marks ic.1 _)⟩
  | .notE a, X, W, sc, e, g, h => by
    rw [mtE] at h
    obtain ⟨o, a', p, rfl, h⟩ := onUn_inv h
    obtain ⟨h1, h2⟩ := ba h
    obtain rfl := of_decide_eq_true h1
    exact ⟨rfl, se_notV (sdE a g h2).2.1, st_not (sdE a g h2).2.2⟩
  | .andE es, X, W, sc, e, g, h => by
    rw [mtE] at h
    obtain ⟨o, es', p, rfl, h⟩ := onBool_inv h
    obtain ⟨h1, h2⟩ := ba h
    obtain rfl := of_decide_eq_true h1
    exact ⟨rfl, (sdAnd es g h2 p).1, (sdAnd es g h2 p).2.pt⟩
  | .orE es, X, W, sc, e, g, h => by
    rw [mtE] at h
    obtain ⟨o, es', p, rfl, h⟩ := onBool_inv h
    obtain ⟨h1, h2⟩ := ba h
    obtain rfl := of_decide_eq_true h1
    exact ⟨rfl, (sdOr es g h2 p).1, (sdOr es g h2 p).2.pt⟩
  | .ifE c a b, X, W, sc, e, g, h => by
    rw [mtE] at h
    obtain ⟨c', a', b', p, rfl, h⟩ := onIf_inv h
    obtain ⟨h1, h⟩ := ba h
    obtain ⟨h2, h3⟩ := ba h
    exact ⟨rfl, se_if (sdE c g h1).2.2 (sdE a g h2).2.1 (sdE b g h3).2.1, st_never⟩
  | .tup es, X, W, sc, e, g, h => by
    rw [mtE] at h
    obtain ⟨es', j, p, rfl, h⟩ := onTup_inv h
    exact ok_pl rfl (se_tup (sdEs es g h).2) fun _ => rfl
  | .lst es, X, W, sc, e, g, h => by
    rw [mtE] at h
    obtain ⟨es', p, rfl, h⟩ := onList_inv h
    exact ok_pl rfl (se_lst (sdEs es g h).2) fun _ => rfl
  | .ix a b, X, W, sc, e, g, h => by
    rw [mtE] at h
    obtain ⟨a', b', p, rfl, h⟩ := onSub_inv h
    obtain ⟨h1, h2⟩ := ba h
    have ib := sdE b g h2
    exact ok_pl rfl (se_ix g.un (sdE a g h1).2.1 ib.2.1 (pl_ix ib.1)) fun _ => rfl
  | .sl a lo hi, X, W, sc, e, g, h => by
    rw [mtE] at h
    obtain ⟨a', b', p, rfl, h⟩ := onSub_inv h
    obtain ⟨lo', hi', p2, rfl, h⟩ := onSlice_inv h
    obtain ⟨h1, h⟩ := ba h
    obtain ⟨h2, h3⟩ := ba h
    exact ok_pl rfl (se_sl (sdE a g h1).2.1 (sdO lo g h2) (sdO hi g h3)) fun _ => rfl
  | .fld f a, X, W, sc, e, g, h => by
    rw [mtE] at h
    obtain ⟨a', x, p, rfl, h⟩ := onAttr_inv h
    obtain ⟨h1, h⟩ := ba h
    obtain ⟨h2, h⟩ := ba h
    obtain ⟨h3, h⟩ := ba h
    obtain ⟨h4, h5⟩ := ba h
    obtain rfl := of_decide_eq_true h1
    have hf := of_decide_eq_true h2
    exact ok_pl rfl (se_fld hf (g.fx.cl h3).1 ((g.fx.cl h3).2 f hf) (sdE a g h5).2.1 (rc_base h4 _ _ _)) fun _ => rfl
  | .isi t a, X, W, sc, e, g, h => by
    rw [mtE] at h
    obtain ⟨x, p0, es, p, rfl, h⟩ := onCallN_inv h
    obtain ⟨a', b', rfl, h⟩ := on2_inv h
    obtain ⟨y, p1, rfl, h⟩ := onName_inv h
    obtain ⟨h1, h⟩ := ba h
    obtain ⟨h2, h⟩ := ba h
    obtain ⟨h3, h⟩ := ba h
    obtain ⟨h4, h⟩ := ba h
    obtain ⟨h5, h⟩ := ba h
    obtain ⟨h6, h7⟩ := ba h
    obtain rfl := of_decide_eq_true h1
    obtain rfl := of_decide_eq_true h2
    have ia := sdE a g h7
    have q := se_isi (pos := p) (p1 := p0) (p2 := p1) ia.2.1 (g.gl h3) (g.fx.bl _ (of_decide_eq_true h5)) (g.gl h4) (g.fx.bl _ (of_decide_eq_true h6)) (pl_star ia.1 _ X.env)
    exact ⟨rfl, q, st_tru q fun _ => rfl⟩
  | .blt b a es, X, W, sc, e, g, h => by
    rw [mtE] at h
    obtain ⟨x, p0, es0, p, rfl, h⟩ := onCallN_inv h
    obtain ⟨a', es', rfl, h⟩ := onC_inv h
    obtain ⟨h1, h⟩ := ba h
    obtain ⟨h2, h⟩ := ba h
    obtain ⟨h3, h⟩ := ba h
    obtain ⟨h4, h⟩ := ba h
    obtain ⟨h5, h6⟩ := ba h
    obtain rfl := of_decide_eq_true h2
    have ia := sdE a g h5
    have ie := sdEs es g h6
    exact ok_pl rfl (mt_blt g h1 b h3 (of_decide_eq_true h4) ⟨fun z hz => (List.mem_cons.mp hz).elim (fun q => q ▸ ia.1) (ie.1 z), sa_cons ia.2.1 ie.2 (pl_star ia.1 _ X.env)⟩) fun _ => rfl
  | .call f es, X, W, sc, e, g, h => by
    rw [mtE] at h
    obtain ⟨x, p0, es', p, rfl, h⟩ := onCallN_inv h
    obtain ⟨h1, h⟩ := ba h
    obtain ⟨h2, h⟩ := ba h
    obtain ⟨h3, h⟩ := ba h
    obtain ⟨h4, h⟩ := ba h
    obtain ⟨h5, h6⟩ := ba h
    obtain rfl := of_decide_eq_true h2
    exact ok_pl rfl (mt_call g h1 h3 h4 (of_decide_eq_true h5) (sdEs es g h6) (mt_nil h6)) fun _ => rfl
  | .rev a c, X, W, sc, e, g, h => by
    rw [mtE] at h
    obtain ⟨a', b', p, rfl, h⟩ := onSub_inv h
    obtain ⟨c', p2, rfl, h⟩ := onSlice3_inv h
    obtain ⟨h1, h2⟩ := ba h
    exact ok_pl rfl (se_rev (sdE a g h1).2.1 (sdE c g h2).2.1) fun _ => rfl
  | .make f es, X, W, sc, e, g, h => by
    rw [mtE] at h
    obtain ⟨x, p0, es', p, rfl, h⟩ := onCallN_inv h
    obtain ⟨h1, h⟩ := ba h
    obtain ⟨h2, h⟩ := ba h
    obtain ⟨h3, h⟩ := ba h
    obtain ⟨h4, h⟩ := ba h
    obtain ⟨h5, h⟩ := ba h
    obtain ⟨h6, h7⟩ := ba h
    obtain rfl := of_decide_eq_true h3
    exact ok_pl rfl (mt_make g h1 h2 h4 (of_decide_eq_true h5) (by simpa using h6) (sdEs es g h7)) fun _ => rfl
  | .meth f o es, X, W, sc, e, g, h => by
    rw [mtE] at h
    obtain ⟨o', x, ap, es', p, rfl, h⟩ := onCallA_inv h
    obtain ⟨h1, h⟩ := ba h
    obtain ⟨h2, h⟩ := ba h
    obtain ⟨h3, h⟩ := ba h
    obtain ⟨h4, h⟩ := ba h
    obtain ⟨h5, h⟩ := ba h
    obtain ⟨h6, h⟩ := ba h
    obtain ⟨h7, h⟩ := ba h
    obtain ⟨h8, h⟩ := ba h
    obtain ⟨h9, h10⟩ := ba h
    obtain rfl := of_decide_eq_true h2
    exact ok_pl rfl (mt_meth g h1 h5 (by simpa using h3) (of_decide_eq_true h4) h6 h7 (of_decide_eq_true h8) (sdE o g h9).2.1 (sdEs es g h10) (mt_nil h10)) fun _ => rfl
  | .app o a, X, W, sc, e, g, h => by
    rw [mtE] at h
    obtain ⟨o', x, ap, es', p, rfl, h⟩ := onCallA_inv h
    obtain ⟨a', rfl, h⟩ := on1_inv h
    obtain ⟨h1, h⟩ := ba h
    obtain ⟨h2, h⟩ := ba h
    obtain ⟨h3, h⟩ := ba h
    obtain ⟨h4, h5⟩ := ba h
    obtain rfl := of_decide_eq_true h1
    have ia := sdE a g h5
    have mm := m1_ok (X := X) (m := "append") h2 ia.1 h3
    exact ok_pl rfl (se_app (sdE o g h4).2.1 ia.2.1 mm.base mm.few h3 (pl_star ia.1 _ X.env)) fun _ => rfl
  | .get2 o a b, X, W, sc, e, g, h => by
    rw [mtE] at h
    obtain ⟨o', x, ap, es', p, rfl, h⟩ := onCallA_inv h
    obtain ⟨a', b', rfl, h⟩ := on2_inv h
    obtain ⟨h1, h⟩ := ba h
    obtain ⟨h2, h⟩ := ba h
    obtain ⟨h3, h⟩ := ba h
    obtain ⟨h4, h⟩ := ba h
    obtain ⟨h5, h6⟩ := ba h
    obtain rfl := of_decide_eq_true h1
    have ia := sdE a g h5
    have ib := sdE b g h6
    exact ok_pl rfl (se_get2 g.un (sdE o g h4).2.1 ia.2.1 ib.2.1 (m2_ok h2 ia.1 ib.1 h3)) fun _ => rfl
  | .pop1 o a, X, W, sc, e, g, h => by
    rw [mtE] at h
    obtain ⟨o', x, ap, es', p, rfl, h⟩ := onCallA_inv h
    obtain ⟨a', rfl, h⟩ := on1_inv h
    obtain ⟨h1, h⟩ := ba h
    obtain ⟨h2, h⟩ := ba h
    obtain ⟨h3, h⟩ := ba h
    obtain ⟨h4, h5⟩ := ba h
    obtain rfl := of_decide_eq_true h1
    have ia := sdE a g h5
    exact ok_pl rfl (se_pop1 (sdE o g h4).2.1 ia.2.1 (m1_ok h2 ia.1 h3)) fun _ => rfl
  | .pop2 o a b, X, W, sc, e, g, h => by
    rw [mtE] at h
    obtain ⟨o', x, ap, es', p, rfl, h⟩ := onCallA_inv h
    obtain ⟨a', b', rfl, h⟩ := on2_inv h
    obtain ⟨h1, h⟩ := ba h
    obtain ⟨h2, h⟩ := ba h
    obtain ⟨h3, h⟩ := ba h
    obtain ⟨h4, h⟩ := ba h
    obtain ⟨h5, h6⟩ := ba h
    obtain rfl := of_decide_eq_true h1
    have ia := sdE a g h5
    have ib := sdE b g h6
    exact ok_pl rfl (se_pop2 (sdE o g h4).2.1 ia.2.1 ib.2.1 (m2_ok h2 ia.1 ib.1 h3)) fun _ => rfl
  | .sitems o, X, W, sc, e, g, h => by
    rw [mtE] at h
    obtain ⟨s, p0, es', p, rfl, h⟩ := onCallN_inv h
    obtain ⟨i, rfl, h⟩ := on1_inv h
    obtain ⟨o', x, ap, es2, cp, rfl, h⟩ := onCallA_inv h
    obtain ⟨h1, h⟩ := ba h
    obtain ⟨h2, h⟩ := ba h
    obtain ⟨h3, h⟩ := ba h
    obtain ⟨h4, h⟩ := ba h
    obtain ⟨h5, h⟩ := ba h
    obtain ⟨h6, h⟩ := ba h
    obtain ⟨h7, h⟩ := ba h
    obtain ⟨h8, h9⟩ := ba h
    obtain rfl := of_decide_eq_true h2
    obtain rfl := of_decide_eq_true h3
    obtain rfl := List.isEmpty_iff.mp h4
    exact ok_pl rfl (se_sitems (g.calm h1).1 g.un (g.gl h5) (g.fx.bl _ (of_decide_eq_true h6)) (sdE o g h9).2.1 (rc_base h7 _ _ _) h8) fun _ => rfl
  | .lc elt t it tst own, X, W, sc, e, g, h => by
    rw [mtE] at h
    obtain ⟨elt', gs, scope, p, rfl, h⟩ := onLc_inv h
    obtain ⟨tg', iter', ifs', rfl, h⟩ := onG1_inv h
    obtain ⟨h1, h⟩ := ba h
    obtain ⟨h2, h⟩ := ba h
    obtain ⟨h3, h⟩ := ba h
    obtain ⟨h4, h⟩ := ba h
    obtain ⟨h5, h⟩ := ba h
    obtain ⟨h6, h7⟩ := ba h
    have hN : X.N.Nodup := by rw [g.nN]; exact g.nd
    have bk : BlkOk X.N X.env.scope scope own := by rw [g.nN]; exact blkR g.sr h2
    obtain ⟨h50, h5⟩ := ba h5
    have ii := sdI it (tg := tg') g h5 h50
    exact ok_pl rfl (se_lc (g.calm h1).1 hN ii.2 bk (fun s H Ca cl fp => (pgT (g.blk bk.kind s H cl Ca fp) h1 h4).1) (gT_go t) (fun i hi => of_decide_eq_true (List.all_eq_true.mp h3 i hi))
      (fun s H Ca cl fp => sdIfs tst (g.blk bk.kind s H cl Ca fp) h6) (fun s H Ca cl fp => (sdE elt (g.blk bk.kind s H cl Ca fp) h7).2.1) fun x => pl_fold ii.1 X.env x) fun _ => rfl
theorem sdEs : ∀ (ms : MEs) {X : Cx} {W : WX} {sc : Scope} {es : List Expr}, Gd C Γ ps k X W N sc → mtEs C N ms sc es = true → Ok4 X W es (eA Γ ms)
  | .nil, X, W, sc, es, g, h => by
    rw [mtEs] at h
    obtain rfl := List.isEmpty_iff.mp h
    exact ⟨(fun _ h => nomatch h), sa_nil⟩
  | .cons a r, X, W, sc, es, g, h => by
    rw [mtEs] at h
    obtain ⟨a', r', rfl, h⟩ := onC_inv h
    obtain ⟨h1, h2⟩ := ba h
    have ia := sdE a g h1
    have ir := sdEs r g h2
    exact ⟨fun z hz => (List.mem_cons.mp hz).elim (fun q => q ▸ ia.1) (ir.1 z), sa_cons ia.2.1 ir.2 (pl_star ia.1 _ X.env)⟩
theorem sdAnd : ∀ (ms : MEs) {X : Cx} {W : WX} {sc : Scope} {es : List Expr}, Gd C Γ ps k X W N sc → mtEs C N ms sc es = true → ∀ p, SE X W (.BoolOp .And es p) (eAnd Γ ms).1 ∧ PW X (.BoolOp .And es p) (tT X.K W (eAnd Γ ms).2)
  | .nil, X, W, sc, es, g, h, p => by
    exact ⟨⟨fun pins s σ H Q I ⟨p, G, e, rl, ev, h⟩ => h.elim⟩, ⟨fun wh pins s σ H Q I ⟨p, G, e, rl, ev, h⟩ => h.elim⟩⟩
  | .cons a .nil, X, W, sc, es, g, h, p => by
    rw [mtEs] at h
    obtain ⟨a', r', rfl, h⟩ := onC_inv h
    obtain ⟨h1, h2⟩ := ba h
    rw [mtEs] at h2
    obtain rfl := List.isEmpty_iff.mp h2
    have ia := sdE a g h1
    exact ⟨pe_one ia.2.1, pw_and1 ia.2.2⟩
  | .cons a (.cons b r), X, W, sc, es, g, h, p => by
    rw [mtEs] at h
    obtain ⟨a', r', rfl, h⟩ := onC_inv h
    obtain ⟨h1, h2⟩ := ba h
    have ia := sdE a g h1
    have ir := sdAnd (.cons b r) g h2 p
    rw [mtEs] at h2
    obtain ⟨b', r'', rfl, _⟩ := onC_inv h2
    exact ⟨pe_imp (pe_and ia.2.1 ir.1) fun _ _ _ h => read_andV h, pw_imp (pw_and ia.2.2 ir.2) fun _ _ _ h => read_and h⟩
theorem sdOr : ∀ (ms : MEs) {X : Cx} {W : WX} {sc : Scope} {es : List Expr}, Gd C Γ ps k X W N sc → mtEs C N ms sc es = true → ∀ p, SE X W (.BoolOp .Or es p) (eOr Γ ms).1 ∧ PW X (.BoolOp .Or es p) (tT X.K W (eOr Γ ms).2)
  | .nil, X, W, sc, es, g, h, p => by
    exact ⟨⟨fun pins s σ H Q I ⟨p, G, e, rl, ev, h⟩ => h.elim⟩, ⟨fun wh pins s σ H Q I ⟨p, G, e, rl, ev, h⟩ => h.elim⟩⟩
  | .cons a .nil, X, W, sc, es, g, h, p => by
    rw [mtEs] at h
    obtain ⟨a', r', rfl, h⟩ := onC_inv h
    obtain ⟨h1, h2⟩ := ba h
    rw [mtEs] at h2
    obtain rfl := List.isEmpty_iff.mp h2
    have ia := sdE a g h1
    exact ⟨pe_one ia.2.1, pw_or1 ia.2.2⟩
  | .cons a (.cons b r), X, W, sc, es, g, h, p => by
    rw [mtEs] at h
    obtain ⟨a', r', rfl, h⟩ := onC_inv h
    obtain ⟨h1, h2⟩ := ba h
    have ia := sdE a g h1
    have ir := sdOr (.cons b r) g h2 p
    rw [mtEs] at h2
    obtain ⟨b', r'', rfl, _⟩ := onC_inv h2
    exact ⟨pe_imp (pe_or ia.2.1 ir.1) fun _ _ _ h => read_orV h, pw_imp (pw_or ia.2.2 ir.2) fun _ _ _ h => read_or h⟩
theorem sdO : ∀ (mo : MO) {X : Cx} {W : WX} {sc : Scope} {e : Option Expr}, Gd C Γ ps k X W N sc → mtO C N mo sc e = true → PO X e (tO X.K W (mPart (eO Γ mo)))
  | .none, X, W, sc, e, g, h => by
    rw [mtO] at h
    obtain rfl := Option.isNone_iff_eq_none.mp h
    exact so_none
  | .some a, X, W, sc, e, g, h => by
    rw [mtO] at h
    obtain ⟨a', rfl, h⟩ := onSome_inv h
    exact so_some (sdE a g h).2.1
theorem sdIfs : ∀ (mo : MO) {X : Cx} {sc : Scope} {es : List Expr}, Gd C Γ ps k X W0 N sc → mtIfs C N mo sc es = true → PTsM X es (eTst Γ mo)
  | .none, X, sc, e, g, h => by
    rw [mtIfs] at h
    obtain rfl := List.isEmpty_iff.mp h
    exact ptm_nil
  | .some a, X, sc, e, g, h => by
    rw [mtIfs] at h
    obtain ⟨a', rfl, h⟩ := on1_inv h
    exact ptm_one (sdE a g h).2.2
theorem sdI : ∀ (mi : MIt) {X : Cx} {W : WX} {sc : Scope} {e tg : Expr}, Gd C Γ ps k X W N sc → mtI C N mi sc e = true → itOk mi tg = true → plainB e = true ∧ SI X W tg e (eI Γ mi)
  | .val a, X, W, sc, e, tg, g, h, _ => by
    rw [mtI] at h
    have ia := sdE a g h
    exact ⟨ia.1, si_val ia.2.1⟩
  | .range1 a, X, W, sc, e, tg, g, h, _ => by
    rw [mtI] at h
    obtain ⟨x, p0, es, p, rfl, h⟩ := onCallN_inv h
    obtain ⟨a', rfl, h⟩ := on1_inv h
    obtain ⟨h1, h⟩ := ba h
    obtain ⟨h2, h⟩ := ba h
    obtain ⟨h3, h4⟩ := ba h
    obtain rfl := of_decide_eq_true h1
    have ia := sdE a g h4
    exact ⟨rfl, si_range1 (g.gl h2) (g.fx.bl _ (of_decide_eq_true h3)) (sa_cons ia.2.1 sa_nil (pl_star ia.1 _ X.env)) (pl_star ia.1 _ X.env)⟩
  | .range2 a b, X, W, sc, e, tg, g, h, _ => by
    rw [mtI] at h
    obtain ⟨x, p0, es, p, rfl, h⟩ := onCallN_inv h
    obtain ⟨a', b', rfl, h⟩ := on2_inv h
    obtain ⟨h1, h⟩ := ba h
    obtain ⟨h2, h⟩ := ba h
    obtain ⟨h3, h⟩ := ba h
    obtain ⟨h4, h5⟩ := ba h
    obtain rfl := of_decide_eq_true h1
    have ia := sdE a g h4
    have ib := sdE b g h5
    exact ⟨rfl, si_range2 (g.gl h2) (g.fx.bl _ (of_decide_eq_true h3)) (sa_cons ia.2.1 (sa_cons ib.2.1 sa_nil (pl_star ib.1 _ X.env)) (pl_star ia.1 _ X.env)) ((pl_star ia.1 [b'] X.env).trans (congrArg _ (pl_star ib.1 [] X.env))) (pl_star ib.1 [] X.env)⟩
  | .enum a, X, W, sc, e, tg, g, h, ht => by
    rw [mtI] at h
    obtain ⟨x, p0, es, p, rfl, h⟩ := onCallN_inv h
    obtain ⟨a', rfl, h⟩ := on1_inv h
    obtain ⟨h1, h⟩ := ba h
    obtain ⟨h2, h⟩ := ba h
    obtain ⟨h3, h4⟩ := ba h
    obtain rfl := of_decide_eq_true h1
    have ia := sdE a g h4
    cases tg <;> first | (cases ht; done) | skip
    exact ⟨rfl, si_enumT (g.gl h2) (g.fx.bl _ (of_decide_eq_true h3)) ia.2.1 (pl_star ia.1 _ X.env)⟩
end
end
end Mw
namespace Mw
open PySem L2
open PyProof.Rows hiding St
mutual
inductive MS where
  | asg (t : Tg) (a : ME) | asgLc (i : Nat) (elt : ME) (t : Tg) (it : MIt) (tst : MO) (own : List (Str × Nat))
  | setI (o i v : ME) | setF (f : Nat) (o v : ME) | augN (i : Nat) (a : ME) | augF (f : Nat) (o a : ME)
  | expr (a : ME) | ret (a : ME) | retN | pass | cont
  | ifS (c : ME) (a b : MB) | forS (t : Tg) (it : MIt) (b : MB) | whileS (n : Nat) (c : ME) (b : MB)
  | raise (c : Nat) | tryS (b : MB) (hs : MHs)
inductive MB where
  | nil | cons (s : MS) (r : MB)
inductive MHs where
  | nil | cons (c : Nat) (b : MB) (r : MHs)
end
mutual
@[simp] def eS (Γ : Fns) (xs : List Nat) : MS → MS0
  | .asg t a => mAsg t (eP Γ a).1
  | .asgLc i elt t it tst own => mAsg (.nm i) (mLc t (eI Γ it) (eTst Γ tst) (eP Γ elt).1 (own.map (·.2)))
  | .setI o i v => mSetI (eP Γ o).1 (eP Γ i).1 (eP Γ v).1
  | .setF f o v => mSetF f (eP Γ o).1 (eP Γ v).1
  | .augN i a => mAug i (eP Γ a).1
  | .augF f o a => mAugF f (eP Γ o).1 (eP Γ a).1
  | .expr a => mDrop (eP Γ a).1
  | .ret a => mRet (eP Γ a).1
  | .retN => mRetN
  | .pass => mNext
  | .cont => mCont
  | .ifS c a b => mIfS (eP Γ c).2 (eB Γ xs a) (eB Γ xs b)
  | .forS t it b => mFor t (eI Γ it) (eB Γ xs b)
  | .whileS n c b => whileGo (eP Γ c).2 (eB Γ xs b) n
  | .raise c => mRaise c
  | .tryS b hs => mTry xs (eB Γ xs b) (eH Γ xs hs)
@[simp] def eB (Γ : Fns) (xs : List Nat) : MB → MS0
  | .nil => mNext
  | .cons s r => mSeq (eS Γ xs s) (eB Γ xs r)
@[simp] def eH (Γ : Fns) (xs : List Nat) : MHs → List (Nat × MS0)
  | .nil => []
  | .cons c b r => (c, eB Γ xs b) :: eH Γ xs r
end
def onAssign1 (z : Stmt) (k : Expr → Expr → Bool) : Bool := match z with
  | .Assign [t] v _ => k t v
  | _ => false
theorem onAssign1_inv {z : Stmt} {k : Expr → Expr → Bool} (h : onAssign1 z k = true) : ∃ (t v : Expr) (p : Pos), z = .Assign [t] v p ∧ k t v = true := by
  unfold onAssign1 at h
  split at h
  · exact ⟨_, _, _, rfl, h⟩
  · cases h
def onAug (z : Stmt) (k : Expr → Expr → Bool) : Bool := match z with
  | .AugAssign t .Add v _ => k t v
  | _ => false
theorem onAug_inv {z : Stmt} {k : Expr → Expr → Bool} (h : onAug z k = true) : ∃ (t v : Expr) (p : Pos), z = .AugAssign t .Add v p ∧ k t v = true := by
  unfold onAug at h
  split at h
  · exact ⟨_, _, _, rfl, h⟩
  · cases h
def onExpr (z : Stmt) (k : Expr → Bool) : Bool := match z with
  | .Expr v _ => k v
  | _ => false
theorem onExpr_inv {z : Stmt} {k : Expr → Bool} (h : onExpr z k = true) : ∃ (v : Expr) (p : Pos), z = .Expr v p ∧ k v = true := by
  unfold onExpr at h
  split at h
  · exact ⟨_, _, rfl, h⟩
  · cases h
def onRet (z : Stmt) (k : Option Expr → Bool) : Bool := match z with
  | .Return v _ => k v
  | _ => false
theorem onRet_inv {z : Stmt} {k : Option Expr → Bool} (h : onRet z k = true) : ∃ (v : Option Expr) (p : Pos), z = .Return v p ∧ k v = true := by
  unfold onRet at h
  split at h
  · exact ⟨_, _, rfl, h⟩
  · cases h
def isPass (z : Stmt) : Bool := match z with
  | .Pass _ => true
  | _ => false
theorem isPass_inv {z : Stmt} (h : isPass z = true) : ∃ p, z = .Pass p := by
  unfold isPass at h
  split at h
  · exact ⟨_, rfl⟩
  · cases h
def isCont (z : Stmt) : Bool := match z with
  | .Continue _ => true
  | _ => false
theorem isCont_inv {z : Stmt} (h : isCont z = true) : ∃ p, z = .Continue p := by
  unfold isCont at h
  split at h
  · exact ⟨_, rfl⟩
  · cases h
def onIfS (z : Stmt) (k : Expr → List Stmt → List Stmt → Bool) : Bool := match z with
  | .If c a b _ => k c a b
  | _ => false
theorem onIfS_inv {z : Stmt} {k : Expr → List Stmt → List Stmt → Bool} (h : onIfS z k = true) : ∃ (c : Expr) (a b : List Stmt) (p : Pos), z = .If c a b p ∧ k c a b = true := by
  unfold onIfS at h
  split at h
  · exact ⟨_, _, _, _, rfl, h⟩
  · cases h
def onFor (z : Stmt) (k : Expr → Expr → List Stmt → Bool) : Bool := match z with
  | .For t i b [] _ => k t i b
  | _ => false
theorem onFor_inv {z : Stmt} {k : Expr → Expr → List Stmt → Bool} (h : onFor z k = true) : ∃ (t i : Expr) (b : List Stmt) (p : Pos), z = .For t i b [] p ∧ k t i b = true := by
  unfold onFor at h
  split at h
  · exact ⟨_, _, _, _, rfl, h⟩
  · cases h
def onWhile (z : Stmt) (k : Expr → List Stmt → Bool) : Bool := match z with
  | .While c b [] _ => k c b
  | _ => false
theorem onWhile_inv {z : Stmt} {k : Expr → List Stmt → Bool} (h : onWhile z k = true) : ∃ (c : Expr) (b : List Stmt) (p : Pos), z = .While c b [] p ∧ k c b = true := by
  unfold onWhile at h
  split at h
  · exact ⟨_, _, _, rfl, h⟩
  · cases h
def onRaise (z : Stmt) (k : Str → Bool) : Bool := match z with
  | .Raise (some (.Call (.Name x _) [.Constant (.str _) _ _] [] _)) none _ => k x
  | _ => false
theorem onRaise_inv {z : Stmt} {k : Str → Bool} (h : onRaise z k = true) : ∃ (x : Str) (p1 : Pos) (mt : Str) (j : Nat) (p2 p3 p : Pos), z = .Raise (some (.Call (.Name x p1) [.Constant (.str mt) j p2] [] p3)) none p ∧ k x = true := by
  unfold onRaise at h
  split at h
  · exact ⟨_, _, _, _, _, _, _, rfl, h⟩
  · cases h
def onTry (z : Stmt) (k : List Stmt → List ExceptHandler → Bool) : Bool := match z with
  | .Try b hs [] [] _ => k b hs
  | _ => false
theorem onTry_inv {z : Stmt} {k : List Stmt → List ExceptHandler → Bool} (h : onTry z k = true) : ∃ (b : List Stmt) (hs : List ExceptHandler) (p : Pos), z = .Try b hs [] [] p ∧ k b hs = true := by
  unfold onTry at h
  split at h
  · exact ⟨_, _, _, rfl, h⟩
  · cases h
def onHd (z : List ExceptHandler) (k : Str → List Stmt → List ExceptHandler → Bool) : Bool := match z with
  | .ExceptHandler (some (.Name x _)) none b _ :: r => k x b r
  | _ => false
theorem onHd_inv {z : List ExceptHandler} {k : Str → List Stmt → List ExceptHandler → Bool} (h : onHd z k = true) : ∃ (x : Str) (np : Pos) (b : List Stmt) (p : Pos) (r : List ExceptHandler), z = .ExceptHandler (some (.Name x np)) none b p :: r ∧ k x b r = true := by
  unfold onHd at h
  split at h
  · exact ⟨_, _, _, _, _, rfl, h⟩
  · cases h
def onSC (z : List Stmt) (k : Stmt → List Stmt → Bool) : Bool := match z with
  | a :: r => k a r
  | [] => false
theorem onSC_inv {z : List Stmt} {k : Stmt → List Stmt → Bool} (h : onSC z k = true) : ∃ a r, z = a :: r ∧ k a r = true := by
  unfold onSC at h
  split at h
  · exact ⟨_, _, rfl, h⟩
  · cases h
def lcLine (t v : Expr) : Bool := match t, v with
  | .Name y py, .ListComp _ _ scope p => (py.line == p.line) && !(scope.names.any fun (n, k) => n == y && (k == .local || k == .cell))
  | _, _ => false
/-- the plain store: no comprehension on the target's line -/
def stB (t v : Expr) : Bool := match v with
  | .ListComp _ _ _ p => (match t with
    | .Name _ py => !(py.line == p.line)
    | _ => false)
  | .Tuple .. => (match t with
    | .Name .. => true
    | _ => false)
  | _ => true
def calmOff (C : Ct) : Ct := { C with calm := false }
mutual
def mtS (C : Ct) (N : List Str) : MS → Scope → Stmt → Bool
  | .asg t a, sc, z => onAssign1 z fun t' v => C.calm && (mtT N t sc t' && (stB t' v && mtE C N a sc v))
  | .asgLc i elt t it tst own, sc, z => onAssign1 z fun t' v => onName t' fun y => lcLine t' v && (decide (N[i]? = some y) && (decide (sc.names.lookup y = some .local) && mtE C N (.lc elt t it tst own) sc v))
  | .setI o i v, sc, z => onAssign1 z fun t' v' => onSub t' fun o' i' => mtE C N o sc o' && (mtE C N i sc i' && mtE C N v sc v')
  | .setF f o v, sc, z => onAssign1 z fun t' v' => onAttr t' fun o' x => decide (x = fname f) && (decide (f < 8) && (C.cls && (mtE C N o sc o' && mtE C N v sc v')))
  | .augN i a, sc, z => onAug z fun t' v => onName t' fun x => decide (N[i]? = some x) && (locB sc x && mtE C N a sc v)
  | .augF f o a, sc, z => onAug z fun t' v => onAttr t' fun o' x => decide (x = fname f) && (decide (f < 8) && (C.cls && (mtE C N o sc o' && mtE C N a sc v)))
  | .expr a, sc, z => onExpr z fun v => noLcB v && mtE C N a sc v
  | .ret a, sc, z => onRet z fun v => onSome v fun v => mtE C N a sc v
  | .retN, _, z => onRet z fun v => v.isNone
  | .pass, _, z => isPass z
  | .cont, _, z => isCont z
  | .ifS c a b, sc, z => onIfS z fun c' a' b' => mtE C N c sc c' && (mtB C N a sc a' && mtB C N b sc b')
  | .forS t it b, sc, z => onFor z fun t' i' b' => C.calm && (mtT N t sc t' && ((itOk it t' && mtI C N it sc i') && mtB C N b sc b'))
  | .whileS _ c b, sc, z => onWhile z fun c' b' => mtE C N c sc c' && mtB C N b sc b'
  | .raise c, sc, z => onRaise z fun x => C.calm && (decide (x = xname c) && (glB sc (xname c) && decide (c ∈ C.xs)))
  | .tryS b hs, sc, z => onTry z fun b' hs' => mtB C N b sc b' && (mtH C N hs sc hs' && !hs'.isEmpty)
def mtB (C : Ct) (N : List Str) : MB → Scope → List Stmt → Bool
  | .nil, _, z => z.isEmpty
  | .cons s r, sc, z => onSC z fun s' r' => mtS C N s sc s' && mtB C N r sc r'
def mtH (C : Ct) (N : List Str) : MHs → Scope → List ExceptHandler → Bool
  | .nil, _, z => z.isEmpty
  | .cons c b r, sc, z => onHd z fun x b' r' => decide (x = xname c) && (glB sc (xname c) && (decide (c ∈ C.xs) && (!b'.isEmpty && (mtB (calmOff C) N b sc b' && mtH C N r sc r'))))
end
structure Gs (C : Ct) (Γ : Fns) (ps : Nat → List Str) (k : Nat) (X : Cx) (W : WX) (N : List Str) (sc : Scope) : Prop extends Gd C Γ ps k X W N sc where
  own : PassesOwn (model X.prog X.w) X.A X.env X.xe
  stk : X.stack = X.env :: X.outer
  frm : X.env.frame = some X.env.locals
section
variable {C : Ct} {Γ : Fns} {ps : Nat → List Str} {k : Nat} {X : Cx} {W : WX} {N : List Str} {sc : Scope}
theorem Gs.tr (g : Gs C Γ ps k X W N sc) {W' : WX} {pn : List (Addr × Obj)} {xe : Value → Shared → Prop} (tk : Takes (X.tr pn xe) W') (ow : PassesOwn (model X.prog X.w) X.A X.env xe) : Gs C Γ ps k (X.tr pn xe) W' N sc :=
  { fx := g.fx, nN := g.nN, nd := g.nd, sr := g.sr, tk := tk, un := g.un, calm := g.calm, fnc := g.fnc, own := ow, stk := g.stk, frm := g.frm }
theorem Fx.off {P : Program} {w : World} {K : PySem.W.Frag} {mg : Str → Option Value} {base : Heap} (h : Fx C Γ ps k P w K mg base) : Fx (calmOff C) Γ ps k P w K mg base := ⟨h.ar, h.fn, h.me, h.ini, h.cg, h.bl, h.gi, h.gs, h.xc, h.xm, h.cl⟩
theorem Gs.suite (g : Gs C Γ ps k X W N sc) (a : Addr) (pn : List (Addr × Obj)) : Gs (calmOff C) Γ ps k (X.suite a pn) W0 N sc :=
  { fx := g.fx.off, nN := g.nN, nd := g.nd, sr := g.sr, tk := takes0, un := g.un, calm := (fun h => nomatch h), fnc := g.fnc, own := PassesOwn.never, stk := g.stk, frm := g.frm }
theorem stB_ok (hk : X.env.scope.kind = .function) {t v : Expr} {l : Nat} (hp : plainB v = true) (h : stB t v = true) : swapsWithSole [t] v l X.env = pure false ∧ swappedStores [t] v X.env = pure none := by
  cases v <;> first
    | (cases hp; done)
    | (refine ⟨rfl, ?_⟩; cases t <;> rfl)
    | skip
  · rename_i e gs s p
    cases t <;> first | (cases h; done) | skip
    rename_i y py
    refine ⟨?_, rfl⟩
    have h' : (!(py.line == p.line)) = true := h
    have h2 : (py.line == p.line) = false := by simpa using h'
    show swapsWith (.ListComp e gs s p) (some (.Name y py)) l X.env = pure false
    unfold swapsWith
    simp only [Expr.pos, h2]
    simp
  · cases t <;> first | (cases h; done) | exact ⟨rfl, rfl⟩
theorem setI_has {o b : Expr} {p2 : Pos} (hb : plainB b = true) (v : Value) : assign (.Subscript o b p2) X.env v = (do
      let ov ← holding [v] (eval o X.env)
      let iv ← holding [v, ov] (eval b X.env)
      standAt p2
      holding [v, ov, iv] (setItem ov iv v)
      release [v, ov, iv] []) := by
  cases b <;> first | (cases hb; done) | rfl
end
section
variable {Γ : Fns} {ps : Nat → List Str} {k : Nat} {N : List Str}
mutual
theorem sdS : ∀ (ms : MS) {C : Ct} {X : Cx} {W : WX} {sc : Scope} {z : Stmt}, Gs C Γ ps k X W N sc → mtS C N ms sc z = true → SS X W z (eS Γ C.xs ms)
  | .asg t a, C, X, W, sc, z, g, h => by
    rw [mtS] at h
    obtain ⟨t', v, p, rfl, h⟩ := onAssign1_inv h
    obtain ⟨h1, h⟩ := ba h
    obtain ⟨h2, h⟩ := ba h
    obtain ⟨h3, h4⟩ := ba h
    have ia := sdE a g.toGd h4
    have ig := pgT g.toGd h1 h2
    have is := stB_ok (X := X) (l := p.line) g.sr.kind ia.1 h3
    exact ss_asg ia.2.1 ig.1 (gT_go t) is.1 is.2 ig.2
  | .asgLc i elt t it tst own, C, X, W, sc, z, g, h => by
    rw [mtS] at h
    obtain ⟨t', v, spos, rfl, h⟩ := onAssign1_inv h
    obtain ⟨y, py, rfl, h⟩ := onName_inv h
    obtain ⟨hl, h⟩ := ba h
    obtain ⟨hy, h⟩ := ba h
    obtain ⟨hyl, h⟩ := ba h
    rw [mtE] at h
    obtain ⟨elt', gs, scope, p, rfl, h⟩ := onLc_inv h
    obtain ⟨tg', iter', ifs', rfl, h⟩ := onG1_inv h
    obtain ⟨h1, h⟩ := ba h
    obtain ⟨h2, h⟩ := ba h
    obtain ⟨h3, h⟩ := ba h
    obtain ⟨h4, h⟩ := ba h
    obtain ⟨h5, h⟩ := ba h
    obtain ⟨h6, h7⟩ := ba h
    have hl' : ((py.line == p.line) && !(scope.names.any fun (n, k) => n == y && (k == .local || k == .cell))) = true := hl
    obtain ⟨l1, l2⟩ := ba hl'
    have hN : X.N.Nodup := by rw [g.nN]; exact g.nd
    have bk : BlkOk X.N X.env.scope scope own := by rw [g.nN]; exact blkR g.sr h2
    obtain ⟨h50, h5⟩ := ba h5
    have ii := sdI it (tg := tg') g.toGd h5 h50
    exact ss_setLc (g.calm h1).1 hN (by rw [g.nN]; exact of_decide_eq_true hy) (g.sr.lc y (of_decide_eq_true hyl)) (sw_true g.sr.kind (g.sr.lc y (of_decide_eq_true hyl)) l1 (by simpa using l2)) ii.2 bk (fun s H Ca cl fp => (pgT (g.toGd.blk bk.kind s H cl Ca fp) h1 h4).1) (gT_go t) (fun i hi => of_decide_eq_true (List.all_eq_true.mp h3 i hi))
      (fun s H Ca cl fp => sdIfs tst (g.toGd.blk bk.kind s H cl Ca fp) h6) (fun s H Ca cl fp => (sdE elt (g.toGd.blk bk.kind s H cl Ca fp) h7).2.1) fun x => pl_fold ii.1 X.env x
  | .setI o i v, C, X, W, sc, z, g, h => by
    rw [mtS] at h
    obtain ⟨t', v', p, rfl, h⟩ := onAssign1_inv h
    obtain ⟨o', i', p2, rfl, h⟩ := onSub_inv h
    obtain ⟨h2, h⟩ := ba h
    obtain ⟨h3, h4⟩ := ba h
    have iv := sdE v g.toGd h4
    have ii := sdE i g.toGd h3
    exact ss_setI g.un (sdE o g.toGd h2).2.1 ii.2.1 iv.2.1 (setI_has ii.1) (show swapsWithSole [.Subscript o' i' p2] v' p.line X.env = pure false from pl_swapS iv.1 o' i' p2 p.line X.env) rfl rfl
  | .setF f o v, C, X, W, sc, z, g, h => by
    rw [mtS] at h
    obtain ⟨t', v', p, rfl, h⟩ := onAssign1_inv h
    obtain ⟨o', x, p2, rfl, h⟩ := onAttr_inv h
    obtain ⟨h1, h⟩ := ba h
    obtain ⟨h2, h⟩ := ba h
    obtain ⟨h3, h⟩ := ba h
    obtain ⟨h5, h6⟩ := ba h
    obtain rfl := of_decide_eq_true h1
    have hf := of_decide_eq_true h2
    have iv := sdE v g.toGd h6
    exact ss_fld hf (g.fx.cl h3).1 ((g.fx.cl h3).2 f hf) (sdE o g.toGd h5).2.1 iv.2.1 (pl_swapA iv.1 _ _ _ _ _)
  | .augN i a, C, X, W, sc, z, g, h => by
    rw [mtS] at h
    obtain ⟨t', v', p, rfl, h⟩ := onAug_inv h
    obtain ⟨x, p2, rfl, h⟩ := onName_inv h
    obtain ⟨h1, h⟩ := ba h
    obtain ⟨h2, h3⟩ := ba h
    obtain ⟨l1, l2⟩ := g.toGd.loc h2
    exact ss_aug (by rw [g.nN]; exact g.nd) (by rw [g.nN]; exact of_decide_eq_true h1) l1 (sdE a g.toGd h3).2.1 l2
  | .augF f o a, C, X, W, sc, z, g, h => by
    rw [mtS] at h
    obtain ⟨t', v', p, rfl, h⟩ := onAug_inv h
    obtain ⟨o', x, p2, rfl, h⟩ := onAttr_inv h
    obtain ⟨h1, h⟩ := ba h
    obtain ⟨h2, h⟩ := ba h
    obtain ⟨h3, h⟩ := ba h
    obtain ⟨h5, h6⟩ := ba h
    obtain rfl := of_decide_eq_true h1
    have hf := of_decide_eq_true h2
    exact ss_augF hf (g.fx.cl h3).1 ((g.fx.cl h3).2 f hf) (sdE o g.toGd h5).2.1 (sdE a g.toGd h6).2.1
  | .expr a, C, X, W, sc, z, g, h => by
    rw [mtS] at h
    obtain ⟨v, p, rfl, h⟩ := onExpr_inv h
    obtain ⟨h1, h2⟩ := ba h
    have ia := sdE a g.toGd h2
    exact ss_expr ia.2.1 (pl_swap ia.1 h1 _ _ _)
  | .ret a, C, X, W, sc, z, g, h => by
    rw [mtS] at h
    obtain ⟨v, p, rfl, h⟩ := onRet_inv h
    obtain ⟨v', rfl, h⟩ := onSome_inv h
    exact ss_ret (sdE a g.toGd h).2.1
  | .retN, C, X, W, sc, z, g, h => by
    rw [mtS] at h
    obtain ⟨v, p, rfl, h⟩ := onRet_inv h
    obtain rfl := Option.isNone_iff_eq_none.mp h
    exact ss_retN
  | .pass, C, X, W, sc, z, g, h => by
    rw [mtS] at h
    obtain ⟨p, rfl⟩ := isPass_inv h
    exact ss_pass
  | .cont, C, X, W, sc, z, g, h => by
    rw [mtS] at h
    obtain ⟨p, rfl⟩ := isCont_inv h
    exact ss_cont
  | .ifS c a b, C, X, W, sc, z, g, h => by
    rw [mtS] at h
    obtain ⟨c', a', b', p, rfl, h⟩ := onIfS_inv h
    obtain ⟨h1, h⟩ := ba h
    obtain ⟨h2, h3⟩ := ba h
    exact ss_if (sdE c g.toGd h1).2.2 (sdB a g h2) (sdB b g h3)
  | .forS t it b, C, X, W, sc, z, g, h => by
    rw [mtS] at h
    obtain ⟨t', i', b', p, rfl, h⟩ := onFor_inv h
    obtain ⟨h1, h⟩ := ba h
    obtain ⟨h2, h⟩ := ba h
    obtain ⟨h3, h4⟩ := ba h
    obtain ⟨h30, h3⟩ := ba h3
    have ii := sdI it (tg := t') g.toGd h3 h30
    exact ss_for g.own (g.calm h1).1 ii.2 (pgT g.toGd h1 h2).1 (gT_go t) (sdB b g h4) fun x => pl_fold ii.1 X.env x
  | .whileS n c b, C, X, W, sc, z, g, h => by
    rw [mtS] at h
    obtain ⟨c', b', p, rfl, h⟩ := onWhile_inv h
    obtain ⟨h1, h2⟩ := ba h
    exact ss_while n g.own (sdE c g.toGd h1).2.2 (sdB b g h2)
  | .raise c, C, X, W, sc, z, g, h => by
    rw [mtS] at h
    obtain ⟨x, p1, mt, j, p2, p3, p, rfl, h⟩ := onRaise_inv h
    obtain ⟨h1, h⟩ := ba h
    obtain ⟨h2, h⟩ := ba h
    obtain ⟨h3, h4⟩ := ba h
    obtain rfl := of_decide_eq_true h2
    exact ss_raise (g.calm h1).1 g.tk (g.fx.xc c (of_decide_eq_true h4)) (g.toGd.gl h3)
  | .tryS b hs, C, X, W, sc, z, g, h => by
    rw [mtS] at h
    obtain ⟨b', hs', p, rfl, h⟩ := onTry_inv h
    obtain ⟨h1, h⟩ := ba h
    obtain ⟨h2, h3⟩ := ba h
    have hh := sdH hs g h2
    cases hs' with
    | nil => cases h3
    | cons h0 hr => exact ss_try g.fx.xm hh.2 g.stk g.frm g.tk (fun W' pn xe tk ow => sdB b (g.tr tk ow) h1) hh.1
theorem sdB : ∀ (mb : MB) {C : Ct} {X : Cx} {W : WX} {sc : Scope} {z : List Stmt}, Gs C Γ ps k X W N sc → mtB C N mb sc z = true → SB X W z (eB Γ C.xs mb)
  | .nil, C, X, W, sc, z, g, h => by
    rw [mtB] at h
    obtain rfl := List.isEmpty_iff.mp h
    exact sb_nil
  | .cons s r, C, X, W, sc, z, g, h => by
    rw [mtB] at h
    obtain ⟨s', r', rfl, h⟩ := onSC_inv h
    obtain ⟨h1, h2⟩ := ba h
    exact sb_cons (sdS s g h1) (sdB r g h2)
theorem sdH : ∀ (mh : MHs) {C : Ct} {X : Cx} {W : WX} {sc : Scope} {z : List ExceptHandler}, Gs C Γ ps k X W N sc → mtH C N mh sc z = true → HdsOk X z (hdL X.K (eH Γ C.xs mh)) ∧ ∀ h ∈ eH Γ C.xs mh, h.1 ∈ C.xs
  | .nil, C, X, W, sc, z, g, h => by
    rw [mtH] at h
    obtain rfl := List.isEmpty_iff.mp h
    exact ⟨.nil, fun _ h => (nomatch h)⟩
  | .cons c b r, C, X, W, sc, z, g, h => by
    rw [mtH] at h
    obtain ⟨x, np, b', p, r', rfl, h⟩ := onHd_inv h
    obtain ⟨h1, h⟩ := ba h
    obtain ⟨h2, h⟩ := ba h
    obtain ⟨h3, h⟩ := ba h
    obtain ⟨h4, h⟩ := ba h
    obtain ⟨h5, h6⟩ := ba h
    obtain rfl := of_decide_eq_true h1
    have hc := of_decide_eq_true h3
    have ir := sdH r g h6
    cases b' with
    | nil => cases h4
    | cons b0 su =>
      refine ⟨.cons ⟨g.toGd.gl h2, xname_plain c, .inl (g.fx.xc c hc).g⟩ (fun a oe cls d pn _ _ => sdB b (C := calmOff C) (g.suite a ((a, oe) :: pn)) h5) ir.1, fun z hz => ?_⟩
      rcases List.mem_cons.mp hz with q | q
      · rw [q]; exact hc
      · exact ir.2 z q
end
end
end Mw
namespace Mw
open PySem L2
open PyProof.Rows hiding St
def startD (n : Nat) (ds : List D) : En := ds.map some ++ List.replicate (n - ds.length) none
def fnRun (n : Nat) (b : MS0) : FM := fun ds G => match b (startD n ds) G with
  | .nx _ G' => .ok .non G'
  | .rt d G' => .ok d G'
  | .exc c _ G' => .exc c G'
  | _ => .bad
theorem envs_start {K : PySem.W.Frag} {p : List Addr} {H : Hp} {N : List Str} {vs : List V} {ds : List D} (h : Dens K p H vs ds) : Envs K p H (L2.start N vs) (startD N.length ds) := by
  have hl := h.length
  refine ⟨by simp [L2.start, startD, hl], fun i d e => ?_⟩
  unfold startD at e
  unfold L2.start
  by_cases hi : i < ds.length
  · rw [List.getElem?_append_left (by simpa using hi), List.getElem?_map] at e
    cases hd : ds[i]? with
    | none => rw [hd] at e; cases e
    | some d' =>
      rw [hd] at e
      simp at e
      subst e
      obtain ⟨v, h1, h2⟩ := h.get hd
      exact ⟨v, by rw [List.getElem?_append_left (by simpa [hl] using hi), List.getElem?_map, h1]; rfl, h2⟩
  · rw [List.getElem?_append_right (by simpa using hi)] at e
    rw [List.getElem?_replicate] at e
    split at e <;> simp at e
section
variable {C : Ct} {Γ : Fns} {ps : Nat → List Str} {k : Nat} {N : List Str} {P : Program} {w : World} {K : PySem.W.Frag} {mg : Str → Option Value} {base : Heap}
theorem fn_ok {x qual : Str} {params : Arguments} {body : List Stmt} {scope : Scope} {f : Addr} {fd : FuncData} {psf : List Str} {mb : MB} (F : FunD K x qual params body scope [] [] f fd) (hc : (C8.scC N psf scope && mtB C N mb scope body) = true) (fx : Fx C Γ ps k P w K mg base) :
    FnOk P w K mg base (L2.CX P w) (k + 1) f fd psf (spM K psf.length (fnRun N.length (eB Γ C.xs mb))) := by
  obtain ⟨h1, h2⟩ := ba hc
  have S := C8.fnScope_by h1
  refine F.ok S (fun vs H Q E ⟨p, G, ds, rl, dn, hl, h⟩ => by rw [dn.length, hl]) fun cdv A outer s H vs Q E hr ⟨p, G, ds, rl, dn, hl, h⟩ => ?_
  have g : Gs C Γ ps k (cxOf (L2.CX P w) P w K mg base N qual scope f cdv A outer s H E) (fun c d _ H => E c d H) N scope :=
    { fx := fx, nN := rfl, nd := S.nd, sr := ⟨S.kind, fun _ h => h, fun _ h => h, fun _ h => h, fun _ h => .inl h⟩, tk := takes_of rfl rfl rfl rfl, un := by have := hr.un; show (A.deeper _).units + 65 < cLine; omega, calm := fun _ => ⟨rfl, hr⟩, fnc := fun _ _ => rfl, own := passes_of rfl, stk := rfl, frm := rfl }
  refine ⟨_, sdB mb g h2, p, G, startD N.length ds, rl, envs_start dn, ?_⟩
  show CoS K (fun c d _ H => E c d H) p H (eB Γ C.xs mb (startD N.length ds) G) _
  unfold fnRun at h
  cases hm : eB Γ C.xs mb (startD N.length ds) G with
  | nx e1 G1 => rw [hm] at h; exact fun q σ' H' pr t r1 _ => h q H' .non pr t r1 .non
  | rt d G1 => rw [hm] at h; exact h
  | exc c e1 G1 => rw [hm] at h; exact fun q σ' H' pr t r1 _ => h q H' pr t r1
  | bk e1 G1 => rw [hm] at h; exact h.elim
  | ct e1 G1 => rw [hm] at h; exact h.elim
  | bad => rw [hm] at h; exact h.elim
end
structure Fe where
  meth : Bool
  name : Str
  ps : List Str
  F : FM
def badF : FM := fun _ _ => .bad
def fe0 : Fe := ⟨false, "", [], badF⟩
abbrev Fl := List (Nat × Fe)
def feAt (L : Fl) (j : Nat) : Fe := (L.lookup j).getD fe0
def fnsOf (L : Fl) : Fns := ⟨fun j => (feAt L j).F, fun j => (feAt L j).ps.length⟩
def psOf (L : Fl) (j : Nat) : List Str := (feAt L j).ps
/-- the static names -/
structure Sx where
  bl : List Str
  gis : List (Str × Int)
  gss : List (Str × Str)
  xs : List Nat
  cls : Bool
def hasB (L : Fl) (b : Bool) (j : Nat) : Bool := match L.lookup j with
  | some f => f.meth == b
  | none => false
def isIni (f : Fe) : Bool := decide (f.name = "__init__")
def hasM (L : Fl) (b : Bool) (j : Nat) : Bool := match L.lookup j with
  | some f => f.meth && (isIni f == b)
  | none => false
def ctOf (L : Fl) (S : Sx) : Ct := ⟨fun j => (feAt L j).name, (L.map (·.1)).filter (hasB L false), (L.map (·.1)).filter (hasM L false), S.bl, S.gis, S.gss, S.xs, S.cls, true, (L.map (·.1)).filter (hasM L true)⟩
structure FeOk (P : Program) (w : World) (K : PySem.W.Frag) (mg : Str → Option Value) (base : Heap) (k : Nat) (f : Fe) : Prop where
  fn : f.meth = false → ∃ a fd, mg f.name = some (.ref a) ∧ PySem.W.keepIn K (.ref a) = true ∧ Binds K fd f.ps [] ∧ FnOk P w K mg base (L2.CX P w) k a fd f.ps (spM K f.ps.length f.F)
  me : f.meth = true → isIni f = false → ∃ a fd, Meth K (He.ga K cname) f.name a ∧ Binds K fd f.ps [] ∧ FnOk P w K mg base (L2.CX P w) k a fd f.ps (spM K f.ps.length f.F)
  ini : f.meth = true → isIni f = true → ∃ j a fd, j + 1 ≤ k ∧ Mk K (He.ga K cname) a ∧ Binds K fd f.ps [] ∧ FnOk P w K mg base (L2.CX P w) j a fd f.ps (spM K f.ps.length f.F)
structure Bs (S : Sx) (K : PySem.W.Frag) (mg : Str → Option Value) : Prop where
  cg : S.cls = true → mg cname = some (.ref (He.ga K cname))
  bl : ∀ x ∈ S.bl, mg x = none
  gi : ∀ x i, (x, i) ∈ S.gis → ∃ t, mg x = some (.int i t)
  gs : ∀ x i, (x, i) ∈ S.gss → ∃ t, mg x = some (.str i t)
  xc : ∀ c ∈ S.xs, ExcF K mg c
  xm : ∀ c ∈ S.xs, ∀ h ∈ S.xs, PySem.W.exmOne K (.ref (He.ga K (xname c))) (.ref (He.ga K (xname h))) = some (exSub c h)
  cl : S.cls = true → Cls K (He.ga K cname) ∧ ∀ f, f < 8 → NoAttr K (He.ga K cname) (fname f)
abbrev WdOk (P : Program) (w : World) (K : PySem.W.Frag) (mg : Str → Option Value) (base : Heap) (k : Nat) (L : Fl) : Prop := ∀ f ∈ L, FeOk P w K mg base k f.2
section
variable {P : Program} {w : World} {K : PySem.W.Frag} {mg : Str → Option Value} {base : Heap} {k : Nat} {L : Fl} {S : Sx}
theorem FeOk.mono {f : Fe} {j : Nat} (h : FeOk P w K mg base j f) (l : j ≤ k) : FeOk P w K mg base k f := ⟨fun z => by
  obtain ⟨a, fd, h1, h2, h3, h4⟩ := h.fn z
  exact ⟨a, fd, h1, h2, h3, h4.mono l⟩, fun z z2 => by
  obtain ⟨a, fd, h1, h2, h3⟩ := h.me z z2
  exact ⟨a, fd, h1, h2, h3.mono l⟩, fun z z2 => by
  obtain ⟨i, a, fd, h0, h1, h2, h3⟩ := h.ini z z2
  exact ⟨i, a, fd, Nat.le_trans h0 l, h1, h2, h3⟩⟩
theorem WdOk.nil : WdOk P w K mg base k [] := fun _ h => nomatch h
theorem WdOk.add {f : Fe} {j : Nat} (h : WdOk P w K mg base k L) (g : FeOk P w K mg base (k + 1) f) : WdOk P w K mg base (k + 1) ((j, f) :: L) := fun z hz => by
  rcases List.mem_cons.mp hz with q | q
  · rw [q]; exact g
  · exact (h z q).mono (Nat.le_succ k)
theorem WdOk.add2 {f : Fe} {j : Nat} (h : WdOk P w K mg base k L) (g : FeOk P w K mg base (k + 2) f) : WdOk P w K mg base (k + 2) ((j, f) :: L) := fun z hz => by
  rcases List.mem_cons.mp hz with q | q
  · rw [q]; exact g
  · exact (h z q).mono (by omega)
theorem mem_lookup {L : Fl} {j : Nat} {f : Fe} (h : L.lookup j = some f) : (j, f) ∈ L := by
  induction L with
  | nil => cases h
  | cons a L ih =>
    obtain ⟨i, g⟩ := a
    rw [List.lookup_cons] at h
    split at h
    · rename_i e
      cases h
      rw [eq_of_beq e]
      exact List.mem_cons_self
    · exact List.mem_cons_of_mem _ (ih h)
theorem fx_of (h : WdOk P w K mg base k L) (b : Bs S K mg) : Fx (ctOf L S) (fnsOf L) (psOf L) k P w K mg base where
  ar := fun _ => rfl
  fn := fun f hf => by
    have h2 := (List.mem_filter.mp hf).2
    unfold hasB at h2
    split at h2
    · rename_i g e
      have q := (h _ (mem_lookup e)).fn (by simpa using h2)
      have ef : feAt L f = g := by unfold feAt; rw [e]; rfl
      show ∃ a fd, mg (feAt L f).name = _ ∧ _
      rw [show (fnsOf L).F f = (feAt L f).F from rfl, show psOf L f = (feAt L f).ps from rfl, ef]
      exact q
    · cases h2
  me := fun f hf => by
    have h2 := (List.mem_filter.mp hf).2
    unfold hasM at h2
    split at h2
    · rename_i g e
      obtain ⟨h3, h4⟩ := Bool.and_eq_true_iff.mp h2
      have q := (h _ (mem_lookup e)).me h3 (by simpa using h4)
      have ef : feAt L f = g := by unfold feAt; rw [e]; rfl
      show ∃ a fd, Meth K _ (feAt L f).name a ∧ _
      rw [show (fnsOf L).F f = (feAt L f).F from rfl, show psOf L f = (feAt L f).ps from rfl, ef]
      exact q
    · cases h2
  ini := fun f hf => by
    have h2 := (List.mem_filter.mp hf).2
    unfold hasM at h2
    split at h2
    · rename_i g e
      obtain ⟨h3, h4⟩ := Bool.and_eq_true_iff.mp h2
      have q := (h _ (mem_lookup e)).ini h3 (by simpa using h4)
      have ef : feAt L f = g := by unfold feAt; rw [e]; rfl
      rw [show (fnsOf L).F f = (feAt L f).F from rfl, show psOf L f = (feAt L f).ps from rfl, ef]
      exact q
    · cases h2
  cg := b.cg
  bl := b.bl
  gi := b.gi
  gs := b.gs
  xc := b.xc
  xm := b.xm
  cl := b.cl
end
def faOf (S : Sx) (gl ms : List Str) : List He.Fa :=
  S.bl.map He.Fa.free ++ S.gis.map (fun x => He.Fa.int x.1 x.2) ++ S.gss.map (fun x => He.Fa.str x.1 x.2) ++ S.xs.map (fun c => He.Fa.glo (xname c)) ++ S.xs.map (fun c => He.Fa.exc (xname c)) ++
    S.xs.flatMap (fun c => S.xs.map fun h => He.Fa.exm (xname c) (xname h) (exSub c h)) ++ (if S.cls = true then [He.Fa.cls cname, He.Fa.glo cname, He.Fa.mkr cname] ++ (List.range 8).map (fun f => He.Fa.noat cname (fname f)) else []) ++ gl.map He.Fa.glo ++ ms.map (fun m => He.Fa.meth cname m)
section
variable {S : Sx} {gl ms : List Str} {fn : List He.DefD} {K : PySem.W.Frag} {h : Heap} {mg : Str → Option Value}
theorem fa_all {fa : List He.Fa} (c : He.SaysD fa fn K) {f : He.Fa} (hf : f ∈ fa) : f.ok K = true := by
  have c1 := (ba (show ((fa.all fun f => f.ok K) && fn.all fun d => d.ok K) = true from congrArg (fun z : He.AlD => z.1) c)).1
  exact List.all_eq_true.mp c1 f hf
theorem fa_glo (X : K.In h) (G : h.Ns mainGlobals mg) (c : He.SaysD (faOf S gl ms) fn K) {x : Str} (hx : x ∈ gl) : mg x = some (.ref (He.ga K x)) :=
  He.glo_ok X G (fa_all c (by unfold faOf; exact List.mem_append_left _ (List.mem_append_right _ (List.mem_map_of_mem hx))))
theorem fa_meth (c : He.SaysD (faOf S gl ms) fn K) {x : Str} (hx : x ∈ ms) : Meth K (He.ga K cname) x (He.ma K (He.ga K cname) x) :=
  He.meth_ok (fa_all c (by unfold faOf; exact List.mem_append_right _ (List.mem_map.mpr ⟨x, hx, rfl⟩)))
theorem fa_mkr (hc : S.cls = true) (c : He.SaysD (faOf S gl ms) fn K) : Mk K (He.ga K cname) (He.ma K (He.ga K cname) "__init__") :=
  He.mkr_ok (fa_all c (by
    unfold faOf
    simp only [List.mem_append]
    rw [if_pos hc]
    exact .inl (.inl (.inr (by simp)))))
theorem bs_of (X : K.In h) (G : h.Ns mainGlobals mg) (c : He.SaysD (faOf S gl ms) fn K) : Bs S K mg where
  cg := fun hc => He.glo_ok X G (fa_all c (f := He.Fa.glo cname) (by
    unfold faOf
    simp only [List.mem_append]
    rw [if_pos hc]
    exact .inl (.inl (.inr (by simp)))))
  bl := fun x hx => He.free_ok X G (fa_all c (by
    unfold faOf
    simp only [List.mem_append]
    exact .inl (.inl (.inl (.inl (.inl (.inl (.inl (.inl (List.mem_map_of_mem hx))))))))))
  gi := fun x i hx => He.int_ok X G (fa_all c (f := He.Fa.int x i) (by
    unfold faOf
    simp only [List.mem_append]
    exact .inl (.inl (.inl (.inl (.inl (.inl (.inl (.inr (List.mem_map.mpr ⟨(x, i), hx, rfl⟩))))))))))
  gs := fun x i hx => He.str_ok X G (fa_all c (f := He.Fa.str x i) (by
    unfold faOf
    simp only [List.mem_append]
    exact .inl (.inl (.inl (.inl (.inl (.inl (.inr (List.mem_map.mpr ⟨(x, i), hx, rfl⟩)))))))))
  xc := fun e hx => by
    have h1 := He.glo_ok X G (fa_all c (f := He.Fa.glo (xname e)) (by
      unfold faOf
      simp only [List.mem_append]
      exact .inl (.inl (.inl (.inl (.inl (.inr (List.mem_map.mpr ⟨e, hx, rfl⟩))))))))
    obtain ⟨h2, h3, h4, h5⟩ := He.exc_ok (fa_all c (f := He.Fa.exc (xname e)) (by
      unfold faOf
      simp only [List.mem_append]
      exact .inl (.inl (.inl (.inl (.inr (List.mem_map.mpr ⟨e, hx, rfl⟩)))))))
    exact ⟨h1, h2, h3, h4, h5⟩
  xm := fun e hx y hy => He.exm_ok (fa_all c (by
    unfold faOf
    simp only [List.mem_append]
    exact .inl (.inl (.inl (.inr (List.mem_flatMap.mpr ⟨e, hx, List.mem_map.mpr ⟨y, hy, rfl⟩⟩))))))
  cl := fun hc => by
    have hm : ∀ f ∈ [He.Fa.cls cname, He.Fa.glo cname, He.Fa.mkr cname] ++ (List.range 8).map (fun f => He.Fa.noat cname (fname f)), f.ok K = true := fun f hf => fa_all c (by
      unfold faOf
      simp only [List.mem_append]
      rw [if_pos hc]
      exact .inl (.inl (.inr hf)))
    exact ⟨He.cls_ok (hm (.cls cname) (by simp)), fun f hf => He.noat_ok (hm (.noat cname (fname f)) (List.mem_append_right _ (List.mem_map.mpr ⟨f, List.mem_range.mpr hf, rfl⟩)))⟩
end
theorem rel_nil {K : PySem.W.Frag} {H : Hp} : Rel K [] [] H := ⟨rfl, .nil, fun n a o e => by simp at e⟩
theorem law_sp {K : PySem.W.Frag} {F : FM} {n : Nat} (hF : ∀ ns : List Int, ns.length ≤ n → ∃ G, F [.scr ns] [] = .ok (.bl true) G) (H : Hp) (a : Addr) (ns : List Int) (hl : ns.length ≤ n) (ho : Only H) (hs : SqL K H a (ns.map V.int)) :
    spM K 1 F [.ref a] H (fun v _ => v = .bl true) fun _ _ _ => False := by
  obtain ⟨G, e⟩ := hF ns hl
  have sc : ScrAt K H a ns := by
    rcases hs with (h | ⟨o, h⟩) | h
    · rcases ho a with z | ⟨o, xs, z⟩
      · rw [z] at h; cases h
      · rw [z] at h; cases h
    · exact .inl ⟨o, h⟩
    · exact .inr h
  refine ⟨[], [], [.scr ns], rel_nil, .cons (.scr sc) .nil, rfl, ?_⟩
  rw [e]
  exact fun q H' v pr t r1 dv => by cases dv; rfl
theorem noCX {P : Program} {w : World} (H : Hp) (s : Shared) (e : Value) (s' : Shared) (h : L2.CX P w [] H s (fun _ _ _ => False) e s') : False := by
  obtain ⟨_, _, _, _, _, _, _, _, _, _, _, _, z⟩ := h
  exact z
theorem walk_W {l : PySem.W.OpenLaw} {n k : Nat} {q : Program} {loose : List Str} {XP : (Str → Option Value) → Heap → Prop} {YP : World → Heap → Prop} {d : DefRec} {CX : World → CXT} {x : Str}
    (hn : l.most = some n) (hn2 : n ≤ sizeLine) (hdf : d.params.defaults = []) (hr : Room k callerA)
    (F : ∀ (w : World) (mg : Str → Option Value) (fa : Addr) (h : Heap), YP w h → h.Ns mainGlobals mg → mg d.name = some (.ref fa) →
      ∃ (K : PySem.W.Frag) (fd : FuncData) (sp : Sp), K.In h ∧ (∀ (s : Shared) (u : Value), BindsTo s fd ⟨[u], []⟩ [(x, u)]) ∧
        (∀ (H : Hp) (a : Addr) (ns : List Int), ns.length ≤ n → Only H → SqL K H a (ns.map V.int) → sp [.ref a] H (fun v _ => v = .bl true) fun _ _ _ => False) ∧
        ∀ base : Heap, K.In base → base.Ns mainGlobals mg → FnOk l.prog w K mg base (CX w) k fa fd [x] sp)
    (hCX : ∀ (w : World) (H : Hp) (s : Shared) (e : Value) (s' : Shared), CX w [] H s (fun _ _ _ => False) e s' → False) :
    PySem.W.WalkO q loose XP YP l.row.toRowW d [] (fun f vs => PySem.call f vs) := by
  refine Att.attach_call hn hdf fun w s₀ s₁ mg mb fa o pm cd doc a vs ns G Y ho hd hcd hmg hobj hints hlen hg => ?_
  obtain ⟨K, fd, sp, KX, hb, hsp, hF⟩ := F w mg fa _ Y G.T.g hmg
  exact law_call KX G.T.g G.T.b G.T.builtins G.T.nolimit hg hobj hints (Nat.le_trans hlen hn2) hr hF hb (fun H hO hS => hsp H a ns hlen hO hS) fun H e s' => hCX w H s₁ e s'
end Mw
namespace Mw
open PySem L2
open PyProof.Rows hiding St
mutual
def renD (φ : Nat → Nat) : D → D
  | .tup ds => .tup (renDs φ ds)
  | .ref n => .ref (φ n)
  | .non => .non
  | .bl b => .bl b
  | .int i => .int i
  | .str x => .str x
  | .scr ns => .scr ns
def renDs (φ : Nat → Nat) : List D → List D
  | [] => []
  | d :: ds => renD φ d :: renDs φ ds
end
mutual
def ltD (m : Nat) : D → Bool
  | .tup ds => ltDs m ds
  | .ref n => decide (n < m)
  | .non => true
  | .bl _ => true
  | .int _ => true
  | .str _ => true
  | .scr _ => true
def ltDs (m : Nat) : List D → Bool
  | [] => true
  | d :: ds => ltD m d && ltDs m ds
end
def ltO (m : Nat) : O → Bool
  | .lst ds => ltDs m ds
  | .dct kvs => ltDs m (kvs.map (·.2))
  | .ins fs => ltDs m (fs.map (·.2))
def renO (φ : Nat → Nat) : O → O
  | .lst ds => .lst (renDs φ ds)
  | .dct kvs => .dct (kvs.map fun x => (x.1, renD φ x.2))
  | .ins fs => .ins (fs.map fun x => (x.1, renD φ x.2))
def Closed (m : Nat) (G : Gp) : Prop := ∀ o ∈ G, ltO m o = true
mutual
theorem renD_id {φ : Nat → Nat} {m : Nat} (h : ∀ i, i < m → φ i = i) : ∀ d, ltD m d = true → renD φ d = d
  | .tup ds, l => by rw [renD, renDs_id h ds (by simpa [ltD] using l)]
  | .ref n, l => by rw [renD, h n (by simpa [ltD] using l)]
  | .non, _ => rfl
  | .bl _, _ => rfl
  | .int _, _ => rfl
  | .str _, _ => rfl
  | .scr _, _ => rfl
theorem renDs_id {φ : Nat → Nat} {m : Nat} (h : ∀ i, i < m → φ i = i) : ∀ ds, ltDs m ds = true → renDs φ ds = ds
  | [], _ => rfl
  | d :: ds, l => by
    rw [ltDs] at l
    obtain ⟨l1, l2⟩ := ba l
    rw [renDs, renD_id h d l1, renDs_id h ds l2]
end
mutual
theorem ltD_mono {m n : Nat} (h : m ≤ n) : ∀ d, ltD m d = true → ltD n d = true
  | .tup ds, l => by rw [ltD] at l ⊢; exact ltDs_mono h ds l
  | .ref k, l => by rw [ltD] at l ⊢; simp at l ⊢; omega
  | .non, _ => rfl
  | .bl _, _ => rfl
  | .int _, _ => rfl
  | .str _, _ => rfl
  | .scr _, _ => rfl
theorem ltDs_mono {m n : Nat} (h : m ≤ n) : ∀ ds, ltDs m ds = true → ltDs n ds = true
  | [], _ => rfl
  | d :: ds, l => by
    rw [ltDs] at l ⊢
    obtain ⟨l1, l2⟩ := ba l
    rw [ltD_mono h d l1, ltDs_mono h ds l2]
    rfl
end
theorem ltO_mono {m n : Nat} (h : m ≤ n) (o : O) (l : ltO m o = true) : ltO n o = true := by
  cases o <;> exact ltDs_mono h _ l
theorem renO_id {φ : Nat → Nat} {m : Nat} (h : ∀ i, i < m → φ i = i) (o : O) (l : ltO m o = true) : renO φ o = o := by
  have aux : ∀ {α : Type} (xs : List (α × D)), ltDs m (xs.map (·.2)) = true → xs.map (fun x => (x.1, renD φ x.2)) = xs := fun xs => by
    induction xs with
    | nil => intro _; rfl
    | cons x xs ih =>
      intro l
      rw [List.map_cons, ltDs] at l
      obtain ⟨l1, l2⟩ := ba l
      rw [List.map_cons, renD_id h _ l1, ih l2]
  cases o with
  | lst ds => rw [renO, renDs_id h ds l]
  | dct kvs => rw [renO, aux kvs l]
  | ins fs => rw [renO, aux fs l]
theorem ltDs_all {m : Nat} : ∀ {ds : List D}, ltDs m ds = true ↔ ∀ d ∈ ds, ltD m d = true
  | [] => ⟨(fun _ _ h => nomatch h), fun _ => rfl⟩
  | d :: ds => by
    rw [ltDs, Bool.and_eq_true, ltDs_all (ds := ds)]
    constructor
    · intro h z hz
      rcases List.mem_cons.mp hz with q | q
      · rw [q]; exact h.1
      · exact h.2 z q
    · intro h
      exact ⟨h d List.mem_cons_self, fun z hz => h z (List.mem_cons_of_mem _ hz)⟩
section
variable {K : PySem.W.Frag} {p q : List Addr} {H : Hp} {φ : Nat → Nat} {m : Nat}
mutual
theorem den_lt : ∀ (d : D) {v : V}, Den K p H v d → ltD p.length d = true
  | .tup ds, v, h => by
    obtain ⟨a, vs, rfl, ha, hs⟩ := inv_tup h
    rw [ltD]
    exact dens_lt ds hs
  | .ref n, v, h => by
    obtain ⟨a, rfl, ha⟩ := inv_ref h
    rw [ltD]
    exact decide_eq_true (List.getElem?_eq_some_iff.mp ha).1
  | .non, _, _ => rfl
  | .bl _, _, _ => rfl
  | .int _, _, _ => rfl
  | .str _, _, _ => rfl
  | .scr _, _, _ => rfl
theorem dens_lt : ∀ (ds : List D) {vs : List V}, Dens K p H vs ds → ltDs p.length ds = true
  | [], _, _ => rfl
  | d :: ds, _, h => by
    cases h with
    | cons h1 h2 =>
      rw [ltDs, den_lt d h1, dens_lt ds h2]
      rfl
end
theorem rel_closed {G : Gp} (r : Rel K p G H) : Closed G.length G := fun o ho => by
  obtain ⟨n, hn⟩ := List.getElem?_of_mem ho
  have hl : n < p.length := by rw [r.len]; exact (List.getElem?_eq_some_iff.mp hn).1
  have ob := r.ob n p[n] o (List.getElem?_eq_getElem hl) hn
  rw [← r.len]
  cases o with
  | lst ds =>
    obtain ⟨vs, _, h⟩ := ob
    exact dens_lt ds h
  | dct kvs =>
    obtain ⟨ws, h0, h⟩ := ob
    show ltDs _ _ = true
    clear hn ho h0
    induction h with
    | nil => rfl
    | cons h1 h2 ih => rw [List.map_cons, ltDs, den_lt _ h1]; exact ih
  | ins fs =>
    obtain ⟨_, ws, h0, h⟩ := ob
    show ltDs _ _ = true
    clear hn ho h0
    induction h with
    | nil => rfl
    | cons h0 h1 h2 ih => rw [List.map_cons, ltDs, den_lt _ h1]; exact ih
mutual
theorem den_ren (e : ∀ i, i < m → p[i]? = q[φ i]?) : ∀ (d : D) {v : V}, ltD m d = true → Den K q H v (renD φ d) → Den K p H v d
  | .tup ds, v, l, h => by
    rw [renD] at h
    obtain ⟨a, vs, rfl, ha, hs⟩ := inv_tup h
    exact .tup ha (dens_ren e ds (by simpa [ltD] using l) hs)
  | .ref n, v, l, h => by
    rw [renD] at h
    obtain ⟨a, rfl, ha⟩ := inv_ref h
    exact .ref (by rw [e n (by simpa [ltD] using l)]; exact ha)
  | .non, _, _, h => by cases h; exact .non
  | .bl _, _, _, h => by cases h; exact .bl _
  | .int _, _, _, h => by cases h; exact .int _
  | .str _, _, _, h => by cases h; exact .str _
  | .scr _, _, _, h => by cases h with | scr h => exact .scr h
theorem dens_ren (e : ∀ i, i < m → p[i]? = q[φ i]?) : ∀ (ds : List D) {vs : List V}, ltDs m ds = true → Dens K q H vs (renDs φ ds) → Dens K p H vs ds
  | [], _, _, h => by rw [renDs] at h; cases h; exact .nil
  | d :: ds, _, l, h => by
    rw [renDs] at h
    rw [ltDs] at l
    obtain ⟨l1, l2⟩ := ba l
    cases h with
    | cons h1 h2 => exact .cons (den_ren e d l1 h1) (dens_ren e ds l2 h2)
end
theorem ob_ren (e : ∀ i, i < m → p[i]? = q[φ i]?) {a : Addr} (o : O) (l : ltO m o = true) (h : ObR K q H a (renO φ o)) : ObR K p H a o := by
  cases o with
  | lst ds =>
    obtain ⟨vs, h1, h2⟩ := h
    exact ⟨vs, h1, dens_ren e ds l h2⟩
  | dct kvs =>
    obtain ⟨ws, h1, h2⟩ := h
    refine ⟨ws, h1, ?_⟩
    clear h1
    have l' : ltDs m (kvs.map (·.2)) = true := l
    clear l
    induction kvs generalizing ws with
    | nil => cases h2; exact .nil
    | cons x xs ih =>
      rw [List.map_cons, ltDs] at l'
      obtain ⟨l1, l2⟩ := ba l'
      rw [List.map_cons] at h2
      cases h2 with
      | cons g1 g2 => exact .cons (den_ren e _ l1 g1) (ih _ g2 l2)
  | ins fs =>
    obtain ⟨dx, ws, h1, h2⟩ := h
    refine ⟨dx, ws, h1, ?_⟩
    clear h1
    have l' : ltDs m (fs.map (·.2)) = true := l
    clear l
    induction fs generalizing ws with
    | nil => cases h2; exact .nil
    | cons x xs ih =>
      rw [List.map_cons, ltDs] at l'
      obtain ⟨l1, l2⟩ := ba l'
      rw [List.map_cons] at h2
      cases h2 with
      | cons g0 g1 g2 => exact .cons g0 (den_ren e _ l1 g1) (ih _ g2 l2)
end
/-- G2 is G1 with the unseen left out -/
structure Cl (n0 : Nat) (φ : Nat → Nat) (G1 G2 : Gp) : Prop where
  le : n0 ≤ G2.length
  id : ∀ i, i < n0 → φ i = i
  inj : ∀ i j, i < G2.length → j < G2.length → φ i = φ j → i = j
  ob : ∀ i o, G2[i]? = some o → ltO G2.length o = true ∧ G1[φ i]? = some (renO φ o)
theorem Cl.rel {K : PySem.W.Frag} {n0 : Nat} {φ : Nat → Nat} {G1 G2 : Gp} {q : List Addr} {H : Hp} (c : Cl n0 φ G1 G2) (r : Rel K q G1 H) : ∃ p, Rel K p G2 H ∧ (∀ i, i < G2.length → p[i]? = q[φ i]?) := by
  have hlt : ∀ i, i < G2.length → φ i < q.length := fun i hi => by
    have := (c.ob i G2[i] (List.getElem?_eq_getElem hi)).2
    rw [r.len]
    exact (List.getElem?_eq_some_iff.mp this).1
  let p : List Addr := (List.range G2.length).map fun i => q.getD (φ i) 0
  have hp : ∀ i, i < G2.length → p[i]? = q[φ i]? := fun i hi => by
    show ((List.range G2.length).map fun i => q.getD (φ i) 0)[i]? = _
    rw [List.getElem?_map, List.getElem?_range hi]
    show some (q.getD (φ i) 0) = _
    rw [List.getD_eq_getElem?_getD, List.getElem?_eq_getElem (hlt i hi)]
    rfl
  have hl : p.length = G2.length := by show ((List.range G2.length).map _).length = _; simp
  refine ⟨p, ⟨hl, ?_, fun n a o e g => ?_⟩, hp⟩
  · refine List.pairwise_iff_getElem.mpr fun i j hi hj hij e0 => ?_
    have e : p[i]? = p[j]? := by rw [List.getElem?_eq_getElem hi, List.getElem?_eq_getElem hj, e0]
    rw [hl] at hj
    rw [hp i (by omega), hp j hj] at e
    have h1 := List.getElem?_eq_getElem (hlt i (by omega))
    have h2 := List.getElem?_eq_getElem (hlt j hj)
    rw [h1, h2] at e
    have e2 := (List.getElem_inj r.nd).mp (Option.some.inj e)
    have := c.inj i j (by omega) hj e2
    omega
  · have hn : n < G2.length := (List.getElem?_eq_some_iff.mp g).1
    obtain ⟨h1, h2⟩ := c.ob n o g
    rw [hp n hn] at e
    exact ob_ren hp o h1 (r.ob (φ n) a _ e h2)
def ClR (n0 : Nat) (r1 r2 : R D) : Prop := match r2 with
  | .bad => True
  | .ok d2 G2 => ∃ φ d1 G1, r1 = .ok d1 G1 ∧ Cl n0 φ G1 G2 ∧ d1 = renD φ d2 ∧ ltD G2.length d2 = true
  | .exc c G2 => ∃ φ G1, r1 = .exc c G1 ∧ Cl n0 φ G1 G2
def Cleans (n : Nat) (F C : FM) : Prop := ∀ ds G, ds.length = n → Closed G.length G → ltDs G.length ds = true → ClR G.length (F ds G) (C ds G)
theorem cleans {P : Program} {w : World} {K : PySem.W.Frag} {mg : Str → Option Value} {base : Heap} {CX : CXT} {k n : Nat} {f : Addr} {fd : FuncData} {ps : List Str} {F C : FM} (h : FnOk P w K mg base CX k f fd ps (spM K n F)) (c : Cleans n F C) : FnOk P w K mg base CX k f fd ps (spM K n C) := by
  refine h.imp fun vs H Q E ⟨p, G, ds, rl, dn, hl, h⟩ => ⟨p, G, ds, rl, dn, hl, ?_⟩
  have hc := c ds G hl (rel_closed rl) (by rw [← rl.len]; exact dens_lt ds dn)
  cases hC : C ds G with
  | bad => rw [hC] at h; exact h.elim
  | ok d2 G2 =>
    rw [hC] at h hc
    obtain ⟨φ, d1, G1, e, cl, rfl, lt⟩ := hc
    rw [e]
    intro q H' v pr t r1 dv
    obtain ⟨p2, r2, hp⟩ := cl.rel r1
    refine h p2 H' v ?_ t r2 (den_ren hp d2 lt dv)
    rw [List.prefix_iff_getElem?]
    intro i hi
    rw [rl.len] at hi
    rw [hp i (Nat.lt_of_lt_of_le hi cl.le), cl.id i hi]
    exact (pre_get pr (List.getElem?_eq_getElem (by rw [rl.len]; exact hi)))
  | exc cc G2 =>
    rw [hC] at h hc
    obtain ⟨φ, G1, e, cl⟩ := hc
    rw [e]
    intro q H' pr t r1
    obtain ⟨p2, r2, hp⟩ := cl.rel r1
    refine h p2 H' ?_ t r2
    rw [List.prefix_iff_getElem?]
    intro i hi
    rw [rl.len] at hi
    rw [hp i (Nat.lt_of_lt_of_le hi cl.le), cl.id i hi]
    exact (pre_get pr (List.getElem?_eq_getElem (by rw [rl.len]; exact hi)))
theorem cl_app {n0 : Nat} {G2 J : Gp} (h : n0 ≤ G2.length) (c : Closed G2.length G2) : Cl n0 (fun i => i) (G2 ++ J) G2 :=
  ⟨h, fun _ _ => rfl, fun _ _ _ _ e => e, fun i o e => ⟨c o (List.mem_of_getElem? e), by
    rw [renO_id (m := G2.length) (fun _ _ => rfl) o (c o (List.mem_of_getElem? e)), List.getElem?_append_left (List.getElem?_eq_some_iff.mp e).1]
    exact e⟩⟩
/-- behind it lies only what no one sees -/
theorem clr_ok {n0 : Nat} {r : R D} {d : D} {G2 : Gp} (h : ∃ J, r = .ok d (G2 ++ J)) (l : n0 ≤ G2.length) (c : Closed G2.length G2) (hd : ltD G2.length d = true) : ClR n0 r (.ok d G2) := by
  obtain ⟨J, e⟩ := h
  exact ⟨fun i => i, d, _, e, cl_app l c, (renD_id (m := G2.length) (fun _ _ => rfl) d hd).symm, hd⟩
theorem clr_exc {n0 : Nat} {r : R D} {e : Nat} {G2 : Gp} (h : ∃ J, r = .exc e (G2 ++ J)) (l : n0 ≤ G2.length) (c : Closed G2.length G2) : ClR n0 r (.exc e G2) := by
  obtain ⟨J, e⟩ := h
  exact ⟨fun i => i, _, e, cl_app l c⟩
theorem closed_app {G : Gp} {o : O} (c : Closed G.length G) (h : ltO (G.length + 1) o = true) : Closed (G ++ [o]).length (G ++ [o]) := fun z hz => by
  rw [List.length_append, List.length_singleton]
  rcases List.mem_append.mp hz with q | q
  · exact ltO_mono (Nat.le_succ _) z (c z q)
  · rw [List.mem_singleton.mp q]; exact h
/-- a new object, behind things that no one sees -/
theorem clr_new {r : R D} {o : O} {G : Gp} (h : ∃ J J', r = .ok (.ref (G.length + J.length)) (G ++ J ++ o :: J')) (c : Closed G.length G) (ho : ltO G.length o = true) : ClR G.length r (.ok (.ref G.length) (G ++ [o])) := by
  obtain ⟨J, J', e⟩ := h
  refine ⟨fun i => if i < G.length then i else G.length + J.length, _, _, e, ⟨by simp, fun i hi => if_pos hi, fun i j hi hj e => ?_, fun i z e => ?_⟩, by rw [renD, if_neg (Nat.lt_irrefl _)], by rw [ltD]; simp⟩
  · rw [List.length_append, List.length_singleton] at hi hj
    split at e <;> split at e <;> omega
  · rw [List.length_append, List.length_singleton]
    have hi : i < (G ++ [o]).length := (List.getElem?_eq_some_iff.mp e).1
    rw [List.length_append, List.length_singleton] at hi
    by_cases hl : i < G.length
    · rw [List.getElem?_append_left hl] at e
      have hz := c z (List.mem_of_getElem? e)
      refine ⟨ltO_mono (Nat.le_succ _) z hz, ?_⟩
      rw [renO_id (m := G.length) (fun j hj => if_pos hj) z hz, if_pos hl, List.append_assoc, List.getElem?_append_left hl]
      exact e
    · have : i = G.length := by omega
      subst this
      rw [List.getElem?_append_right (Nat.le_refl _), Nat.sub_self] at e
      simp at e
      subst e
      refine ⟨ltO_mono (Nat.le_succ _) o ho, ?_⟩
      rw [renO_id (m := G.length) (fun j hj => if_pos hj) o ho, if_neg (Nat.lt_irrefl _), List.getElem?_append_right (by simp)]
      simp
end Mw
namespace Mm
open PySem L2 Mw
open PyProof.Rows hiding St
def N_is_within : List Str := ["thing", "low", "high"]
def b_is_within : MB := (.cons (.ret (.andE (.cons (.isi .int (.var 0)) (.cons (.notE (.isi .bool (.var 0))) (.cons (.chain .le .le (.var 1) (.var 0) (.var 2)) .nil)))))
  .nil)
def N_is_key : List Str := ["thing", "sign"]
def b_is_key : MB := (.cons (.ifS (.orE (.cons (.notE (.isi .str (.var 0))) (.cons (.notE (.chain .le .le (.int 1) (.blt .len (.var 0) .nil) (.int 4))) .nil))) (.cons (.ret (.bl false))
  .nil) .nil)
  (.cons (.ret (.notE (.lc (.var 1) (.nm 1) (.val (.var 0)) (.some (.cmp .notIn (.var 1) (.gstr "SMALL" "abcdefghijklmnopqrstuvwxyz"))) [("sign", 1)])))
  .nil))
def N_is_deed : List Str := ["thing"]
def b_is_deed : MB := (.cons (.ifS (.orE (.cons (.notE (.isi .tuple (.var 0))) (.cons (.notE (.var 0)) (.cons (.notE (.isi .str (.ix (.var 0) (.int 0)))) .nil)))) (.cons (.ret (.bl false))
  .nil) .nil)
  (.cons (.ifS (.cmp .eq (.ix (.var 0) (.int 0)) (.str "none")) (.cons (.ret (.cmp .eq (.blt .len (.var 0) .nil) (.int 1)))
  .nil) .nil)
  (.cons (.ifS (.cmp .eq (.ix (.var 0) (.int 0)) (.str "drop")) (.cons (.ret (.andE (.cons (.cmp .eq (.blt .len (.var 0) .nil) (.int 2)) (.cons (.call 1 (.cons (.ix (.var 0) (.int 1)) .nil)) .nil))))
  .nil) .nil)
  (.cons (.ret (.andE (.cons (.cmp .inC (.ix (.var 0) (.int 0)) (.tup (.cons (.str "put") (.cons (.str "add") .nil)))) (.cons (.cmp .eq (.blt .len (.var 0) .nil) (.int 3)) (.cons (.call 1 (.cons (.ix (.var 0) (.int 1)) .nil)) (.cons (.call 0 (.cons (.ix (.var 0) (.int 2)) (.cons (.int 0) (.cons (.bin .sub (.gint "ROUND" 10000) (.int 1)) .nil)))) .nil))))))
  .nil))))
def N_are_things : List Str := ["thing", "one", "at"]
def b_are_things : MB := (.cons (.ifS (.notE (.isi .tuple (.var 0))) (.cons (.ret (.bl false))
  .nil) .nil)
  (.cons (.forS (.nm 1) (.val (.var 0)) (.cons (.ifS (.orE (.cons (.notE (.isi .tuple (.var 1))) (.cons (.cmp .ne (.blt .len (.var 1) .nil) (.int 2)) (.cons (.notE (.call 1 (.cons (.ix (.var 1) (.int 0)) .nil))) (.cons (.notE (.call 0 (.cons (.ix (.var 1) (.int 1)) (.cons (.int 0) (.cons (.bin .sub (.gint "ROUND" 10000) (.int 1)) .nil))))) .nil))))) (.cons (.ret (.bl false))
  .nil) .nil)
  .nil))
  (.cons (.ret (.notE (.lc (.var 2) (.nm 2) (.range2 (.int 1) (.blt .len (.var 0) .nil)) (.some (.cmp .ge (.ix (.ix (.var 0) (.bin .sub (.var 2) (.int 1))) (.int 0)) (.ix (.ix (.var 0) (.var 2)) (.int 0)))) [("at", 2)])))
  .nil)))
def N_after : List Str := ["things", "deed", "found", "key", "value"]
def b_after : MB := (.cons (.asg (.nm 2) (.blt .dict (.lc (.tup (.cons (.var 3) (.cons (.var 4) .nil))) (.tp [3, 4]) (.val (.var 0)) .none [("key", 3), ("value", 4)]) .nil))
  (.cons (.ifS (.cmp .eq (.ix (.var 1) (.int 0)) (.str "drop")) (.cons (.expr (.pop2 (.var 2) (.ix (.var 1) (.int 1)) .non))
  .nil) .nil)
  (.cons (.ifS (.cmp .eq (.ix (.var 1) (.int 0)) (.str "put")) (.cons (.setI (.var 2) (.ix (.var 1) (.int 1)) (.ix (.var 1) (.int 2)))
  .nil) .nil)
  (.cons (.ifS (.cmp .eq (.ix (.var 1) (.int 0)) (.str "add")) (.cons (.setI (.var 2) (.ix (.var 1) (.int 1)) (.bin .mod (.bin .add (.get2 (.var 2) (.ix (.var 1) (.int 1)) (.int 0)) (.ix (.var 1) (.int 2))) (.gint "ROUND" 10000)))
  .nil) .nil)
  (.cons (.ret (.blt .tuple (.lc (.tup (.cons (.var 3) (.cons (.ix (.var 2) (.var 3)) .nil))) (.nm 3) (.val (.blt .sorted (.var 2) .nil)) .none [("key", 3)]) .nil))
  .nil)))))
def N_after_all : List Str := ["things", "deeds", "deed"]
def b_after_all : MB := (.cons (.forS (.nm 2) (.val (.var 1)) (.cons (.asg (.nm 0) (.call 4 (.cons (.var 0) (.cons (.var 2) .nil))))
  .nil))
  (.cons (.ret (.var 0))
  .nil))
def N_done : List Str := ["things", "deeds", "deed"]
def b_done : MB := (.cons (.ifS (.notE (.call 3 (.cons (.var 0) .nil))) (.cons (.raise 2)
  .nil) .nil)
  (.cons (.ifS (.orE (.cons (.notE (.isi .tuple (.var 1))) (.cons (.lc (.var 2) (.nm 2) (.val (.var 1)) (.some (.notE (.call 2 (.cons (.var 2) .nil)))) [("deed", 2)]) .nil))) (.cons (.raise 1)
  .nil) .nil)
  (.cons (.ret (.call 5 (.cons (.var 0) (.cons (.var 1) .nil))))
  .nil)))
def N__law_cell : List Str := ["script", "k"]
def b__law_cell : MB := (.cons (.ifS (.cmp .lt (.var 1) (.blt .len (.var 0) .nil)) (.cons (.ret (.ix (.var 0) (.var 1)))
  .nil) .nil)
  (.cons (.ret (.int 0))
  .nil))
def N__law_seed : List Str := ["seed", "k"]
def b__law_seed : MB := (.cons (.ret (.bin .mod (.bin .pow (.bin .mod (.bin .add (.bin .add (.bin .mul (.var 0) (.int 1103515245)) (.bin .mul (.int 7919) (.var 1))) (.int 12345)) (.int 2147483647)) (.int 5)) (.int 2147483647)))
  .nil)
def N__law_pick : List Str := ["seed", "many"]
def b__law_pick : MB := (.cons (.ret (.bin .mod (.bin .div (.var 0) (.int 97)) (.var 1)))
  .nil)
def N__law_deed : List Str := ["seed", "key", "value"]
def b__law_deed : MB := (.cons (.asg (.nm 1) (.ix (.lst (.cons (.str "a") (.cons (.str "b") (.cons (.str "c") (.cons (.str "dd") (.cons (.str "zzzz") .nil)))))) (.call 9 (.cons (.var 0) (.cons (.int 5) .nil)))))
  (.cons (.asg (.nm 2) (.ix (.lst (.cons (.bin .mod (.bin .div (.var 0) (.int 7)) (.int 10000)) (.cons (.bin .mod (.bin .div (.var 0) (.int 7)) (.int 5)) (.cons (.int 9999) .nil)))) (.bin .mod (.bin .div (.var 0) (.int 11)) (.int 3))))
  (.cons (.ret (.ix (.lst (.cons (.tup (.cons (.str "put") (.cons (.var 1) (.cons (.var 2) .nil)))) (.cons (.tup (.cons (.str "add") (.cons (.var 1) (.cons (.var 2) .nil)))) (.cons (.tup (.cons (.str "drop") (.cons (.var 1) .nil))) (.cons (.tup (.cons (.str "put") (.cons (.var 1) (.cons (.var 2) .nil)))) (.cons (.tup (.cons (.str "none") .nil)) .nil)))))) (.bin .mod (.bin .div (.var 0) (.int 13)) (.int 5))))
  .nil)))
def N__law_after : List Str := ["some", "deeds", "found", "deed", "key", "value"]
def b__law_after : MB := (.cons (.asg (.nm 2) (.blt .dict (.lc (.tup (.cons (.var 4) (.cons (.var 5) .nil))) (.tp [4, 5]) (.val (.var 0)) .none [("key", 4), ("value", 5)]) .nil))
  (.cons (.forS (.nm 3) (.val (.var 1)) (.cons (.ifS (.cmp .eq (.ix (.var 3) (.int 0)) (.str "put")) (.cons (.setI (.var 2) (.ix (.var 3) (.int 1)) (.ix (.var 3) (.int 2)))
  .nil) .nil)
  (.cons (.ifS (.cmp .eq (.ix (.var 3) (.int 0)) (.str "add")) (.cons (.setI (.var 2) (.ix (.var 3) (.int 1)) (.bin .mod (.bin .add (.get2 (.var 2) (.ix (.var 3) (.int 1)) (.int 0)) (.ix (.var 3) (.int 2))) (.int 10000)))
  .nil) .nil)
  (.cons (.ifS (.andE (.cons (.cmp .eq (.ix (.var 3) (.int 0)) (.str "drop")) (.cons (.cmp .inC (.ix (.var 3) (.int 1)) (.var 2)) .nil))) (.cons (.expr (.pop1 (.var 2) (.ix (.var 3) (.int 1))))
  .nil) .nil)
  .nil))))
  (.cons (.ret (.blt .tuple (.sitems (.var 2)) .nil))
  .nil)))
def N_are_rows : List Str := ["thing", "low", "high", "one"]
def b_are_rows : MB := (.cons (.ifS (.notE (.isi .tuple (.var 0))) (.cons (.ret (.bl false))
  .nil) .nil)
  (.cons (.forS (.nm 3) (.val (.var 0)) (.cons (.ifS (.orE (.cons (.notE (.isi .tuple (.var 3))) (.cons (.cmp .ne (.blt .len (.var 3) .nil) (.int 2)) (.cons (.notE (.call 0 (.cons (.ix (.var 3) (.int 0)) (.cons (.var 1) (.cons (.var 2) .nil))))) (.cons (.notE (.call 2 (.cons (.ix (.var 3) (.int 1)) .nil))) .nil))))) (.cons (.ret (.bl false))
  .nil) .nil)
  (.cons (.asg (.nm 1) (.ix (.var 3) (.int 0)))
  .nil)))
  (.cons (.ret (.bl true))
  .nil)))
def N_is_paper : List Str := ["thing", "term", "base", "ahead", "things", "rows", "kept"]
def b_is_paper : MB := (.cons (.ifS (.orE (.cons (.notE (.isi .tuple (.var 0))) (.cons (.cmp .ne (.blt .len (.var 0) .nil) (.int 6)) (.cons (.notE (.call 0 (.cons (.ix (.var 0) (.int 0)) (.cons (.int 0) (.cons (.gint "MOST" 100000) .nil))))) .nil)))) (.cons (.ret (.bl false))
  .nil) .nil)
  (.cons (.asg (.tp [1, 2, 3, 4, 5, 6]) (.var 0))
  (.cons (.ifS (.orE (.cons (.notE (.call 0 (.cons (.var 2) (.cons (.int 0) (.cons (.gint "MOST" 100000) .nil))))) (.cons (.notE (.call 0 (.cons (.var 3) (.cons (.int 0) (.cons (.var 1) .nil))))) (.cons (.notE (.call 3 (.cons (.var 4) .nil))) .nil)))) (.cons (.ret (.bl false))
  .nil) .nil)
  (.cons (.ifS (.orE (.cons (.andE (.cons (.cmp .eq (.var 2) (.int 0)) (.cons (.orE (.cons (.cmp .ne (.var 3) (.int 0)) (.cons (.cmp .ne (.var 4) (.tup .nil)) .nil))) .nil))) (.cons (.andE (.cons (.cmp .gt (.var 2) (.int 0)) (.cons (.cmp .eq (.var 3) (.int 0)) .nil))) .nil))) (.cons (.ret (.bl false))
  .nil) .nil)
  (.cons (.ret (.andE (.cons (.call 13 (.cons (.var 5) (.cons (.blt .max (.var 3) (.cons (.int 1) .nil)) (.cons (.var 1) .nil)))) (.cons (.call 0 (.cons (.var 6) (.cons (.var 2) (.cons (.bin .add (.var 2) (.blt .len (.var 5) .nil)) .nil)))) .nil))))
  .nil)))))
def N__law_history : List Str := ["seed", "many", "found", "term", "k", "one"]
def b__law_history : MB := (.cons (.asg (.nm 2) (.lst .nil))
  (.cons (.asg (.nm 3) (.int 1))
  (.cons (.forS (.nm 4) (.range1 (.bin .mod (.bin .div (.var 0) (.int 7)) (.bin .add (.var 1) (.int 1)))) (.cons (.asg (.nm 5) (.call 8 (.cons (.var 0) (.cons (.var 4) .nil))))
  (.cons (.asg (.nm 3) (.bin .add (.var 3) (.ix (.lst (.cons (.int 0) (.cons (.int 0) (.cons (.int 0) (.cons (.int 1) (.cons (.int 2) .nil)))))) (.call 9 (.cons (.var 5) (.cons (.int 5) .nil))))))
  (.cons (.expr (.app (.var 2) (.tup (.cons (.var 3) (.cons (.call 10 (.cons (.call 8 (.cons (.var 5) (.cons (.int 1) .nil))) .nil)) .nil)))))
  .nil))))
  (.cons (.ret (.blt .tuple (.var 2) .nil))
  .nil))))
def N__law_paper : List Str := ["rows", "base", "kept", "more", "top", "ahead", "some", "row"]
def b__law_paper : MB := (.cons (.asg (.nm 4) (.ifE (.cmp .ne (.var 0) (.tup .nil)) (.ix (.ix (.var 0) (.neg (.int 1))) (.int 0)) (.int 0)))
  (.cons (.asg (.nm 5) (.ifE (.cmp .gt (.var 1) (.int 0)) (.ix (.ix (.var 0) (.bin .sub (.var 1) (.int 1))) (.int 0)) (.int 0)))
  (.cons (.asg (.nm 6) (.call 11 (.cons (.tup .nil) (.cons (.lc (.ix (.var 7) (.int 1)) (.nm 7) (.val (.sl (.var 0) .none (.some (.var 1)))) .none [("row", 7)]) .nil))))
  (.cons (.ret (.tup (.cons (.bin .add (.var 4) (.var 3)) (.cons (.var 1) (.cons (.var 5) (.cons (.var 6) (.cons (.sl (.var 0) (.some (.var 1)) .none) (.cons (.var 2) .nil))))))))
  .nil))))
def N__law_drawn_paper : List Str := ["seed", "many", "rows", "kept", "base"]
def b__law_drawn_paper : MB := (.cons (.asg (.nm 2) (.call 15 (.cons (.var 0) (.cons (.var 1) .nil))))
  (.cons (.asg (.nm 3) (.bin .mod (.bin .div (.var 0) (.int 11)) (.bin .add (.blt .len (.var 2) .nil) (.int 1))))
  (.cons (.asg (.nm 4) (.ix (.lst (.cons (.int 0) (.cons (.var 3) (.cons (.bin .mod (.bin .div (.var 0) (.int 13)) (.bin .add (.var 3) (.int 1))) .nil)))) (.bin .mod (.bin .div (.var 0) (.int 17)) (.int 3))))
  (.cons (.ret (.tup (.cons (.call 16 (.cons (.var 2) (.cons (.var 4) (.cons (.var 3) (.cons (.bin .mod (.bin .div (.var 0) (.int 19)) (.int 3)) .nil))))) (.cons (.var 2) .nil))))
  .nil))))
def N_look : List Str := ["paper"]
def b_look : MB := (.cons (.ifS (.notE (.call 14 (.cons (.var 0) .nil))) (.cons (.raise 3)
  .nil) .nil)
  .nil)
def N_length_of : List Str := ["paper"]
def b_length_of : MB := (.cons (.ret (.bin .add (.ix (.var 0) (.int 1)) (.blt .len (.ix (.var 0) (.int 4)) .nil)))
  .nil)
def N_length : List Str := ["paper"]
def b_length : MB := (.cons (.expr (.call 18 (.cons (.var 0) .nil)))
  (.cons (.ret (.call 19 (.cons (.var 0) .nil)))
  .nil))
def N_term_at : List Str := ["paper", "number"]
def b_term_at : MB := (.cons (.ifS (.cmp .eq (.var 1) (.ix (.var 0) (.int 1))) (.cons (.ret (.ix (.var 0) (.int 2)))
  .nil) .nil)
  (.cons (.ret (.ix (.ix (.ix (.var 0) (.int 4)) (.bin .sub (.bin .sub (.var 1) (.ix (.var 0) (.int 1))) (.int 1))) (.int 0)))
  .nil))
def N_last_of : List Str := ["paper"]
def b_last_of : MB := (.cons (.ret (.tup (.cons (.call 21 (.cons (.var 0) (.cons (.call 19 (.cons (.var 0) .nil)) .nil))) (.cons (.call 19 (.cons (.var 0) .nil)) .nil))))
  .nil)
def N_last : List Str := ["paper"]
def b_last : MB := (.cons (.expr (.call 18 (.cons (.var 0) .nil)))
  (.cons (.ret (.call 22 (.cons (.var 0) .nil)))
  .nil))
def N_things_of : List Str := ["paper", "row"]
def b_things_of : MB := (.cons (.ret (.call 5 (.cons (.ix (.var 0) (.int 3)) (.cons (.lc (.ix (.var 1) (.int 1)) (.nm 1) (.val (.sl (.ix (.var 0) (.int 4)) .none (.some (.bin .sub (.ix (.var 0) (.int 5)) (.ix (.var 0) (.int 1)))))) .none [("row", 1)]) .nil))))
  .nil)
def N_things : List Str := ["paper"]
def b_things : MB := (.cons (.expr (.call 18 (.cons (.var 0) .nil)))
  (.cons (.ret (.call 24 (.cons (.var 0) .nil)))
  .nil))
def N_trimmed : List Str := ["paper", "number", "gone", "term", "base", "ahead", "some", "rows", "kept", "row"]
def b_trimmed : MB := (.cons (.expr (.call 18 (.cons (.var 0) .nil)))
  (.cons (.ifS (.notE (.call 0 (.cons (.var 1) (.cons (.ix (.var 0) (.int 1)) (.cons (.ix (.var 0) (.int 5)) .nil))))) (.cons (.raise 5)
  .nil) .nil)
  (.cons (.asg (.tp [3, 4, 5, 6, 7, 8]) (.var 0))
  (.cons (.asg (.nm 2) (.bin .sub (.var 1) (.var 4)))
  (.cons (.ret (.tup (.cons (.var 3) (.cons (.var 1) (.cons (.call 21 (.cons (.var 0) (.cons (.var 1) .nil))) (.cons (.call 5 (.cons (.var 6) (.cons (.lc (.ix (.var 9) (.int 1)) (.nm 9) (.val (.sl (.var 7) .none (.some (.var 2)))) .none [("row", 9)]) .nil))) (.cons (.sl (.var 7) (.some (.var 2)) .none) (.cons (.var 8) .nil))))))))
  .nil)))))
def N_agree : List Str := ["one", "other", "low", "high", "mine", "theirs"]
def b_agree : MB := (.cons (.expr (.call 18 (.cons (.var 0) .nil)))
  (.cons (.expr (.call 18 (.cons (.var 1) .nil)))
  (.cons (.asg (.nm 2) (.blt .max (.ix (.var 0) (.int 1)) (.cons (.ix (.var 1) (.int 1)) .nil)))
  (.cons (.asg (.nm 3) (.blt .min (.ix (.var 0) (.int 5)) (.cons (.ix (.var 1) (.int 5)) .nil)))
  (.cons (.ifS (.cmp .gt (.var 2) (.var 3)) (.cons (.ret (.bl true))
  .nil) .nil)
  (.cons (.asg (.nm 4) (.call 26 (.cons (.var 0) (.cons (.var 2) .nil))))
  (.cons (.asg (.nm 5) (.call 26 (.cons (.var 1) (.cons (.var 2) .nil))))
  (.cons (.ret (.andE (.cons (.cmp .eq (.sl (.var 4) (.some (.int 2)) (.some (.int 4))) (.sl (.var 5) (.some (.int 2)) (.some (.int 4)))) (.cons (.cmp .eq (.sl (.ix (.var 4) (.int 4)) .none (.some (.bin .sub (.var 3) (.var 2)))) (.sl (.ix (.var 5) (.int 4)) .none (.some (.bin .sub (.var 3) (.var 2))))) .nil))))
  .nil))))))))
def N_sent : List Str := ["paper", "number", "some", "term", "base", "ahead", "things", "rows", "kept"]
def b_sent : MB := (.cons (.expr (.call 18 (.cons (.var 0) .nil)))
  (.cons (.ifS (.orE (.cons (.notE (.call 0 (.cons (.var 1) (.cons (.int 0) (.cons (.call 19 (.cons (.var 0) .nil)) .nil))))) (.cons (.cmp .eq (.ix (.var 0) (.int 0)) (.int 0)) .nil))) (.cons (.raise 5)
  .nil) .nil)
  (.cons (.asg (.tp [3, 4, 5, 6, 7, 8]) (.var 0))
  (.cons (.ifS (.cmp .lt (.var 1) (.var 4)) (.cons (.ret (.tup (.cons (.str "whole") (.cons (.var 3) (.cons (.var 4) (.cons (.var 5) (.cons (.var 6) (.cons (.var 8) .nil))))))))
  .nil) .nil)
  (.cons (.asg (.nm 2) (.sl (.var 7) (.some (.bin .sub (.var 1) (.var 4))) (.some (.bin .add (.bin .sub (.var 1) (.var 4)) (.gint "MOST_ROWS" 3)))))
  (.cons (.ret (.tup (.cons (.str "rows") (.cons (.var 3) (.cons (.var 1) (.cons (.call 21 (.cons (.var 0) (.cons (.var 1) .nil))) (.cons (.var 2) (.cons (.var 8) .nil))))))))
  .nil))))))
def N_is_message : List Str := ["thing", "word", "term", "number", "ahead", "more", "kept"]
def b_is_message : MB := (.cons (.ifS (.orE (.cons (.notE (.isi .tuple (.var 0))) (.cons (.cmp .ne (.blt .len (.var 0) .nil) (.int 6)) (.cons (.notE (.isi .str (.ix (.var 0) (.int 0)))) .nil)))) (.cons (.ret (.bl false))
  .nil) .nil)
  (.cons (.asg (.tp [1, 2, 3, 4, 5, 6]) (.var 0))
  (.cons (.ifS (.orE (.cons (.notE (.call 0 (.cons (.var 2) (.cons (.int 1) (.cons (.gint "MOST" 100000) .nil))))) (.cons (.notE (.call 0 (.cons (.var 3) (.cons (.int 0) (.cons (.gint "MOST" 100000) .nil))))) (.cons (.notE (.call 0 (.cons (.var 4) (.cons (.int 0) (.cons (.var 2) .nil))))) .nil)))) (.cons (.ret (.bl false))
  .nil) .nil)
  (.cons (.ifS (.orE (.cons (.notE (.call 0 (.cons (.var 6) (.cons (.int 0) (.cons (.gint "MOST" 100000) .nil))))) (.cons (.cmp .ne (.cmp .eq (.var 3) (.int 0)) (.cmp .eq (.var 4) (.int 0))) .nil))) (.cons (.ret (.bl false))
  .nil) .nil)
  (.cons (.ifS (.cmp .eq (.var 1) (.str "whole")) (.cons (.ret (.andE (.cons (.cmp .gt (.var 3) (.int 0)) (.cons (.call 3 (.cons (.var 5) .nil)) (.cons (.cmp .ge (.var 6) (.var 3)) .nil)))))
  .nil) .nil)
  (.cons (.ret (.andE (.cons (.cmp .eq (.var 1) (.str "rows")) (.cons (.call 13 (.cons (.var 5) (.cons (.blt .max (.var 4) (.cons (.int 1) .nil)) (.cons (.var 2) .nil)))) (.cons (.cmp .le (.blt .len (.var 5) .nil) (.gint "MOST_ROWS" 3)) .nil)))))
  .nil))))))
def N_with_whole : List Str := ["paper", "message", "term", "base", "ahead", "things", "rows", "kept", "word", "new_term", "number", "new_ahead", "new_things", "new_kept"]
def b_with_whole : MB := (.cons (.asg (.tp [2, 3, 4, 5, 6, 7]) (.var 0))
  (.cons (.asg (.tp [8, 9, 10, 11, 12, 13]) (.var 1))
  (.cons (.ifS (.orE (.cons (.cmp .le (.var 10) (.var 3)) (.cons (.andE (.cons (.cmp .le (.var 10) (.call 19 (.cons (.var 0) .nil))) (.cons (.cmp .eq (.call 21 (.cons (.var 0) (.cons (.var 10) .nil))) (.var 11)) .nil))) .nil))) (.cons (.ret (.tup (.cons (.var 9) (.cons (.var 3) (.cons (.var 4) (.cons (.var 5) (.cons (.var 6) (.cons (.blt .max (.var 7) (.cons (.var 10) .nil)) .nil))))))))
  .nil) .nil)
  (.cons (.ret (.tup (.cons (.var 9) (.cons (.var 10) (.cons (.var 11) (.cons (.var 12) (.cons (.tup .nil) (.cons (.var 10) .nil))))))))
  .nil))))
def N_put_rows : List Str := ["paper", "number", "some", "base", "rows", "at", "row", "place"]
def b_put_rows : MB := (.cons (.asg (.nm 3) (.ix (.var 0) (.int 1)))
  (.cons (.asg (.nm 4) (.ix (.var 0) (.int 4)))
  (.cons (.forS (.tp [5, 6]) (.enum (.var 2)) (.cons (.asg (.nm 7) (.bin .sub (.bin .add (.var 1) (.var 5)) (.var 3)))
  (.cons (.ifS (.cmp .ge (.var 7) (.blt .len (.var 4) .nil)) (.cons (.asg (.nm 4) (.bin .add (.var 4) (.tup (.cons (.var 6) .nil))))
  .nil) (.cons (.ifS (.andE (.cons (.cmp .ge (.var 7) (.int 0)) (.cons (.cmp .ne (.ix (.ix (.var 4) (.var 7)) (.int 0)) (.ix (.var 6) (.int 0))) .nil))) (.cons (.asg (.nm 4) (.bin .add (.sl (.var 4) .none (.some (.var 7))) (.tup (.cons (.var 6) .nil))))
  .nil) .nil)
  .nil))
  .nil)))
  (.cons (.ret (.var 4))
  .nil))))
def N_heard : List Str := ["paper", "message", "new", "rows", "end", "word", "term", "number", "ahead", "more", "kept"]
def b_heard : MB := (.cons (.expr (.call 18 (.cons (.var 0) .nil)))
  (.cons (.ifS (.notE (.call 29 (.cons (.var 1) .nil))) (.cons (.raise 4)
  .nil) .nil)
  (.cons (.asg (.tp [5, 6, 7, 8, 9, 10]) (.var 1))
  (.cons (.ifS (.cmp .lt (.var 6) (.ix (.var 0) (.int 0))) (.cons (.ret (.tup (.cons (.var 0) (.cons (.tup (.cons (.str "old") (.cons (.ix (.var 0) (.int 0)) (.cons (.int 0) .nil)))) .nil))))
  .nil) .nil)
  (.cons (.ifS (.cmp .eq (.var 5) (.str "whole")) (.cons (.ret (.tup (.cons (.call 30 (.cons (.var 0) (.cons (.var 1) .nil))) (.cons (.tup (.cons (.str "have") (.cons (.var 6) (.cons (.var 7) .nil)))) .nil))))
  .nil) .nil)
  (.cons (.asg (.nm 2) (.bin .add (.tup (.cons (.var 6) .nil)) (.sl (.var 0) (.some (.int 1)) .none)))
  (.cons (.ifS (.cmp .gt (.var 7) (.call 19 (.cons (.var 0) .nil))) (.cons (.ret (.tup (.cons (.var 2) (.cons (.tup (.cons (.str "no") (.cons (.var 6) (.cons (.call 19 (.cons (.var 0) .nil)) .nil)))) .nil))))
  .nil) .nil)
  (.cons (.ifS (.andE (.cons (.cmp .ge (.var 7) (.ix (.var 0) (.int 1))) (.cons (.cmp .ne (.call 21 (.cons (.var 0) (.cons (.var 7) .nil))) (.var 8)) .nil))) (.cons (.ret (.tup (.cons (.var 2) (.cons (.tup (.cons (.str "no") (.cons (.var 6) (.cons (.bin .sub (.var 7) (.int 1)) .nil)))) .nil))))
  .nil) .nil)
  (.cons (.asg (.nm 3) (.call 31 (.cons (.var 0) (.cons (.var 7) (.cons (.var 9) .nil)))))
  (.cons (.asg (.nm 4) (.bin .add (.var 7) (.blt .len (.var 9) .nil)))
  (.cons (.ret (.tup (.cons (.bin .add (.sl (.var 2) .none (.some (.int 4))) (.tup (.cons (.var 3) (.cons (.blt .max (.ix (.var 0) (.int 5)) (.cons (.blt .min (.var 10) (.cons (.var 4) .nil)) .nil)) .nil)))) (.cons (.tup (.cons (.str "have") (.cons (.var 6) (.cons (.var 4) .nil)))) .nil))))
  .nil)))))))))))
def N_law_k03 : List Str := ["script", "number", "found", "caught", "bad", "paper", "rows", "term", "base", "ahead", "some", "left", "kept", "row"]
def b_law_k03 : MB := (.cons (.asg (.tp [5, 6]) (.call 17 (.cons (.call 8 (.cons (.call 7 (.cons (.var 0) (.cons (.int 0) .nil))) (.cons (.int 0) .nil))) (.cons (.int 10) .nil))))
  (.cons (.asg (.tp [7, 8, 9, 10, 11, 12]) (.var 5))
  (.cons (.ifS (.orE (.cons (.cmp .ne (.call 20 (.cons (.var 5) .nil)) (.blt .len (.var 6) .nil)) (.cons (.cmp .ne (.call 23 (.cons (.var 5) .nil)) (.tup (.cons (.ifE (.cmp .ne (.var 6) (.tup .nil)) (.ix (.ix (.var 6) (.neg (.int 1))) (.int 0)) (.int 0)) (.cons (.blt .len (.var 6) .nil) .nil)))) .nil))) (.cons (.ret (.bl false))
  .nil) .nil)
  (.cons (.ifS (.cmp .ne (.call 25 (.cons (.var 5) .nil)) (.call 11 (.cons (.tup .nil) (.cons (.lc (.ix (.var 13) (.int 1)) (.nm 13) (.val (.sl (.var 6) .none (.some (.var 12)))) .none [("row", 13)]) .nil)))) (.cons (.ret (.bl false))
  .nil) .nil)
  (.cons (.asg (.nm 1) (.bin .add (.var 8) (.bin .mod (.call 7 (.cons (.var 0) (.cons (.int 1) .nil))) (.bin .add (.bin .sub (.var 12) (.var 8)) (.int 1)))))
  (.cons (.asg (.nm 2) (.call 26 (.cons (.var 5) (.cons (.var 1) .nil))))
  (.cons (.ifS (.orE (.cons (.cmp .ne (.var 2) (.bin .add (.tup (.cons (.var 7) .nil)) (.sl (.call 16 (.cons (.var 6) (.cons (.var 1) (.cons (.var 12) (.cons (.int 0) .nil))))) (.some (.int 1)) .none))) (.cons (.cmp .isNot (.call 14 (.cons (.var 2) .nil)) (.bl true)) .nil))) (.cons (.ret (.bl false))
  .nil) .nil)
  (.cons (.ifS (.orE (.cons (.cmp .ne (.call 25 (.cons (.var 2) .nil)) (.call 25 (.cons (.var 5) .nil))) (.cons (.cmp .ne (.call 23 (.cons (.var 2) .nil)) (.call 23 (.cons (.var 5) .nil))) (.cons (.cmp .ne (.call 26 (.cons (.var 2) (.cons (.var 12) .nil))) (.call 26 (.cons (.var 5) (.cons (.var 12) .nil)))) .nil)))) (.cons (.ret (.bl false))
  .nil) .nil)
  (.cons (.asg (.nm 3) (.int 0))
  (.cons (.forS (.nm 4) (.val (.tup (.cons (.bin .sub (.var 8) (.int 1)) (.cons (.bin .add (.var 12) (.int 1)) (.cons .non (.cons (.str "0") (.cons (.neg (.int 1)) (.cons (.tup (.cons (.var 8) .nil)) .nil)))))))) (.cons (.tryS (.cons (.expr (.call 26 (.cons (.var 5) (.cons (.var 4) .nil))))
  .nil) (.cons 5 (.cons (.augN 3 (.int 1))
  .nil) .nil))
  .nil))
  (.cons (.ret (.cmp .eq (.var 3) (.int 6)))
  .nil)))))))))))
def N__law_mix : List Str := ["cell", "prime", "many"]
def b__law_mix : MB := (.cons (.ret (.bin .mod (.bin .mod (.bin .pow (.bin .mod (.bin .mul (.var 0) (.int 48271)) (.var 1)) (.int 3)) (.var 1)) (.var 2)))
  .nil)
def N_law_k04 : List Str := ["script", "rows", "papers", "fulls", "k", "low", "high", "due", "found", "many", "mine", "kept", "base", "made", "at", "deed", "other", "full", "row"]
def b_law_k04 : MB := (.cons (.asg (.nm 1) (.call 15 (.cons (.call 8 (.cons (.call 7 (.cons (.var 0) (.cons (.int 0) .nil))) (.cons (.int 0) .nil))) (.cons (.int 10) .nil))))
  (.cons (.asg (.nm 2) (.lst .nil))
  (.cons (.asg (.nm 3) (.lst .nil))
  (.cons (.forS (.nm 4) (.range1 (.int 2)) (.cons (.asg (.nm 9) (.bin .sub (.blt .len (.var 1) .nil) (.bin .mul (.bin .mod (.call 7 (.cons (.var 0) (.cons (.bin .add (.int 1) (.var 4)) .nil))) (.bin .add (.blt .len (.var 1) .nil) (.int 1))) (.blt .int (.cmp .eq (.bin .mod (.call 7 (.cons (.var 0) (.cons (.bin .add (.int 1) (.var 4)) .nil))) (.int 3)) (.int 0)) .nil))))
  (.cons (.asg (.nm 10) (.sl (.var 1) .none (.some (.var 9))))
  (.cons (.ifS (.andE (.cons (.cmp .eq (.var 4) (.int 1)) (.cons (.cmp .ne (.var 10) (.tup .nil)) (.cons (.cmp .eq (.bin .mod (.call 7 (.cons (.var 0) (.cons (.int 3) .nil))) (.int 2)) (.int 0)) .nil)))) (.cons (.asg (.nm 14) (.call 36 (.cons (.call 7 (.cons (.var 0) (.cons (.int 4) .nil))) (.cons (.int 9949) (.cons (.var 9) .nil)))))
  (.cons (.asg (.nm 15) (.call 10 (.cons (.call 8 (.cons (.call 7 (.cons (.var 0) (.cons (.int 5) .nil))) (.cons (.int 2) .nil))) .nil)))
  (.cons (.asg (.nm 16) (.ix (.lst (.cons (.ix (.ix (.var 10) (.var 14)) (.int 1)) (.cons (.var 15) (.cons (.tup (.cons (.str "put") (.cons (.str "q") (.cons (.int 7) .nil)))) .nil)))) (.bin .mod (.call 7 (.cons (.var 0) (.cons (.int 6) .nil))) (.int 3))))
  (.cons (.asg (.nm 10) (.bin .add (.bin .add (.sl (.var 10) .none (.some (.var 14))) (.tup (.cons (.tup (.cons (.ix (.ix (.var 10) (.var 14)) (.int 0)) (.cons (.var 16) .nil))) .nil))) (.sl (.var 10) (.some (.bin .add (.var 14) (.int 1))) .none)))
  .nil)))) .nil)
  (.cons (.asg (.nm 11) (.bin .sub (.var 9) (.call 36 (.cons (.call 7 (.cons (.var 0) (.cons (.bin .add (.int 7) (.var 4)) .nil))) (.cons (.int 9941) (.cons (.bin .add (.var 9) (.int 1)) .nil))))))
  (.cons (.asg (.nm 12) (.call 36 (.cons (.call 7 (.cons (.var 0) (.cons (.bin .add (.int 9) (.var 4)) .nil))) (.cons (.int 9931) (.cons (.bin .add (.var 11) (.int 1)) .nil)))))
  (.cons (.expr (.app (.var 2) (.call 16 (.cons (.var 10) (.cons (.var 12) (.cons (.var 11) (.cons (.int 0) .nil)))))))
  (.cons (.expr (.app (.var 3) (.var 10)))
  .nil))))))))
  (.cons (.asg (.nm 5) (.blt .max (.ix (.ix (.var 2) (.int 0)) (.int 1)) (.cons (.ix (.ix (.var 2) (.int 1)) (.int 1)) .nil)))
  (.cons (.asg (.nm 6) (.blt .min (.ix (.ix (.var 2) (.int 0)) (.int 5)) (.cons (.ix (.ix (.var 2) (.int 1)) (.int 5)) .nil)))
  (.cons (.asg (.nm 7) (.bl true))
  (.cons (.ifS (.cmp .le (.var 5) (.var 6)) (.cons (.asgLc 13 (.call 11 (.cons (.tup .nil) (.cons (.lc (.ix (.var 18) (.int 1)) (.nm 18) (.val (.sl (.var 17) .none (.some (.var 5)))) .none [("row", 18)]) .nil))) (.nm 17) (.val (.var 3)) .none [("full", 17)])
  (.cons (.asg (.nm 7) (.andE (.cons (.cmp .eq (.ix (.var 13) (.int 0)) (.ix (.var 13) (.int 1))) (.cons (.cmp .eq (.sl (.ix (.var 3) (.int 0)) (.some (.var 5)) (.some (.var 6))) (.sl (.ix (.var 3) (.int 1)) (.some (.var 5)) (.some (.var 6)))) .nil))))
  .nil)) .nil)
  (.cons (.asg (.nm 8) (.call 27 (.cons (.ix (.var 2) (.int 0)) (.cons (.ix (.var 2) (.int 1)) .nil))))
  (.cons (.ifS (.orE (.cons (.notE (.isi .bool (.var 8))) (.cons (.cmp .ne (.var 8) (.var 7)) .nil))) (.cons (.ret (.bl false))
  .nil) .nil)
  (.cons (.ret (.andE (.cons (.cmp .eq (.call 27 (.cons (.ix (.var 2) (.int 1)) (.cons (.ix (.var 2) (.int 0)) .nil))) (.var 7)) (.cons (.cmp .isC (.call 27 (.cons (.ix (.var 2) (.int 0)) (.cons (.ix (.var 2) (.int 0)) .nil))) (.bl true)) .nil))))
  .nil)))))))))))
def N_law_k05 : List Str := ["script", "number", "due", "caught", "bad", "paper", "rows", "term", "base", "ahead", "some", "left", "kept"]
def b_law_k05 : MB := (.cons (.asg (.tp [5, 6]) (.call 17 (.cons (.call 8 (.cons (.call 7 (.cons (.var 0) (.cons (.int 0) .nil))) (.cons (.int 0) .nil))) (.cons (.int 10) .nil))))
  (.cons (.asg (.tp [7, 8, 9, 10, 11, 12]) (.var 5))
  (.cons (.ifS (.cmp .eq (.var 7) (.int 0)) (.cons (.asg (.nm 5) (.tup (.cons (.int 1) (.cons (.var 8) (.cons (.var 9) (.cons (.var 10) (.cons (.var 11) (.cons (.var 12) .nil))))))))
  (.cons (.asg (.nm 7) (.int 1))
  .nil)) .nil)
  (.cons (.asg (.nm 1) (.call 36 (.cons (.call 7 (.cons (.var 0) (.cons (.int 1) .nil))) (.cons (.int 9949) (.cons (.bin .add (.blt .len (.var 6) .nil) (.int 1)) .nil)))))
  (.cons (.asg (.nm 2) (.tup (.cons (.str "rows") (.cons (.var 7) (.cons (.var 1) (.cons (.ifE (.cmp .gt (.var 1) (.int 0)) (.ix (.ix (.var 6) (.bin .sub (.var 1) (.int 1))) (.int 0)) (.int 0)) (.cons (.sl (.var 6) (.some (.var 1)) (.some (.bin .add (.var 1) (.int 3)))) (.cons (.var 12) .nil))))))))
  (.cons (.ifS (.cmp .lt (.var 1) (.var 8)) (.cons (.asg (.nm 2) (.tup (.cons (.str "whole") (.cons (.var 7) (.cons (.var 8) (.cons (.var 9) (.cons (.var 10) (.cons (.var 12) .nil))))))))
  .nil) .nil)
  (.cons (.ifS (.cmp .ne (.call 28 (.cons (.var 5) (.cons (.var 1) .nil))) (.var 2)) (.cons (.ret (.bl false))
  .nil) .nil)
  (.cons (.asg (.nm 3) (.int 0))
  (.cons (.forS (.nm 4) (.val (.tup (.cons (.neg (.int 1)) (.cons (.bin .add (.blt .len (.var 6) .nil) (.int 1)) (.cons .non (.cons (.bl true) (.cons (.str "0") .nil))))))) (.cons (.tryS (.cons (.expr (.call 28 (.cons (.var 5) (.cons (.var 4) .nil))))
  .nil) (.cons 5 (.cons (.augN 3 (.int 1))
  .nil) .nil))
  .nil))
  (.cons (.tryS (.cons (.expr (.call 28 (.cons (.tup (.cons (.int 0) (.cons (.int 0) (.cons (.int 0) (.cons (.tup .nil) (.cons (.tup .nil) (.cons (.int 0) .nil))))))) (.cons (.int 0) .nil))))
  .nil) (.cons 5 (.cons (.augN 3 (.int 1))
  .nil) .nil))
  (.cons (.ret (.cmp .eq (.var 3) (.int 6)))
  .nil)))))))))))
def N__law_two : List Str := ["script", "at", "rows", "same", "mine", "top", "k", "there", "row"]
def b__law_two : MB := (.cons (.asg (.nm 2) (.call 15 (.cons (.call 8 (.cons (.call 7 (.cons (.var 0) (.cons (.var 1) .nil))) (.cons (.int 0) .nil))) (.cons (.int 10) .nil))))
  (.cons (.asg (.nm 3) (.call 36 (.cons (.call 7 (.cons (.var 0) (.cons (.bin .add (.var 1) (.int 1)) .nil))) (.cons (.int 9949) (.cons (.bin .add (.blt .len (.var 2) .nil) (.int 1)) .nil)))))
  (.cons (.asg (.nm 4) (.sl (.var 2) .none (.some (.var 3))))
  (.cons (.asg (.nm 5) (.ifE (.cmp .ne (.var 4) (.tup .nil)) (.ix (.ix (.var 4) (.neg (.int 1))) (.int 0)) (.int 1)))
  (.cons (.ifS (.cmp .gt (.bin .mod (.call 7 (.cons (.var 0) (.cons (.bin .add (.var 1) (.int 2)) .nil))) (.int 3)) (.int 0)) (.cons (.forS (.nm 6) (.range1 (.bin .mod (.call 7 (.cons (.var 0) (.cons (.bin .add (.var 1) (.int 3)) .nil))) (.int 5))) (.cons (.asgLc 7 (.ix (.var 8) (.int 0)) (.nm 8) (.val (.sl (.var 2) (.some (.bin .add (.var 3) (.var 6))) (.some (.bin .add (.bin .add (.var 3) (.var 6)) (.int 1))))) .none [("row", 8)])
  (.cons (.ifS (.cmp .inC (.var 5) (.var 7)) (.cons (.asg (.nm 5) (.bin .add (.var 5) (.int 1)))
  .nil) .nil)
  (.cons (.whileS 60 (.cmp .inC (.var 5) (.lc (.ix (.var 8) (.int 0)) (.nm 8) (.val (.sl (.var 2) (.some (.var 3)) .none)) .none [("row", 8)])) (.cons (.asg (.nm 5) (.bin .add (.var 5) (.int 1)))
  .nil))
  (.cons (.asg (.nm 4) (.bin .add (.var 4) (.tup (.cons (.tup (.cons (.var 5) (.cons (.call 10 (.cons (.call 8 (.cons (.call 7 (.cons (.var 0) (.cons (.bin .add (.var 1) (.int 3)) .nil))) (.cons (.var 6) .nil))) .nil)) .nil))) .nil))))
  .nil)))))
  .nil) .nil)
  (.cons (.ret (.tup (.cons (.var 2) (.cons (.var 4) (.cons (.var 3) .nil)))))
  .nil))))))
def N__law_joined : List Str := ["mine", "number", "more", "base", "full", "k", "row"]
def b__law_joined : MB := (.cons (.asg (.nm 4) (.var 0))
  (.cons (.forS (.tp [5, 6]) (.enum (.var 2)) (.cons (.ifS (.cmp .ge (.bin .add (.var 1) (.var 5)) (.blt .len (.var 4) .nil)) (.cons (.asg (.nm 4) (.bin .add (.var 4) (.tup (.cons (.var 6) .nil))))
  .nil) (.cons (.ifS (.andE (.cons (.cmp .ge (.bin .add (.var 1) (.var 5)) (.var 3)) (.cons (.cmp .ne (.ix (.ix (.var 4) (.bin .add (.var 1) (.var 5))) (.int 0)) (.ix (.var 6) (.int 0))) .nil))) (.cons (.asg (.nm 4) (.bin .add (.sl (.var 4) .none (.some (.bin .add (.var 1) (.var 5)))) (.tup (.cons (.var 6) .nil))))
  .nil) .nil)
  .nil))
  .nil))
  (.cons (.ret (.var 4))
  .nil)))
def N_law_k06 : List Str := ["script", "kept", "base", "top", "paper", "term", "lead_kept", "number", "more", "message", "found", "full", "new", "rows", "mine", "same"]
def b_law_k06 : MB := (.cons (.asg (.tp [13, 14, 15]) (.call 39 (.cons (.var 0) (.cons (.int 0) .nil))))
  (.cons (.asg (.nm 1) (.call 36 (.cons (.call 7 (.cons (.var 0) (.cons (.int 4) .nil))) (.cons (.int 9949) (.cons (.bin .add (.var 15) (.int 1)) .nil)))))
  (.cons (.asg (.nm 2) (.call 36 (.cons (.call 7 (.cons (.var 0) (.cons (.int 5) .nil))) (.cons (.int 9941) (.cons (.bin .add (.var 1) (.int 1)) .nil)))))
  (.cons (.asg (.nm 3) (.ifE (.cmp .ne (.var 14) (.tup .nil)) (.ix (.ix (.var 14) (.neg (.int 1))) (.int 0)) (.int 0)))
  (.cons (.asg (.nm 4) (.call 16 (.cons (.var 14) (.cons (.var 2) (.cons (.var 1) (.cons (.bin .mod (.call 7 (.cons (.var 0) (.cons (.int 6) .nil))) (.int 3)) .nil))))))
  (.cons (.asg (.nm 5) (.bin .add (.blt .max (.ifE (.cmp .ne (.var 13) (.tup .nil)) (.ix (.ix (.var 13) (.neg (.int 1))) (.int 0)) (.int 1)) (.cons (.var 3) .nil)) (.bin .mod (.call 7 (.cons (.var 0) (.cons (.int 7) .nil))) (.int 3))))
  (.cons (.asg (.nm 6) (.bin .add (.var 1) (.call 36 (.cons (.call 7 (.cons (.var 0) (.cons (.int 8) .nil))) (.cons (.int 9931) (.cons (.bin .add (.bin .sub (.blt .len (.var 13) .nil) (.var 1)) (.int 1)) .nil))))))
  (.cons (.asg (.nm 7) (.call 36 (.cons (.call 7 (.cons (.var 0) (.cons (.int 9) .nil))) (.cons (.int 9929) (.cons (.bin .add (.blt .len (.var 13) .nil) (.int 1)) .nil)))))
  (.cons (.asg (.nm 8) (.sl (.var 13) (.some (.var 7)) (.some (.bin .add (.var 7) (.int 3)))))
  (.cons (.asg (.nm 9) (.tup (.cons (.str "rows") (.cons (.var 5) (.cons (.var 7) (.cons (.ifE (.cmp .gt (.var 7) (.int 0)) (.ix (.ix (.var 13) (.bin .sub (.var 7) (.int 1))) (.int 0)) (.int 0)) (.cons (.var 8) (.cons (.var 6) .nil))))))))
  (.cons (.asg (.nm 10) (.call 32 (.cons (.var 4) (.cons (.var 9) .nil))))
  (.cons (.ifS (.cmp .lt (.var 5) (.ix (.var 4) (.int 0))) (.cons (.ret (.cmp .eq (.var 10) (.tup (.cons (.var 4) (.cons (.tup (.cons (.str "old") (.cons (.ix (.var 4) (.int 0)) (.cons (.int 0) .nil)))) .nil)))))
  .nil) .nil)
  (.cons (.ifS (.cmp .gt (.var 7) (.blt .len (.var 14) .nil)) (.cons (.ret (.cmp .eq (.var 10) (.tup (.cons (.bin .add (.tup (.cons (.var 5) .nil)) (.sl (.var 4) (.some (.int 1)) .none)) (.cons (.tup (.cons (.str "no") (.cons (.var 5) (.cons (.blt .len (.var 14) .nil) .nil)))) .nil)))))
  .nil) .nil)
  (.cons (.ifS (.andE (.cons (.cmp .ge (.var 7) (.var 2)) (.cons (.cmp .gt (.var 7) (.int 0)) (.cons (.cmp .ne (.ix (.ix (.var 14) (.bin .sub (.var 7) (.int 1))) (.int 0)) (.ix (.var 9) (.int 3))) .nil)))) (.cons (.ret (.cmp .eq (.var 10) (.tup (.cons (.bin .add (.tup (.cons (.var 5) .nil)) (.sl (.var 4) (.some (.int 1)) .none)) (.cons (.tup (.cons (.str "no") (.cons (.var 5) (.cons (.bin .sub (.var 7) (.int 1)) .nil)))) .nil)))))
  .nil) .nil)
  (.cons (.asg (.nm 11) (.call 40 (.cons (.var 14) (.cons (.var 7) (.cons (.var 8) (.cons (.var 2) .nil))))))
  (.cons (.asg (.nm 12) (.call 16 (.cons (.var 11) (.cons (.var 2) (.cons (.blt .max (.var 1) (.cons (.blt .min (.var 6) (.cons (.bin .add (.var 7) (.blt .len (.var 8) .nil)) .nil)) .nil)) (.cons (.int 0) .nil))))))
  (.cons (.ret (.andE (.cons (.cmp .eq (.var 10) (.tup (.cons (.bin .add (.tup (.cons (.var 5) .nil)) (.sl (.var 12) (.some (.int 1)) .none)) (.cons (.tup (.cons (.str "have") (.cons (.var 5) (.cons (.bin .add (.var 7) (.blt .len (.var 8) .nil)) .nil)))) .nil)))) (.cons (.cmp .isC (.call 14 (.cons (.ix (.var 10) (.int 0)) .nil)) (.bl true)) .nil))))
  .nil)))))))))))))))))
def N_law_k07 : List Str := ["script", "number", "kept", "base", "paper", "term", "lead_kept", "some", "found", "rows", "mine", "same", "due", "row"]
def b_law_k07 : MB := (.cons (.asg (.tp [9, 10, 11]) (.call 39 (.cons (.var 0) (.cons (.int 0) .nil))))
  (.cons (.ifS (.cmp .eq (.var 9) (.tup .nil)) (.cons (.ret (.bl true))
  .nil) .nil)
  (.cons (.asg (.nm 1) (.bin .add (.int 1) (.call 36 (.cons (.call 7 (.cons (.var 0) (.cons (.int 4) .nil))) (.cons (.int 9949) (.cons (.blt .len (.var 9) .nil) .nil))))))
  (.cons (.asg (.nm 2) (.call 36 (.cons (.call 7 (.cons (.var 0) (.cons (.int 5) .nil))) (.cons (.int 9941) (.cons (.bin .add (.var 11) (.int 1)) .nil)))))
  (.cons (.asg (.nm 3) (.call 36 (.cons (.call 7 (.cons (.var 0) (.cons (.int 6) .nil))) (.cons (.int 9931) (.cons (.bin .add (.var 2) (.int 1)) .nil)))))
  (.cons (.asg (.nm 4) (.call 16 (.cons (.var 10) (.cons (.var 3) (.cons (.var 2) (.cons (.bin .mod (.call 7 (.cons (.var 0) (.cons (.int 7) .nil))) (.int 2)) .nil))))))
  (.cons (.asg (.nm 5) (.bin .add (.blt .max (.ix (.ix (.var 9) (.neg (.int 1))) (.int 0)) (.cons (.ifE (.cmp .ne (.var 10) (.tup .nil)) (.ix (.ix (.var 10) (.neg (.int 1))) (.int 0)) (.int 0)) .nil)) (.bin .mod (.call 7 (.cons (.var 0) (.cons (.int 8) .nil))) (.int 2))))
  (.cons (.asg (.nm 6) (.bin .add (.var 1) (.call 36 (.cons (.call 7 (.cons (.var 0) (.cons (.int 9) .nil))) (.cons (.int 9929) (.cons (.bin .add (.bin .sub (.blt .len (.var 9) .nil) (.var 1)) (.int 1)) .nil))))))
  (.cons (.asg (.nm 7) (.call 11 (.cons (.tup .nil) (.cons (.lc (.ix (.var 13) (.int 1)) (.nm 13) (.val (.sl (.var 9) .none (.some (.var 1)))) .none [("row", 13)]) .nil))))
  (.cons (.asg (.nm 8) (.call 32 (.cons (.var 4) (.cons (.tup (.cons (.str "whole") (.cons (.var 5) (.cons (.var 1) (.cons (.ix (.ix (.var 9) (.bin .sub (.var 1) (.int 1))) (.int 0)) (.cons (.var 7) (.cons (.var 6) .nil))))))) .nil))))
  (.cons (.ifS (.cmp .lt (.var 5) (.ix (.var 4) (.int 0))) (.cons (.ret (.cmp .eq (.var 8) (.tup (.cons (.var 4) (.cons (.tup (.cons (.str "old") (.cons (.ix (.var 4) (.int 0)) (.cons (.int 0) .nil)))) .nil)))))
  .nil) .nil)
  (.cons (.ifS (.orE (.cons (.cmp .le (.var 1) (.var 3)) (.cons (.andE (.cons (.cmp .le (.var 1) (.blt .len (.var 10) .nil)) (.cons (.cmp .eq (.ix (.ix (.var 10) (.bin .sub (.var 1) (.int 1))) (.int 0)) (.ix (.ix (.var 9) (.bin .sub (.var 1) (.int 1))) (.int 0))) .nil))) .nil))) (.cons (.asg (.nm 12) (.bin .add (.bin .add (.tup (.cons (.var 5) .nil)) (.sl (.var 4) (.some (.int 1)) (.some (.int 5)))) (.tup (.cons (.blt .max (.var 2) (.cons (.var 1) .nil)) .nil))))
  .nil) (.cons (.asg (.nm 12) (.tup (.cons (.var 5) (.cons (.var 1) (.cons (.ix (.ix (.var 9) (.bin .sub (.var 1) (.int 1))) (.int 0)) (.cons (.var 7) (.cons (.tup .nil) (.cons (.var 1) .nil))))))))
  .nil))
  (.cons (.ret (.andE (.cons (.cmp .eq (.var 8) (.tup (.cons (.var 12) (.cons (.tup (.cons (.str "have") (.cons (.var 5) (.cons (.var 1) .nil)))) .nil)))) (.cons (.cmp .isC (.call 14 (.cons (.ix (.var 8) (.int 0)) .nil)) (.bl true)) .nil))))
  .nil)))))))))))))
def N_law_k08 : List Str := ["script", "rows", "paper", "number", "odd", "none", "caught", "way", "word", "term", "place", "ahead", "more", "kept"]
def b_law_k08 : MB := (.cons (.asg (.nm 1) (.bin .add (.call 15 (.cons (.call 8 (.cons (.call 7 (.cons (.var 0) (.cons (.int 0) .nil))) (.cons (.int 0) .nil))) (.cons (.int 10) .nil))) (.tup (.cons (.tup (.cons (.int 40) (.cons (.tup (.cons (.str "none") .nil)) .nil))) .nil))))
  (.cons (.asg (.nm 2) (.call 16 (.cons (.var 1) (.cons (.int 0) (.cons (.blt .len (.var 1) .nil) (.cons (.int 1) .nil))))))
  (.cons (.asg (.nm 3) (.call 36 (.cons (.call 7 (.cons (.var 0) (.cons (.int 1) .nil))) (.cons (.int 9949) (.cons (.blt .len (.var 1) .nil) .nil)))))
  (.cons (.asg (.tp [8, 9, 10, 11, 12, 13]) (.call 28 (.cons (.var 2) (.cons (.var 3) .nil))))
  (.cons (.asg (.nm 4) (.lst (.cons (.tup (.cons (.str "row") (.cons (.var 9) (.cons (.var 10) (.cons (.var 11) (.cons (.var 12) (.cons (.var 13) .nil))))))) (.cons (.tup (.cons (.var 8) (.cons (.int 0) (.cons (.var 10) (.cons (.var 11) (.cons (.var 12) (.cons (.var 13) .nil))))))) .nil))))
  (.cons (.asg (.nm 4) (.bin .add (.var 4) (.lst (.cons (.tup (.cons (.var 8) (.cons (.bl true) (.cons (.var 10) (.cons (.var 11) (.cons (.var 12) (.cons (.var 13) .nil))))))) (.cons (.tup (.cons (.var 8) (.cons (.var 9) (.cons (.neg (.int 1)) (.cons (.var 11) (.cons (.var 12) (.cons (.var 13) .nil))))))) .nil)))))
  (.cons (.asg (.nm 4) (.bin .add (.var 4) (.lst (.cons (.tup (.cons (.var 8) (.cons (.var 9) (.cons .non (.cons (.var 11) (.cons (.var 12) (.cons (.var 13) .nil))))))) (.cons (.tup (.cons (.var 8) (.cons (.var 9) (.cons (.int 5) (.cons (.int 0) (.cons (.var 12) (.cons (.var 13) .nil))))))) (.cons (.tup (.cons (.var 8) (.cons (.var 9) (.cons (.int 0) (.cons (.int 1) (.cons (.var 12) (.cons (.var 13) .nil))))))) .nil))))))
  (.cons (.asg (.nm 4) (.bin .add (.var 4) (.lst (.cons (.tup (.cons (.var 8) (.cons (.var 9) (.cons (.var 10) (.cons (.bin .add (.var 9) (.int 1)) (.cons (.var 12) (.cons (.var 13) .nil))))))) (.cons (.tup (.cons (.var 8) (.cons (.var 9) (.cons (.var 10) (.cons (.var 11) (.cons (.var 12) (.cons (.neg (.int 1)) .nil))))))) .nil)))))
  (.cons (.asg (.nm 4) (.bin .add (.var 4) (.lst (.cons (.tup (.cons (.var 8) (.cons (.var 9) (.cons (.var 10) (.cons (.var 11) (.cons (.blt .list (.var 12) .nil) (.cons (.var 13) .nil))))))) (.cons (.tup (.cons (.var 8) (.cons (.var 9) (.cons (.var 10) (.cons (.var 11) (.cons .non (.cons (.var 13) .nil))))))) .nil)))))
  (.cons (.asg (.nm 5) (.tup (.cons (.str "none") .nil)))
  (.cons (.asg (.nm 4) (.bin .add (.var 4) (.lst (.cons (.tup (.cons (.str "rows") (.cons (.int 9) (.cons (.int 1) (.cons (.int 1) (.cons (.int 5) (.cons (.int 1) .nil))))))) (.cons (.tup (.cons (.str "rows") (.cons (.int 9) (.cons (.int 0) (.cons (.int 0) (.cons (.bin .mul (.tup (.cons (.tup (.cons (.int 1) (.cons (.var 5) .nil))) .nil)) (.int 4)) (.cons (.int 1) .nil))))))) (.cons (.tup (.cons (.str "rows") (.cons (.int 9) (.cons (.int 2) (.cons (.int 4) (.cons (.tup (.cons (.tup (.cons (.int 3) (.cons (.var 5) .nil))) .nil)) (.cons (.int 1) .nil))))))) .nil))))))
  (.cons (.asg (.nm 4) (.bin .add (.var 4) (.lst (.cons (.tup (.cons (.str "rows") (.cons (.int 9) (.cons (.int 0) (.cons (.int 0) (.cons (.tup (.cons (.tup (.cons (.int 10) (.cons (.var 5) .nil))) .nil)) (.cons (.int 1) .nil))))))) (.cons (.tup (.cons (.str "whole") (.cons (.int 9) (.cons (.int 0) (.cons (.int 0) (.cons (.tup .nil) (.cons (.int 1) .nil))))))) (.cons (.tup (.cons (.str "whole") (.cons (.int 9) (.cons (.int 3) (.cons (.int 1) (.cons (.tup .nil) (.cons (.int 2) .nil))))))) .nil))))))
  (.cons (.expr (.app (.var 4) (.tup (.cons (.str "whole") (.cons (.int 9) (.cons (.int 3) (.cons (.int 1) (.cons (.tup (.cons (.tup (.cons (.str "b") (.cons (.int 1) .nil))) (.cons (.tup (.cons (.str "a") (.cons (.int 1) .nil))) .nil))) (.cons (.int 3) .nil)))))))))
  (.cons (.asg (.nm 4) (.bin .add (.var 4) (.lst (.cons (.tup (.cons (.var 8) (.cons (.var 9) (.cons (.var 10) (.cons (.var 11) (.cons (.var 12) .nil)))))) (.cons (.lst (.cons (.var 8) (.cons (.var 9) (.cons (.var 10) (.cons (.var 11) (.cons (.var 12) (.cons (.var 13) .nil))))))) (.cons .non .nil))))))
  (.cons (.asg (.nm 6) (.lst .nil))
  (.cons (.forS (.nm 7) (.range1 (.int 2)) (.cons (.tryS (.cons (.ifS (.cmp .eq (.var 7) (.int 0)) (.cons (.expr (.call 32 (.cons (.var 2) (.cons (.ix (.var 4) (.bin .mod (.call 7 (.cons (.var 0) (.cons (.int 2) .nil))) (.int 21))) .nil))))
  .nil) (.cons (.expr (.call 32 (.cons (.tup (.cons (.int 1) (.cons (.int 2) (.cons (.int 3) .nil)))) (.cons (.ix (.var 4) (.bin .mod (.call 7 (.cons (.var 0) (.cons (.int 2) .nil))) (.int 21))) .nil))))
  .nil))
  .nil) (.cons 4 (.cons (.expr (.app (.var 6) (.str "message")))
  .nil) (.cons 3 (.cons (.expr (.app (.var 6) (.str "paper")))
  .nil) .nil)))
  .nil))
  (.cons (.ret (.cmp .eq (.var 6) (.lst (.cons (.str "message") (.cons (.str "paper") .nil)))))
  .nil)))))))))))))))))
def N_law_k09 : List Str := ["script", "rows", "lead_kept", "leader", "kept", "paper", "number", "turn", "mine", "same", "new", "answer"]
def b_law_k09 : MB := (.cons (.asg (.tp [1, 8, 9]) (.call 39 (.cons (.var 0) (.cons (.int 0) .nil))))
  (.cons (.asg (.nm 1) (.bin .add (.var 1) (.tup (.cons (.tup (.cons (.int 30) (.cons (.tup (.cons (.str "none") .nil)) .nil))) .nil))))
  (.cons (.asg (.nm 2) (.bin .add (.var 9) (.call 36 (.cons (.call 7 (.cons (.var 0) (.cons (.int 4) .nil))) (.cons (.int 9949) (.cons (.bin .add (.bin .sub (.blt .len (.var 1) .nil) (.var 9)) (.int 1)) .nil))))))
  (.cons (.asg (.nm 3) (.call 16 (.cons (.var 1) (.cons (.call 36 (.cons (.call 7 (.cons (.var 0) (.cons (.int 5) .nil))) (.cons (.int 9941) (.cons (.bin .add (.var 2) (.int 1)) .nil)))) (.cons (.var 2) (.cons (.int 1) .nil))))))
  (.cons (.asg (.nm 4) (.call 36 (.cons (.call 7 (.cons (.var 0) (.cons (.int 6) .nil))) (.cons (.int 9931) (.cons (.bin .add (.var 9) (.int 1)) .nil)))))
  (.cons (.asg (.nm 5) (.call 16 (.cons (.var 8) (.cons (.call 36 (.cons (.call 7 (.cons (.var 0) (.cons (.int 7) .nil))) (.cons (.int 9929) (.cons (.bin .add (.var 4) (.int 1)) .nil)))) (.cons (.var 4) (.cons (.int 0) .nil))))))
  (.cons (.asg (.nm 6) (.blt .len (.var 1) .nil))
  (.cons (.forS (.nm 7) (.range1 (.bin .add (.bin .add (.blt .len (.var 1) .nil) (.blt .len (.var 8) .nil)) (.int 4))) (.cons (.asg (.tp [10, 11]) (.call 32 (.cons (.var 5) (.cons (.call 28 (.cons (.var 3) (.cons (.var 6) .nil))) .nil))))
  (.cons (.ifS (.orE (.cons (.cmp .lt (.ix (.var 10) (.int 5)) (.ix (.var 5) (.int 5))) (.cons (.notE (.call 27 (.cons (.var 3) (.cons (.var 10) .nil)))) (.cons (.cmp .isNot (.call 14 (.cons (.var 10) .nil)) (.bl true)) (.cons (.cmp .ne (.ix (.var 11) (.int 1)) (.int 31)) .nil))))) (.cons (.ret (.bl false))
  .nil) .nil)
  (.cons (.ifS (.orE (.cons (.andE (.cons (.cmp .eq (.ix (.var 11) (.int 0)) (.str "no")) (.cons (.cmp .ge (.ix (.var 11) (.int 2)) (.var 6)) .nil))) (.cons (.cmp .eq (.ix (.var 11) (.int 0)) (.str "old")) .nil))) (.cons (.ret (.bl false))
  .nil) .nil)
  (.cons (.asg (.nm 5) (.var 10))
  (.cons (.asg (.nm 6) (.ix (.var 11) (.int 2)))
  (.cons (.ifS (.cmp .eq (.var 11) (.tup (.cons (.str "have") (.cons (.int 31) (.cons (.blt .len (.var 1) .nil) .nil))))) (.cons (.ifS (.orE (.cons (.cmp .ne (.call 23 (.cons (.var 5) .nil)) (.tup (.cons (.int 30) (.cons (.blt .len (.var 1) .nil) .nil)))) (.cons (.cmp .ne (.call 25 (.cons (.var 5) .nil)) (.call 25 (.cons (.var 3) .nil))) (.cons (.cmp .ne (.ix (.var 5) (.int 5)) (.var 2)) .nil)))) (.cons (.ret (.bl false))
  .nil) .nil)
  (.cons (.ret (.cmp .eq (.call 32 (.cons (.var 5) (.cons (.call 28 (.cons (.var 3) (.cons (.var 6) .nil))) .nil))) (.tup (.cons (.var 5) (.cons (.var 11) .nil)))))
  .nil)) .nil)
  .nil)))))))
  (.cons (.ret (.bl false))
  .nil)))))))))
def N_law_k10 : List Str := ["script", "rows", "messages", "kept", "k", "paper", "many", "base", "leader", "message", "full", "new", "answer"]
def b_law_k10 : MB := (.cons (.asg (.nm 1) (.call 15 (.cons (.call 8 (.cons (.call 7 (.cons (.var 0) (.cons (.int 0) .nil))) (.cons (.int 0) .nil))) (.cons (.int 10) .nil))))
  (.cons (.asg (.nm 1) (.bin .add (.var 1) (.tup (.cons (.tup (.cons (.int 30) (.cons (.tup (.cons (.str "none") .nil)) .nil))) (.cons (.tup (.cons (.int 30) (.cons (.tup (.cons (.str "put") (.cons (.str "a") (.cons (.int 1) .nil)))) .nil))) (.cons (.tup (.cons (.int 31) (.cons (.tup (.cons (.str "none") .nil)) .nil))) .nil))))))
  (.cons (.asg (.nm 2) (.lst .nil))
  (.cons (.asg (.nm 3) (.int 0))
  (.cons (.forS (.nm 4) (.range1 (.bin .add (.int 1) (.bin .mod (.call 7 (.cons (.var 0) (.cons (.int 1) .nil))) (.int 8)))) (.cons (.asg (.nm 6) (.bin .add (.blt .max (.var 3) (.cons (.int 1) .nil)) (.call 36 (.cons (.bin .add (.call 7 (.cons (.var 0) (.cons (.int 2) .nil))) (.bin .mul (.int 31) (.var 4))) (.cons (.int 9949) (.cons (.bin .add (.bin .sub (.blt .len (.var 1) .nil) (.blt .max (.var 3) (.cons (.int 1) .nil))) (.int 1)) .nil))))))
  (.cons (.asg (.nm 3) (.bin .add (.var 3) (.call 36 (.cons (.bin .add (.call 7 (.cons (.var 0) (.cons (.int 3) .nil))) (.bin .mul (.int 17) (.var 4))) (.cons (.int 9941) (.cons (.bin .add (.bin .sub (.var 6) (.var 3)) (.int 1)) .nil))))))
  (.cons (.asg (.nm 7) (.call 36 (.cons (.bin .add (.call 7 (.cons (.var 0) (.cons (.int 4) .nil))) (.bin .mul (.int 13) (.var 4))) (.cons (.int 9931) (.cons (.bin .add (.var 3) (.int 1)) .nil)))))
  (.cons (.asg (.nm 8) (.bin .add (.tup (.cons (.int 40) .nil)) (.sl (.call 16 (.cons (.sl (.var 1) .none (.some (.var 6))) (.cons (.var 7) (.cons (.var 3) (.cons (.int 0) .nil))))) (.some (.int 1)) .none)))
  (.cons (.expr (.app (.var 2) (.call 28 (.cons (.var 8) (.cons (.call 36 (.cons (.bin .add (.call 7 (.cons (.var 0) (.cons (.int 5) .nil))) (.bin .mul (.int 11) (.var 4))) (.cons (.int 9929) (.cons (.bin .add (.var 6) (.int 1)) .nil)))) .nil)))))
  .nil))))))
  (.cons (.asg (.nm 5) (.tup (.cons (.int 0) (.cons (.int 0) (.cons (.int 0) (.cons (.tup .nil) (.cons (.tup .nil) (.cons (.int 0) .nil))))))))
  (.cons (.forS (.nm 4) (.range1 (.int 24)) (.cons (.asg (.nm 9) (.ix (.var 2) (.call 36 (.cons (.bin .add (.call 7 (.cons (.var 0) (.cons (.bin .add (.int 6) (.bin .mod (.var 4) (.int 4))) .nil))) (.bin .mul (.int 7) (.var 4))) (.cons (.int 9923) (.cons (.blt .len (.var 2) .nil) .nil))))))
  (.cons (.asg (.tp [11, 12]) (.call 32 (.cons (.var 5) (.cons (.var 9) .nil))))
  (.cons (.ifS (.orE (.cons (.cmp .lt (.ix (.var 11) (.int 5)) (.ix (.var 5) (.int 5))) (.cons (.cmp .gt (.ix (.var 11) (.int 5)) (.var 3)) (.cons (.cmp .ne (.ix (.var 11) (.int 0)) (.int 40)) (.cons (.cmp .lt (.call 20 (.cons (.var 11) .nil)) (.call 20 (.cons (.var 5) .nil))) .nil))))) (.cons (.ret (.bl false))
  .nil) .nil)
  (.cons (.asg (.nm 10) (.call 16 (.cons (.sl (.var 1) .none (.some (.call 20 (.cons (.var 11) .nil)))) (.cons (.ix (.var 11) (.int 1)) (.cons (.ix (.var 11) (.int 5)) (.cons (.int 0) .nil))))))
  (.cons (.ifS (.cmp .ne (.var 11) (.bin .add (.tup (.cons (.int 40) .nil)) (.sl (.var 10) (.some (.int 1)) .none))) (.cons (.ret (.bl false))
  .nil) .nil)
  (.cons (.ifS (.cmp .ne (.ix (.call 32 (.cons (.var 11) (.cons (.var 9) .nil))) (.int 0)) (.var 11)) (.cons (.ret (.bl false))
  .nil) .nil)
  (.cons (.asg (.nm 5) (.var 11))
  .nil))))))))
  (.cons (.ret (.bl true))
  .nil))))))))
def N_begun : List Str := []
def b_begun : MB := (.cons (.ret (.tup (.cons (.int 0) (.cons (.int 0) (.cons (.int 0) (.cons (.tup .nil) (.cons (.tup .nil) (.cons (.int 0) .nil))))))))
  .nil)
def N_Group___init__ : List Str := ["self", "many", "need", "place", "other"]
def b_Group___init__ : MB := (.cons (.ifS (.orE (.cons (.notE (.call 0 (.cons (.var 1) (.cons (.int 1) (.cons (.gint "MOST_PLACES" 5) .nil))))) (.cons (.notE (.call 0 (.cons (.var 2) (.cons (.int 1) (.cons (.var 1) .nil))))) .nil))) (.cons (.raise 5)
  .nil) .nil)
  (.cons (.setF 0 (.var 0) (.var 2))
  (.cons (.setF 1 (.var 0) (.lc (.call 46 .nil) (.nm 3) (.range1 (.var 1)) .none [("place", 3)]))
  (.cons (.setF 2 (.var 0) (.lc (.bl true) (.nm 3) (.range1 (.var 1)) .none [("place", 3)]))
  (.cons (.setF 3 (.var 0) (.lc (.int 0) (.nm 3) (.range1 (.var 1)) .none [("place", 3)]))
  (.cons (.setF 4 (.var 0) (.lc (.lc (.int 0) (.nm 4) (.range1 (.var 1)) .none [("other", 4)]) (.nm 3) (.range1 (.var 1)) .none [("place", 3)]))
  (.cons (.setF 5 (.var 0) (.lc (.lc (.int 0) (.nm 4) (.range1 (.var 1)) .none [("other", 4)]) (.nm 3) (.range1 (.var 1)) .none [("place", 3)]))
  (.cons (.setF 6 (.var 0) (.lst .nil))
  (.cons (.setF 7 (.var 0) (.int 0))
  .nil)))))))))
def N_Group_is_leading : List Str := ["self", "place"]
def b_Group_is_leading : MB := (.cons (.ret (.andE (.cons (.ix (.fld 2 (.var 0)) (.var 1)) (.cons (.cmp .gt (.ix (.fld 3 (.var 0)) (.var 1)) (.int 0)) (.cons (.cmp .eq (.ix (.fld 3 (.var 0)) (.var 1)) (.ix (.ix (.fld 1 (.var 0)) (.var 1)) (.int 0))) .nil)))))
  .nil)
def N_Group_leaders : List Str := ["self", "place"]
def b_Group_leaders : MB := (.cons (.ret (.lc (.var 1) (.nm 1) (.range1 (.blt .len (.fld 1 (.var 0)) .nil)) (.some (.meth 48 (.var 0) (.cons (.var 1) .nil))) [("place", 1)]))
  .nil)
def N_Group_look_place : List Str := ["self", "place"]
def b_Group_look_place : MB := (.cons (.ifS (.notE (.call 0 (.cons (.var 1) (.cons (.int 0) (.cons (.bin .sub (.blt .len (.fld 1 (.var 0)) .nil) (.int 1)) .nil))))) (.cons (.raise 6)
  .nil) .nil)
  .nil)
def N_Group_look_up : List Str := ["self", "place"]
def b_Group_look_up : MB := (.cons (.expr (.meth 50 (.var 0) (.cons (.var 1) .nil)))
  (.cons (.ifS (.notE (.ix (.fld 2 (.var 0)) (.var 1))) (.cons (.raise 7)
  .nil) .nil)
  .nil))
def N_Group_look_leading : List Str := ["self", "place"]
def b_Group_look_leading : MB := (.cons (.expr (.meth 51 (.var 0) (.cons (.var 1) .nil)))
  (.cons (.ifS (.notE (.meth 48 (.var 0) (.cons (.var 1) .nil))) (.cons (.raise 8)
  .nil) .nil)
  .nil))
def N_Group_count : List Str := ["self", "place", "paper", "mine", "some", "number", "other"]
def b_Group_count : MB := (.cons (.asg (.nm 2) (.ix (.fld 1 (.var 0)) (.var 1)))
  (.cons (.asgLc 3 (.ix (.ix (.fld 4 (.var 0)) (.var 1)) (.var 6)) (.nm 6) (.range1 (.blt .len (.fld 1 (.var 0)) .nil)) (.some (.cmp .ne (.var 6) (.var 1))) [("other", 6)])
  (.cons (.asg (.nm 4) (.rev (.blt .sorted (.bin .add (.var 3) (.lst (.cons (.call 19 (.cons (.var 2) .nil)) .nil))) .nil) (.neg (.int 1))))
  (.cons (.asg (.nm 5) (.ix (.var 4) (.bin .sub (.fld 0 (.var 0)) (.int 1))))
  (.cons (.ifS (.andE (.cons (.cmp .gt (.var 5) (.ix (.var 2) (.int 5))) (.cons (.cmp .eq (.call 21 (.cons (.var 2) (.cons (.var 5) .nil))) (.ix (.var 2) (.int 0))) .nil))) (.cons (.setI (.fld 1 (.var 0)) (.var 1) (.bin .add (.sl (.var 2) .none (.some (.int 5))) (.tup (.cons (.var 5) .nil))))
  .nil) .nil)
  .nil)))))
def N_Group_fall : List Str := ["self", "place"]
def b_Group_fall : MB := (.cons (.expr (.meth 51 (.var 0) (.cons (.var 1) .nil)))
  (.cons (.setI (.fld 2 (.var 0)) (.var 1) (.bl false))
  (.cons (.setI (.fld 3 (.var 0)) (.var 1) (.int 0))
  .nil)))
def N_Group_rise : List Str := ["self", "place"]
def b_Group_rise : MB := (.cons (.expr (.meth 50 (.var 0) (.cons (.var 1) .nil)))
  (.cons (.setI (.fld 2 (.var 0)) (.var 1) (.bl true))
  .nil))
def N_Group_trim : List Str := ["self", "place", "paper"]
def b_Group_trim : MB := (.cons (.expr (.meth 51 (.var 0) (.cons (.var 1) .nil)))
  (.cons (.asg (.nm 2) (.ix (.fld 1 (.var 0)) (.var 1)))
  (.cons (.setI (.fld 1 (.var 0)) (.var 1) (.call 26 (.cons (.var 2) (.cons (.ix (.var 2) (.int 5)) .nil))))
  (.cons (.ret (.bin .sub (.ix (.var 2) (.int 5)) (.ix (.var 2) (.int 1))))
  .nil))))
def N_Group_look : List Str := ["self", "place", "least"]
def b_Group_look : MB := (.cons (.expr (.meth 51 (.var 0) (.cons (.var 1) .nil)))
  (.cons (.ifS (.notE (.call 0 (.cons (.var 2) (.cons (.int 0) (.cons (.gint "MOST" 100000) .nil))))) (.cons (.raise 5)
  .nil) .nil)
  (.cons (.ifS (.cmp .lt (.ix (.ix (.fld 1 (.var 0)) (.var 1)) (.int 5)) (.var 2)) (.cons (.raise 11)
  .nil) .nil)
  (.cons (.ret (.tup (.cons (.ix (.ix (.fld 1 (.var 0)) (.var 1)) (.int 5)) (.cons (.call 24 (.cons (.ix (.fld 1 (.var 0)) (.var 1)) .nil)) .nil))))
  .nil))))
def N_Group_with_rows : List Str := ["self", "place", "deed", "paper"]
def b_Group_with_rows : MB := (.cons (.asg (.nm 3) (.ix (.fld 1 (.var 0)) (.var 1)))
  (.cons (.setI (.fld 1 (.var 0)) (.var 1) (.bin .add (.sl (.var 3) .none (.some (.int 4))) (.tup (.cons (.bin .add (.ix (.var 3) (.int 4)) (.tup (.cons (.tup (.cons (.ix (.var 3) (.int 0)) (.cons (.var 2) .nil))) .nil))) (.cons (.ix (.var 3) (.int 5)) .nil)))))
  .nil))
def N_Group_hand_over : List Str := ["self", "place", "some", "other", "many"]
def b_Group_hand_over : MB := (.cons (.expr (.meth 51 (.var 0) (.cons (.var 1) .nil)))
  (.cons (.asgLc 2 (.var 3) (.nm 3) (.range1 (.blt .len (.fld 1 (.var 0)) .nil)) (.some (.ix (.fld 2 (.var 0)) (.var 3))) [("other", 3)])
  (.cons (.ifS (.cmp .lt (.blt .len (.var 2) .nil) (.bin .add (.bin .sub (.blt .len (.fld 1 (.var 0)) .nil) (.fld 0 (.var 0))) (.int 1))) (.cons (.raise 9)
  .nil) .nil)
  (.cons (.ifS (.lc (.var 3) (.nm 3) (.val (.var 2)) (.some (.cmp .gt (.call 22 (.cons (.ix (.fld 1 (.var 0)) (.var 3)) .nil)) (.call 22 (.cons (.ix (.fld 1 (.var 0)) (.var 1)) .nil)))) [("other", 3)]) (.cons (.raise 10)
  .nil) .nil)
  (.cons (.augF 7 (.var 0) (.int 1))
  (.cons (.forS (.nm 3) (.val (.var 2)) (.cons (.setI (.fld 1 (.var 0)) (.var 3) (.bin .add (.tup (.cons (.fld 7 (.var 0)) .nil)) (.sl (.ix (.fld 1 (.var 0)) (.var 3)) (.some (.int 1)) .none)))
  .nil))
  (.cons (.setI (.fld 3 (.var 0)) (.var 1) (.fld 7 (.var 0)))
  (.cons (.asg (.nm 4) (.call 19 (.cons (.ix (.fld 1 (.var 0)) (.var 1)) .nil)))
  (.cons (.setI (.fld 4 (.var 0)) (.var 1) (.lc (.int 0) (.nm 3) (.val (.fld 1 (.var 0))) .none [("other", 3)]))
  (.cons (.setI (.fld 5 (.var 0)) (.var 1) (.lc (.var 4) (.nm 3) (.val (.fld 1 (.var 0))) .none [("other", 3)]))
  (.cons (.expr (.meth 66 (.var 0) (.cons (.var 1) (.cons (.tup (.cons (.str "none") .nil)) .nil))))
  (.cons (.expr (.meth 58 (.var 0) (.cons (.var 1) .nil)))
  (.cons (.ret (.fld 7 (.var 0)))
  .nil)))))))))))))
def N_Group_write : List Str := ["self", "place", "deed"]
def b_Group_write : MB := (.cons (.expr (.meth 52 (.var 0) (.cons (.var 1) .nil)))
  (.cons (.ifS (.notE (.call 2 (.cons (.var 2) .nil))) (.cons (.raise 1)
  .nil) .nil)
  (.cons (.expr (.meth 66 (.var 0) (.cons (.var 1) (.cons (.var 2) .nil))))
  (.cons (.expr (.meth 58 (.var 0) (.cons (.var 1) .nil)))
  (.cons (.ret (.bin .sub (.call 19 (.cons (.ix (.fld 1 (.var 0)) (.var 1)) .nil)) (.int 1)))
  .nil)))))
def N_Group_paper : List Str := ["self", "place"]
def b_Group_paper : MB := (.cons (.expr (.meth 50 (.var 0) (.cons (.var 1) .nil)))
  (.cons (.ret (.ix (.fld 1 (.var 0)) (.var 1)))
  .nil))
def N_law_k32 : List Str := ["script", "group", "deeds", "term", "rows", "k", "cell", "pick", "deed"]
def b_law_k32 : MB := (.cons (.asg (.nm 1) (.make 47 (.cons (.int 1) (.cons (.int 1) .nil))))
  (.cons (.asg (.nm 2) (.lst .nil))
  (.cons (.asg (.nm 3) (.int 0))
  (.cons (.asg (.nm 4) (.int 0))
  (.cons (.forS (.nm 5) (.range1 (.bin .mod (.call 7 (.cons (.var 0) (.cons (.int 0) .nil))) (.int 31))) (.cons (.asg (.nm 6) (.call 8 (.cons (.bin .add (.call 7 (.cons (.var 0) (.cons (.bin .add (.int 1) (.bin .mod (.var 5) (.int 6))) .nil))) (.bin .mul (.int 103) (.var 5))) (.cons (.var 5) .nil))))
  (.cons (.ifS (.cmp .eq (.meth 49 (.var 1) .nil) (.lst .nil)) (.cons (.expr (.meth 63 (.var 1) (.cons (.int 0) .nil)))
  (.cons (.augN 3 (.int 1))
  (.cons (.ifS (.cmp .ne (.meth 67 (.var 1) (.cons (.int 0) .nil)) (.var 3)) (.cons (.ret (.bl false))
  .nil) .nil)
  (.cons (.augN 4 (.int 1))
  .nil)))) .nil)
  (.cons (.asg (.nm 7) (.call 9 (.cons (.var 6) (.cons (.int 6) .nil))))
  (.cons (.ifS (.cmp .lt (.var 7) (.int 4)) (.cons (.asg (.nm 8) (.call 10 (.cons (.call 8 (.cons (.var 6) (.cons (.int 1) .nil))) .nil)))
  (.cons (.ifS (.cmp .ne (.meth 68 (.var 1) (.cons (.int 0) (.cons (.var 8) .nil))) (.var 4)) (.cons (.ret (.bl false))
  .nil) .nil)
  (.cons (.expr (.app (.var 2) (.var 8)))
  (.cons (.augN 4 (.int 1))
  .nil)))) (.cons (.ifS (.cmp .eq (.var 7) (.int 4)) (.cons (.expr (.meth 64 (.var 1) (.cons (.int 0) .nil)))
  (.cons (.ifS (.cmp .ne (.sl (.meth 87 (.var 1) (.cons (.int 0) .nil)) (.some (.int 1)) .none) (.tup (.cons (.var 4) (.cons (.var 3) (.cons (.call 11 (.cons (.tup .nil) (.cons (.var 2) .nil))) (.cons (.tup .nil) (.cons (.var 4) .nil))))))) (.cons (.ret (.bl false))
  .nil) .nil)
  .nil)) (.cons (.expr (.meth 62 (.var 1) (.cons (.int 0) .nil)))
  (.cons (.expr (.meth 63 (.var 1) (.cons (.int 0) .nil)))
  .nil)))
  .nil))
  (.cons (.ifS (.orE (.cons (.cmp .ne (.ix (.meth 87 (.var 1) (.cons (.int 0) .nil)) (.int 5)) (.var 4)) (.cons (.cmp .ne (.meth 65 (.var 1) (.cons (.int 0) (.cons (.var 4) .nil))) (.tup (.cons (.var 4) (.cons (.call 11 (.cons (.tup .nil) (.cons (.var 2) .nil))) .nil)))) .nil))) (.cons (.ret (.bl false))
  .nil) .nil)
  .nil))))))
  (.cons (.ret (.andE (.cons (.cmp .eq (.call 20 (.cons (.meth 87 (.var 1) (.cons (.int 0) .nil)) .nil)) (.var 4)) (.cons (.cmp .eq (.ix (.meth 87 (.var 1) (.cons (.int 0) .nil)) (.int 0)) (.var 3)) .nil))))
  .nil))))))
end Mm

namespace Mm
open PySem L2 Mw
open PyProof.Rows hiding St
@[simp] theorem big_eq : big = 100000 := rfl
/-- a known callee -/
def Kn (Γ : Fns) (c n : Nat) (C : FM) : Prop := Γ.ar c = n ∧ Γ.F c = C
section
variable {G : Gp} {i j : Int} {b c : Bool} {x y : Str} {ds es : List D} {ns : List Int} {n : Nat} {t : Ty}
@[simp] theorem isi_non : dIsi .non t G = .ok false G := rfl
@[simp] theorem isi_bl : dIsi (.bl b) t G = .ok t.isBl G := rfl
@[simp] theorem isi_int : dIsi (.int i) t G = .ok t.isInt G := rfl
@[simp] theorem isi_str : dIsi (.str x) t G = .ok t.isStr G := rfl
@[simp] theorem isi_tup : dIsi (.tup ds) t G = .ok t.isTup G := rfl
theorem isi_lst (h : G[n]? = some (.lst ds)) : dIsi (.ref n) t G = .ok t.isLst G := by simp only [dIsi, h]
theorem isi_dct {kvs : List (Key × D)} (h : G[n]? = some (.dct kvs)) : dIsi (.ref n) t G = .ok false G := by simp only [dIsi, h]
@[simp] theorem ty1 : Ty.isBl .int = true := rfl
@[simp] theorem ty2 : Ty.isBl .bool = true := rfl
@[simp] theorem ty3 : Ty.isBl .str = false := rfl
@[simp] theorem ty4 : Ty.isBl .tuple = false := rfl
@[simp] theorem ty5 : Ty.isBl .list = false := rfl
@[simp] theorem ty6 : Ty.isInt .int = true := rfl
@[simp] theorem ty7 : Ty.isInt .bool = false := rfl
@[simp] theorem ty8 : Ty.isInt .str = false := rfl
@[simp] theorem ty9 : Ty.isInt .tuple = false := rfl
@[simp] theorem tya : Ty.isInt .list = false := rfl
@[simp] theorem tyb : Ty.isStr .int = false := rfl
@[simp] theorem tyc : Ty.isStr .bool = false := rfl
@[simp] theorem tyd : Ty.isStr .str = true := rfl
@[simp] theorem tye : Ty.isStr .tuple = false := rfl
@[simp] theorem tyf : Ty.isStr .list = false := rfl
@[simp] theorem tyg : Ty.isTup .int = false := rfl
@[simp] theorem tyh : Ty.isTup .bool = false := rfl
@[simp] theorem tyi : Ty.isTup .str = false := rfl
@[simp] theorem tyj : Ty.isTup .tuple = true := rfl
@[simp] theorem tyk : Ty.isTup .list = false := rfl
@[simp] theorem tyl : Ty.isLst .int = false := rfl
@[simp] theorem tym : Ty.isLst .bool = false := rfl
@[simp] theorem tyn : Ty.isLst .str = false := rfl
@[simp] theorem tyo : Ty.isLst .tuple = false := rfl
@[simp] theorem typ : Ty.isLst .list = true := rfl
@[simp] theorem le_int : dLe (.int i) (.int j) G = .ok (decide (i ≤ j)) G := rfl
@[simp] theorem lt_int : dLt (.int i) (.int j) G = .ok (decide (i < j)) G := rfl
@[simp] theorem le_str : dLe (.str x) (.str y) G = .ok (!decide (y.cps.toList < x.cps.toList)) G := rfl
@[simp] theorem lt_str : dLt (.str x) (.str y) G = .ok (decide (x.cps.toList < y.cps.toList)) G := rfl
@[simp] theorem tru_bl : dTru (.bl b) G = .ok b G := rfl
@[simp] theorem tru_non : dTru .non G = .ok false G := rfl
@[simp] theorem tru_int : dTru (.int i) G = .ok (i != 0) G := rfl
@[simp] theorem tru_tup : dTru (.tup ds) G = .ok (!ds.isEmpty) G := rfl
theorem tru_lst (h : G[n]? = some (.lst ds)) : dTru (.ref n) G = .ok (!ds.isEmpty) G := by simp only [dTru, h]
@[simp] theorem len_tup : dLen (.tup ds) G = .ok (.int ds.length) G := rfl
@[simp] theorem len_scr : dLen (.scr ns) G = .ok (.int ns.length) G := rfl
theorem len_lst (h : G[n]? = some (.lst ds)) : dLen (.ref n) G = .ok (.int ds.length) G := by simp only [dLen, h]
theorem len_str (h : x.length ≤ big) : dLen (.str x) G = .ok (.int x.length) G := by simp only [dLen, if_pos h]
@[simp] theorem add_int : dAdd (.int i) (.int j) G = .ok (.int (i + j)) G := rfl
@[simp] theorem sub_int : dSub (.int i) (.int j) G = .ok (.int (i - j)) G := rfl
theorem add_tup (h : ds.length + es.length ≤ big) : dAdd (.tup ds) (.tup es) G = .ok (.tup (ds ++ es)) G := by simp only [dAdd, if_pos h]
theorem mod_int (h : 0 < j) : dMod (.int i) (.int j) G = .ok (.int (i % j)) G := by simp only [dMod, if_pos h]
theorem div_int (h : 0 < j ∧ j < 1073741824) : dDiv (.int i) (.int j) G = .ok (.int (i / j)) G := by simp only [dDiv, if_pos h]
theorem ix_tup {d : D} (h : atI ds i = some d) : dIx (.tup ds) (.int i) G = .ok d G := by simp only [dIx, h]
theorem ix_scr {k : Int} (h : atI ns i = some k) : dIx (.scr ns) (.int i) G = .ok (.int k) G := by simp only [dIx, h]
theorem ix_lst {d : D} (g : G[n]? = some (.lst ds)) (h : atI ds i = some d) : dIx (.ref n) (.int i) G = .ok d G := by simp only [dIx, g, h]
@[simp] theorem src_tup : dSrc (.tup ds) G = .ok ⟨ds, none⟩ G := rfl
@[simp] theorem src_str : dSrc (.str x) G = .ok ⟨chars x, none⟩ G := rfl
theorem src_lst (h : G[n]? = some (.lst ds)) : dSrc (.ref n) G = .ok ⟨ds, some n⟩ G := by simp only [dSrc, h]
theorem atI_nat {α : Type} {l : List α} (k : Nat) (h : k < l.length) : atI l (k : Int) = l[k]? := by
  unfold atI ixN
  rw [if_pos (by omega), if_pos (by omega)]
  rfl
@[simp] theorem at0 {α : Type} {a : α} {l : List α} : atI (a :: l) 0 = some a := by
  have := atI_nat (l := a :: l) 0 (by simp)
  simpa using this
@[simp] theorem at1 {α : Type} {a b : α} {l : List α} : atI (a :: b :: l) 1 = some b := by
  have := atI_nat (l := a :: b :: l) 1 (by simp)
  simpa using this
@[simp] theorem at2 {α : Type} {a b c : α} {l : List α} : atI (a :: b :: c :: l) 2 = some c := by
  have := atI_nat (l := a :: b :: c :: l) 2 (by simp)
  simpa using this
@[simp] theorem at3 {α : Type} {a b c d : α} {l : List α} : atI (a :: b :: c :: d :: l) 3 = some d := by
  have := atI_nat (l := a :: b :: c :: d :: l) 3 (by simp)
  simpa using this
@[simp] theorem at4 {α : Type} {a b c d e : α} {l : List α} : atI (a :: b :: c :: d :: e :: l) 4 = some e := by
  have := atI_nat (l := a :: b :: c :: d :: e :: l) 4 (by simp)
  simpa using this
@[simp] theorem mid {G0 J : Gp} {o : O} : (G0 ++ o :: J)[G0.length]? = some o := by simp
theorem eq_int : dEq (.int i) (.int j) G = .ok (decide (i = j)) G := by
  simp only [dEq, py, PyData.eqv]
  congr
theorem eq_bl : dEq (.bl b) (.bl c) G = .ok (b == c) G := by
  simp only [dEq, py, PyData.eqv]
theorem eq_str (hx : PyData.strOk x = true) (hy : PyData.strOk y = true) : dEq (.str x) (.str y) G = .ok (decide (x = y)) G := by
  simp only [dEq, py, if_pos hx, if_pos hy, PyData.eqv]
  congr
end
def Step (t : Tg) (tst : En → Gp → R Bool) (elt : ME0) (e : En) (f : D → Option D) (G0 : Gp) (d : D) : Prop := ∀ (acc : List D) (J : Gp), ∃ e1 b J1, t.set d e = some e1 ∧ tst e1 (G0 ++ .lst acc :: J) = .ok b (G0 ++ .lst acc :: J1) ∧
  ((b = false ∧ f d = none) ∨ (b = true ∧ ∃ y J2, f d = some y ∧ elt e1 (G0 ++ .lst acc :: J1) = .ok y (G0 ++ .lst acc :: J2)))
theorem lcGo_ok {t : Tg} {tst : En → Gp → R Bool} {elt : ME0} {s : Src} {e : En} {f : D → Option D} {G0 : Gp} (hs : ∀ X J, s.still (G0 ++ .lst X :: J) = true) : ∀ (ds acc : List D) (J : Gp), acc.length + ds.length ≤ big → (∀ d ∈ ds, Step t tst elt e f G0 d) →
    ∃ J', lcGo t tst elt s G0.length e ds (G0 ++ .lst acc :: J) = .ok (.ref G0.length) (G0 ++ .lst (acc ++ ds.filterMap f) :: J')
  | [], acc, J, _, _ => ⟨J, by simp [lcGo]⟩
  | d :: ds, acc, J, hl, h => by
    obtain ⟨e1, b, J1, h1, h2, h3⟩ := h d List.mem_cons_self acc J
    have hr : ∀ d ∈ ds, Step t tst elt e f G0 d := fun z hz => h z (List.mem_cons_of_mem _ hz)
    rw [List.length_cons] at hl
    rcases h3 with ⟨rfl, h3⟩ | ⟨rfl, y, J2, h3, h4⟩
    · obtain ⟨J', q⟩ := lcGo_ok hs ds acc J1 (by omega) hr
      refine ⟨J', ?_⟩
      rw [lcGo, h1]
      dsimp only
      rw [h2]
      dsimp only
      rw [if_pos (hs _ _), q, List.filterMap_cons, h3]
    · obtain ⟨J', q⟩ := lcGo_ok hs ds (acc ++ [y]) J2 (by rw [List.length_append, List.length_singleton]; omega) hr
      refine ⟨J', ?_⟩
      rw [lcGo, h1]
      dsimp only
      rw [h2]
      dsimp only
      rw [h4]
      dsimp only
      rw [mid]
      dsimp only
      have e3 : (G0 ++ .lst acc :: J2).set G0.length (.lst (acc ++ [y])) = G0 ++ .lst (acc ++ [y]) :: J2 := by simp
      rw [e3, if_pos ⟨by omega, hs _ _⟩, q, List.filterMap_cons, h3]
      simp
theorem still_app {s : Src} {G0 : Gp} (h : s.still G0 = true) (J : Gp) : s.still (G0 ++ J) = true := by
  unfold Src.still at h ⊢
  split
  · rfl
  · rename_i n e
    rw [e] at h
    dsimp only at h
    split at h
    · rename_i ds g
      rw [List.getElem?_append_left (List.getElem?_eq_some_iff.mp g).1, g]
      exact h
    · cases h
theorem mLc_ok {t : Tg} {it : MI0} {tst : En → Gp → R Bool} {elt : ME0} {vs : List Nat} {e : En} {G G1 : Gp} {s : Src} (f : D → Option D) (hi : it e G = .ok s G1) (hs : s.still G1 = true) (hl : s.ds.length ≤ big) (h : ∀ d ∈ s.ds, Step t tst elt (wipeE e vs) f G1 d) :
    ∃ J', mLc t it tst elt vs e G = .ok (.ref G1.length) (G1 ++ .lst (s.ds.filterMap f) :: J') := by
  obtain ⟨J', q⟩ := lcGo_ok (s := s) (t := t) (tst := tst) (elt := elt) (e := wipeE e vs) (f := f) (G0 := G1) (fun X J => still_app hs _) s.ds [] [] (by rw [List.length_nil]; omega) h
  refine ⟨J', ?_⟩
  unfold mLc
  rw [hi]
  dsimp only
  rw [if_pos ⟨hs, still_app hs _⟩, q]
  rfl
end Mm
namespace Mm
open PySem L2 Mw
open PyProof.Rows hiding St
def isWithin (d : D) (lo hi : Int) : Bool := match d with
  | .int i => decide (lo ≤ i) && decide (i ≤ hi)
  | _ => false
/-- a thing that a test of its kind may look at -/
def seen (d : D) (G : Gp) : Bool := match d with
  | .ref n => (match G[n]? with
    | some (.lst _) => true
    | some (.dct _) => true
    | _ => false)
  | .scr _ => false
  | _ => true
def C_is_within : FM := fun ds G => match ds with
  | [d, .int lo, .int hi] => if seen d G = true then .ok (.bl (isWithin d lo hi)) G else .bad
  | _ => .bad
theorem K_is_within {Γ : Fns} {xs : List Nat} : Cleans 3 (fnRun N_is_within.length (eB Γ xs b_is_within)) C_is_within := by
  intro ds G hl hc hlt
  unfold C_is_within
  split
  · rename_i d lo hi
    split
    · rename_i hs
      refine clr_ok ⟨[], ?_⟩ (Nat.le_refl _) hc rfl
      rw [List.append_nil]
      cases d with
      | ref n =>
        unfold seen at hs
        dsimp only at hs
        split at hs
        · rename_i g
          simp [fnRun, b_is_within, startD, N_is_within, isWithin, isi_lst g]
        · rename_i g
          simp [fnRun, b_is_within, startD, N_is_within, isWithin, isi_dct g]
        · cases hs
      | scr ns => cases hs
      | int i =>
        simp [fnRun, b_is_within, startD, N_is_within, isWithin]
        by_cases h : lo ≤ i <;> simp [h]
      | _ => simp [fnRun, b_is_within, startD, N_is_within, isWithin]
    · trivial
  · trivial
def small : Str := "abcdefghijklmnopqrstuvwxyz"
def isKeyS (x : Str) : Bool := decide (1 ≤ x.length) && (decide (x.length ≤ 4) && x.cps.toList.all fun c => decide (c ∈ small.cps.toList))
def isKey (d : D) : Bool := match d with
  | .str x => isKeyS x
  | _ => false
def C_is_key : FM := fun ds G => match ds with
  | [.str x] => if x.length ≤ big then .ok (.bl (isKeyS x)) G else .bad
  | [d] => if seen d G = true then .ok (.bl false) G else .bad
  | _ => .bad
theorem chars_all (x : Str) (p : Nat → Bool) : ((chars x).filterMap fun d => match d with | .str ⟨⟨[c]⟩⟩ => (if p c = true then none else some d) | _ => none).isEmpty = x.cps.toList.all p := by
  unfold chars
  induction x.cps.toList with
  | nil => rfl
  | cons c r ih =>
    rw [List.map_cons, List.filterMap_cons]
    simp only [List.all_cons]
    by_cases h : p c = true
    · rw [h]
      simpa using ih
    · simp [h]
theorem K_is_key {Γ : Fns} {xs : List Nat} : Cleans 1 (fnRun N_is_key.length (eB Γ xs b_is_key)) C_is_key := by
  intro ds G hl hc hlt
  unfold C_is_key
  split
  · rename_i x
    split
    · rename_i hb
      refine clr_ok ?_ (Nat.le_refl _) hc rfl
      by_cases h1 : 1 ≤ x.length ∧ x.length ≤ 4
      · obtain ⟨J, hJ⟩ := mLc_ok (t := .nm 1) (it := miVal (mVar 0)) (tst := mCmpB (notR dIn) (mVar 1) (mC (.str small))) (elt := mVar 1) (vs := [1]) (e := [some (.str x), none]) (G := G) (G1 := G) (s := ⟨chars x, none⟩)
          (fun d => match d with | .str ⟨⟨[c]⟩⟩ => (if decide (c ∈ small.cps.toList) = true then none else some d) | _ => none) rfl rfl (by unfold chars; simp; exact hb) (fun d hd acc J => by
            unfold chars at hd
            obtain ⟨c, hc1, rfl⟩ := List.mem_map.mp hd
            refine ⟨_, !decide (c ∈ small.cps.toList), J, rfl, by simp [wipeE, dIn], ?_⟩
            by_cases hc2 : c ∈ small.cps.toList
            · simp [hc2]
            · simp [hc2, wipeE])
        generalize hL : List.filterMap _ _ = L at hJ
        refine ⟨.lst L :: J, ?_⟩
        have h1' : (1 : Int) ≤ (x.length : Int) := by omega
        have h2' : (x.length : Int) ≤ 4 := by omega
        have hE : L.isEmpty = isKeyS x := by
          rw [← hL]
          refine (chars_all x fun c => decide (c ∈ small.cps.toList)).trans ?_
          unfold isKeyS
          simp [h1.1, h1.2]
        unfold small at hJ
        simp [fnRun, b_is_key, startD, N_is_key, fLen, len_str hb, h1', h2', hJ, tru_lst (G := G ++ O.lst L :: J) mid, hE]
      · have hk : isKeyS x = false := by
          unfold isKeyS
          simp
          intro a b
          exact absurd ⟨a, b⟩ h1
        refine ⟨[], ?_⟩
        rw [hk]
        by_cases h2 : (1 : Int) ≤ (x.length : Int)
        · have h3 : ¬ ((x.length : Int) ≤ 4) := by omega
          simp [fnRun, b_is_key, startD, N_is_key, fLen, len_str hb, h2, h3]
        · simp [fnRun, b_is_key, startD, N_is_key, fLen, len_str hb, h2]
    · trivial
  · rename_i d hd
    split
    · rename_i hs
      refine clr_ok ⟨[], ?_⟩ (Nat.le_refl _) hc rfl
      rw [List.append_nil]
      cases d with
      | ref n =>
        unfold seen at hs
        dsimp only at hs
        split at hs
        · rename_i g
          simp [fnRun, b_is_key, startD, N_is_key, isi_lst g]
        · rename_i g
          simp [fnRun, b_is_key, startD, N_is_key, isi_dct g]
        · cases hs
      | scr ns => cases hs
      | str x => exact absurd rfl (hd x)
      | _ => simp [fnRun, b_is_key, startD, N_is_key]
    · trivial
  · trivial
/-- an item that the tests may look at -/
def okE (G : Gp) (d : D) : Bool := match d with
  | .str x => decide (x.length ≤ 1000) && PyData.strOk x
  | d => seen d G
theorem okE_seen {G : Gp} {d : D} (h : okE G d = true) : seen d G = true := by
  cases d <;> first | rfl | exact h
theorem key_eq {G : Gp} {d : D} (h : okE G d = true) : C_is_key [d] G = .ok (.bl (isKey d)) G := by
  cases d with
  | str x =>
    have h2 := (ba h).1
    have h3 : x.length ≤ big := Nat.le_trans (of_decide_eq_true h2) (by decide)
    show (if x.length ≤ big then R.ok (D.bl (isKeyS x)) G else .bad) = _
    rw [if_pos h3]
    rfl
  | ref n => show (if seen (.ref n) G = true then R.ok (D.bl false) G else .bad) = _; rw [if_pos (okE_seen h)]; rfl
  | scr n => cases h
  | _ => rfl
theorem within_eq {G : Gp} {d : D} {lo hi : Int} (h : okE G d = true) : C_is_within [d, .int lo, .int hi] G = .ok (.bl (isWithin d lo hi)) G := by
  show (if seen d G = true then R.ok (D.bl (isWithin d lo hi)) G else .bad) = _
  rw [if_pos (okE_seen h)]
def isDeed (d : D) : Bool := match d with
  | .tup (.str x :: r) => if x = "none" then r.isEmpty else if x = "drop" then (match r with
      | [k] => isKey k
      | _ => false)
    else (decide (x = "put") || decide (x = "add")) && (match r with
      | [k, v] => isKey k && isWithin v 0 9999
      | _ => false)
  | _ => false
def okT (G : Gp) (d : D) : Bool := match d with
  | .tup ds => ds.all (okE G)
  | d => okE G d
def C_is_deed : FM := fun ds G => match ds with
  | [d] => if okT G d = true then .ok (.bl (isDeed d)) G else .bad
  | _ => .bad
theorem in2 {G : Gp} {x a b : Str} (hx : PyData.strOk x = true) (ha : PyData.strOk a = true) (hb : PyData.strOk b = true) : dIn (.str x) (.tup [.str a, .str b]) G = .ok (decide (x = a) || decide (x = b)) G := by
  simp [dIn, py, hx, ha, hb, flatD, PyData.eqv]
  congr 1
  · exact decide_eq_decide.mpr eq_comm
  · exact decide_eq_decide.mpr eq_comm
theorem K_is_deed {Γ : Fns} {xs : List Nat} (h0 : Kn Γ 0 3 C_is_within) (h1 : Kn Γ 1 1 C_is_key) : Cleans 1 (fnRun N_is_deed.length (eB Γ xs b_is_deed)) C_is_deed := by
  intro ds G hl hc hlt
  unfold C_is_deed
  split
  · rename_i d
    split
    · rename_i hs
      refine clr_ok ⟨[], ?_⟩ (Nat.le_refl _) hc rfl
      rw [List.append_nil]
      cases d with
      | tup ds =>
        cases ds with
        | nil => simp [fnRun, b_is_deed, startD, N_is_deed, isDeed]
        | cons x r =>
          have hs' : ((x :: r).all (okE G)) = true := hs
          rw [List.all_cons, Bool.and_eq_true] at hs'
          obtain ⟨hx, hr⟩ := hs'
          cases x with
          | str x =>
            have hx2 := (ba hx).2
            have o1 : PyData.strOk "none" = true := by decide +kernel
            have o2 : PyData.strOk "drop" = true := by decide +kernel
            have o3 : PyData.strOk "put" = true := by decide +kernel
            have o4 : PyData.strOk "add" = true := by decide +kernel
            by_cases e1 : x = "none"
            · subst e1
              cases r <;> simp [fnRun, b_is_deed, startD, N_is_deed, isDeed, ix_tup, eq_str, fLen, eq_int, hx2]
              omega
            · by_cases e2 : x = "drop"
              · subst e2
                match r, hr with
                | [], _ => simp [fnRun, b_is_deed, startD, N_is_deed, isDeed, ix_tup, eq_str, fLen, eq_int, hx2, o1, e1]
                | [k], hr =>
                  have hk : okE G k = true := by simpa using hr
                  simp [fnRun, b_is_deed, startD, N_is_deed, isDeed, ix_tup, eq_str, fLen, eq_int, hx2, o1, e1, h1.1, h1.2, key_eq hk]
                | k :: l :: r, _ =>
                  have hn : ¬ ((r.length : Int) + 1 + 1 + 1 = 2) := by omega
                  simp [fnRun, b_is_deed, startD, N_is_deed, isDeed, ix_tup, eq_str, fLen, eq_int, hx2, o1, e1, hn]
              · by_cases e3 : x = "put" ∨ x = "add"
                · have e3' : (decide (x = "put") || decide (x = "add")) = true := by simpa using e3
                  match r, hr with
                  | [], _ => simp [fnRun, b_is_deed, startD, N_is_deed, isDeed, ix_tup, eq_str, fLen, eq_int, hx2, o1, o2, e1, e2, in2 hx2 o3 o4, e3']
                  | [k], hr => simp [fnRun, b_is_deed, startD, N_is_deed, isDeed, ix_tup, eq_str, fLen, eq_int, hx2, o1, o2, e1, e2, in2 hx2 o3 o4, e3']
                  | [k, v], hr =>
                    have hk : okE G k = true ∧ okE G v = true := by simpa using hr
                    simp [fnRun, b_is_deed, startD, N_is_deed, isDeed, ix_tup, eq_str, fLen, eq_int, hx2, o1, o2, e1, e2, in2 hx2 o3 o4, e3', h1.1, h1.2, key_eq hk.1, h0.1, h0.2, within_eq hk.2]
                    cases isKey k <;> simp
                  | k :: l :: m :: r, _ =>
                    have hn : ¬ ((r.length : Int) + 1 + 1 + 1 + 1 = 3) := by omega
                    simp [fnRun, b_is_deed, startD, N_is_deed, isDeed, ix_tup, eq_str, fLen, eq_int, hx2, o1, o2, e1, e2, in2 hx2 o3 o4, e3', hn]
                · have e3' : (decide (x = "put") || decide (x = "add")) = false := by simpa using e3
                  simp [fnRun, b_is_deed, startD, N_is_deed, isDeed, ix_tup, eq_str, fLen, eq_int, hx2, o1, o2, e1, e2, in2 hx2 o3 o4, e3']
          | ref n =>
            have hx' := okE_seen hx
            unfold seen at hx'
            dsimp only at hx'
            split at hx'
            · rename_i g
              simp [fnRun, b_is_deed, startD, N_is_deed, isi_lst g, isDeed, ix_tup]
            · rename_i g
              simp [fnRun, b_is_deed, startD, N_is_deed, isi_dct g, isDeed, ix_tup]
            · cases hx'
          | scr n => cases hx
          | _ => simp [fnRun, b_is_deed, startD, N_is_deed, isDeed, ix_tup]
      | ref n =>
        unfold okT okE seen at hs
        dsimp only at hs
        split at hs
        · rename_i g
          simp [fnRun, b_is_deed, startD, N_is_deed, isi_lst g, isDeed]
        · rename_i g
          simp [fnRun, b_is_deed, startD, N_is_deed, isi_dct g, isDeed]
        · cases hs
      | scr ns => cases hs
      | _ => simp [fnRun, b_is_deed, startD, N_is_deed, isDeed]
    · trivial
  · trivial
end Mm
namespace Mm
open PySem L2 Mw
open PyProof.Rows hiding St
def isPair (d : D) : Bool := match d with
  | .tup [k, v] => isKey k && isWithin v 0 9999
  | _ => false
def keyOf (d : D) : Str := match d with
  | .tup (.str x :: _) => x
  | _ => ""
def ltS (x y : Str) : Bool := decide (x.cps.toList < y.cps.toList)
def ascend : List D → Bool
  | a :: b :: r => ltS (keyOf a) (keyOf b) && ascend (b :: r)
  | _ => true
def areThings (d : D) : Bool := match d with
  | .tup ds => ds.all isPair && ascend ds
  | _ => false
def okTs (G : Gp) (d : D) : Bool := match d with
  | .tup ds => ds.all (okT G) && decide (ds.length ≤ 1000)
  | d => okE G d
def C_are_things : FM := fun ds G => match ds with
  | [d] => if okTs G d = true then .ok (.bl (areThings d)) G else .bad
  | _ => .bad
/-- a walk that gives False at the first that fails -/
def lastD (ds : List D) (w : Option D) : Option D := ds.getLast?.or w
theorem set_self {e : En} {i : Nat} : e.set i e[i]?.join = e := by
  apply List.ext_getElem?
  intro j
  by_cases hj : j = i
  · subst hj
    by_cases hl : j < e.length
    · rw [List.getElem?_set_self hl, List.getElem?_eq_getElem hl]
      rfl
    · rw [List.set_eq_of_length_le (by omega)]
  · rw [List.getElem?_set_ne (Ne.symm hj)]
theorem for_chk {i : Nat} {it : MI0} {B : MS0} {e : En} {G : Gp} {s : Src} (p : D → Bool) (hi : it e G = .ok s G) (hs : s.still G = true) (hB : ∀ d ∈ s.ds, ∀ w, B ((e.set i w).set i (some d)) G = if p d = true then .nx ((e.set i w).set i (some d)) G else .rt (.bl false) G) :
    mFor (.nm i) it B e G = if s.ds.all p = true then .nx (e.set i (lastD s.ds e[i]?.join)) G else .rt (.bl false) G := by
  unfold mFor
  rw [hi]
  dsimp only
  rw [if_pos hs]
  have key : ∀ (ds : List D) (w : Option D) (_ : ∀ d ∈ ds, d ∈ s.ds), forGo (.nm i) B s ds (e.set i w) G = if ds.all p = true then .nx (e.set i (lastD ds w)) G else .rt (.bl false) G := by
    intro ds
    induction ds with
    | nil => intro w _; rfl
    | cons d ds ih =>
      intro w hm
      rw [forGo]
      simp only [Tg.set]
      rw [hB d (hm d List.mem_cons_self) w]
      rw [List.all_cons]
      by_cases hp : p d = true
      · rw [if_pos hp, hp]
        dsimp only
        rw [if_pos hs, List.set_set, ih (some d) fun z hz => hm z (List.mem_cons_of_mem _ hz)]
        simp only [Bool.true_and]
        have : lastD (d :: ds) w = lastD ds (some d) := by
          unfold lastD
          cases ds with
          | nil => rfl
          | cons a r =>
            rw [List.getLast?_cons_cons]
            cases h : (a :: r).getLast? with
            | none => simp at h
            | some z => rfl
        rw [this]
      · rw [if_neg hp]
        simp [hp]
  have := key s.ds e[i]?.join (fun _ h => h)
  rw [set_self] at this
  exact this
def fAsc (ds : List D) (d : D) : Option D := match d with
  | .int i => if ltS (keyOf (ds.getD (i.toNat - 1) .non)) (keyOf (ds.getD i.toNat .non)) = true then none else some d
  | _ => none
theorem isPair_inv {d : D} (h : isPair d = true) : ∃ x v, d = .tup [.str x, v] := by
  unfold isPair at h
  split at h
  · rename_i k v
    cases k with
    | str x => exact ⟨x, v, rfl⟩
    | _ => cases h
  · cases h
theorem asc_iff : ∀ ds : List D, ascend ds = true ↔ ∀ k, k + 1 < ds.length → ltS (keyOf (ds.getD k .non)) (keyOf (ds.getD (k + 1) .non)) = true
  | [] => by simp [ascend]
  | [a] => by simp [ascend]
  | a :: b :: r => by
    rw [ascend, Bool.and_eq_true, asc_iff (b :: r)]
    constructor
    · intro h k hk
      cases k with
      | zero => exact h.1
      | succ k => exact h.2 k (by simpa using hk)
    · intro h
      exact ⟨h 0 (by simp), fun k hk => h (k + 1) (by simpa using hk)⟩
theorem asc_eq (ds : List D) : ((rangeD 1 (ds.length - 1)).filterMap (fAsc ds)).isEmpty = ascend ds := by
  rw [Bool.eq_iff_iff, asc_iff, List.isEmpty_iff, List.filterMap_eq_nil_iff]
  unfold rangeD
  constructor
  · intro h k hk
    have := h (.int (1 + (k : Int))) (List.mem_map.mpr ⟨k, List.mem_range.mpr (by omega), rfl⟩)
    unfold fAsc at this
    dsimp only at this
    rw [show (1 + (k : Int)).toNat - 1 = k by omega, show (1 + (k : Int)).toNat = k + 1 by omega] at this
    split at this
    · assumption
    · cases this
  · intro h d hd
    obtain ⟨k, hk, rfl⟩ := List.mem_map.mp hd
    have := h k (by have := List.mem_range.mp hk; omega)
    unfold fAsc
    dsimp only
    rw [show (1 + (k : Int)).toNat - 1 = k by omega, show (1 + (k : Int)).toNat = k + 1 by omega, if_pos this]
theorem K_are_things {Γ : Fns} {xs : List Nat} (h0 : Kn Γ 0 3 C_is_within) (h1 : Kn Γ 1 1 C_is_key) : Cleans 1 (fnRun N_are_things.length (eB Γ xs b_are_things)) C_are_things := by
  intro ds G hl hc hlt
  unfold C_are_things
  split
  · rename_i d
    split
    · rename_i hs
      refine clr_ok ?_ (Nat.le_refl _) hc rfl
      cases d with
      | tup ds =>
        obtain ⟨hs1, hs2⟩ := ba (show (ds.all (okT G) && decide (ds.length ≤ 1000)) = true from hs)
        simp [fnRun, b_are_things, startD, N_are_things]
        rw [for_chk (s := ⟨ds, none⟩) isPair rfl rfl ?hB]
        case hB =>
          intro d hd w
          have hd' : okT G d = true := List.all_eq_true.mp hs1 d hd
          cases d with
          | tup l =>
            have hl' : l.all (okE G) = true := hd'
            match l, hl' with
            | [], _ => simp [isPair, fLen, eq_int]
            | [k], _ => simp [isPair, fLen, eq_int]
            | [k, v], hkv =>
              have hk : okE G k = true ∧ okE G v = true := by simpa using hkv
              simp [isPair, fLen, eq_int, ix_tup, h1.1, h1.2, key_eq hk.1, h0.1, h0.2, within_eq hk.2]
              cases isKey k <;> cases isWithin v 0 9999 <;> simp
            | k :: l :: m :: r, _ =>
              have hn : ¬ ((r.length : Int) + 1 + 1 + 1 = 2) := by omega
              simp [isPair, fLen, eq_int, hn]
          | ref n =>
            have hx' := okE_seen (show okE G (.ref n) = true from hd')
            unfold seen at hx'
            dsimp only at hx'
            split at hx'
            · rename_i g
              simp [isPair, isi_lst g]
            · rename_i g
              simp [isPair, isi_dct g]
            · cases hx'
          | scr n => cases hd'
          | _ => simp [isPair]
        by_cases hp : ds.all isPair = true
        · rw [if_pos hp]
          simp
          generalize hm : mLc (.nm 2) _ _ _ [2] _ _ = r
          have hr : ∃ J, r = .ok (.ref G.length) (G ++ .lst ((rangeD 1 (ds.length - 1)).filterMap (fAsc ds)) :: J) := by
            rw [← hm]
            refine mLc_ok (s := ⟨rangeD 1 (ds.length - 1), none⟩) (fAsc ds) ?_ rfl ?_ ?_
            · have hn2 := of_decide_eq_true hs2
              have e1 : (-100000 < (ds.length : Int) ∧ (ds.length : Int) < 100000) := by omega
              have e2 : ((ds.length : Int) - 1).toNat = ds.length - 1 := by omega
              simp [fLen, e1, e2]
            · have hn2 := of_decide_eq_true hs2
              simp [rangeD]
              omega
            · intro d hd acc J
              obtain ⟨k, hk, rfl⟩ := List.mem_map.mp hd
              have hk' : k + 1 < ds.length := by have := List.mem_range.mp hk; omega
              obtain ⟨x, v, e1⟩ := isPair_inv (List.all_eq_true.mp hp ds[k] (List.getElem_mem _))
              obtain ⟨y, w, e2⟩ := isPair_inv (List.all_eq_true.mp hp ds[k + 1] (List.getElem_mem _))
              have a1 : atI ds (1 + (k : Int) - 1) = some (.tup [.str x, v]) := by
                rw [show (1 + (k : Int) - 1) = ((k : Nat) : Int) by omega, atI_nat k (by omega), List.getElem?_eq_getElem (by omega), e1]
              have a2 : atI ds (1 + (k : Int)) = some (.tup [.str y, w]) := by
                rw [show (1 + (k : Int)) = ((k + 1 : Nat) : Int) by omega, atI_nat (k + 1) (by omega), List.getElem?_eq_getElem (by omega), e2]
              have hf : fAsc ds (.int (1 + (k : Int))) = if ltS x y = true then none else some (.int (1 + (k : Int))) := by
                unfold fAsc
                dsimp only
                rw [show (1 + (k : Int)).toNat - 1 = k by omega, show (1 + (k : Int)).toNat = k + 1 by omega, List.getD_eq_getElem?_getD, List.getD_eq_getElem?_getD, List.getElem?_eq_getElem (by omega), List.getElem?_eq_getElem (by omega), e1, e2]
                rfl
              refine ⟨_, !ltS x y, J, rfl, ?_, ?_⟩
              · simp [wipeE, ix_tup a1, ix_tup a2, ix_tup, ltS]
              · rw [hf]
                cases ltS x y
                · exact .inr ⟨rfl, _, J, rfl, by simp [wipeE]⟩
                · exact .inl ⟨rfl, rfl⟩
          obtain ⟨J, rfl⟩ := hr
          refine ⟨.lst ((rangeD 1 (ds.length - 1)).filterMap (fAsc ds)) :: J, ?_⟩
          have hE : areThings (.tup ds) = ((rangeD 1 (ds.length - 1)).filterMap (fAsc ds)).isEmpty := by
            rw [asc_eq]
            show (ds.all isPair && ascend ds) = ascend ds
            rw [hp, Bool.true_and]
          rw [hE]
          simp only [R.bind_ok, tru_lst mid, Bool.not_not]
        · rw [if_neg hp]
          exact ⟨[], by simp [areThings, hp]⟩
      | ref n =>
        refine ⟨[], ?_⟩
        unfold okTs okE seen at hs
        dsimp only at hs
        split at hs
        · rename_i g
          simp [fnRun, b_are_things, startD, N_are_things, isi_lst g, areThings]
        · rename_i g
          simp [fnRun, b_are_things, startD, N_are_things, isi_dct g, areThings]
        · cases hs
      | scr ns => cases hs
      | _ => exact ⟨[], by simp [fnRun, b_are_things, startD, N_are_things, areThings]⟩
    · trivial
  · trivial
end Mm
namespace Mm
open PySem L2 Mw
open PyProof.Rows hiding St
abbrev KV := Str × Int
def kvD (e : KV) : Key × D := (.inr e.1, .int e.2)
def putL (l : List KV) (k : Str) (v : Int) : List KV := if (l.any fun e => decide (e.1 = k)) = true then l.map (fun e => if e.1 = k then (e.1, v) else e) else l ++ [(k, v)]
def dropL (l : List KV) (k : Str) : List KV := l.filter fun e => decide (e.1 ≠ k)
def getL (l : List KV) (k : Str) : Option Int := (l.find? fun e => decide (e.1 = k)).map (·.2)
abbrev keysL (l : List KV) : List Str := l.map (·.1)
theorem put_kv (l : List KV) (k : Str) (v : Int) : putD (l.map kvD) (.inr k) (.int v) = (putL l k v).map kvD := by
  unfold putD putL
  have e : ((l.map kvD).any fun kv => decide (kv.1 = .inr k)) = l.any fun e => decide (e.1 = k) := by
    rw [List.any_map]
    congr 1
    funext x
    show decide ((Sum.inr x.1 : Key) = Sum.inr k) = decide (x.1 = k)
    simp
  rw [e]
  split
  · rw [List.map_map, List.map_map]
    congr 1
    funext x
    show (if (Sum.inr x.1 : Key) = Sum.inr k then _ else _) = kvD (if x.1 = k then _ else _)
    by_cases h : x.1 = k
    · rw [if_pos h, if_pos (by rw [h])]; rfl
    · rw [if_neg h, if_neg (by simpa using h)]
  · rw [List.map_append]; rfl
theorem drop_kv (l : List KV) (k : Str) : dropD (l.map kvD) (.inr k) = (dropL l k).map kvD := by
  unfold dropD dropL
  rw [List.filter_map]
  congr 1
  apply List.filter_congr
  intro x _
  show decide ((Sum.inr x.1 : Key) ≠ Sum.inr k) = decide (x.1 ≠ k)
  simp
theorem get_kv (l : List KV) (k : Str) : getK (l.map kvD) (.inr k) = (getL l k).map .int := by
  unfold getK getL
  rw [List.find?_map, Option.map_map, Option.map_map]
  have : ((fun kv : Key × D => decide (kv.1 = .inr k)) ∘ kvD) = fun e : KV => decide (e.1 = k) := by
    funext x
    show decide ((Sum.inr x.1 : Key) = Sum.inr k) = decide (x.1 = k)
    simp
  rw [this]
  rfl
theorem pairs_kv : ∀ l : List KV, pairs? (l.map Mw.pairD) = some (l.map kvD)
  | [] => rfl
  | e :: l => by
    rw [List.map_cons, Mw.pairD, pairs?]
    simp only [keyD, pairs_kv l]
    rfl
theorem any_key (l : List KV) (k : Str) : (l.any fun e => decide (e.1 = k)) = decide (k ∈ keysL l) := by
  rw [Bool.eq_iff_iff]
  simp
theorem merge_kv (l : List KV) (h : (keysL l).Nodup) : mergeD [] (l.map kvD) = l.map kvD := by
  have key : ∀ (l a : List KV), (keysL (a ++ l)).Nodup → mergeD (a.map kvD) (l.map kvD) = (a ++ l).map kvD := by
    intro l
    induction l with
    | nil => intro a _; simp [mergeD]
    | cons e l ih =>
      intro a hn
      unfold mergeD at ih ⊢
      rw [List.map_cons, List.foldl_cons]
      have e1 : putD (a.map kvD) (kvD e).1 (kvD e).2 = (a ++ [e]).map kvD := by
        show putD (a.map kvD) (.inr e.1) (.int e.2) = _
        rw [put_kv]
        unfold putL
        have : (a.any fun x => decide (x.1 = e.1)) = false := by
          rw [any_key]
          simp only [keysL, List.map_append, List.map_cons, List.nodup_append] at hn
          simp only [decide_eq_false_iff_not]
          exact fun z => hn.2.2 _ z _ List.mem_cons_self rfl
        rw [this]
        rfl
      rw [e1, ih (a ++ [e]) (by simpa using hn)]
      simp
  exact key l [] h
theorem strs_kv : ∀ l : List KV, strs? ((l.map kvD).map (·.1)) = some (keysL l)
  | [] => rfl
  | e :: l => by
    rw [List.map_cons, List.map_cons]
    show (strs? ((l.map kvD).map (·.1))).map (e.1 :: ·) = _
    rw [strs_kv l]
    rfl
theorem kvI_kv : ∀ l : List KV, kvI? (l.map kvD) = some l
  | [] => rfl
  | e :: l => by
    rw [List.map_cons]
    show (kvI? (l.map kvD)).map ((e.1, e.2) :: ·) = _
    rw [kvI_kv l]
    rfl
theorem get_mem {l : List KV} (h : (keysL l).Nodup) {e : KV} (he : e ∈ l) : getL l e.1 = some e.2 := by
  unfold getL
  induction l with
  | nil => cases he
  | cons a l ih =>
    rw [List.find?_cons]
    simp only [keysL, List.map_cons, List.nodup_cons] at h
    by_cases ha : a.1 = e.1
    · rcases List.mem_cons.mp he with q | q
      · subst q; simp
      · exact absurd (List.mem_map.mpr ⟨e, q, ha.symm⟩) h.1
    · simp only [ha, decide_false]
      rcases List.mem_cons.mp he with q | q
      · exact absurd (by rw [q]) ha
      · exact ih h.2 q
theorem sortKV_perm (l : List KV) : (sortKV l).Perm l := List.mergeSort_perm _ _
theorem sortKV_pw (l : List KV) : (sortKV l).Pairwise (fun a b => leKV a b = true) := List.pairwise_mergeSort (le := leKV) (fun _ _ _ h1 h2 => leS_trans h1 h2) (fun a b => leS_total a.1 b.1) l
theorem kv_unique {a b : List KV} (h : a.Perm b) (hn : (keysL b).Nodup) (s : a.Pairwise (fun a b => leKV a b = true)) : a = sortKV b := by
  have h' : a.Perm (sortKV b) := h.trans (sortKV_perm b).symm
  refine List.Perm.eq_of_pairwise (fun x y hx hy h1 h2 => ?_) s (sortKV_pw b) h'
  have e : x.1 = y.1 := leS_anti h1 h2
  have hx2 : x ∈ b := h.mem_iff.mp hx
  have hy2 : y ∈ b := (sortKV_perm b).mem_iff.mp hy
  have g1 := get_mem hn hx2
  have g2 := get_mem hn hy2
  rw [e, g2] at g1
  exact Prod.ext e (Option.some.inj g1).symm
theorem sort_get {l : List KV} (h : (keysL l).Nodup) : (sortS (keysL l)).map (fun k => (k, (getL l k).getD 0)) = sortKV l := by
  have hp : (sortS (keysL l)).Perm (keysL l) := List.mergeSort_perm _ _
  refine kv_unique ?_ h ?_
  · refine (hp.map _).trans ?_
    have : (keysL l).map (fun k => (k, (getL l k).getD 0)) = l := by
      rw [List.map_map]
      refine (List.map_congr_left fun e he => ?_).trans (List.map_id l)
      show (e.1, (getL l e.1).getD 0) = e
      rw [get_mem h he]
      rfl
    rw [this]
  · rw [List.pairwise_map]
    exact sortS_pw _
theorem sortKV_nodup {l : List KV} (h : (keysL l).Nodup) : (keysL (sortKV l)).Nodup := ((sortKV_perm l).map _).nodup_iff.mpr h
inductive Dd where
  | non | put (k : Str) (v : Int) | add (k : Str) (v : Int) | drop (k : Str)
def ddD : Dd → D
  | .non => .tup [.str "none"]
  | .put k v => .tup [.str "put", .str k, .int v]
  | .add k v => .tup [.str "add", .str k, .int v]
  | .drop k => .tup [.str "drop", .str k]
def dd? : D → Option Dd
  | .tup [.str x] => if x = "none" then some .non else none
  | .tup [.str x, .str k] => if x = "drop" then some (.drop k) else none
  | .tup [.str x, .str k, .int v] => if x = "put" then some (.put k v) else if x = "add" then some (.add k v) else none
  | _ => none
theorem dd_inv {d : D} {a : Dd} (h : dd? d = some a) : d = ddD a := by
  unfold dd? at h
  split at h
  · split at h
    · rename_i e; cases h; rw [e]; rfl
    · cases h
  · split at h
    · rename_i e; cases h; rw [e]; rfl
    · cases h
  · split at h
    · rename_i e; cases h; rw [e]; rfl
    · split at h
      · rename_i e; cases h; rw [e]; rfl
      · cases h
  · cases h
theorem dd_D (a : Dd) : dd? (ddD a) = some a := by
  cases a with
  | non => rfl
  | put k v =>
    show (if (Str.ofString "put") = "put" then some (Dd.put k v) else if (Str.ofString "put") = "add" then some (Dd.add k v) else none) = _
    rw [if_pos rfl]
  | add k v =>
    show (if (Str.ofString "add") = "put" then some (Dd.put k v) else if (Str.ofString "add") = "add" then some (Dd.add k v) else none) = _
    rw [if_neg (by decide +kernel), if_pos rfl]
  | drop k =>
    show (if (Str.ofString "drop") = "drop" then some (Dd.drop k) else none) = _
    rw [if_pos rfl]
def kvs? : List D → Option (List KV)
  | [] => some []
  | .tup [.str x, .int i] :: r => (kvs? r).map ((x, i) :: ·)
  | _ :: _ => none
theorem kvs_inv : ∀ {ds : List D} {l : List KV}, kvs? ds = some l → ds = l.map Mw.pairD
  | [], l, h => by cases h; rfl
  | d :: ds, l, h => by
    unfold kvs? at h
    split at h
    · cases ‹_ :: _ = []›
    · rename_i x i r q
      cases q
      cases e : kvs? ds with
      | none => rw [e] at h; cases h
      | some m =>
        rw [e] at h
        cases h
        rw [kvs_inv e]
        rfl
    · cases h
theorem kvs_D : ∀ l : List KV, kvs? (l.map Mw.pairD) = some l
  | [] => rfl
  | e :: l => by
    show (kvs? (l.map Mw.pairD)).map ((e.1, e.2) :: ·) = _
    rw [kvs_D l]
    rfl
def app (l : List KV) : Dd → List KV
  | .non => l
  | .put k v => putL l k v
  | .add k v => putL l k (((getL l k).getD 0 + v) % 10000)
  | .drop k => dropL l k
theorem putL_keys {l : List KV} {k : Str} {v : Int} : keysL (putL l k v) = if k ∈ keysL l then keysL l else keysL l ++ [k] := by
  unfold putL
  rw [any_key]
  by_cases h : k ∈ keysL l
  · rw [if_pos h, if_pos (decide_eq_true h)]
    show (List.map _ (List.map _ l)) = _
    rw [List.map_map]
    apply List.map_congr_left
    intro e _
    show (if e.1 = k then (e.1, v) else e).1 = e.1
    split <;> rfl
  · rw [if_neg h, if_neg (by simpa using h)]
    simp
theorem app_nodup {l : List KV} (h : (keysL l).Nodup) (d : Dd) : (keysL (app l d)).Nodup := by
  have hp : ∀ k v, (keysL (putL l k v)).Nodup := fun k v => by
    rw [putL_keys]
    split
    · exact h
    · rename_i hk
      rw [List.nodup_append]
      exact ⟨h, by simp, fun a ha b hb => by rw [List.mem_singleton.mp hb]; intro z; exact hk (z ▸ ha)⟩
  cases d with
  | non => exact h
  | put k v => exact hp k v
  | add k v => exact hp k _
  | drop k => exact (List.filter_sublist.map _).nodup h
theorem putL_len {l : List KV} {k : Str} {v : Int} : (putL l k v).length ≤ l.length + 1 := by
  have := congrArg List.length (putL_keys (l := l) (k := k) (v := v))
  simp only [keysL, List.length_map] at this
  split at this <;> simp at this <;> omega
theorem app_len (l : List KV) (d : Dd) : (app l d).length ≤ l.length + 1 := by
  cases d with
  | non => exact Nat.le_succ _
  | put k v => exact putL_len
  | add k v => exact putL_len
  | drop k => exact Nat.le_trans (List.length_filter_le _ _) (Nat.le_succ _)
theorem putL_perm {a b : List KV} (h : a.Perm b) (hn : (keysL a).Nodup) (k : Str) (v : Int) : (putL a k v).Perm (putL b k v) := by
  unfold putL
  rw [any_key, any_key]
  have e : (k ∈ keysL a) ↔ (k ∈ keysL b) := (h.map _).mem_iff
  simp only [decide_eq_true_eq, e]
  split
  · exact h.map _
  · exact h.append_right _
theorem getL_perm {a b : List KV} (h : a.Perm b) (hn : (keysL a).Nodup) (k : Str) : getL a k = getL b k := by
  have hn2 : (keysL b).Nodup := (h.map _).nodup_iff.mp hn
  cases ha : getL a k with
  | some v =>
    unfold getL at ha
    rw [Option.map_eq_some_iff] at ha
    obtain ⟨e, h1, rfl⟩ := ha
    have h2 := List.find?_some h1
    have h3 := List.mem_of_find?_eq_some h1
    rw [← of_decide_eq_true h2, get_mem hn2 (h.mem_iff.mp h3)]
  | none =>
    cases hb : getL b k with
    | none => rfl
    | some v =>
      unfold getL at hb
      rw [Option.map_eq_some_iff] at hb
      obtain ⟨e, h1, rfl⟩ := hb
      have h2 := List.find?_some h1
      have h3 := List.mem_of_find?_eq_some h1
      rw [← of_decide_eq_true h2, get_mem hn (h.mem_iff.mpr h3)] at ha
      cases ha
theorem app_perm {a b : List KV} (h : a.Perm b) (hn : (keysL a).Nodup) (d : Dd) : (app a d).Perm (app b d) := by
  cases d with
  | non => exact h
  | put k v => exact putL_perm h hn k v
  | add k v =>
    show (putL a k _).Perm (putL b k _)
    rw [getL_perm h hn]
    exact putL_perm h hn k _
  | drop k => exact h.filter _
def afterL (l : List KV) (d : Dd) : List KV := sortKV (app l d)
/-- one by one, or all at once -/
theorem afterL_fold (ds : List Dd) (l m : List KV) (h : l.Perm m) (hn : (keysL l).Nodup) : (ds.foldl afterL l).Perm (ds.foldl app m) := by
  induction ds generalizing l m with
  | nil => exact h
  | cons d ds ih => exact ih _ _ ((sortKV_perm _).trans (app_perm h hn d)) (sortKV_nodup (app_nodup hn d))
end Mm
namespace Mm
open PySem L2 Mw
open PyProof.Rows hiding St
@[simp] theorem set_mid {G0 J : Gp} {o u : O} : (G0 ++ o :: J).set G0.length u = G0 ++ u :: J := by simp
theorem lt_pairs {m : Nat} (l : List KV) : ltD m (.tup (l.map Mw.pairD)) = true := by
  rw [ltD, ltDs_all]
  intro d hd
  obtain ⟨e, _, rfl⟩ := List.mem_map.mp hd
  rfl
def C_after : FM := fun ds G => match ds with
  | [.tup ts, d] => (match kvs? ts, dd? d with
    | some l, some a => if (keysL l).Nodup ∧ l.length < 60 then .ok (.tup ((afterL l a).map Mw.pairD)) G else .bad
    | _, _ => .bad)
  | _ => .bad
/-- tuple([(key, found[key]) for key in sorted(found)]) -/
theorem sorted_tail {P : Gp} {m : List KV} {t d w z : Option D} (hn : (keysL m).Nodup) (hl : m.length < 64) : ∃ J, mLc (.nm 3) (miVal (mCall fSorted (maCons (mVar 2) maNil))) mYes (mTup (maCons (mVar 3) (maCons (mBin dIx (mVar 2) (mVar 3)) maNil))) [3] [t, d, some (.ref P.length), w, z] (P ++ [.dct (m.map kvD)]) =
    .ok (.ref (P.length + 2)) ((P ++ [.dct (m.map kvD), .lst ((sortS (keysL m)).map .str)]) ++ .lst ((sortKV m).map Mw.pairD) :: J) := by
  have hlen : (P ++ [.dct (m.map kvD), .lst ((sortS (keysL m)).map .str)] : Gp).length = P.length + 2 := by simp
  have h1 : (P ++ [.dct (m.map kvD), .lst ((sortS (keysL m)).map .str)] : Gp)[P.length + 1]? = some (.lst ((sortS (keysL m)).map .str)) := by simp
  have hsl : (sortS (keysL m)).length = m.length := by
    have := (List.mergeSort_perm (keysL m) leS).length_eq
    simpa [sortS] using this
  obtain ⟨J, hJ⟩ := mLc_ok (t := .nm 3) (it := miVal (mCall fSorted (maCons (mVar 2) maNil))) (tst := mYes) (elt := mTup (maCons (mVar 3) (maCons (mBin dIx (mVar 2) (mVar 3)) maNil))) (vs := [3]) (e := [t, d, some (.ref P.length), w, z]) (G := P ++ [.dct (m.map kvD)]) (G1 := P ++ [.dct (m.map kvD), .lst ((sortS (keysL m)).map .str)]) (s := ⟨(sortS (keysL m)).map .str, some (P.length + 1)⟩)
    (fun x => match x with | .str k => some (.tup [.str k, .int ((getL m k).getD 0)]) | _ => none) (by
      simp [fSorted]
      have e1 := strs_kv m
      simp only [List.map_map] at e1
      rw [e1]
      have e2 : (keysL m).length < 64 := by simpa using hl
      simp only [if_pos e2]
      simp [dSrc]) (Src.still_some h1) (by rw [List.length_map, hsl]; simp; omega) (fun x hx acc J => by
      obtain ⟨k, hk, rfl⟩ := List.mem_map.mp hx
      have hk2 : k ∈ keysL m := (List.mergeSort_perm (keysL m) leS).mem_iff.mp hk
      obtain ⟨e, he, rfl⟩ := List.mem_map.mp hk2
      refine ⟨_, true, J, rfl, rfl, .inr ⟨rfl, _, J, rfl, ?_⟩⟩
      have g1 : (P ++ [.dct (m.map kvD), .lst ((sortS (keysL m)).map .str)] ++ .lst acc :: J : Gp)[P.length]? = some (.dct (m.map kvD)) := by simp
      simp [wipeE, dIx, keyD, get_kv, get_mem hn he])
  refine ⟨J, ?_⟩
  rw [hJ, hlen]
  congr 4
  rw [← sort_get hn, List.map_map, List.filterMap_map]
  rw [← List.filterMap_eq_map]
  rfl
theorem drop_none {l : List KV} {k : Str} (h : getL l k = none) : dropL l k = l := by
  unfold getL at h
  rw [Option.map_eq_none_iff, List.find?_eq_none] at h
  unfold dropL
  rw [List.filter_eq_self]
  intro e he
  simpa using h e he
theorem K_after {Γ : Fns} {xs : List Nat} : Cleans 2 (fnRun N_after.length (eB Γ xs b_after)) C_after := by
  intro ds G hl hc hlt
  unfold C_after
  split
  · rename_i ts d
    split
    · rename_i l a hl' ha
      split
      · rename_i hcond
        obtain ⟨hn, hlen⟩ := hcond
        obtain rfl := kvs_inv hl'
        obtain rfl := dd_inv ha
        refine clr_ok ?_ (Nat.le_refl _) hc (lt_pairs _)
        simp [fnRun, b_after, startD, N_after]
        generalize hm : mLc (.tp [3, 4]) _ _ _ [3, 4] _ _ = r
        have hr : ∃ J, r = .ok (.ref G.length) (G ++ .lst (l.map Mw.pairD) :: J) := by
          rw [← hm]
          obtain ⟨J, hJ⟩ := mLc_ok (t := .tp [3, 4]) (it := miVal (mVar 0)) (tst := mYes) (elt := mTup (maCons (mVar 3) (maCons (mVar 4) maNil))) (vs := [3, 4]) (e := [some (.tup (l.map Mw.pairD)), some (ddD a), none, none, none]) (G := G) (G1 := G) (s := ⟨l.map Mw.pairD, none⟩) some rfl rfl (by rw [List.length_map]; simp; omega) (fun d hd acc J => by
            obtain ⟨e, _, rfl⟩ := List.mem_map.mp hd
            refine ⟨_, true, J, rfl, rfl, .inr ⟨rfl, _, J, rfl, ?_⟩⟩
            simp [wipeE, Mw.pairD])
          exact ⟨J, by rw [hJ]; simp⟩
        obtain ⟨J, rfl⟩ := hr
        have e3 := pairs_kv l
        have e4 := merge_kv l hn
        generalize hP : G ++ O.lst (l.map Mw.pairD) :: J = P
        have hg : P[G.length]? = some (.lst (l.map Mw.pairD)) := by rw [← hP]; exact mid
        have o1 : PyData.strOk "none" = true := by decide +kernel
        have o2 : PyData.strOk "drop" = true := by decide +kernel
        have o3 : PyData.strOk "put" = true := by decide +kernel
        have o4 : PyData.strOk "add" = true := by decide +kernel
        have x1 : ¬ ((Str.ofString "none") = Str.ofString "drop") := by decide +kernel
        have x2 : ¬ ((Str.ofString "none") = Str.ofString "put") := by decide +kernel
        have x3 : ¬ ((Str.ofString "none") = Str.ofString "add") := by decide +kernel
        have x4 : ¬ ((Str.ofString "put") = Str.ofString "drop") := by decide +kernel
        have x5 : ¬ ((Str.ofString "put") = Str.ofString "add") := by decide +kernel
        have x6 : ¬ ((Str.ofString "add") = Str.ofString "drop") := by decide +kernel
        have x7 : ¬ ((Str.ofString "add") = Str.ofString "put") := by decide +kernel
        have x8 : ¬ ((Str.ofString "drop") = Str.ofString "put") := by decide +kernel
        have x9 : ¬ ((Str.ofString "drop") = Str.ofString "add") := by decide +kernel
        have fin : ∀ (m : List KV) (r : R D), (∃ J2, r = .ok (.tup ((sortKV m).map Mw.pairD)) (P ++ J2)) → ∃ J3, r = .ok (.tup ((sortKV m).map Mw.pairD)) (G ++ J3) := fun m r ⟨J2, h⟩ => ⟨.lst (l.map Mw.pairD) :: J ++ J2, by rw [h, ← hP]; simp⟩
        refine fin _ _ ?_
        obtain ⟨J2, h2⟩ := sorted_tail (P := P) (m := app l a) (t := some (.tup (l.map Mw.pairD))) (d := some (ddD a)) (w := none) (z := none) (app_nodup hn a) (by have := app_len l a; omega)
        refine ⟨[.dct ((app l a).map kvD), .lst ((sortS (keysL (app l a))).map .str), .lst ((sortKV (app l a)).map Mw.pairD)] ++ J2, ?_⟩
        have g2 : (P ++ [.dct ((app l a).map kvD), .lst ((sortS (keysL (app l a))).map .str)] ++ .lst ((sortKV (app l a)).map Mw.pairD) :: J2)[P.length + 2]? = some (.lst ((sortKV (app l a)).map Mw.pairD)) := by simp
        have hb : l.length < 100000 := by omega
        cases a with
        | non =>
          simp only [ddD, app] at h2 g2 ⊢
          simp [fDict, hg, e3, e4, ix_tup, eq_str, o1, o2, o3, o4, x1, x2, x3]
          rw [h2]
          simp [fTuple]
        | drop k =>
          simp only [ddD, app] at h2 g2 ⊢
          cases hk : getL l k with
          | none =>
            rw [drop_none hk] at h2 g2 ⊢
            simp [fDict, hg, e3, e4, ix_tup, eq_str, o1, o2, o3, o4, x8, x9, isDc, dPop2, keyD, get_kv, hk]
            rw [h2]
            simp [fTuple]
          | some v =>
            simp [fDict, hg, e3, e4, ix_tup, eq_str, o1, o2, o3, o4, x8, x9, isDc, dPop2, keyD, get_kv, hk, drop_kv]
            rw [h2]
            simp [fTuple]
        | put k v =>
          simp only [ddD, app] at h2 g2 ⊢
          simp [fDict, hg, e3, e4, ix_tup, eq_str, o1, o2, o3, o4, x4, x5, mSetI, dSet, keyD, hb, put_kv]
          rw [h2]
          simp [fTuple]
        | add k v =>
          simp only [ddD, app] at h2 g2 ⊢
          cases hk : getL l k with
          | none =>
            rw [hk] at h2 g2
            simp only [Option.getD_none, Int.zero_add] at h2 g2 ⊢
            simp [fDict, hg, e3, e4, ix_tup, eq_str, o1, o2, o3, o4, x6, x7, mSetI, dSet, keyD, hb, put_kv, isDc, dGet2, get_kv, dMod, hk]
            rw [h2]
            simp [fTuple]
          | some v =>
            rw [hk] at h2 g2
            simp only [Option.getD_some] at h2 g2 ⊢
            simp [fDict, hg, e3, e4, ix_tup, eq_str, o1, o2, o3, o4, x6, x7, mSetI, dSet, keyD, hb, put_kv, isDc, dGet2, get_kv, dMod, hk]
            rw [h2]
            simp [fTuple]
      · trivial
    · trivial
  · trivial
end Mm
namespace Mm
open PySem L2 Mw
open PyProof.Rows hiding St
theorem lastD_cons (d : D) (ds : List D) (w : Option D) : lastD (d :: ds) w = lastD ds (some d) := by
  unfold lastD
  cases ds with
  | nil => rfl
  | cons a r =>
    rw [List.getLast?_cons_cons]
    cases h : (a :: r).getLast? with
    | none => simp at h
    | some z => rfl
/-- a walk, by what holds of the rest -/
theorem forGo_rel {α : Type} {i : Nat} {B : MS0} {s : Src} (E : α → Option D → En) (Hh : α → Gp) (Q : α → List D → Prop) (hset : ∀ a w d, (E a w).set i (some d) = E a (some d)) (hst : ∀ a rest, Q a rest → s.still (Hh a) = true)
    (hB : ∀ a d rest, Q a (d :: rest) → ∃ a', B (E a (some d)) (Hh a) = .nx (E a' (some d)) (Hh a') ∧ Q a' rest) : ∀ (ds : List D) (a : α) (w : Option D), Q a ds → ∃ a', forGo (.nm i) B s ds (E a w) (Hh a) = .nx (E a' (lastD ds w)) (Hh a') ∧ Q a' []
  | [], a, w, q => ⟨a, rfl, q⟩
  | d :: ds, a, w, q => by
    obtain ⟨a1, h1, q1⟩ := hB a d ds q
    obtain ⟨a2, h2, q2⟩ := forGo_rel E Hh Q hset hst hB ds a1 (some d) q1
    refine ⟨a2, ?_, q2⟩
    rw [forGo]
    simp only [Tg.set]
    rw [hset, h1]
    dsimp only
    rw [if_pos (hst _ _ q1), h2, lastD_cons]
theorem mFor_rel {α : Type} {i : Nat} {it : MI0} {B : MS0} {s : Src} {e : En} {G : Gp} (E : α → Option D → En) (Hh : α → Gp) (Q : α → List D → Prop) (a : α) (w : Option D) (he : e = E a w) (hi : it e G = .ok s (Hh a)) (q : Q a s.ds) (hset : ∀ a w d, (E a w).set i (some d) = E a (some d)) (hst : ∀ a rest, Q a rest → s.still (Hh a) = true)
    (hB : ∀ a d rest, Q a (d :: rest) → ∃ a', B (E a (some d)) (Hh a) = .nx (E a' (some d)) (Hh a') ∧ Q a' rest) : ∃ a', mFor (.nm i) it B e G = .nx (E a' (lastD s.ds w)) (Hh a') ∧ Q a' [] := by
  obtain ⟨a', h, q'⟩ := forGo_rel (s := s) E Hh Q hset hst hB s.ds a w q
  refine ⟨a', ?_, q'⟩
  unfold mFor
  rw [hi]
  dsimp only
  rw [if_pos (hst _ _ q), he, h]
def dds? : List D → Option (List Dd)
  | [] => some []
  | d :: r => (match dd? d, dds? r with
    | some a, some l => some (a :: l)
    | _, _ => none)
theorem dds_inv : ∀ {ds : List D} {l : List Dd}, dds? ds = some l → ds = l.map ddD
  | [], l, h => by cases h; rfl
  | d :: ds, l, h => by
    unfold dds? at h
    split at h
    · rename_i a m h1 h2
      cases h
      rw [dd_inv h1, dds_inv h2]
      rfl
    · cases h
theorem dds_D : ∀ l : List Dd, dds? (l.map ddD) = some l
  | [] => rfl
  | a :: l => by
    rw [List.map_cons, dds?, dd_D, dds_D l]
theorem fold_nodup {l : List KV} (h : (keysL l).Nodup) (ds : List Dd) : (keysL (ds.foldl afterL l)).Nodup := by
  induction ds generalizing l with
  | nil => exact h
  | cons d ds ih => exact ih (sortKV_nodup (app_nodup h d))
theorem afterL_len (l : List KV) (d : Dd) : (afterL l d).length ≤ l.length + 1 := by
  unfold afterL
  rw [(sortKV_perm _).length_eq]
  exact app_len l d
def seqOf (d : D) (G : Gp) : Option (List D) := match d with
  | .tup es => some es
  | .ref n => (match G[n]? with
    | some (.lst es) => some es
    | _ => none)
  | _ => none
theorem src_seq {d : D} {G : Gp} {es : List D} (h : seqOf d G = some es) (J : Gp) : ∃ s : Src, s.ds = es ∧ dSrc d (G ++ J) = .ok s (G ++ J) ∧ ∀ J', s.still (G ++ J') = true := by
  unfold seqOf at h
  split at h
  · cases h; exact ⟨⟨_, none⟩, rfl, rfl, fun _ => rfl⟩
  · rename_i n
    split at h
    · rename_i g
      cases h
      have g' : ∀ J', (G ++ J')[n]? = some (.lst es) := fun J' => by rw [List.getElem?_append_left (List.getElem?_eq_some_iff.mp g).1, g]
      exact ⟨⟨es, some n⟩, rfl, by simp only [dSrc, g' J], fun J' => Src.still_some (g' J')⟩
    · cases h
  · cases h
/-- the dicts on the way stay small -/
def fits : List KV → List Dd → Bool
  | _, [] => true
  | l, a :: as => decide (l.length < 60) && fits (afterL l a) as
theorem fits_len : ∀ (as : List Dd) (l : List KV), l.length + as.length < 60 → fits l as = true
  | [], _, _ => rfl
  | a :: as, l, h => by
    rw [List.length_cons] at h
    rw [fits, decide_eq_true (show l.length < 60 by omega), fits_len as (afterL l a) (by have := afterL_len l a; omega)]
    rfl
def C_after_all : FM := fun ds G => match ds with
  | [.tup ts, d] => (match kvs? ts, (seqOf d G).bind dds? with
    | some l, some as => if (keysL l).Nodup ∧ fits l as = true then .ok (.tup ((as.foldl afterL l).map Mw.pairD)) G else .bad
    | _, _ => .bad)
  | _ => .bad
theorem after_eq {G : Gp} {l : List KV} {a : Dd} (hn : (keysL l).Nodup) (hl : l.length < 60) : C_after [.tup (l.map Mw.pairD), ddD a] G = .ok (.tup ((afterL l a).map Mw.pairD)) G := by
  show (match kvs? (l.map Mw.pairD), dd? (ddD a) with
    | some l, some a => if (keysL l).Nodup ∧ l.length < 60 then R.ok (D.tup ((afterL l a).map Mw.pairD)) G else .bad
    | _, _ => .bad) = _
  rw [kvs_D, dd_D]
  exact if_pos ⟨hn, hl⟩
theorem K_after_all {Γ : Fns} {xs : List Nat} (h4 : Kn Γ 4 2 C_after) : Cleans 2 (fnRun N_after_all.length (eB Γ xs b_after_all)) C_after_all := by
  intro ds G hl hc hlt
  unfold C_after_all
  split
  · rename_i ts d
    split
    · rename_i l as hl' ha
      split
      · rename_i hcond
        obtain ⟨hn, hlen⟩ := hcond
        obtain rfl := kvs_inv hl'
        obtain ⟨es, hes, has⟩ := Option.bind_eq_some_iff.mp ha
        obtain rfl := dds_inv has
        refine clr_ok ⟨[], ?_⟩ (Nat.le_refl _) hc (lt_pairs _)
        rw [List.append_nil]
        simp [fnRun, b_after_all, startD, N_after_all]
        obtain ⟨s, s1, s2, s3⟩ := src_seq hes []
        rw [List.append_nil] at s2
        have s4 : s.still G = true := by have := s3 []; rwa [List.append_nil] at this
        obtain ⟨a', h1, h2⟩ := mFor_rel (i := 2) (it := miVal (mVar 1)) (B := mSeq (mAsg (.nm 0) (mCallF (Γ.ar 4) (Γ.F 4) (maCons (mVar 0) (maCons (mVar 2) maNil)))) mNext) (s := s) (e := [some (.tup (l.map Mw.pairD)), some d, none]) (G := G)
          (E := fun (m : List KV) w => [some (.tup (m.map Mw.pairD)), some d, w]) (Hh := fun _ => G) (Q := fun m rest => ∃ bs : List Dd, rest = bs.map ddD ∧ (keysL m).Nodup ∧ fits m bs = true ∧ bs.foldl afterL m = as.foldl afterL l) l none rfl (by simp [s2]) ⟨as, s1, hn, hlen, rfl⟩ (fun _ _ _ => rfl) (fun _ _ _ => s4) (fun m x rest hq => by
            obtain ⟨bs, e1, e2, e3, e4⟩ := hq
            cases bs with
            | nil => cases e1
            | cons b bs =>
              rw [List.map_cons] at e1
              obtain ⟨rfl, rfl⟩ := List.cons.inj e1
              rw [fits] at e3
              obtain ⟨e5, e6⟩ := ba e3
              refine ⟨afterL m b, ?_, bs, rfl, sortKV_nodup (app_nodup e2 b), e6, e4⟩
              simp [h4.1, h4.2, after_eq e2 (of_decide_eq_true e5)])
        rw [h1]
        obtain ⟨bs, e1, e2, e3, e4⟩ := h2
        cases bs with
        | cons _ _ => cases e1
        | nil =>
          simp
          rw [← e4]
          rfl
      · trivial
    · trivial
  · trivial
end Mm
namespace Mm
open PySem L2 Mw
open PyProof.Rows hiding St
theorem isWithin_inv {d : D} {lo hi : Int} (h : isWithin d lo hi = true) : ∃ i, d = .int i ∧ lo ≤ i ∧ i ≤ hi := by
  unfold isWithin at h
  split at h
  · rename_i i
    obtain ⟨h1, h2⟩ := ba h
    exact ⟨i, rfl, of_decide_eq_true h1, of_decide_eq_true h2⟩
  · cases h
theorem isKey_inv {d : D} (h : isKey d = true) : ∃ x, d = .str x ∧ isKeyS x = true := by
  unfold isKey at h
  split at h
  · exact ⟨_, rfl, h⟩
  · cases h
theorem isPair_inv2 {d : D} (h : isPair d = true) : ∃ x i, d = Mw.pairD (x, i) ∧ isKeyS x = true ∧ 0 ≤ i ∧ i ≤ 9999 := by
  unfold isPair at h
  split at h
  · rename_i k v
    obtain ⟨h1, h2⟩ := ba h
    obtain ⟨x, rfl, hx⟩ := isKey_inv h1
    obtain ⟨i, rfl, hi⟩ := isWithin_inv h2
    exact ⟨x, i, rfl, hx, hi⟩
  · cases h
theorem pairs_inv : ∀ {ds : List D}, ds.all isPair = true → ∃ l : List KV, ds = l.map Mw.pairD
  | [], _ => ⟨[], rfl⟩
  | d :: ds, h => by
    rw [List.all_cons] at h
    obtain ⟨h1, h2⟩ := ba h
    obtain ⟨x, i, rfl, _⟩ := isPair_inv2 h1
    obtain ⟨l, rfl⟩ := pairs_inv h2
    exact ⟨(x, i) :: l, rfl⟩
theorem isDeed_inv {d : D} (h : isDeed d = true) : ∃ a, d = ddD a := by
  unfold isDeed at h
  split at h
  · rename_i x r
    split at h
    · rename_i e
      cases r with
      | nil => exact ⟨.non, by rw [e]; rfl⟩
      | cons _ _ => cases h
    · split at h
      · rename_i e
        split at h
        · rename_i k
          obtain ⟨y, rfl, _⟩ := isKey_inv h
          exact ⟨.drop y, by rw [e]; rfl⟩
        · cases h
      · obtain ⟨h1, h2⟩ := ba h
        split at h2
        · rename_i k v
          obtain ⟨h3, h4⟩ := ba h2
          obtain ⟨y, rfl, _⟩ := isKey_inv h3
          obtain ⟨i, rfl, _⟩ := isWithin_inv h4
          rw [Bool.or_eq_true] at h1
          rcases h1 with h1 | h1
          · exact ⟨.put y i, by rw [of_decide_eq_true h1]; rfl⟩
          · exact ⟨.add y i, by rw [of_decide_eq_true h1]; rfl⟩
        · cases h2
  · cases h
theorem deeds_inv : ∀ {ds : List D}, ds.all isDeed = true → ∃ l : List Dd, ds = l.map ddD
  | [], _ => ⟨[], rfl⟩
  | d :: ds, h => by
    rw [List.all_cons] at h
    obtain ⟨h1, h2⟩ := ba h
    obtain ⟨a, rfl⟩ := isDeed_inv h1
    obtain ⟨l, rfl⟩ := deeds_inv h2
    exact ⟨a :: l, rfl⟩
/-- rising keys -/
theorem asc_pw : ∀ (l : List KV), ascend (l.map Mw.pairD) = true → (keysL l).Pairwise (fun x y => x.cps.toList < y.cps.toList)
  | [], _ => .nil
  | [a], _ => by simp
  | a :: b :: l, h => by
    obtain ⟨h1, h2⟩ := ba (show (ltS a.1 b.1 && ascend ((b :: l).map Mw.pairD)) = true from h)
    have ih := asc_pw (b :: l) h2
    have h3 : a.1.cps.toList < b.1.cps.toList := of_decide_eq_true h1
    show (a.1 :: keysL (b :: l)).Pairwise _
    refine List.pairwise_cons.mpr ⟨fun z hz => ?_, ih⟩
    rcases List.mem_cons.mp (show z ∈ b.1 :: keysL l from hz) with q | q
    · rw [q]; exact h3
    · exact List.lt_trans h3 ((List.pairwise_cons.mp (show (b.1 :: keysL l).Pairwise _ from ih)).1 z q)
theorem asc_nodup {l : List KV} (h : ascend (l.map Mw.pairD) = true) : (keysL l).Nodup := (asc_pw l h).imp fun {x y} h z => by
  rw [z] at h
  exact List.lt_irrefl _ h
theorem asc_sorted {l : List KV} (h : ascend (l.map Mw.pairD) = true) : sortKV l = l := by
  refine (kv_unique (List.Perm.refl _) (asc_nodup h) ?_).symm
  have := asc_pw l h
  rw [List.pairwise_map] at this
  refine this.imp fun {a b} h => ?_
  show leS a.1 b.1 = true
  rw [leS_iff]
  exact List.le_of_lt h
theorem sorted_asc : ∀ {l : List KV}, (keysL l).Nodup → l.Pairwise (fun a b => leKV a b = true) → ascend (l.map Mw.pairD) = true
  | [], _, _ => rfl
  | [a], _, _ => rfl
  | a :: b :: l, hn, h => by
    obtain ⟨h1, h2⟩ := List.pairwise_cons.mp h
    have hn2 : a.1 ∉ keysL (b :: l) ∧ (keysL (b :: l)).Nodup := by simpa [keysL] using hn
    show (ltS a.1 b.1 && ascend ((b :: l).map Mw.pairD)) = true
    rw [sorted_asc hn2.2 h2, Bool.and_true]
    have h3 := leS_iff.mp (h1 b List.mem_cons_self)
    refine decide_eq_true (Std.lt_of_le_of_ne h3 fun z => ?_)
    exact hn2.1 (by rw [show a.1 = b.1 from PySem.W.str_of_cps z]; exact List.mem_cons_self)
def C_done : FM := fun ds G => match ds with
  | [t, d] => if okTs G t = true then (if areThings t = true then (match t, d with
      | .tup ts, .tup es => (match kvs? ts, decide (es.length ≤ 1000) && es.all (okT G) with
        | some l, true => if es.all isDeed = true then (match dds? es with
            | some as => if fits l as = true then .ok (.tup ((as.foldl afterL l).map Mw.pairD)) G else .bad
            | none => .bad) else .exc 1 G
        | _, _ => .bad)
      | _, d => if okE G d = true then .exc 1 G else .bad) else .exc 2 G) else .bad
  | _ => .bad
theorem things_eq {G : Gp} {d : D} (h : okTs G d = true) : C_are_things [d] G = .ok (.bl (areThings d)) G := if_pos h
theorem deed_eq {G : Gp} {d : D} (h : okT G d = true) : C_is_deed [d] G = .ok (.bl (isDeed d)) G := if_pos h
theorem all_eq {G : Gp} {l : List KV} {as : List Dd} {d : D} (hd : seqOf d G = some (as.map ddD)) (hn : (keysL l).Nodup) (hl : fits l as = true) : C_after_all [.tup (l.map Mw.pairD), d] G = .ok (.tup ((as.foldl afterL l).map Mw.pairD)) G := by
  unfold C_after_all
  dsimp only
  rw [kvs_D, hd]
  simp only [Option.bind_some, dds_D]
  rw [if_pos ⟨hn, hl⟩]
theorem okE_app {G J : Gp} {d : D} (h : okE G d = true) : okE (G ++ J) d = true := by
  cases d with
  | ref n =>
    have h' : seen (.ref n) G = true := h
    show seen (.ref n) (G ++ J) = true
    unfold seen at h' ⊢
    dsimp only at h' ⊢
    split at h'
    · rename_i g
      rw [List.getElem?_append_left (List.getElem?_eq_some_iff.mp g).1, g]
    · rename_i g
      rw [List.getElem?_append_left (List.getElem?_eq_some_iff.mp g).1, g]
    · cases h'
  | _ => exact h
theorem okT_app {G J : Gp} {d : D} (h : okT G d = true) : okT (G ++ J) d = true := by
  cases d with
  | tup ds =>
    have h' : ds.all (okE G) = true := h
    show ds.all (okE (G ++ J)) = true
    rw [List.all_eq_true] at h' ⊢
    exact fun z hz => okE_app (h' z hz)
  | ref n => exact okE_app (d := .ref n) h
  | non => exact h
  | bl _ => exact h
  | int _ => exact h
  | str _ => exact h
  | scr _ => exact h
theorem bad_deeds {Γ : Fns} (h2 : Kn Γ 2 1 C_is_deed) {t : Option D} {es : List D} {G : Gp} (hl : es.length ≤ 1000) (he : es.all (okT G) = true) : ∃ J, mLc (.nm 2) (miVal (mVar 1)) (mNotT (mTru (mCallF (Γ.ar 2) (Γ.F 2) (maCons (mVar 2) maNil)))) (mVar 2) [2] [t, some (.tup es), none] G = .ok (.ref G.length) (G ++ .lst (es.filterMap fun d => if isDeed d = true then none else some d) :: J) := by
  refine mLc_ok (s := ⟨es, none⟩) _ rfl rfl (by simp; omega) fun d hd acc J => ?_
  have hd' : okT (G ++ .lst acc :: J) d = true := okT_app (List.all_eq_true.mp he d hd)
  refine ⟨_, !isDeed d, J, rfl, by simp [wipeE, h2.1, h2.2, deed_eq hd'], ?_⟩
  cases hh : isDeed d
  · exact .inr ⟨rfl, d, J, by simp [hh], by simp [wipeE]⟩
  · exact .inl ⟨rfl, by simp [hh]⟩
theorem bad_empty (es : List D) : (es.filterMap fun d => if isDeed d = true then none else some d).isEmpty = es.all isDeed := by
  rw [Bool.eq_iff_iff, List.isEmpty_iff, List.filterMap_eq_nil_iff, List.all_eq_true]
  constructor
  · intro h d hd
    have := h d hd
    split at this
    · assumption
    · cases this
  · intro h d hd
    rw [if_pos (h d hd)]
theorem K_done {Γ : Fns} {xs : List Nat} (h2 : Kn Γ 2 1 C_is_deed) (h3 : Kn Γ 3 1 C_are_things) (h5 : Kn Γ 5 2 C_after_all) : Cleans 2 (fnRun N_done.length (eB Γ xs b_done)) C_done := by
  intro ds G hl hc hlt
  unfold C_done
  split
  · rename_i t d
    split
    · rename_i ht
      split
      · rename_i hat
        split
        · rename_i ts es
          split
          · rename_i l hl' he
            obtain ⟨he1, he2⟩ := ba he
            have hlen := of_decide_eq_true he1
            obtain rfl := kvs_inv hl'
            have hat' := (ba (show ((l.map Mw.pairD).all isPair && ascend (l.map Mw.pairD)) = true from hat)).2
            obtain ⟨J, hJ⟩ := bad_deeds h2 (t := some (.tup (l.map Mw.pairD))) (G := G) hlen he2
            have hE := bad_empty es
            generalize (es.filterMap fun d => if isDeed d = true then none else some d) = B at hJ hE
            split
            · rename_i hd
              split
              · rename_i as has
                split
                · rename_i hl2
                  obtain rfl := dds_inv has
                  refine clr_ok ⟨.lst B :: J, ?_⟩ (Nat.le_refl _) hc (lt_pairs _)
                  simp [fnRun, b_done, startD, N_done, h3.1, h3.2, things_eq ht, hat]
                  rw [hJ]
                  simp only [R.bind_ok, tru_lst mid, hE, hd]
                  simp [h5.1, h5.2, all_eq (d := .tup (as.map ddD)) rfl (asc_nodup hat') hl2]
                · trivial
              · trivial
            · rename_i hd
              have hd' : es.all isDeed = false := by simpa using hd
              refine clr_exc ⟨.lst B :: J, ?_⟩ (Nat.le_refl _) hc
              simp [fnRun, b_done, startD, N_done, h3.1, h3.2, things_eq ht, hat]
              rw [hJ]
              simp only [R.bind_ok, tru_lst mid, hE, hd']
              simp
          · trivial
        · rename_i hne
          split
          · rename_i hd
            refine clr_exc ⟨[], ?_⟩ (Nat.le_refl _) hc
            cases t with
            | tup ts =>
              cases d with
              | tup es => exact absurd rfl (hne ts es rfl)
              | ref n =>
                have hx' := okE_seen hd
                unfold seen at hx'
                dsimp only at hx'
                split at hx'
                · rename_i g
                  simp [fnRun, b_done, startD, N_done, h3.1, h3.2, things_eq ht, hat, isi_lst g]
                · rename_i g
                  simp [fnRun, b_done, startD, N_done, h3.1, h3.2, things_eq ht, hat, isi_dct g]
                · cases hx'
              | scr _ => cases hd
              | _ => simp [fnRun, b_done, startD, N_done, h3.1, h3.2, things_eq ht, hat]
            | _ => cases hat
          · trivial
      · rename_i hat
        have hat' : areThings t = false := by simpa using hat
        refine clr_exc ⟨[], ?_⟩ (Nat.le_refl _) hc
        simp [fnRun, b_done, startD, N_done, h3.1, h3.2, things_eq ht, hat']
    · trivial
  · trivial
end Mm
namespace Mm
open PySem L2 Mw
open PyProof.Rows hiding St
def cell (ns : List Int) (k : Int) : Int := (ns[k.toNat]?).getD 0
def C__law_cell : FM := fun ds G => match ds with
  | [.scr ns, .int k] => if 0 ≤ k then .ok (.int (cell ns k)) G else .bad
  | _ => .bad
theorem K__law_cell {Γ : Fns} {xs : List Nat} : Cleans 2 (fnRun N__law_cell.length (eB Γ xs b__law_cell)) C__law_cell := by
  intro ds G hl hc hlt
  unfold C__law_cell
  split
  · rename_i ns k
    split
    · rename_i hk
      refine clr_ok ⟨[], ?_⟩ (Nat.le_refl _) hc rfl
      by_cases h : k < ns.length
      · have e : atI ns k = some (cell ns k) := by
          rw [show k = ((k.toNat : Nat) : Int) by omega, atI_nat _ (by omega), List.getElem?_eq_getElem (by omega)]
          unfold cell
          rw [Int.toNat_natCast, List.getElem?_eq_getElem (by omega)]
          rfl
        simp [fnRun, b__law_cell, startD, N__law_cell, fLen, h, ix_scr e]
      · have e : cell ns k = 0 := by
          unfold cell
          rw [List.getElem?_eq_none (by omega)]
          rfl
        simp [fnRun, b__law_cell, startD, N__law_cell, fLen, h, e]
    · trivial
  · trivial
def seedN (s k : Int) : Int := ((s * 1103515245 + 7919 * k + 12345) % 2147483647) ^ 5 % 2147483647
def C__law_seed : FM := fun ds G => match ds with
  | [.int s, .int k] => .ok (.int (seedN s k)) G
  | _ => .bad
theorem K__law_seed {Γ : Fns} {xs : List Nat} : Cleans 2 (fnRun N__law_seed.length (eB Γ xs b__law_seed)) C__law_seed := by
  intro ds G hl hc hlt
  unfold C__law_seed
  split
  · rename_i s k
    refine clr_ok ⟨[], ?_⟩ (Nat.le_refl _) hc rfl
    have h : ((s * 1103515245 + 7919 * k + 12345) % 2147483647).natAbs < 18446744073709551616 := by omega
    simp [fnRun, b__law_seed, startD, N__law_seed, dMul, dMod, dPow, seedN, h]
  · trivial
def C__law_pick : FM := fun ds G => match ds with
  | [.int s, .int k] => if 0 < k then .ok (.int (s / 97 % k)) G else .bad
  | _ => .bad
theorem K__law_pick {Γ : Fns} {xs : List Nat} : Cleans 2 (fnRun N__law_pick.length (eB Γ xs b__law_pick)) C__law_pick := by
  intro ds G hl hc hlt
  unfold C__law_pick
  split
  · rename_i s k
    split
    · rename_i hk
      refine clr_ok ⟨[], ?_⟩ (Nat.le_refl _) hc rfl
      simp [fnRun, b__law_pick, startD, N__law_pick, dMod, dDiv, hk]
    · trivial
  · trivial
theorem atI_map {α β : Type} (f : α → β) (l : List α) (i : Int) : atI (l.map f) i = (atI l i).map f := by
  unfold atI
  rw [List.length_map]
  cases ixN l.length i with
  | none => rfl
  | some j => exact List.getElem?_map ..
theorem atI_lt {α : Type} (l : List α) (i : Int) (d : α) (h : 0 ≤ i) (h2 : i < l.length) : atI l i = some (l.getD i.toNat d) := by
  have e : i = ((i.toNat : Nat) : Int) := by omega
  rw [e, atI_nat _ (by omega), List.getElem?_eq_getElem (by omega), List.getD_eq_getElem?_getD, Int.toNat_natCast, List.getElem?_eq_getElem (by omega)]
  rfl
def keysC : List Str := ["a", "b", "c", "dd", "zzzz"]
def keyN (s : Int) : Str := keysC.getD (s / 97 % 5).toNat ""
def valN (s : Int) : Int := [s / 7 % 10000, s / 7 % 5, 9999].getD (s / 11 % 3).toNat 0
def deedN (s : Int) : Dd := [Dd.put (keyN s) (valN s), .add (keyN s) (valN s), .drop (keyN s), .put (keyN s) (valN s), .non].getD (s / 13 % 5).toNat .non
def C__law_deed : FM := fun ds G => match ds with
  | [.int s] => .ok (ddD (deedN s)) G
  | _ => .bad
theorem ltD_dd {m : Nat} (a : Dd) : ltD m (ddD a) = true := by cases a <;> rfl
theorem K__law_deed {Γ : Fns} {xs : List Nat} (h9 : Kn Γ 9 2 C__law_pick) : Cleans 1 (fnRun N__law_deed.length (eB Γ xs b__law_deed)) C__law_deed := by
  intro ds G hl hc hlt
  unfold C__law_deed
  split
  · rename_i s
    refine clr_ok ?_ (Nat.le_refl _) hc (ltD_dd _)
    have hp : ∀ G, C__law_pick [.int s, .int 5] G = .ok (.int (s / 97 % 5)) G := fun G => by
      show (if (0 : Int) < 5 then R.ok (D.int (s / 97 % 5)) G else .bad) = _
      rw [if_pos (by decide)]
    have k1 : atI [D.str "a", .str "b", .str "c", .str "dd", .str "zzzz"] (s / 97 % 5) = some (.str (keyN s)) := by
      show atI (keysC.map D.str) _ = _
      rw [atI_map, atI_lt keysC _ "" (by omega) (by show _ < (5 : Int); omega)]
      rfl
    have k2 : atI [D.int (s / 7 % 10000), .int (s / 7 % 5), .int 9999] (s / 11 % 3) = some (.int (valN s)) := by
      show atI (List.map D.int [s / 7 % 10000, s / 7 % 5, 9999]) _ = _
      rw [atI_map, atI_lt _ _ 0 (by omega) (by show _ < (3 : Int); omega)]
      rfl
    have k3 : atI [ddD (.put (keyN s) (valN s)), ddD (.add (keyN s) (valN s)), ddD (.drop (keyN s)), ddD (.put (keyN s) (valN s)), ddD .non] (s / 13 % 5) = some (ddD (deedN s)) := by
      show atI (List.map ddD [Dd.put (keyN s) (valN s), .add (keyN s) (valN s), .drop (keyN s), .put (keyN s) (valN s), .non]) _ = _
      rw [atI_map, atI_lt _ _ .non (by omega) (by show _ < (5 : Int); omega)]
      rfl
    simp only [ddD] at k3
    refine ⟨[.lst [D.str "a", .str "b", .str "c", .str "dd", .str "zzzz"], .lst [D.int (s / 7 % 10000), .int (s / 7 % 5), .int 9999], .lst [ddD (.put (keyN s) (valN s)), ddD (.add (keyN s) (valN s)), ddD (.drop (keyN s)), ddD (.put (keyN s) (valN s)), ddD .non]], ?_⟩
    simp [fnRun, b__law_deed, startD, N__law_deed, dMod, dDiv, h9.1, h9.2, hp, dIx, k1, k2, k3, ddD]
  · trivial
end Mm
namespace Mm
open PySem L2 Mw
open PyProof.Rows hiding St
def C__law_after : FM := fun ds G => match ds with
  | [.tup ts, d] => (match kvs? ts, (seqOf d G).bind dds? with
    | some l, some as => if (keysL l).Nodup ∧ l.length + as.length < 1000 then .ok (.tup ((sortKV (as.foldl app l)).map Mw.pairD)) G else .bad
    | _, _ => .bad)
  | _ => .bad
def B_aft : MS0 := mSeq (mIfS (mCmpB dEq (mBin dIx (mVar 3) (mC (.int 0))) (mC (.str "put"))) (mSeq (mSetI (mVar 2) (mBin dIx (mVar 3) (mC (.int 1))) (mBin dIx (mVar 3) (mC (.int 2)))) mNext) mNext)
  (mSeq (mIfS (mCmpB dEq (mBin dIx (mVar 3) (mC (.int 0))) (mC (.str "add"))) (mSeq (mSetI (mVar 2) (mBin dIx (mVar 3) (mC (.int 1))) (mBin dMod (mBin dAdd (mGet2 (mVar 2) (mBin dIx (mVar 3) (mC (.int 1))) (mC (.int 0))) (mBin dIx (mVar 3) (mC (.int 2)))) (mC (.int 10000)))) mNext) mNext)
  (mSeq (mIfS (mAndT (mCmpB dEq (mBin dIx (mVar 3) (mC (.int 0))) (mC (.str "drop"))) (mCmpB dIn (mBin dIx (mVar 3) (mC (.int 1))) (mVar 2))) (mSeq (mDrop (mPop1 (mVar 2) (mBin dIx (mVar 3) (mC (.int 1))))) mNext) mNext) mNext))
theorem aft_step {P : Gp} {m : List KV} {b : Dd} {t d u v : Option D} (hb : m.length < 100000) : B_aft [t, d, some (.ref P.length), some (ddD b), u, v] (P ++ [.dct (m.map kvD)]) = .nx [t, d, some (.ref P.length), some (ddD b), u, v] (P ++ [.dct ((app m b).map kvD)]) := by
  have o1 : PyData.strOk "none" = true := by decide +kernel
  have o2 : PyData.strOk "drop" = true := by decide +kernel
  have o3 : PyData.strOk "put" = true := by decide +kernel
  have o4 : PyData.strOk "add" = true := by decide +kernel
  have x1 : ¬ ((Str.ofString "none") = Str.ofString "drop") := by decide +kernel
  have x2 : ¬ ((Str.ofString "none") = Str.ofString "put") := by decide +kernel
  have x3 : ¬ ((Str.ofString "none") = Str.ofString "add") := by decide +kernel
  have x4 : ¬ ((Str.ofString "put") = Str.ofString "drop") := by decide +kernel
  have x5 : ¬ ((Str.ofString "put") = Str.ofString "add") := by decide +kernel
  have x6 : ¬ ((Str.ofString "add") = Str.ofString "drop") := by decide +kernel
  have x7 : ¬ ((Str.ofString "add") = Str.ofString "put") := by decide +kernel
  have x8 : ¬ ((Str.ofString "drop") = Str.ofString "put") := by decide +kernel
  have x9 : ¬ ((Str.ofString "drop") = Str.ofString "add") := by decide +kernel
  cases b with
  | non => simp [B_aft, ddD, app, ix_tup, eq_str, o1, o2, o3, o4, x1, x2, x3]
  | put k v => simp [B_aft, ddD, app, ix_tup, eq_str, o1, o2, o3, o4, x4, x5, mSetI, dSet, keyD, hb, put_kv]
  | add k v =>
    cases hk : getL m k <;> simp [B_aft, ddD, app, ix_tup, eq_str, o1, o2, o3, o4, x6, x7, mSetI, dSet, keyD, hb, put_kv, isDc, dGet2, get_kv, dMod, hk]
  | drop k =>
    cases hk : getL m k with
    | none => simp [B_aft, ddD, app, ix_tup, eq_str, o1, o2, o3, o4, x8, x9, dIn, keyD, get_kv, hk, drop_none hk]
    | some v => simp [B_aft, ddD, app, ix_tup, eq_str, o1, o2, o3, o4, x8, x9, dIn, keyD, get_kv, hk, isDc, dPop1, drop_kv]
theorem K__law_after {Γ : Fns} {xs : List Nat} : Cleans 2 (fnRun N__law_after.length (eB Γ xs b__law_after)) C__law_after := by
  intro ds G hl hc hlt
  unfold C__law_after
  split
  · rename_i ts d
    split
    · rename_i l as hl' ha
      split
      · rename_i hcond
        obtain ⟨hn, hlen⟩ := hcond
        obtain rfl := kvs_inv hl'
        obtain ⟨es, hes, has⟩ := Option.bind_eq_some_iff.mp ha
        obtain rfl := dds_inv has
        refine clr_ok ?_ (Nat.le_refl _) hc (lt_pairs _)
        simp [fnRun, b__law_after, startD, N__law_after]
        generalize hm : mLc (.tp [4, 5]) _ _ _ [4, 5] _ _ = r
        have hr : ∃ J, r = .ok (.ref G.length) (G ++ .lst (l.map Mw.pairD) :: J) := by
          rw [← hm]
          obtain ⟨J, hJ⟩ := mLc_ok (t := .tp [4, 5]) (it := miVal (mVar 0)) (tst := mYes) (elt := mTup (maCons (mVar 4) (maCons (mVar 5) maNil))) (vs := [4, 5]) (e := [some (.tup (l.map Mw.pairD)), some d, none, none, none, none]) (G := G) (G1 := G) (s := ⟨l.map Mw.pairD, none⟩) some rfl rfl (by rw [List.length_map]; simp; omega) (fun d hd acc J => by
            obtain ⟨e, _, rfl⟩ := List.mem_map.mp hd
            refine ⟨_, true, J, rfl, rfl, .inr ⟨rfl, _, J, rfl, ?_⟩⟩
            simp [wipeE, Mw.pairD])
          exact ⟨J, by rw [hJ]; simp⟩
        obtain ⟨J, rfl⟩ := hr
        have e3 := pairs_kv l
        have e4 := merge_kv l hn
        generalize hP : G ++ O.lst (l.map Mw.pairD) :: J = P
        have hg : P[G.length]? = some (.lst (l.map Mw.pairD)) := by rw [← hP]; exact mid
        have o1 : PyData.strOk "none" = true := by decide +kernel
        have o2 : PyData.strOk "drop" = true := by decide +kernel
        have o3 : PyData.strOk "put" = true := by decide +kernel
        have o4 : PyData.strOk "add" = true := by decide +kernel
        have x1 : ¬ ((Str.ofString "none") = Str.ofString "drop") := by decide +kernel
        have x2 : ¬ ((Str.ofString "none") = Str.ofString "put") := by decide +kernel
        have x3 : ¬ ((Str.ofString "none") = Str.ofString "add") := by decide +kernel
        have x4 : ¬ ((Str.ofString "put") = Str.ofString "drop") := by decide +kernel
        have x5 : ¬ ((Str.ofString "put") = Str.ofString "add") := by decide +kernel
        have x6 : ¬ ((Str.ofString "add") = Str.ofString "drop") := by decide +kernel
        have x7 : ¬ ((Str.ofString "add") = Str.ofString "put") := by decide +kernel
        have x8 : ¬ ((Str.ofString "drop") = Str.ofString "put") := by decide +kernel
        have x9 : ¬ ((Str.ofString "drop") = Str.ofString "add") := by decide +kernel
        simp [fDict, hg, e3, e4]
        obtain ⟨s, s1, s2, s3⟩ := src_seq hes (O.lst (l.map Mw.pairD) :: J ++ [.dct (l.map kvD)])
        generalize hf : mFor (.nm 3) _ _ _ _ = r
        have hr : ∃ m : List KV, r = .nx [some (.tup (l.map Mw.pairD)), some d, some (.ref P.length), lastD s.ds none, none, none] (P ++ [.dct (m.map kvD)]) ∧ m = as.foldl app l := by
          rw [← hf]
          obtain ⟨m, h1, h2⟩ := mFor_rel (i := 3) (it := miVal (mVar 1)) (s := s) (e := [some (.tup (l.map Mw.pairD)), some d, some (.ref P.length), none, none, none]) (G := P ++ [.dct (l.map kvD)])
            (E := fun (m : List KV) w => [some (.tup (l.map Mw.pairD)), some d, some (.ref P.length), w, none, none]) (Hh := fun m => P ++ [.dct (m.map kvD)]) (Q := fun m rest => ∃ bs : List Dd, rest = bs.map ddD ∧ (keysL m).Nodup ∧ m.length + bs.length < 1000 ∧ bs.foldl app m = as.foldl app l) l none rfl
            (by
              have : P ++ [.dct (l.map kvD)] = G ++ (O.lst (l.map Mw.pairD) :: J ++ [.dct (l.map kvD)]) := by rw [← hP]; simp
              simp [this]
              simpa using s2) ⟨as, s1, hn, hlen, rfl⟩ (fun _ _ _ => rfl) (fun m _ _ => by
              have : P ++ [.dct (m.map kvD)] = G ++ (O.lst (l.map Mw.pairD) :: J ++ [.dct (m.map kvD)]) := by rw [← hP]; simp
              rw [this]
              exact s3 _) (fun m x rest hq => by
              obtain ⟨bs, e1, e2, e3, e4⟩ := hq
              cases bs with
              | nil => cases e1
              | cons b bs =>
                rw [List.map_cons] at e1
                obtain ⟨rfl, rfl⟩ := List.cons.inj e1
                rw [List.length_cons] at e3
                refine ⟨app m b, ?_, bs, rfl, app_nodup e2 b, by have := app_len m b; omega, e4⟩
                have hb : m.length < 100000 := by omega
                exact aft_step hb)
          exact ⟨m, h1, by
            obtain ⟨bs, e1, _, _, e4⟩ := h2
            cases bs with
            | nil => exact e4
            | cons _ _ => cases e1⟩
        obtain ⟨m, rfl, rfl⟩ := hr
        refine ⟨O.lst (l.map Mw.pairD) :: J ++ [.dct ((as.foldl app l).map kvD), .lst ((sortKV (as.foldl app l)).map Mw.pairD)], ?_⟩
        rw [← hP]
        simp [dSItems, kvI_kv, fTuple]
      · trivial
    · trivial
  · trivial
end Mm
namespace Mm
open PySem L2 Mw
open PyProof.Rows hiding St
/-- the keys that the laws use -/
def keysG : List Str := ["a", "b", "c", "dd", "zzzz", "q"]
def GoodE (e : KV) : Prop := e.1 ∈ keysG ∧ 0 ≤ e.2 ∧ e.2 ≤ 9999
structure GoodL (l : List KV) : Prop where
  nd : (keysL l).Nodup
  all : ∀ e ∈ l, GoodE e
def GoodD : Dd → Prop
  | .non => True
  | .put k v => GoodE (k, v)
  | .add k v => GoodE (k, v)
  | .drop k => k ∈ keysG
theorem putL_mem {l : List KV} {k : Str} {v : Int} {e : KV} (h : e ∈ putL l k v) : e ∈ l ∨ e = (k, v) := by
  unfold putL at h
  split at h
  · obtain ⟨x, hx, rfl⟩ := List.mem_map.mp h
    split
    · rename_i hk; exact .inr (by rw [hk])
    · exact .inl hx
  · rcases List.mem_append.mp h with q | q
    · exact .inl q
    · exact .inr (List.mem_singleton.mp q)
theorem GoodL.app {l : List KV} (h : GoodL l) {d : Dd} (hd : GoodD d) : GoodL (app l d) := by
  refine ⟨app_nodup h.nd d, fun e he => ?_⟩
  cases d with
  | non => exact h.all e he
  | put k v =>
    rcases putL_mem he with q | q
    · exact h.all e q
    · rw [q]; exact hd
  | add k v =>
    rcases putL_mem he with q | q
    · exact h.all e q
    · rw [q]
      refine ⟨hd.1, ?_, ?_⟩
      · show 0 ≤ ((getL l k).getD 0 + v) % 10000
        omega
      · show ((getL l k).getD 0 + v) % 10000 ≤ 9999
        omega
  | drop k => exact h.all e ((List.mem_filter.mp he).1)
theorem GoodL.fold {l : List KV} (h : GoodL l) {ds : List Dd} (hd : ∀ d ∈ ds, GoodD d) : GoodL (ds.foldl Mm.app l) := by
  induction ds generalizing l with
  | nil => exact h
  | cons d ds ih => exact ih (h.app (hd d List.mem_cons_self)) fun z hz => hd z (List.mem_cons_of_mem _ hz)
theorem GoodL.sort {l : List KV} (h : GoodL l) : GoodL (sortKV l) := ⟨sortKV_nodup h.nd, fun e he => h.all e ((sortKV_perm l).mem_iff.mp he)⟩
theorem goodL_nil : GoodL [] := ⟨List.nodup_nil, fun _ h => nomatch h⟩
theorem fold_len (l : List KV) (ds : List Dd) : (ds.foldl app l).length ≤ l.length + ds.length := by
  induction ds generalizing l with
  | nil => exact Nat.le_refl _
  | cons d ds ih =>
    have h1 := ih (app l d)
    have h2 := app_len l d
    rw [List.length_cons, List.foldl_cons]
    omega
theorem keysC_key {x : Str} (h : x ∈ keysG) : isKeyS x = true ∧ PyData.strOk x = true ∧ x.length ≤ 1000 := by
  unfold keysG at h
  simp only [List.mem_cons, List.not_mem_nil, or_false] at h
  rcases h with rfl | rfl | rfl | rfl | rfl | rfl <;> exact ⟨by decide +kernel, by decide +kernel, by decide +kernel⟩
theorem getD_mem {α : Type} {l : List α} {n : Nat} {d : α} (h : n < l.length) : l.getD n d ∈ l := by
  rw [List.getD_eq_getElem?_getD, List.getElem?_eq_getElem h]
  exact List.getElem_mem h
theorem keyN_mem (s : Int) : keyN s ∈ keysG := by
  have h : keyN s ∈ keysC := getD_mem (by show (s / 97 % 5).toNat < 5; omega)
  unfold keysC at h
  unfold keysG
  simp only [List.mem_cons, List.not_mem_nil, or_false] at h ⊢
  rcases h with h | h | h | h | h <;> simp [h]
theorem valN_ok (s : Int) : 0 ≤ valN s ∧ valN s ≤ 9999 := by
  have h : valN s ∈ [s / 7 % 10000, s / 7 % 5, 9999] := getD_mem (by show (s / 11 % 3).toNat < 3; omega)
  simp only [List.mem_cons, List.not_mem_nil, or_false] at h
  omega
theorem deedN_good (s : Int) : GoodD (deedN s) := by
  have h : deedN s ∈ [Dd.put (keyN s) (valN s), .add (keyN s) (valN s), .drop (keyN s), .put (keyN s) (valN s), .non] := getD_mem (by show (s / 13 % 5).toNat < 5; omega)
  simp only [List.mem_cons, List.not_mem_nil, or_false] at h
  rcases h with h | h | h | h | h <;> rw [h]
  · exact ⟨keyN_mem s, valN_ok s⟩
  · exact ⟨keyN_mem s, valN_ok s⟩
  · exact keyN_mem s
  · exact ⟨keyN_mem s, valN_ok s⟩
  · trivial
theorem good_pair {e : KV} (h : GoodE e) (G : Gp) : isPair (Mw.pairD e) = true ∧ okT G (Mw.pairD e) = true := by
  obtain ⟨h1, h2, h3⟩ := keysC_key h.1
  constructor
  · show (isKeyS e.1 && (decide (0 ≤ e.2) && decide (e.2 ≤ 9999))) = true
    rw [h1, decide_eq_true h.2.1, decide_eq_true h.2.2]
    rfl
  · show (okE G (.str e.1) && (okE G (.int e.2) && true)) = true
    rw [show okE G (.str e.1) = (decide (e.1.length ≤ 1000) && PyData.strOk e.1) from rfl, h2, decide_eq_true h3]
    rfl
theorem okE_str {x : Str} {G : Gp} (h : (decide (x.length ≤ 1000) && PyData.strOk x) = true) : okE G (.str x) = true := h
theorem good_deed {d : Dd} (h : GoodD d) (G : Gp) : isDeed (ddD d) = true ∧ okT G (ddD d) = true := by
  have o : ∀ x, x ∈ keysG → okE G (.str x) = true := fun x hx => by
    obtain ⟨h1, h2, h3⟩ := keysC_key hx
    show (decide (x.length ≤ 1000) && PyData.strOk x) = true
    rw [h2, decide_eq_true h3]
    rfl
  have c1 : okE G (.str "none") = true := okE_str (by decide +kernel)
  have c2 : okE G (.str "put") = true := okE_str (by decide +kernel)
  have c3 : okE G (.str "add") = true := okE_str (by decide +kernel)
  have c4 : okE G (.str "drop") = true := okE_str (by decide +kernel)
  cases d with
  | non => exact ⟨by simp [isDeed, ddD], by show (okE G (.str "none") && true) = true; rw [c1]; rfl⟩
  | put k v =>
    obtain ⟨h1, h2, h3⟩ := keysC_key h.1
    constructor
    · have x4 : ¬ ((Str.ofString "put") = Str.ofString "drop") := by decide +kernel
      have x5 : ¬ ((Str.ofString "put") = Str.ofString "none") := by decide +kernel
      have a1 : 0 ≤ v := h.2.1
      have a2 : v ≤ 9999 := h.2.2
      simp [isDeed, ddD, x4, x5, isKey, h1, isWithin, a1, a2]
    · show (okE G (.str "put") && (okE G (.str k) && (okE G (.int v) && true))) = true
      rw [c2, o k h.1]
      rfl
  | add k v =>
    obtain ⟨h1, h2, h3⟩ := keysC_key h.1
    constructor
    · have x4 : ¬ ((Str.ofString "add") = Str.ofString "drop") := by decide +kernel
      have x5 : ¬ ((Str.ofString "add") = Str.ofString "none") := by decide +kernel
      have a1 : 0 ≤ v := h.2.1
      have a2 : v ≤ 9999 := h.2.2
      simp [isDeed, ddD, x4, x5, isKey, h1, isWithin, a1, a2]
    · show (okE G (.str "add") && (okE G (.str k) && (okE G (.int v) && true))) = true
      rw [c3, o k h.1]
      rfl
  | drop k =>
    obtain ⟨h1, h2, h3⟩ := keysC_key h
    constructor
    · have x5 : ¬ ((Str.ofString "drop") = Str.ofString "none") := by decide +kernel
      simp [isDeed, ddD, x5, isKey, h1]
    · show (okE G (.str "drop") && (okE G (.str k) && true)) = true
      rw [c4, o k h]
      rfl
theorem good_things {l : List KV} (h : GoodL l) (hs : l.Pairwise (fun a b => leKV a b = true)) (hl : l.length ≤ 1000) (G : Gp) : areThings (.tup (l.map Mw.pairD)) = true ∧ okTs G (.tup (l.map Mw.pairD)) = true := by
  constructor
  · show ((l.map Mw.pairD).all isPair && ascend (l.map Mw.pairD)) = true
    rw [sorted_asc h.nd hs, Bool.and_true, List.all_eq_true]
    intro d hd
    obtain ⟨e, he, rfl⟩ := List.mem_map.mp hd
    exact (good_pair (h.all e he) G).1
  · show ((l.map Mw.pairD).all (okT G) && decide ((l.map Mw.pairD).length ≤ 1000)) = true
    rw [List.length_map, decide_eq_true hl, Bool.and_true, List.all_eq_true]
    intro d hd
    obtain ⟨e, he, rfl⟩ := List.mem_map.mp hd
    exact (good_pair (h.all e he) G).2
theorem fold_sorted {l : List KV} (hs : l.Pairwise (fun a b => leKV a b = true)) (ds : List Dd) : (ds.foldl afterL l).Pairwise (fun a b => leKV a b = true) := by
  induction ds generalizing l with
  | nil => exact hs
  | cons d ds ih => exact ih (sortKV_pw _)
theorem fold_same {l : List KV} (h : GoodL l) (hs : l.Pairwise (fun a b => leKV a b = true)) {ds : List Dd} (hd : ∀ d ∈ ds, GoodD d) : ds.foldl afterL l = sortKV (ds.foldl app l) :=
  kv_unique (afterL_fold ds l l (List.Perm.refl _) h.nd) (h.fold hd).nd (fold_sorted hs ds)
theorem mapM_some {α β : Type} {f : α → Option β} {g : α → β} : ∀ {l : List α}, (∀ a ∈ l, f a = some (g a)) → l.mapM f = some (l.map g)
  | [], _ => rfl
  | a :: l, h => by
    rw [List.mapM_cons, h a List.mem_cons_self, mapM_some fun z hz => h z (List.mem_cons_of_mem _ hz)]
    rfl
theorem py_things {l : List KV} (h : ∀ e ∈ l, PyData.strOk e.1 = true) (G : Gp) : py G 20 (.tup (l.map Mw.pairD)) = some (.tuple (l.map encKV)) := by
  show ((l.map Mw.pairD).mapM (py G 19)).map PyData.tuple = _
  rw [List.mapM_map]
  rw [mapM_some (g := encKV) fun e he => ?_]
  · rfl
  · show (([D.str e.1, .int e.2]).mapM (py G 18)).map PyData.tuple = _
    simp [py, h e he, encKV]
theorem eqv_things : ∀ l m : List KV, PyData.eqvAll (l.map encKV) (m.map encKV) = decide (l = m)
  | [], [] => by simp [PyData.eqvAll]
  | [], _ :: _ => by simp [PyData.eqvAll]
  | _ :: _, [] => by simp [PyData.eqvAll]
  | a :: l, b :: m => by
    simp only [List.map_cons, PyData.eqvAll, eqv_things l m, encKV, PyData.eqv, Bool.and_true]
    rw [Bool.eq_iff_iff]
    simp [Prod.ext_iff]
theorem eq_things {l m : List KV} (h : ∀ e ∈ l, PyData.strOk e.1 = true) (h' : ∀ e ∈ m, PyData.strOk e.1 = true) (G : Gp) : dEq (.tup (l.map Mw.pairD)) (.tup (m.map Mw.pairD)) G = .ok (decide (l = m)) G := by
  unfold dEq
  rw [py_things h, py_things h']
  show R.ok (PyData.eqvAll (l.map encKV) (m.map encKV)) G = _
  rw [eqv_things]
@[simp high] theorem off0 {H X : Gp} : (H ++ X)[H.length]? = X[0]? := by rw [List.getElem?_append_right (Nat.le_refl _), Nat.sub_self]
@[simp high] theorem off1 {H X : Gp} {k : Nat} : (H ++ X)[H.length + k]? = X[k]? := by rw [List.getElem?_append_right (Nat.le_add_right _ _), Nat.add_sub_cancel_left]
@[simp high] theorem off2 {H X : Gp} {k j : Nat} : (H ++ X)[H.length + k + j]? = X[k + j]? := by rw [Nat.add_assoc]; exact off1
@[simp high] theorem off3 {H X : Gp} {k j i : Nat} : (H ++ X)[H.length + k + j + i]? = X[k + j + i]? := by rw [Nat.add_assoc, Nat.add_assoc, off1, Nat.add_assoc]
theorem step {s t : MS0} {e : En} {G : Gp} (e1 : En) (Q : Gp → Prop) (h : ∃ G1, s e G = .nx e1 G1 ∧ Q G1) (k : ∀ G1, Q G1 → ∃ G', t e1 G1 = .rt (.bl true) G') : ∃ G', mSeq s t e G = .rt (.bl true) G' := by
  obtain ⟨G1, h1, q⟩ := h
  obtain ⟨G', h2⟩ := k G1 q
  exact ⟨G', by unfold mSeq; rw [h1]; exact h2⟩
theorem law_ret {n : Nat} {b : MS0} {ds : List D} {G : Gp} (h : ∃ G', b (startD n ds) G = .rt (.bl true) G') : ∃ G', fnRun n b ds G = .ok (.bl true) G' := by
  obtain ⟨G', h⟩ := h
  exact ⟨G', by unfold fnRun; rw [h]⟩
theorem for3 {i : Nat} {it : MI0} {B : MS0} {e e0 e1 e2 : En} {G G1 G2 G3 : Gp} {d0 d1 d2 : D} (hi : it e G = .ok ⟨[d0, d1, d2], none⟩ G) (h0 : B (e.set i (some d0)) G = .nx e0 G1) (h1 : B (e0.set i (some d1)) G1 = .nx e1 G2) (h2 : B (e1.set i (some d2)) G2 = .nx e2 G3) : mFor (.nm i) it B e G = .nx e2 G3 := by
  unfold mFor
  rw [hi]
  simp only [Src.still, if_true, forGo, Tg.set, h0, h1, h2]
def onInt (g : Int → D) (d : D) : Option D := match d with
  | .int k => some (g k)
  | _ => none
theorem fm_range (g : Int → D) (n : Nat) : (rangeD 0 n).filterMap (onInt g) = (List.range n).map (fun (k : Nat) => g (k : Int)) := by
  unfold rangeD
  rw [List.filterMap_map, ← List.filterMap_eq_map]
  congr 1
  funext k
  show some (g (0 + (k : Int))) = some (g k)
  rw [Int.zero_add]
theorem done_bad {G : Gp} {t d : D} (h : okTs G t = true) (h2 : areThings t = false) : C_done [t, d] G = .exc 2 G := by
  show (if okTs G t = true then (if areThings t = true then _ else R.exc 2 G) else .bad) = _
  rw [if_pos h, if_neg (by rw [h2]; decide)]
theorem done_ok {G : Gp} {l : List KV} {as : List Dd} (h : okTs G (.tup (l.map Mw.pairD)) = true) (h2 : areThings (.tup (l.map Mw.pairD)) = true) (h3 : ∀ a ∈ as, GoodD a) (hl : fits l as = true) (hl2 : as.length ≤ 1000) : C_done [.tup (l.map Mw.pairD), .tup (as.map ddD)] G = .ok (.tup ((as.foldl afterL l).map Mw.pairD)) G := by
  have e1 : (as.map ddD).all (okT G) = true := by
    rw [List.all_eq_true]
    intro d hd
    obtain ⟨a, ha, rfl⟩ := List.mem_map.mp hd
    exact (good_deed (h3 a ha) G).2
  have e2 : (as.map ddD).all isDeed = true := by
    rw [List.all_eq_true]
    intro d hd
    obtain ⟨a, ha, rfl⟩ := List.mem_map.mp hd
    exact (good_deed (h3 a ha) G).1
  unfold C_done
  dsimp only
  rw [if_pos h, if_pos h2, kvs_D, e1, List.length_map, decide_eq_true hl2]
  simp only [Bool.and_true]
  rw [if_pos e2, dds_D]
  simp only
  rw [if_pos hl]
theorem done_odd {G : Gp} {l : List KV} {es : List D} (h : okTs G (.tup (l.map Mw.pairD)) = true) (h2 : areThings (.tup (l.map Mw.pairD)) = true) (h3 : es.all (okT G) = true) (hl : es.length ≤ 1000) (h4 : es.all isDeed = false) : C_done [.tup (l.map Mw.pairD), .tup es] G = .exc 1 G := by
  unfold C_done
  dsimp only
  rw [if_pos h, if_pos h2, kvs_D, h3, decide_eq_true hl]
  simp only [Bool.and_true]
  rw [if_neg (by rw [h4]; decide)]
theorem done_not {G : Gp} {l : List KV} {d : D} (h : okTs G (.tup (l.map Mw.pairD)) = true) (h2 : areThings (.tup (l.map Mw.pairD)) = true) (h3 : okE G d = true) (h4 : ∀ es, d ≠ .tup es) : C_done [.tup (l.map Mw.pairD), d] G = .exc 1 G := by
  unfold C_done
  dsimp only
  rw [if_pos h, if_pos h2]
  cases d with
  | tup es => exact absurd rfl (h4 es)
  | _ => exact if_pos h3
theorem cell_eq {G : Gp} {ns : List Int} {k : Int} (h : 0 ≤ k) : C__law_cell [.scr ns, .int k] G = .ok (.int (cell ns k)) G := if_pos h
theorem laft_eq {G : Gp} {l : List KV} {d : D} {as : List Dd} (hd : seqOf d G = some (as.map ddD)) (hn : (keysL l).Nodup) (hl : l.length + as.length < 1000) : C__law_after [.tup (l.map Mw.pairD), d] G = .ok (.tup ((sortKV (as.foldl app l)).map Mw.pairD)) G := by
  unfold C__law_after
  dsimp only
  rw [kvs_D, hd]
  simp only [Option.bind_some, dds_D]
  rw [if_pos ⟨hn, hl⟩]
theorem atI_mem {α : Type} (l : List α) (i : Int) (h : 0 ≤ i) (h2 : i < l.length) : ∃ a ∈ l, atI l i = some a := by
  have e : i = ((i.toNat : Nat) : Int) := by omega
  have hl : i.toNat < l.length := by omega
  refine ⟨l[i.toNat]'hl, List.getElem_mem _, ?_⟩
  have := atI_nat i.toNat hl
  rw [← e, List.getElem?_eq_getElem hl] at this
  exact this
end Mm
namespace Mm
open PySem L2 Mw
open PyProof.Rows hiding St
def scan {α : Type} (p : α → D → Option α) : α → List D → Option α
  | a, [] => some a
  | a, d :: ds => (p a d).bind fun a' => scan p a' ds
theorem forGo_scan {α : Type} {i : Nat} {B : MS0} {s : Src} {G : Gp} (E : α → Option D → En) (p : α → D → Option α) (hset : ∀ a w d, (E a w).set i (some d) = E a (some d)) (hst : s.still G = true)
    (hB : ∀ a d, d ∈ s.ds → B (E a (some d)) G = match p a d with | some a' => .nx (E a' (some d)) G | none => .rt (.bl false) G) : ∀ (ds : List D) (a : α) (w : Option D), (∀ d ∈ ds, d ∈ s.ds) → forGo (.nm i) B s ds (E a w) G = match scan p a ds with | some a' => .nx (E a' (lastD ds w)) G | none => .rt (.bl false) G
  | [], a, w, _ => rfl
  | d :: ds, a, w, hm => by
    rw [forGo]
    simp only [Tg.set]
    rw [hset, hB a d (hm d List.mem_cons_self), scan]
    cases hp : p a d with
    | none => rfl
    | some a' =>
      dsimp only
      rw [if_pos hst, forGo_scan E p hset hst hB ds a' (some d) fun z hz => hm z (List.mem_cons_of_mem _ hz), lastD_cons]
      rfl
theorem mFor_scan {α : Type} {i : Nat} {it : MI0} {B : MS0} {s : Src} {e : En} {G : Gp} (E : α → Option D → En) (p : α → D → Option α) (a : α) (w : Option D) (he : e = E a w) (hi : it e G = .ok s G) (hset : ∀ a w d, (E a w).set i (some d) = E a (some d)) (hst : s.still G = true)
    (hB : ∀ a d, d ∈ s.ds → B (E a (some d)) G = match p a d with | some a' => .nx (E a' (some d)) G | none => .rt (.bl false) G) : mFor (.nm i) it B e G = match scan p a s.ds with | some a' => .nx (E a' (lastD s.ds w)) G | none => .rt (.bl false) G := by
  unfold mFor
  rw [hi]
  dsimp only
  rw [if_pos hst, he, forGo_scan E p hset hst hB s.ds a w fun _ h => h]
def rowStep (hi lo : Int) (d : D) : Option Int := match d with
  | .tup [t, e] => if (isWithin t lo hi && isDeed e) = true then (match t with
    | .int i => some i
    | _ => none) else none
  | _ => none
def areRows (d : D) (lo hi : Int) : Bool := match d with
  | .tup ds => (scan (rowStep hi) lo ds).isSome
  | _ => false
theorem okT_seen {G : Gp} {d : D} (h : okT G d = true) : seen d G = true := by
  cases d with
  | tup ds => rfl
  | ref n => exact okE_seen (d := .ref n) h
  | scr n => cases h
  | _ => rfl
theorem within_eqT {G : Gp} {d : D} {lo hi : Int} (h : okT G d = true) : C_is_within [d, .int lo, .int hi] G = .ok (.bl (isWithin d lo hi)) G := by
  show (if seen d G = true then R.ok (D.bl (isWithin d lo hi)) G else .bad) = _
  rw [if_pos (okT_seen h)]
def okOne (G : Gp) (d : D) : Bool := match d with
  | .tup ds => ds.all (okT G)
  | d => okE G d
def okRs (G : Gp) (d : D) : Bool := match d with
  | .tup ds => ds.all (okOne G) && decide (ds.length ≤ 1000)
  | d => okE G d
def C_are_rows : FM := fun ds G => match ds with
  | [d, .int lo, .int hi] => if okRs G d = true then .ok (.bl (areRows d lo hi)) G else .bad
  | _ => .bad
theorem K_are_rows {Γ : Fns} {xs : List Nat} (h0 : Kn Γ 0 3 C_is_within) (h2 : Kn Γ 2 1 C_is_deed) : Cleans 3 (fnRun N_are_rows.length (eB Γ xs b_are_rows)) C_are_rows := by
  intro ds G hl hc hlt
  unfold C_are_rows
  split
  · rename_i d lo hi
    split
    · rename_i hs
      refine clr_ok ⟨[], ?_⟩ (Nat.le_refl _) hc rfl
      rw [List.append_nil]
      cases d with
      | tup ds =>
        obtain ⟨hs1, hs2⟩ := ba (show (ds.all (okOne G) && decide (ds.length ≤ 1000)) = true from hs)
        simp [fnRun, b_are_rows, startD, N_are_rows]
        rw [mFor_scan (s := ⟨ds, none⟩) (fun (lo : Int) w => [some (.tup ds), some (.int lo), some (.int hi), w]) (rowStep hi) lo none rfl rfl (fun _ _ _ => rfl) rfl ?hB]
        case hB =>
          intro lo d hd
          have hd' : okOne G d = true := List.all_eq_true.mp hs1 d hd
          cases d with
          | tup l =>
            have hl' : l.all (okT G) = true := hd'
            match l, hl' with
            | [], _ => simp [rowStep, fLen, eq_int]
            | [k], _ => simp [rowStep, fLen, eq_int]
            | [k, v], hkv =>
              have hk : okT G k = true ∧ okT G v = true := by simpa using hkv
              simp [rowStep, fLen, eq_int, ix_tup, h0.1, h0.2, within_eqT hk.1, h2.1, h2.2, deed_eq hk.2]
              cases hw : isWithin k lo hi with
              | false => simp
              | true =>
                obtain ⟨i, rfl, _⟩ := isWithin_inv hw
                cases isDeed v <;> simp [ix_tup]
            | k :: l :: m :: r, _ =>
              have hn : ¬ ((r.length : Int) + 1 + 1 + 1 = 2) := by omega
              simp [rowStep, fLen, eq_int, hn]
          | ref n =>
            have hx' := okE_seen (show okE G (.ref n) = true from hd')
            unfold seen at hx'
            dsimp only at hx'
            split at hx'
            · rename_i g
              simp [rowStep, isi_lst g]
            · rename_i g
              simp [rowStep, isi_dct g]
            · cases hx'
          | scr n => cases hd'
          | _ => simp [rowStep]
        cases hsc : scan (rowStep hi) lo ds with
        | none => simp [areRows, hsc]
        | some a => simp [areRows, hsc]
      | ref n =>
        unfold okRs okE seen at hs
        dsimp only at hs
        split at hs
        · rename_i g
          simp [fnRun, b_are_rows, startD, N_are_rows, isi_lst g, areRows]
        · rename_i g
          simp [fnRun, b_are_rows, startD, N_are_rows, isi_dct g, areRows]
        · cases hs
      | scr ns => cases hs
      | _ => simp [fnRun, b_are_rows, startD, N_are_rows, areRows]
    · trivial
  · trivial
def intOf : D → Int
  | .int i => i
  | _ => 0
def isNilT : D → Bool
  | .tup [] => true
  | _ => false
def lenOf : D → Int
  | .tup ds => ds.length
  | _ => 0
def isPaper : D → Bool
  | .tup [t, b, a, th, rs, k] => isWithin t 0 100000 && (isWithin b 0 100000 && (isWithin a 0 (intOf t) && (areThings th && (!((decide (intOf b = 0) && (!decide (intOf a = 0) || !isNilT th)) || (decide (0 < intOf b) && decide (intOf a = 0))) && (areRows rs (max (intOf a) 1) (intOf t) && isWithin k (intOf b) (intOf b + lenOf rs))))))
  | _ => false
def okP (G : Gp) (d : D) : Bool := match d with
  | .tup [t, b, a, th, rs, k] => okE G t && (okE G b && (okE G a && (okTs G th && (okRs G rs && okE G k))))
  | .tup _ => true
  | d => okE G d
def C_is_paper : FM := fun ds G => match ds with
  | [d] => if okP G d = true then .ok (.bl (isPaper d)) G else .bad
  | _ => .bad
theorem isKeyS_ok {x : Str} (h : isKeyS x = true) : PyData.strOk x = true := by
  obtain ⟨_, h2⟩ := ba h
  obtain ⟨_, h3⟩ := ba h2
  unfold PyData.strOk
  rw [← Array.all_toList, List.all_eq_true]
  intro c hc
  have := of_decide_eq_true (List.all_eq_true.mp h3 c hc)
  have hs : ∀ c ∈ small.cps.toList, c < 0x110000 := by decide +kernel
  exact decide_eq_true (hs c this)
theorem things_inv {d : D} (h : areThings d = true) : ∃ l : List KV, d = .tup (l.map Mw.pairD) ∧ (∀ e ∈ l, isKeyS e.1 = true ∧ 0 ≤ e.2 ∧ e.2 ≤ 9999) ∧ ascend (l.map Mw.pairD) = true := by
  unfold areThings at h
  split at h
  · rename_i ds
    obtain ⟨h1, h2⟩ := ba h
    obtain ⟨l, rfl⟩ := pairs_inv h1
    refine ⟨l, rfl, fun e he => ?_, h2⟩
    obtain ⟨x, i, e1, e2⟩ := isPair_inv2 (List.all_eq_true.mp h1 _ (List.mem_map_of_mem he))
    have : e = (x, i) := by
      unfold Mw.pairD at e1
      injection e1 with e1
      injection e1 with e3 e4
      injection e4 with e4 e5
      injection e3 with e3
      injection e4 with e4
      exact Prod.ext e3 e4
    rw [this]
    exact e2
  · cases h
theorem nil_eq {l : List KV} (h : ∀ e ∈ l, PyData.strOk e.1 = true) (G : Gp) : dEq (.tup (l.map Mw.pairD)) (.tup []) G = .ok (isNilT (.tup (l.map Mw.pairD))) G := by
  have := eq_things (m := []) h (fun _ h => nomatch h) G
  rw [List.map_nil] at this
  rw [this]
  cases l <;> simp [isNilT]
theorem rows_eq {G : Gp} {d : D} {lo hi : Int} (h : okRs G d = true) : C_are_rows [d, .int lo, .int hi] G = .ok (.bl (areRows d lo hi)) G := if_pos h
theorem K_is_paper {Γ : Fns} {xs : List Nat} (h0 : Kn Γ 0 3 C_is_within) (h3 : Kn Γ 3 1 C_are_things) (h13 : Kn Γ 13 3 C_are_rows) : Cleans 1 (fnRun N_is_paper.length (eB Γ xs b_is_paper)) C_is_paper := by
  intro ds G hl hc hlt
  unfold C_is_paper
  split
  · rename_i d
    split
    · rename_i hs
      refine clr_ok ⟨[], ?_⟩ (Nat.le_refl _) hc rfl
      rw [List.append_nil]
      cases d with
      | tup ds =>
        match ds, hs with
        | [t, b, a, th, rs, k], hs =>
          obtain ⟨o1, hs⟩ := ba (show (okE G t && (okE G b && (okE G a && (okTs G th && (okRs G rs && okE G k))))) = true from hs)
          obtain ⟨o2, hs⟩ := ba hs
          obtain ⟨o3, hs⟩ := ba hs
          obtain ⟨o4, hs⟩ := ba hs
          obtain ⟨o5, o6⟩ := ba hs
          cases c1 : isWithin t 0 100000 with
          | false => simp [fnRun, b_is_paper, startD, N_is_paper, isPaper, fLen, eq_int, ix_tup, h0.1, h0.2, within_eq o1, c1]
          | true =>
            obtain ⟨ti, rfl, t1, t2⟩ := isWithin_inv c1
            cases c2 : isWithin b 0 100000 with
            | false => simp [fnRun, b_is_paper, startD, N_is_paper, isPaper, fLen, eq_int, ix_tup, h0.1, h0.2, within_eq o1, c1, within_eq o2, c2]
            | true =>
              obtain ⟨bi, rfl, b1, b2⟩ := isWithin_inv c2
              cases c3 : isWithin a 0 ti with
              | false => simp [fnRun, b_is_paper, startD, N_is_paper, isPaper, fLen, eq_int, ix_tup, h0.1, h0.2, within_eq o1, c1, within_eq o2, c2, within_eq o3, c3, intOf]
              | true =>
                obtain ⟨ai, rfl, a1, a2⟩ := isWithin_inv c3
                cases c4 : areThings th with
                | false => simp [fnRun, b_is_paper, startD, N_is_paper, isPaper, fLen, eq_int, ix_tup, h0.1, h0.2, within_eq o1, c1, within_eq o2, c2, within_eq o3, c3, intOf, h3.1, h3.2, things_eq o4, c4]
                | true =>
                  obtain ⟨l, rfl, l1, l2⟩ := things_inv c4
                  have hnil := nil_eq (l := l) (fun e he => isKeyS_ok (l1 e he).1) G
                  have hrest : ∀ lo, areRows rs lo ti = true → ∃ rl, rs = .tup rl := fun lo h => by
                    cases rs with
                    | tup rl => exact ⟨rl, rfl⟩
                    | _ => cases h
                  by_cases z1 : bi = 0
                  · subst z1
                    by_cases z2 : ai = 0
                    · subst z2
                      cases z3 : isNilT (.tup (l.map Mw.pairD)) with
                      | false => simp [fnRun, b_is_paper, startD, N_is_paper, isPaper, fLen, eq_int, ix_tup, h0.1, h0.2, within_eq o1, c1, within_eq o2, c2, within_eq o3, c3, intOf, h3.1, h3.2, things_eq o4, c4, hnil, fMax, h13.1, h13.2, rows_eq o5, z3]
                      | true =>
                        cases c5 : areRows rs (max 0 1) ti with
                        | false =>
                          simp [fnRun, b_is_paper, startD, N_is_paper, isPaper, fLen, eq_int, ix_tup, h0.1, h0.2, within_eq o1, c1, within_eq o2, c2, within_eq o3, c3, intOf, h3.1, h3.2, things_eq o4, c4, hnil, fMax, h13.1, h13.2, rows_eq o5, c5, z3]
                        | true =>
                          obtain ⟨rl, rfl⟩ := hrest _ c5
                          simp [fnRun, b_is_paper, startD, N_is_paper, isPaper, fLen, eq_int, ix_tup, h0.1, h0.2, within_eq o1, c1, within_eq o2, c2, within_eq o3, c3, intOf, h3.1, h3.2, things_eq o4, c4, hnil, fMax, h13.1, h13.2, rows_eq o5, c5, z3, within_eq o6, lenOf]
                    · simp [fnRun, b_is_paper, startD, N_is_paper, isPaper, fLen, eq_int, ix_tup, h0.1, h0.2, within_eq o1, c1, within_eq o2, c2, within_eq o3, c3, intOf, h3.1, h3.2, things_eq o4, c4, hnil, fMax, h13.1, h13.2, rows_eq o5, z2]
                  · have z4 : 0 < bi := by omega
                    by_cases z2 : ai = 0
                    · subst z2
                      simp [fnRun, b_is_paper, startD, N_is_paper, isPaper, fLen, eq_int, ix_tup, h0.1, h0.2, within_eq o1, c1, within_eq o2, c2, within_eq o3, c3, intOf, h3.1, h3.2, things_eq o4, c4, hnil, fMax, h13.1, h13.2, rows_eq o5, z1, z4]
                    · skip
                      cases c5 : areRows rs (max ai 1) ti with
                      | false =>
                        simp [fnRun, b_is_paper, startD, N_is_paper, isPaper, fLen, eq_int, ix_tup, h0.1, h0.2, within_eq o1, c1, within_eq o2, c2, within_eq o3, c3, intOf, h3.1, h3.2, things_eq o4, c4, hnil, fMax, h13.1, h13.2, rows_eq o5, c5, z1, z2, z4]
                      | true =>
                        obtain ⟨rl, rfl⟩ := hrest _ c5
                        simp [fnRun, b_is_paper, startD, N_is_paper, isPaper, fLen, eq_int, ix_tup, h0.1, h0.2, within_eq o1, c1, within_eq o2, c2, within_eq o3, c3, intOf, h3.1, h3.2, things_eq o4, c4, hnil, fMax, h13.1, h13.2, rows_eq o5, c5, z1, z2, z4, within_eq o6, lenOf]
        | [], _ => simp [fnRun, b_is_paper, startD, N_is_paper, isPaper, fLen, eq_int]
        | [_], _ => simp [fnRun, b_is_paper, startD, N_is_paper, isPaper, fLen, eq_int]
        | [_, _], _ => simp [fnRun, b_is_paper, startD, N_is_paper, isPaper, fLen, eq_int]
        | [_, _, _], _ => simp [fnRun, b_is_paper, startD, N_is_paper, isPaper, fLen, eq_int]
        | [_, _, _, _], _ => simp [fnRun, b_is_paper, startD, N_is_paper, isPaper, fLen, eq_int]
        | [_, _, _, _, _], _ => simp [fnRun, b_is_paper, startD, N_is_paper, isPaper, fLen, eq_int]
        | _ :: _ :: _ :: _ :: _ :: _ :: _ :: r, _ =>
          have hn : ¬ ((r.length : Int) + 1 + 1 + 1 + 1 + 1 + 1 + 1 = 6) := by omega
          simp [fnRun, b_is_paper, startD, N_is_paper, isPaper, fLen, eq_int, hn]
      | ref n =>
        unfold okP okE seen at hs
        dsimp only at hs
        split at hs
        · rename_i g
          simp [fnRun, b_is_paper, startD, N_is_paper, isi_lst g, isPaper]
        · rename_i g
          simp [fnRun, b_is_paper, startD, N_is_paper, isi_dct g, isPaper]
        · cases hs
      | scr ns => cases hs
      | _ => simp [fnRun, b_is_paper, startD, N_is_paper, isPaper]
    · trivial
  · trivial
end Mm
namespace Mm
open PySem L2 Mw
open PyProof.Rows hiding St
abbrev Rw := Int × Dd
structure Pp where
  term : Int
  base : Int
  ahead : Int
  things : List KV
  rows : List Rw
  kept : Int
def rowD (r : Rw) : D := .tup [.int r.1, ddD r.2]
def ppD (p : Pp) : D := .tup [.int p.term, .int p.base, .int p.ahead, .tup (p.things.map Mw.pairD), .tup (p.rows.map rowD), .int p.kept]
def rows? : List D → Option (List Rw)
  | [] => some []
  | .tup [.int t, d] :: r => (match dd? d, rows? r with
    | some a, some l => some ((t, a) :: l)
    | _, _ => none)
  | _ :: _ => none
theorem rows_inv : ∀ {ds : List D} {l : List Rw}, rows? ds = some l → ds = l.map rowD
  | [], l, h => by cases h; rfl
  | d :: ds, l, h => by
    unfold rows? at h
    split at h
    · cases ‹_ :: _ = []›
    · rename_i t d r q
      cases q
      split at h
      · rename_i a m h1 h2
        cases h
        rw [rows_inv h2, dd_inv h1]
        rfl
      · cases h
    · cases h
theorem rows_D : ∀ l : List Rw, rows? (l.map rowD) = some l
  | [] => rfl
  | r :: l => by
    rw [List.map_cons, rowD, rows?, dd_D, rows_D l]
def pp? : D → Option Pp
  | .tup [.int t, .int b, .int a, .tup th, .tup rs, .int k] => (match kvs? th, rows? rs with
    | some l, some m => some ⟨t, b, a, l, m, k⟩
    | _, _ => none)
  | _ => none
theorem pp_inv {d : D} {p : Pp} (h : pp? d = some p) : d = ppD p := by
  unfold pp? at h
  split at h
  · split at h
    · rename_i l m h1 h2
      cases h
      rw [kvs_inv h1, rows_inv h2]
      rfl
    · cases h
  · cases h
theorem pp_D (p : Pp) : pp? (ppD p) = some p := by
  unfold ppD pp?
  simp only [kvs_D, rows_D]
theorem ltD_row {m : Nat} (r : Rw) : ltD m (rowD r) = true := by
  show (ltD m (.int r.1) && (ltD m (ddD r.2) && true)) = true
  rw [ltD_dd]
  rfl
theorem ltD_rows {m : Nat} (l : List Rw) : ltD m (.tup (l.map rowD)) = true := by
  rw [ltD, ltDs_all]
  intro d hd
  obtain ⟨e, _, rfl⟩ := List.mem_map.mp hd
  exact ltD_row e
theorem ltD_pp {m : Nat} (p : Pp) : ltD m (ppD p) = true := by
  show (true && (true && (true && (ltD m (.tup (p.things.map Mw.pairD)) && (ltD m (.tup (p.rows.map rowD)) && (true && true)))))) = true
  rw [lt_pairs, ltD_rows]
  rfl
def lenP (p : Pp) : Int := p.base + p.rows.length
theorem scan_rows {hi : Int} : ∀ {ds : List D} {lo : Int}, (scan (rowStep hi) lo ds).isSome = true → ∃ l : List Rw, ds = l.map rowD ∧ (∀ r ∈ l, lo ≤ r.1 ∧ r.1 ≤ hi ∧ isDeed (ddD r.2) = true)
  | [], lo, _ => ⟨[], rfl, fun _ h => nomatch h⟩
  | d :: ds, lo, h => by
    rw [scan] at h
    cases hp : rowStep hi lo d with
    | none => rw [hp] at h; cases h
    | some t =>
      rw [hp] at h
      obtain ⟨l, rfl, hl⟩ := scan_rows (ds := ds) (lo := t) h
      unfold rowStep at hp
      split at hp
      · rename_i x e
        split at hp
        · rename_i hw
          obtain ⟨w1, w2⟩ := ba hw
          obtain ⟨i, rfl, i1, i2⟩ := isWithin_inv w1
          obtain ⟨a, rfl⟩ := isDeed_inv w2
          cases hp
          refine ⟨(t, a) :: l, rfl, fun r hr => ?_⟩
          rcases List.mem_cons.mp hr with q | q
          · rw [q]; exact ⟨i1, i2, w2⟩
          · obtain ⟨h1, h2, h3⟩ := hl r q
            exact ⟨Int.le_trans i1 h1, h2, h3⟩
        · cases hp
      · cases hp
structure Valid (p : Pp) : Prop where
  t1 : 0 ≤ p.term ∧ p.term ≤ 100000
  b1 : 0 ≤ p.base ∧ p.base ≤ 100000
  a1 : 0 ≤ p.ahead ∧ p.ahead ≤ p.term
  th : ∀ e ∈ p.things, isKeyS e.1 = true ∧ 0 ≤ e.2 ∧ e.2 ≤ 9999
  asc : ascend (p.things.map Mw.pairD) = true
  rs : ∀ r ∈ p.rows, isDeed (ddD r.2) = true ∧ 1 ≤ r.1 ∧ r.1 ≤ p.term
  k1 : p.base ≤ p.kept ∧ p.kept ≤ lenP p
theorem paper_inv {d : D} (h : isPaper d = true) : ∃ p : Pp, d = ppD p ∧ Valid p := by
  unfold isPaper at h
  split at h
  · rename_i t b a th rs k
    obtain ⟨c1, h⟩ := ba h
    obtain ⟨c2, h⟩ := ba h
    obtain ⟨c3, h⟩ := ba h
    obtain ⟨c4, h⟩ := ba h
    obtain ⟨c5, h⟩ := ba h
    obtain ⟨c6, c7⟩ := ba h
    obtain ⟨ti, rfl, t1, t2⟩ := isWithin_inv c1
    obtain ⟨bi, rfl, b1, b2⟩ := isWithin_inv c2
    obtain ⟨ai, rfl, a1, a2⟩ := isWithin_inv c3
    obtain ⟨l, rfl, l1, l2⟩ := things_inv c4
    obtain ⟨ki, rfl, k1, k2⟩ := isWithin_inv c7
    cases rs with
    | tup rs =>
      obtain ⟨m, rfl, m1⟩ := scan_rows (show (scan (rowStep ti) (max ai 1) rs).isSome = true from c6)
      refine ⟨⟨ti, bi, ai, l, m, ki⟩, rfl, ⟨t1, t2⟩, ⟨b1, b2⟩, ⟨a1, a2⟩, l1, l2, fun r hr => ?_, ⟨k1, ?_⟩⟩
      · obtain ⟨h1, h2, h3⟩ := m1 r hr
        exact ⟨h3, by omega, h2⟩
      · have : lenOf (.tup (m.map rowD)) = (m.length : Int) := by simp [lenOf]
        rw [this] at k2
        exact k2
    | _ => cases c6
  · cases h
def C_look : FM := fun ds G => match ds with
  | [d] => if okP G d = true then (if isPaper d = true then .ok .non G else .exc 3 G) else .bad
  | _ => .bad
theorem paper_eq {G : Gp} {d : D} (h : okP G d = true) : C_is_paper [d] G = .ok (.bl (isPaper d)) G := if_pos h
theorem K_look {Γ : Fns} {xs : List Nat} (h14 : Kn Γ 14 1 C_is_paper) : Cleans 1 (fnRun N_look.length (eB Γ xs b_look)) C_look := by
  intro ds G hl hc hlt
  unfold C_look
  split
  · rename_i d
    split
    · rename_i ho
      split
      · rename_i hp
        refine clr_ok ⟨[], ?_⟩ (Nat.le_refl _) hc rfl
        simp [fnRun, b_look, startD, N_look, h14.1, h14.2, paper_eq ho, hp]
      · rename_i hp
        have hp' : isPaper d = false := by simpa using hp
        refine clr_exc ⟨[], ?_⟩ (Nat.le_refl _) hc
        simp [fnRun, b_look, startD, N_look, h14.1, h14.2, paper_eq ho, hp']
    · trivial
  · trivial
def C_length_of : FM := fun ds G => match ds with
  | [d] => (match pp? d with
    | some p => .ok (.int (lenP p)) G
    | none => .bad)
  | _ => .bad
theorem K_length_of {Γ : Fns} {xs : List Nat} : Cleans 1 (fnRun N_length_of.length (eB Γ xs b_length_of)) C_length_of := by
  intro ds G hl hc hlt
  unfold C_length_of
  split
  · rename_i d
    split
    · rename_i p hp
      obtain rfl := pp_inv hp
      refine clr_ok ⟨[], ?_⟩ (Nat.le_refl _) hc rfl
      simp [fnRun, b_length_of, startD, N_length_of, ppD, ix_tup, fLen, lenP]
    · trivial
  · trivial
theorem length_eq {G : Gp} (p : Pp) : C_length_of [ppD p] G = .ok (.int (lenP p)) G := by
  unfold C_length_of
  dsimp only
  rw [pp_D]
theorem look_eq {G : Gp} {d : D} (h : okP G d = true) (h2 : isPaper d = true) : C_look [d] G = .ok .non G := by
  unfold C_look
  dsimp only
  rw [if_pos h, if_pos h2]
theorem look_bad {G : Gp} {d : D} (h : okP G d = true) (h2 : isPaper d = false) : C_look [d] G = .exc 3 G := by
  unfold C_look
  dsimp only
  rw [if_pos h, if_neg (by rw [h2]; decide)]
/-- what looks first, and then is done with a paper -/
def lookC (f : Pp → Option D) : FM := fun ds G => match ds with
  | [d] => if okP G d = true then (if isPaper d = true then (match (pp? d).bind f with
    | some r => .ok r G
    | none => .bad) else .exc 3 G) else .bad
  | _ => .bad
def C_length : FM := lookC fun p => some (.int (lenP p))
theorem K_length {Γ : Fns} {xs : List Nat} (h18 : Kn Γ 18 1 C_look) (h19 : Kn Γ 19 1 C_length_of) : Cleans 1 (fnRun N_length.length (eB Γ xs b_length)) C_length := by
  intro ds G hl hc hlt
  unfold C_length lookC
  split
  · rename_i d
    split
    · rename_i ho
      split
      · rename_i hp
        obtain ⟨p, rfl, _⟩ := paper_inv hp
        rw [pp_D]
        refine clr_ok ⟨[], ?_⟩ (Nat.le_refl _) hc rfl
        simp [fnRun, b_length, startD, N_length, h18.1, h18.2, look_eq ho hp, h19.1, h19.2, length_eq]
      · rename_i hp
        have hp' : isPaper d = false := by simpa using hp
        refine clr_exc ⟨[], ?_⟩ (Nat.le_refl _) hc
        simp [fnRun, b_length, startD, N_length, h18.1, h18.2, look_bad ho hp']
    · trivial
  · trivial
def termAt (p : Pp) (n : Int) : Option Int := if n = p.base then some p.ahead else (atI p.rows (n - p.base - 1)).map (·.1)
def C_term_at : FM := fun ds G => match ds with
  | [d, .int n] => (match (pp? d).bind fun p => termAt p n with
    | some t => .ok (.int t) G
    | none => .bad)
  | _ => .bad
theorem K_term_at {Γ : Fns} {xs : List Nat} : Cleans 2 (fnRun N_term_at.length (eB Γ xs b_term_at)) C_term_at := by
  intro ds G hl hc hlt
  unfold C_term_at
  split
  · rename_i d n
    split
    · rename_i t ht
      obtain ⟨p, hp, h2⟩ := Option.bind_eq_some_iff.mp ht
      obtain rfl := pp_inv hp
      refine clr_ok ⟨[], ?_⟩ (Nat.le_refl _) hc rfl
      unfold termAt at h2
      split at h2
      · rename_i e
        cases h2
        simp [fnRun, b_term_at, startD, N_term_at, ppD, ix_tup, eq_int, e]
      · rename_i e
        obtain ⟨r, h3, rfl⟩ := Option.map_eq_some_iff.mp h2
        have h4 : atI (p.rows.map rowD) (n - p.base - 1) = some (rowD r) := by rw [atI_map, h3]; rfl
        simp [fnRun, b_term_at, startD, N_term_at, ppD, ix_tup, eq_int, e, ix_tup h4]
        simp [rowD, ix_tup]
    · trivial
  · trivial
theorem term_eq {G : Gp} {p : Pp} {n t : Int} (h : termAt p n = some t) : C_term_at [ppD p, .int n] G = .ok (.int t) G := by
  unfold C_term_at
  dsimp only
  rw [pp_D]
  simp only [Option.bind_some, h]
theorem termAt_some {p : Pp} {n : Int} (h1 : p.base ≤ n) (h2 : n ≤ lenP p) : ∃ t, termAt p n = some t := by
  unfold termAt
  split
  · exact ⟨_, rfl⟩
  · unfold lenP at h2
    obtain ⟨r, _, h⟩ := atI_mem p.rows (n - p.base - 1) (by omega) (by omega)
    exact ⟨r.1, by rw [h]; rfl⟩
def C_last_of : FM := fun ds G => match ds with
  | [d] => (match (pp? d).bind fun p => (termAt p (lenP p)).map fun t => (t, lenP p) with
    | some (t, n) => .ok (.tup [.int t, .int n]) G
    | none => .bad)
  | _ => .bad
theorem K_last_of {Γ : Fns} {xs : List Nat} (h19 : Kn Γ 19 1 C_length_of) (h21 : Kn Γ 21 2 C_term_at) : Cleans 1 (fnRun N_last_of.length (eB Γ xs b_last_of)) C_last_of := by
  intro ds G hl hc hlt
  unfold C_last_of
  split
  · rename_i d
    split
    · rename_i t n ht
      obtain ⟨p, hp, h2⟩ := Option.bind_eq_some_iff.mp ht
      obtain rfl := pp_inv hp
      obtain ⟨t', h3, h4⟩ := Option.map_eq_some_iff.mp h2
      cases h4
      refine clr_ok ⟨[], ?_⟩ (Nat.le_refl _) hc rfl
      simp [fnRun, b_last_of, startD, N_last_of, h19.1, h19.2, length_eq, h21.1, h21.2, term_eq h3]
    · trivial
  · trivial
theorem last_eq {G : Gp} {p : Pp} {t : Int} (h : termAt p (lenP p) = some t) : C_last_of [ppD p] G = .ok (.tup [.int t, .int (lenP p)]) G := by
  unfold C_last_of
  dsimp only
  rw [pp_D]
  simp only [Option.bind_some, h, Option.map_some]
def C_last : FM := lookC fun p => (termAt p (lenP p)).map fun t => .tup [.int t, .int (lenP p)]
theorem K_last {Γ : Fns} {xs : List Nat} (h18 : Kn Γ 18 1 C_look) (h22 : Kn Γ 22 1 C_last_of) : Cleans 1 (fnRun N_last.length (eB Γ xs b_last)) C_last := by
  intro ds G hl hc hlt
  unfold C_last lookC
  split
  · rename_i d
    split
    · rename_i ho
      split
      · rename_i hp
        obtain ⟨p, rfl, hv⟩ := paper_inv hp
        rw [pp_D]
        obtain ⟨t, ht⟩ := termAt_some (p := p) (n := lenP p) (Int.le_trans hv.k1.1 hv.k1.2) (Int.le_refl _)
        simp only [Option.bind_some, ht, Option.map_some]
        refine clr_ok ⟨[], ?_⟩ (Nat.le_refl _) hc rfl
        simp [fnRun, b_last, startD, N_last, h18.1, h18.2, look_eq ho hp, h22.1, h22.2, last_eq ht]
      · rename_i hp
        have hp' : isPaper d = false := by simpa using hp
        refine clr_exc ⟨[], ?_⟩ (Nat.le_refl _) hc
        simp [fnRun, b_last, startD, N_last, h18.1, h18.2, look_bad ho hp']
    · trivial
  · trivial
end Mm
namespace Mm
open PySem L2 Mw
open PyProof.Rows hiding St
theorem cut_take {ds : List D} {k : Int} (h : 0 ≤ k) : Mw.cutD ds none (some k) = ds.take k.toNat := by
  unfold Mw.cutD HT.sIx
  simp only [if_neg (show ¬ k < 0 by omega), List.drop_zero, Nat.sub_zero]
  by_cases h2 : k.toNat ≤ ds.length
  · rw [Nat.min_eq_left h2]
  · rw [Nat.min_eq_right (by omega), List.take_length, List.take_of_length_le (by omega)]
theorem cut_drop {ds : List D} {k : Int} (h : 0 ≤ k) : Mw.cutD ds (some k) none = ds.drop k.toNat := by
  unfold Mw.cutD HT.sIx
  simp only [if_neg (show ¬ k < 0 by omega)]
  by_cases h2 : k.toNat ≤ ds.length
  · rw [Nat.min_eq_left h2, List.take_of_length_le (by rw [List.length_drop]; omega)]
  · rw [Nat.min_eq_right (by omega), List.drop_length, List.drop_of_length_le (by omega)]
    simp
/-- [row[1] for row in ..] -/
theorem rows_lc {i : Nat} {it : MI0} {e : En} {G G1 : Gp} {m : List Rw} (hi : it e G = .ok ⟨m.map rowD, none⟩ G1) (hl : m.length ≤ 1000) (hlen : i < e.length) : ∃ J, mLc (.nm i) it mYes (mBin dIx (mVar i) (mC (.int 1))) [i] e G = .ok (.ref G1.length) (G1 ++ .lst ((m.map (·.2)).map ddD) :: J) := by
  obtain ⟨J, hJ⟩ := mLc_ok (t := .nm i) (it := it) (tst := mYes) (elt := mBin dIx (mVar i) (mC (.int 1))) (vs := [i]) (e := e) (G := G) (G1 := G1) (s := ⟨m.map rowD, none⟩) (fun d => match d with | .tup [_, x] => some x | _ => none) hi rfl (by rw [List.length_map]; simp; omega) (fun d hd acc J => by
    obtain ⟨r, _, rfl⟩ := List.mem_map.mp hd
    refine ⟨_, true, J, rfl, rfl, .inr ⟨rfl, ddD r.2, J, rfl, ?_⟩⟩
    have : i < (wipeE e [i]).length := by simpa [wipeE] using hlen
    simp [List.getElem?_set_self this, rowD, ix_tup])
  refine ⟨J, ?_⟩
  rw [hJ]
  congr 4
  rw [List.filterMap_map, List.map_map, ← List.filterMap_eq_map]
  rfl
def deedsUp (p : Pp) (n : Nat) : List Dd := (p.rows.take n).map (·.2)
def thingsP (p : Pp) (n : Int) : List KV := (deedsUp p (n - p.base).toNat).foldl afterL p.things
def small? (p : Pp) (n : Int) : Bool := decide (p.rows.length ≤ 1000) && fits p.things (deedsUp p (n - p.base).toNat)
def C_things_of : FM := fun ds G => match ds with
  | [d] => (match pp? d with
    | some p => if (keysL p.things).Nodup ∧ p.base ≤ p.kept ∧ small? p p.kept = true then .ok (.tup ((thingsP p p.kept).map Mw.pairD)) G else .bad
    | none => .bad)
  | _ => .bad
theorem K_things_of {Γ : Fns} {xs : List Nat} (h5 : Kn Γ 5 2 C_after_all) : Cleans 1 (fnRun N_things_of.length (eB Γ xs b_things_of)) C_things_of := by
  intro ds G hl hc hlt
  unfold C_things_of
  split
  · rename_i d
    split
    · rename_i p hp
      split
      · rename_i hcond
        obtain ⟨hn, hk, hs⟩ := hcond
        obtain ⟨s1, s2⟩ := ba hs
        obtain rfl := pp_inv hp
        refine clr_ok ?_ (Nat.le_refl _) hc (lt_pairs _)
        obtain ⟨J, hJ⟩ := rows_lc (i := 1) (it := miVal (mSl (mBin dIx (mVar 0) (mC (.int 4))) none (some (mBin dSub (mBin dIx (mVar 0) (mC (.int 5))) (mBin dIx (mVar 0) (mC (.int 1))))))) (e := [some (ppD p), none]) (G := G) (G1 := G) (m := p.rows.take (p.kept - p.base).toNat) (by
          simp [ppD, ix_tup, dIx, atI, ixN, dSl, cut_take (show 0 ≤ p.kept - p.base by omega), List.map_take]) (by have := of_decide_eq_true s1; rw [List.length_take]; omega) (by simp)
        unfold thingsP
        generalize ha : deedsUp p (p.kept - p.base).toNat = as at s2 ⊢
        rw [show (p.rows.take (p.kept - p.base).toNat).map (·.2) = as from ha] at hJ
        refine ⟨.lst (as.map ddD) :: J, ?_⟩
        have hA := all_eq (G := G ++ .lst (as.map ddD) :: J) (d := .ref G.length) (as := as) (by simp [seqOf]) hn s2
        have hi : dIx (ppD p) (.int 3) G = .ok (.tup (p.things.map Mw.pairD)) G := by simp [ppD, ix_tup]
        simp [fnRun, b_things_of, startD, N_things_of, hi]
        rw [hJ]
        simp [h5.1, h5.2, hA]
      · trivial
    · trivial
  · trivial
theorem thingsof_eq {G : Gp} {p : Pp} (hn : (keysL p.things).Nodup) (hk : p.base ≤ p.kept) (hs : small? p p.kept = true) : C_things_of [ppD p] G = .ok (.tup ((thingsP p p.kept).map Mw.pairD)) G := by
  unfold C_things_of
  dsimp only
  rw [pp_D]
  simp only
  rw [if_pos ⟨hn, hk, hs⟩]
def C_things : FM := lookC fun p => if small? p p.kept = true then some (.tup ((thingsP p p.kept).map Mw.pairD)) else none
theorem K_things {Γ : Fns} {xs : List Nat} (h18 : Kn Γ 18 1 C_look) (h24 : Kn Γ 24 1 C_things_of) : Cleans 1 (fnRun N_things.length (eB Γ xs b_things)) C_things := by
  intro ds G hl hc hlt
  unfold C_things lookC
  split
  · rename_i d
    split
    · rename_i ho
      split
      · rename_i hp
        obtain ⟨p, rfl, hv⟩ := paper_inv hp
        rw [pp_D]
        simp only [Option.bind_some]
        by_cases hs : small? p p.kept = true
        · rw [if_pos hs]
          refine clr_ok ⟨[], ?_⟩ (Nat.le_refl _) hc (lt_pairs _)
          simp [fnRun, b_things, startD, N_things, h18.1, h18.2, look_eq ho hp, h24.1, h24.2, thingsof_eq (asc_nodup hv.asc) hv.k1.1 hs]
        · rw [if_neg hs]
          trivial
      · rename_i hp
        have hp' : isPaper d = false := by simpa using hp
        refine clr_exc ⟨[], ?_⟩ (Nat.le_refl _) hc
        simp [fnRun, b_things, startD, N_things, h18.1, h18.2, look_bad ho hp']
    · trivial
  · trivial
theorem tg_nm {i : Nat} {d : D} {e : En} : (Tg.nm i).set d e = some (e.set i (some d)) := rfl
def trimP (p : Pp) (n : Int) : Pp := ⟨p.term, n, (termAt p n).getD 0, thingsP p n, p.rows.drop (n - p.base).toNat, p.kept⟩
def C_trimmed : FM := fun ds G => match ds with
  | [d, nd] => if okP G d = true ∧ okE G nd = true then (if isPaper d = true then (match pp? d with
    | some p => if isWithin nd p.base p.kept = true then (if small? p (intOf nd) = true then .ok (ppD (trimP p (intOf nd))) G else .bad) else .exc 5 G
    | none => .bad) else .exc 3 G) else .bad
  | _ => .bad
theorem K_trimmed {Γ : Fns} {xs : List Nat} (h0 : Kn Γ 0 3 C_is_within) (h5 : Kn Γ 5 2 C_after_all) (h18 : Kn Γ 18 1 C_look) (h21 : Kn Γ 21 2 C_term_at) : Cleans 2 (fnRun N_trimmed.length (eB Γ xs b_trimmed)) C_trimmed := by
  intro ds G hl hc hlt
  unfold C_trimmed
  split
  · rename_i d nd
    split
    · rename_i ho
      obtain ⟨ho, ho2⟩ := ho
      split
      · rename_i hp
        obtain ⟨p, rfl, hv⟩ := paper_inv hp
        rw [pp_D]
        simp only
        have i1 : dIx (ppD p) (.int 1) G = .ok (.int p.base) G := by simp [ppD, ix_tup]
        have i5 : dIx (ppD p) (.int 5) G = .ok (.int p.kept) G := by simp [ppD, dIx, atI, ixN]
        split
        · rename_i hw
          obtain ⟨n, rfl, n1, n2⟩ := isWithin_inv hw
          split
          · rename_i hs
            obtain ⟨s1, s2⟩ := ba hs
            simp only [intOf] at s2 ⊢
            obtain ⟨t, ht⟩ := termAt_some (p := p) (n := n) n1 (Int.le_trans n2 hv.k1.2)
            refine clr_ok ?_ (Nat.le_refl _) hc (ltD_pp _)
            obtain ⟨J, hJ⟩ := rows_lc (i := 9) (it := miVal (mSl (mVar 7) none (some (mVar 2)))) (e := [some (ppD p), some (.int n), some (.int (n - p.base)), some (.int p.term), some (.int p.base), some (.int p.ahead), some (.tup (p.things.map Mw.pairD)), some (.tup (p.rows.map rowD)), some (.int p.kept), none]) (G := G) (G1 := G) (m := p.rows.take (n - p.base).toNat) (by
              simp [dSl, cut_take (show 0 ≤ n - p.base by omega), List.map_take]) (by have := of_decide_eq_true s1; rw [List.length_take]; omega) (by simp)
            unfold trimP thingsP
            generalize ha : deedsUp p (n - p.base).toNat = as at s2 ⊢
            rw [show (p.rows.take (n - p.base).toNat).map (·.2) = as from ha] at hJ
            refine ⟨.lst (as.map ddD) :: J, ?_⟩
            have hA := all_eq (G := G ++ .lst (as.map ddD) :: J) (d := .ref G.length) (as := as) (by simp [seqOf]) (asc_nodup hv.asc) s2
            have hset : (Tg.tp [3, 4, 5, 6, 7, 8]).set (ppD p) [some (ppD p), some (.int n), none, none, none, none, none, none, none, none] = some [some (ppD p), some (.int n), none, some (.int p.term), some (.int p.base), some (.int p.ahead), some (.tup (p.things.map Mw.pairD)), some (.tup (p.rows.map rowD)), some (.int p.kept), none] := rfl
            have hd := cut_drop (ds := p.rows.map rowD) (show 0 ≤ n - p.base by omega)
            simp [-Tg.set, tg_nm, fnRun, b_trimmed, startD, N_trimmed, h18.1, h18.2, look_eq ho hp, i1, i5, h0.1, h0.2, within_eq ho2, hw, hset, h21.1, h21.2, term_eq ht]
            rw [hJ]
            simp [h5.1, h5.2, hA, dSl, hd, ht, ppD, List.map_drop]
          · trivial
        · rename_i hw
          have hw' : isWithin nd p.base p.kept = false := by simpa using hw
          refine clr_exc ⟨[], ?_⟩ (Nat.le_refl _) hc
          simp [fnRun, b_trimmed, startD, N_trimmed, h18.1, h18.2, look_eq ho hp, i1, i5, h0.1, h0.2, within_eq ho2, hw']
      · rename_i hp
        have hp' : isPaper d = false := by simpa using hp
        refine clr_exc ⟨[], ?_⟩ (Nat.le_refl _) hc
        simp [fnRun, b_trimmed, startD, N_trimmed, h18.1, h18.2, look_bad ho hp']
    · trivial
  · trivial
end Mm
namespace Mm
open PySem L2 Mw
open PyProof.Rows hiding St
def plainD : Nat → D → Bool
  | _, .non => true
  | _, .int _ => true
  | _, .str x => PyData.strOk x
  | n + 1, .tup ds => ds.all (plainD n)
  | _, _ => false
def toPy : Nat → D → PyData
  | _, .int i => .int i
  | _, .str x => .str x
  | n + 1, .tup ds => .tuple (ds.map (toPy n))
  | _, _ => .none
theorem py_plain {G : Gp} : ∀ (n : Nat) (d : D), plainD n d = true → py G n d = some (toPy n d)
  | n, .non, _ => by cases n <;> rfl
  | n, .int i, _ => by cases n <;> rfl
  | n, .str x, h => by
    have h' : PyData.strOk x = true := by cases n <;> exact h
    cases n <;> simp [py, toPy, h']
  | n + 1, .tup ds, h => by
    have h' : ds.all (plainD n) = true := h
    show (ds.mapM (py G n)).map PyData.tuple = some (.tuple (ds.map (toPy n)))
    rw [mapM_some (g := toPy n) fun d hd => py_plain n d (List.all_eq_true.mp h' d hd)]
    rfl
  | 0, .tup ds, h => by cases h
  | 0, .bl _, h => by cases h
  | n + 1, .bl _, h => by cases h
  | 0, .ref _, h => by cases h
  | n + 1, .ref _, h => by cases h
  | 0, .scr _, h => by cases h
  | n + 1, .scr _, h => by cases h
theorem eqv_plain : ∀ (n : Nat) (a b : D), plainD n a = true → plainD n b = true → PyData.eqv (toPy n a) (toPy n b) = D.beq a b := by
  intro n
  induction n with
  | zero =>
    intro a b ha hb
    cases a <;> first | (cases ha; done) | skip
    all_goals (cases b <;> first | (cases hb; done) | skip)
    all_goals simp [toPy, PyData.eqv, D.beq]
    all_goals (rw [Bool.eq_iff_iff]; simp)
  | succ n ih =>
    intro a b ha hb
    have all : ∀ (xs ys : List D), xs.all (plainD n) = true → ys.all (plainD n) = true → PyData.eqvAll (xs.map (toPy n)) (ys.map (toPy n)) = beqs xs ys := by
      intro xs
      induction xs with
      | nil => intro ys _ _; cases ys <;> simp [PyData.eqvAll, beqs]
      | cons x xs ihx =>
        intro ys hx hy
        cases ys with
        | nil => simp [PyData.eqvAll, beqs]
        | cons y ys =>
          rw [List.all_cons] at hx hy
          obtain ⟨x1, x2⟩ := ba hx
          obtain ⟨y1, y2⟩ := ba hy
          simp only [List.map_cons, PyData.eqvAll, beqs]
          rw [ih x y x1 y1, ihx ys x2 y2]
    cases a <;> first | (cases ha; done) | skip
    all_goals (cases b <;> first | (cases hb; done) | skip)
    all_goals first
      | exact all _ _ ha hb
      | (simp [toPy, PyData.eqv, D.beq]; done)
      | (simp [toPy, PyData.eqv, D.beq]; rw [Bool.eq_iff_iff]; simp; done)
      | skip
theorem eq_plain {G : Gp} {a b : D} (ha : plainD 20 a = true) (hb : plainD 20 b = true) : dEq a b G = .ok (D.beq a b) G := by
  unfold dEq
  rw [py_plain 20 a ha, py_plain 20 b hb]
  simp only [eqv_plain 20 a b ha hb]
end Mm
namespace Mm
open PySem L2 Mw
open PyProof.Rows hiding St
def upN (one : Int) : Int := [0, 0, 0, 1, 2].getD (one / 97 % 5).toNat 0
def histSt (s : Int) : Nat → Int × List Rw
  | 0 => (1, [])
  | k + 1 => ((histSt s k).1 + upN (seedN s k), (histSt s k).2 ++ [((histSt s k).1 + upN (seedN s k), deedN (seedN (seedN s k) 1))])
def hist (s : Int) (n : Nat) : List Rw := (histSt s n).2
def histN (s m : Int) : Nat := (s / 7 % (m + 1)).toNat
theorem hist_len (s : Int) : ∀ n, (histSt s n).2.length = n
  | 0 => rfl
  | n + 1 => by
    rw [histSt, List.length_append, hist_len s n]
    rfl
def C__law_history : FM := fun ds G => match ds with
  | [.int s, .int m] => if 0 ≤ m ∧ m ≤ 1000 then .ok (.tup ((hist s (histN s m)).map rowD)) G else .bad
  | _ => .bad
theorem pick_eq {G : Gp} {s k : Int} (h : 0 < k) : C__law_pick [.int s, .int k] G = .ok (.int (s / 97 % k)) G := if_pos h
theorem seed_eq {G : Gp} {s k : Int} : C__law_seed [.int s, .int k] G = .ok (.int (seedN s k)) G := rfl
theorem ldeed_eq {G : Gp} {s : Int} : C__law_deed [.int s] G = .ok (ddD (deedN s)) G := rfl
theorem range_drop {n k : Nat} {d : D} {rest : List D} (h : d :: rest = (rangeD 0 n).drop k) : k < n ∧ d = .int (k : Int) ∧ rest = (rangeD 0 n).drop (k + 1) := by
  have hl : (rangeD 0 n).length = n := by simp [rangeD]
  by_cases hk : k < n
  · rw [List.drop_eq_getElem_cons (by omega)] at h
    obtain ⟨h1, h2⟩ := List.cons.inj h
    refine ⟨hk, ?_, h2⟩
    rw [h1]
    simp [rangeD]
  · rw [List.drop_of_length_le (by omega)] at h
    cases h
theorem K__law_history {Γ : Fns} {xs : List Nat} (h8 : Kn Γ 8 2 C__law_seed) (h9 : Kn Γ 9 2 C__law_pick) (h10 : Kn Γ 10 1 C__law_deed) : Cleans 2 (fnRun N__law_history.length (eB Γ xs b__law_history)) C__law_history := by
  intro ds G hl hc hlt
  unfold C__law_history
  split
  · rename_i s m
    split
    · rename_i hm
      have hN : histN s m < 1001 := by unfold histN; have := Int.emod_lt_of_pos (s / 7) (show 0 < m + 1 by omega); have := Int.emod_nonneg (s / 7) (show m + 1 ≠ 0 by omega); omega
      have eN : s / 7 % (m + 1) = (histN s m : Int) := by unfold histN; have := Int.emod_nonneg (s / 7) (show m + 1 ≠ 0 by omega); omega
      refine clr_ok ?_ (Nat.le_refl _) hc (ltD_rows _)
      have hm1 : 0 < m + 1 := by omega
      simp [fnRun, b__law_history, startD, N__law_history]
      generalize hN' : histN s m = n at hN eN ⊢
      generalize hf : mFor (.nm 4) _ _ _ _ = r
      have hr : ∃ J e, r = .nx e (G ++ .lst ((hist s n).map rowD) :: J) ∧ e[2]? = some (some (.ref G.length)) := by
        rw [← hf]
        obtain ⟨a, h1, h2⟩ := mFor_rel (α := Nat × Gp × Option D) (i := 4) (it := miRange1 (maCons (mBin dMod (mBin dDiv (mVar 0) (mC (.int 7))) (mBin dAdd (mVar 1) (mC (.int 1)))) maNil)) (s := ⟨rangeD 0 n, none⟩) (e := [some (.int s), some (.int m), some (.ref G.length), some (.int 1), none, none]) (G := G ++ [.lst []])
          (B := mSeq (mAsg (.nm 5) (mCallF (Γ.ar 8) (Γ.F 8) (maCons (mVar 0) (maCons (mVar 4) maNil)))) (mSeq (mAsg (.nm 3) (mBin dAdd (mVar 3) (mBin dIx (mLst (maCons (mC (.int 0)) (maCons (mC (.int 0)) (maCons (mC (.int 0)) (maCons (mC (.int 1)) (maCons (mC (.int 2)) maNil)))))) (mCallF (Γ.ar 9) (Γ.F 9) (maCons (mVar 5) (maCons (mC (.int 5)) maNil)))))) (mSeq (mDrop (mApp (mVar 2) (mTup (maCons (mVar 3) (maCons (mCallF (Γ.ar 10) (Γ.F 10) (maCons (mCallF (Γ.ar 8) (Γ.F 8) (maCons (mVar 5) (maCons (mC (.int 1)) maNil))) maNil)) maNil))))) mNext)))
          (E := fun a w => [some (.int s), some (.int m), some (.ref G.length), some (.int (histSt s a.1).1), w, a.2.2]) (Hh := fun a => G ++ .lst ((histSt s a.1).2.map rowD) :: a.2.1) (Q := fun a rest => a.1 ≤ n ∧ rest = (rangeD 0 n).drop a.1) (0, [], none) none rfl (by
            have : (-100000 < (n : Int) ∧ (n : Int) < 100000) := by omega
            simp [dMod, dDiv, hm1, eN, this, histSt]) ⟨Nat.zero_le _, rfl⟩ (fun _ _ _ => rfl) (fun _ _ _ => rfl) (fun a d rest hq => by
            obtain ⟨k, J, o⟩ := a
            obtain ⟨hk, rfl, h2⟩ := range_drop hq.2
            have k1 : atI [D.int 0, .int 0, .int 0, .int 1, .int 2] (seedN s k / 97 % 5) = some (.int (upN (seedN s k))) := by
              show atI (List.map D.int [0, 0, 0, 1, 2]) _ = _
              rw [atI_map, atI_lt _ _ 0 (by omega) (by show _ < (5 : Int); omega)]
              rfl
            refine ⟨(k + 1, J ++ [.lst [.int 0, .int 0, .int 0, .int 1, .int 2]], some (.int (seedN s k))), ?_, hk, h2⟩
            have hlen : (histSt s k).2.length < 100000 := by rw [hist_len]; omega
            simp [h8.1, h8.2, seed_eq, h9.1, h9.2, pick_eq, h10.1, h10.2, ldeed_eq, dIx, k1, isL, dApp, hlen, histSt, rowD])
        obtain ⟨k, J, o⟩ := a
        have hkn : k = n := by
          obtain ⟨q1, q2⟩ := h2
          have hl : (rangeD 0 n).length = n := by simp [rangeD]
          have := congrArg List.length q2
          rw [List.length_drop, hl] at this
          simp at this
          omega
        subst hkn
        exact ⟨J, _, h1, rfl⟩
      obtain ⟨J, e, rfl, he⟩ := hr
      refine ⟨.lst ((hist s n).map rowD) :: J, ?_⟩
      simp [he, fTuple]
    · trivial
  · trivial
end Mm
namespace Mm
open PySem L2 Mw
open PyProof.Rows hiding St
def topOf (m : List Rw) : Int := (m.getLast?.map (·.1)).getD 0
def aheadOf (m : List Rw) (b : Int) : Int := if 0 < b then ((m[(b - 1).toNat]?).map (·.1)).getD 0 else 0
def thingsOf (m : List Rw) (n : Nat) : List KV := sortKV (((m.take n).map (·.2)).foldl app [])
def lawPaper (m : List Rw) (b k more : Int) : Pp := ⟨topOf m + more, b, aheadOf m b, thingsOf m b.toNat, m.drop b.toNat, k⟩
def okDk : Dd → Bool
  | .non => true
  | .put k _ => PyData.strOk k
  | .add k _ => PyData.strOk k
  | .drop k => PyData.strOk k
theorem plain_dd {a : Dd} (h : okDk a = true) (n : Nat) : plainD (n + 1) (ddD a) = true := by
  have o1 : PyData.strOk "none" = true := by decide +kernel
  have o2 : PyData.strOk "drop" = true := by decide +kernel
  have o3 : PyData.strOk "put" = true := by decide +kernel
  have o4 : PyData.strOk "add" = true := by decide +kernel
  have e : ∀ k i, plainD k (.int i) = true := fun k i => by cases k <;> rfl
  have e2 : ∀ k x, plainD k (.str x) = PyData.strOk x := fun k i => by cases k <;> rfl
  cases a with
  | non => show (plainD n (.str "none") && true) = true; rw [e2, o1]; rfl
  | put k v => show (plainD n (.str "put") && (plainD n (.str k) && (plainD n (.int v) && true))) = true; rw [e2, e2, e, o3, show PyData.strOk k = true from h]; rfl
  | add k v => show (plainD n (.str "add") && (plainD n (.str k) && (plainD n (.int v) && true))) = true; rw [e2, e2, e, o4, show PyData.strOk k = true from h]; rfl
  | drop k => show (plainD n (.str "drop") && (plainD n (.str k) && true)) = true; rw [e2, e2, o2, show PyData.strOk k = true from h]; rfl
theorem plain_int (n : Nat) (i : Int) : plainD n (.int i) = true := by cases n <;> rfl
theorem plain_str (n : Nat) (x : Str) : plainD n (.str x) = PyData.strOk x := by cases n <;> rfl
theorem plain_rows {m : List Rw} (h : m.all (fun r => okDk r.2) = true) (n : Nat) : plainD (n + 3) (.tup (m.map rowD)) = true := by
  show (m.map rowD).all (plainD (n + 2)) = true
  rw [List.all_eq_true]
  intro d hd
  obtain ⟨r, hr, rfl⟩ := List.mem_map.mp hd
  show (plainD (n + 1) (.int r.1) && (plainD (n + 1) (ddD r.2) && true)) = true
  rw [plain_int, plain_dd (List.all_eq_true.mp h r hr)]
  rfl
theorem beq_nil {α : Type} (m : List α) (f : α → D) : D.beq (.tup (m.map f)) (.tup []) = m.isEmpty := by
  cases m <;> simp [D.beq, beqs]
theorem atI_last {α : Type} {l : List α} (h : l ≠ []) : atI l (-1) = l.getLast? := by
  have hl : 0 < l.length := List.length_pos_iff.mpr h
  unfold atI ixN
  rw [if_neg (by omega), if_pos (by omega)]
  show l[((-1 : Int) + l.length).toNat]? = _
  rw [List.getLast?_eq_getElem?]
  congr 1
  omega
def C__law_paper : FM := fun ds G => match ds with
  | [.tup rs, .int b, .int k, .int more] => (match rows? rs with
    | some m => if 0 ≤ b ∧ b ≤ m.length ∧ m.length ≤ 900 ∧ m.all (fun r => okDk r.2) = true then .ok (ppD (lawPaper m b k more)) G else .bad
    | none => .bad)
  | _ => .bad
theorem K__law_paper {Γ : Fns} {xs : List Nat} (h11 : Kn Γ 11 2 C__law_after) : Cleans 4 (fnRun N__law_paper.length (eB Γ xs b__law_paper)) C__law_paper := by
  intro ds G hl hc hlt
  unfold C__law_paper
  split
  · rename_i rs b k more
    split
    · rename_i m hm
      split
      · rename_i hcond
        obtain ⟨c1, c2, c3, c4⟩ := hcond
        obtain rfl := rows_inv hm
        refine clr_ok ?_ (Nat.le_refl _) hc (ltD_pp _)
        have p1 := plain_rows c4 17
        have p2 : plainD 20 (.tup []) = true := rfl
        have hne := eq_plain (G := G) p1 p2
        rw [beq_nil] at hne
        have htop : (mIf (mCmpB (notR dEq) (mVar 0) (mTup maNil)) (mBin dIx (mBin dIx (mVar 0) (mNeg (mC (.int 1)))) (mC (.int 0))) (mC (.int 0))) [some (.tup (m.map rowD)), some (.int b), some (.int k), some (.int more), none, none, none, none] G = .ok (.int (topOf m)) G := by
          cases m with
          | nil => simp at hne; simp [hne, topOf]
          | cons r m =>
            have hl : atI ((r :: m).map rowD) (-1) = ((r :: m).getLast?).map rowD := by rw [atI_map, atI_last (by simp)]
            obtain ⟨z, hz⟩ : ∃ z, (r :: m).getLast? = some z := ⟨_, List.getLast?_eq_some_getLast (by simp)⟩
            rw [hz] at hl
            simp only [List.isEmpty_cons] at hne
            rw [List.map_cons] at hne hl ⊢
            simp [hne, ix_tup hl, topOf, hz]
            simp [rowD, ix_tup]
        have hahd : ∀ (w : Option D), (mIf (mCmpB (fun x y G => dLt y x G) (mVar 1) (mC (.int 0))) (mBin dIx (mBin dIx (mVar 0) (mBin dSub (mVar 1) (mC (.int 1)))) (mC (.int 0))) (mC (.int 0))) [some (.tup (m.map rowD)), some (.int b), some (.int k), some (.int more), w, none, none, none] G = .ok (.int (aheadOf m b)) G := fun w => by
          by_cases hb : 0 < b
          · have hlt : (b - 1).toNat < m.length := by omega
            have hl : atI (m.map rowD) (b - 1) = some (rowD m[(b - 1).toNat]) := by
              have := atI_nat (l := m.map rowD) (b - 1).toNat (by simpa using hlt)
              rw [show (((b - 1).toNat : Nat) : Int) = b - 1 by omega] at this
              rw [this, List.getElem?_map, List.getElem?_eq_getElem hlt]
              rfl
            simp [hb, ix_tup hl, aheadOf]
            simp [rowD, ix_tup]
            rw [List.getElem?_eq_getElem (show b.toNat - 1 < m.length by omega)]
            rfl
          · simp [hb, aheadOf]
        obtain ⟨J, hJ⟩ := rows_lc (i := 7) (it := miVal (mSl (mVar 0) none (some (mVar 1)))) (e := [some (.tup (m.map rowD)), some (.int b), some (.int k), some (.int more), some (.int (topOf m)), some (.int (aheadOf m b)), none, none]) (G := G) (G1 := G) (m := m.take b.toNat) (by
          simp [dSl, cut_take c1, List.map_take]) (by rw [List.length_take]; omega) (by simp)
        generalize ha : (m.take b.toNat).map (·.2) = as at hJ
        refine ⟨.lst (as.map ddD) :: J, ?_⟩
        have hA := laft_eq (G := G ++ .lst (as.map ddD) :: J) (l := []) (d := .ref G.length) (as := as) (by simp [seqOf]) List.nodup_nil (by rw [← ha, List.length_map, List.length_take]; simp; omega)
        simp only [List.map_nil] at hA
        have hd := cut_drop (ds := m.map rowD) c1
        simp only [fnRun, b__law_paper, startD, N__law_paper, eB, eS]
        simp only [eP, mSeq, mAsg, List.length_cons, List.length_nil, List.map_cons, List.map_nil, Nat.reduceAdd, Nat.reduceSub, List.replicate_succ, List.replicate_zero, List.cons_append, List.nil_append, Cop.f, Bop.f, pl, eA]
        rw [htop]
        simp only [Tg.set, List.set_cons_succ, List.set_cons_zero]
        rw [hahd]
        simp
        rw [hJ]
        simp [h11.1, h11.2, hA, dSl, hd, ppD, lawPaper, List.map_drop, thingsOf, ha]
      · trivial
    · trivial
  · trivial
def drawnKept (s : Int) (n : Nat) : Int := s / 11 % (n + 1)
def drawnBase (s : Int) (n : Nat) : Int := [0, drawnKept s n, s / 13 % (drawnKept s n + 1)].getD (s / 17 % 3).toNat 0
def drawnRows (s m : Int) : List Rw := hist s (histN s m)
def drawnPaper (s m : Int) : Pp := lawPaper (drawnRows s m) (drawnBase s (drawnRows s m).length) (drawnKept s (drawnRows s m).length) (s / 19 % 3)
theorem histSt_ok (s : Int) : ∀ n, (histSt s n).2.all (fun r => okDk r.2) = true
  | 0 => rfl
  | n + 1 => by
    rw [histSt, List.all_append, histSt_ok s n]
    have : okDk (deedN (seedN (seedN s n) 1)) = true := by
      have h := deedN_good (seedN (seedN s n) 1)
      cases hd : deedN (seedN (seedN s n) 1) with
      | non => rfl
      | put k v => rw [hd] at h; exact (keysC_key h.1).2.1
      | add k v => rw [hd] at h; exact (keysC_key h.1).2.1
      | drop k => rw [hd] at h; exact (keysC_key h).2.1
    simp [this]
theorem drawn_ok (s m : Int) (hm : 0 ≤ m ∧ m ≤ 800) : (drawnRows s m).length ≤ 800 ∧ 0 ≤ drawnKept s (drawnRows s m).length ∧ drawnKept s (drawnRows s m).length ≤ (drawnRows s m).length ∧ 0 ≤ drawnBase s (drawnRows s m).length ∧ drawnBase s (drawnRows s m).length ≤ drawnKept s (drawnRows s m).length := by
  have h1 : (drawnRows s m).length ≤ 800 := by
    unfold drawnRows hist
    rw [hist_len]
    unfold histN
    have := Int.emod_lt_of_pos (s / 7) (show 0 < m + 1 by omega)
    have := Int.emod_nonneg (s / 7) (show m + 1 ≠ 0 by omega)
    omega
  generalize (drawnRows s m).length = n at h1
  have h2 : 0 ≤ drawnKept s n ∧ drawnKept s n ≤ n := by
    unfold drawnKept
    have := Int.emod_lt_of_pos (s / 11) (show (0 : Int) < n + 1 by omega)
    have := Int.emod_nonneg (s / 11) (show (n : Int) + 1 ≠ 0 by omega)
    omega
  refine ⟨h1, h2.1, h2.2, ?_⟩
  have h3 : drawnBase s n ∈ [0, drawnKept s n, s / 13 % (drawnKept s n + 1)] := getD_mem (by show (s / 17 % 3).toNat < 3; omega)
  have := Int.emod_lt_of_pos (s / 13) (show (0 : Int) < drawnKept s n + 1 by omega)
  have := Int.emod_nonneg (s / 13) (show drawnKept s n + 1 ≠ 0 by omega)
  simp only [List.mem_cons, List.not_mem_nil, or_false] at h3
  omega
def C__law_drawn_paper : FM := fun ds G => match ds with
  | [.int s, .int m] => if 0 ≤ m ∧ m ≤ 800 then .ok (.tup [ppD (drawnPaper s m), .tup ((drawnRows s m).map rowD)]) G else .bad
  | _ => .bad
theorem lpaper_eq {G : Gp} {m : List Rw} {b k more : Int} (h1 : 0 ≤ b) (h2 : b ≤ m.length) (h3 : m.length ≤ 900) (h4 : m.all (fun r => okDk r.2) = true) : C__law_paper [.tup (m.map rowD), .int b, .int k, .int more] G = .ok (ppD (lawPaper m b k more)) G := by
  unfold C__law_paper
  dsimp only
  rw [rows_D]
  simp only
  rw [if_pos ⟨h1, h2, h3, h4⟩]
theorem K__law_drawn_paper {Γ : Fns} {xs : List Nat} (h15 : Kn Γ 15 2 C__law_history) (h16 : Kn Γ 16 4 C__law_paper) : Cleans 2 (fnRun N__law_drawn_paper.length (eB Γ xs b__law_drawn_paper)) C__law_drawn_paper := by
  intro ds G hl hc hlt
  unfold C__law_drawn_paper
  split
  · rename_i s m
    split
    · rename_i hm
      obtain ⟨d1, d2, d3, d4, d5⟩ := drawn_ok s m hm
      have hlt : ltD G.length (.tup [ppD (drawnPaper s m), .tup ((drawnRows s m).map rowD)]) = true := by
        show (ltD _ (ppD _) && (ltD _ (.tup _) && true)) = true
        rw [ltD_pp, ltD_rows]
        rfl
      refine clr_ok ?_ (Nat.le_refl _) hc hlt
      have e15 : C__law_history [.int s, .int m] G = .ok (.tup ((drawnRows s m).map rowD)) G := if_pos ⟨hm.1, by omega⟩
      unfold drawnPaper
      have hall : (drawnRows s m).all (fun r => okDk r.2) = true := histSt_ok s _
      generalize drawnRows s m = R at d1 d2 d3 d4 d5 e15 hall ⊢
      have k1 : atI [D.int 0, .int (drawnKept s R.length), .int (s / 13 % (drawnKept s R.length + 1))] (s / 17 % 3) = some (.int (drawnBase s R.length)) := by
        show atI (List.map D.int [0, drawnKept s R.length, s / 13 % (drawnKept s R.length + 1)]) _ = _
        rw [atI_map, atI_lt _ _ 0 (by omega) (by show _ < (3 : Int); omega)]
        rfl
      refine ⟨[.lst [D.int 0, .int (drawnKept s R.length), .int (s / 13 % (drawnKept s R.length + 1))]], ?_⟩
      have e16 := lpaper_eq (G := G ++ [.lst [D.int 0, .int (drawnKept s R.length), .int (s / 13 % (drawnKept s R.length + 1))]]) (m := R) (b := drawnBase s R.length) (k := drawnKept s R.length) (more := s / 19 % 3) d4 (by omega) (by omega) hall
      have q1 : (0 : Int) < R.length + 1 := by omega
      have q2 : 0 < drawnKept s R.length + 1 := by omega
      have q3 : s / 11 % ((R.length : Int) + 1) = drawnKept s R.length := rfl
      simp [fnRun, b__law_drawn_paper, startD, N__law_drawn_paper, h15.1, h15.2, e15, fLen, dDiv, dMod, q1, q3, q2, dIx, k1, h16.1, h16.2, e16]
    · trivial
  · trivial
end Mm
namespace Mm
open PySem L2 Mw
open PyProof.Rows hiding St
structure HistOk (R : List Rw) : Prop where
  pw : R.Pairwise (fun a b => a.1 ≤ b.1)
  ge : ∀ r ∈ R, 1 ≤ r.1
  le : ∀ r ∈ R, r.1 ≤ 90000
  good : ∀ r ∈ R, GoodD r.2
theorem upN_ok (x : Int) : 0 ≤ upN x ∧ upN x ≤ 2 := by
  have h : upN x ∈ [0, 0, 0, 1, 2] := getD_mem (by show (x / 97 % 5).toNat < 5; omega)
  simp only [List.mem_cons, List.not_mem_nil, or_false] at h
  omega
theorem histSt_bd (s : Int) : ∀ n, 1 ≤ (histSt s n).1 ∧ (histSt s n).1 ≤ 1 + 2 * (n : Int) ∧ (∀ r ∈ (histSt s n).2, 1 ≤ r.1 ∧ r.1 ≤ (histSt s n).1) ∧ (histSt s n).2.Pairwise (fun a b => a.1 ≤ b.1) ∧ ∀ r ∈ (histSt s n).2, GoodD r.2
  | 0 => ⟨(by show (1 : Int) ≤ 1; decide), (by show (1 : Int) ≤ 1 + 2 * 0; decide), (fun _ h => nomatch h), .nil, (fun _ h => nomatch h)⟩
  | n + 1 => by
    obtain ⟨h1, h2, h3, h4, h5⟩ := histSt_bd s n
    have hu := upN_ok (seedN s n)
    rw [histSt]
    refine ⟨by dsimp only; omega, by dsimp only; omega, fun r hr => ?_, ?_, fun r hr => ?_⟩
    · rcases List.mem_append.mp hr with q | q
      · have := h3 r q
        exact ⟨this.1, by dsimp only; omega⟩
      · rw [List.mem_singleton.mp q]
        exact ⟨by dsimp only; omega, Int.le_refl _⟩
    · rw [List.pairwise_append]
      refine ⟨h4, List.pairwise_singleton _ _, fun a ha b hb => ?_⟩
      rw [List.mem_singleton.mp hb]
      have := h3 a ha
      dsimp only
      omega
    · rcases List.mem_append.mp hr with q | q
      · exact h5 r q
      · rw [List.mem_singleton.mp q]
        exact deedN_good _
theorem hist_ok (s : Int) (n : Nat) (hn : n ≤ 1000) : HistOk (hist s n) := by
  obtain ⟨h1, h2, h3, h4, h5⟩ := histSt_bd s n
  exact ⟨h4, fun r hr => (h3 r hr).1, fun r hr => by have := (h3 r hr).2; omega, h5⟩
theorem HistOk.drop {R : List Rw} (h : HistOk R) (n : Nat) : HistOk (R.drop n) :=
  ⟨h.pw.sublist (List.drop_sublist n R), fun r hr => h.ge r (List.mem_of_mem_drop hr), fun r hr => h.le r (List.mem_of_mem_drop hr), fun r hr => h.good r (List.mem_of_mem_drop hr)⟩
theorem HistOk.keys {R : List Rw} (h : HistOk R) : R.all (fun r => okDk r.2) = true := by
  rw [List.all_eq_true]
  intro r hr
  have hg := h.good r hr
  cases hd : r.2 with
  | non => rfl
  | put k v => rw [hd] at hg; exact (keysC_key hg.1).2.1
  | add k v => rw [hd] at hg; exact (keysC_key hg.1).2.1
  | drop k => rw [hd] at hg; exact (keysC_key hg).2.1
theorem deeds_good {R : List Rw} (h : HistOk R) {n : Nat} : ∀ d ∈ (R.take n).map (·.2), GoodD d := fun d hd => by
  obtain ⟨r, hr, rfl⟩ := List.mem_map.mp hd
  exact h.good r (List.mem_of_mem_take hr)
theorem thingsOf_good {R : List Rw} (h : HistOk R) (n : Nat) : GoodL (thingsOf R n) := (goodL_nil.fold (deeds_good h)).sort
theorem thingsOf_sorted (R : List Rw) (n : Nat) : (thingsOf R n).Pairwise (fun a b => leKV a b = true) := sortKV_pw _
theorem nodup_len {α : Type} [DecidableEq α] : ∀ {xs ys : List α}, xs.Nodup → (∀ x ∈ xs, x ∈ ys) → xs.length ≤ ys.length
  | [], _, _, _ => Nat.zero_le _
  | x :: xs, ys, hn, h => by
    obtain ⟨h1, h2⟩ := List.nodup_cons.mp hn
    have hx : x ∈ ys := h x List.mem_cons_self
    have := nodup_len (ys := ys.erase x) h2 fun z hz => by
      have hne : z ≠ x := fun e => by rw [e] at hz; exact h1 hz
      exact (List.mem_erase_of_ne hne).mpr (h z (List.mem_cons_of_mem _ hz))
    rw [List.length_erase_of_mem hx] at this
    have := List.length_pos_of_mem hx
    rw [List.length_cons]
    omega
theorem good_len {l : List KV} (h : GoodL l) : l.length ≤ 6 := by
  have h1 : (keysL l).length ≤ keysG.length := nodup_len h.nd fun x hx => by
    obtain ⟨e, he, rfl⟩ := List.mem_map.mp hx
    exact (h.all e he).1
  simpa [keysG] using h1
theorem afterL_good {l : List KV} (h : GoodL l) {d : Dd} (hd : GoodD d) : GoodL (afterL l d) := (h.app hd).sort
theorem fits_good : ∀ {as : List Dd} {l : List KV}, GoodL l → (∀ d ∈ as, GoodD d) → fits l as = true
  | [], _, _, _ => rfl
  | a :: as, l, h, hd => by
    have := good_len h
    rw [fits, decide_eq_true (show l.length < 60 by omega), fits_good (afterL_good h (hd a List.mem_cons_self)) fun z hz => hd z (List.mem_cons_of_mem _ hz)]
    rfl
/-- from things to things -/
theorem things_on {R : List Rw} (h : HistOk R) {a b : Nat} (hab : a ≤ b) : (((R.drop a).take (b - a)).map (·.2)).foldl afterL (thingsOf R a) = thingsOf R b := by
  have hg : ∀ d ∈ ((R.drop a).take (b - a)).map (·.2), GoodD d := fun d hd => by
    obtain ⟨r, hr, rfl⟩ := List.mem_map.mp hd
    exact h.good r (List.mem_of_mem_drop (List.mem_of_mem_take hr))
  rw [fold_same (thingsOf_good h a) (thingsOf_sorted R a) hg]
  unfold thingsOf
  refine kv_unique ?_ (goodL_nil.fold (deeds_good h)).nd (sortKV_pw _)
  refine (sortKV_perm _).trans ?_
  have e : R.take b = R.take a ++ (R.drop a).take (b - a) := by
    rw [← List.take_append_drop a (R.take b), List.take_take, Nat.min_eq_left hab, List.drop_take]
  rw [e, List.map_append, List.foldl_append]
  have fp : ∀ (ds : List Dd) (l m : List KV), l.Perm m → (keysL l).Nodup → (ds.foldl app l).Perm (ds.foldl app m) := by
    intro ds
    induction ds with
    | nil => intro l m hp _; exact hp
    | cons d ds ih => intro l m hp hn; exact ih _ _ (app_perm hp hn d) (app_nodup hn d)
  exact fp _ _ _ (sortKV_perm _) (sortKV_nodup (goodL_nil.fold (deeds_good h)).nd)
section
variable {R : List Rw} {b k more : Int}
theorem lp_len (h1 : 0 ≤ b) (h2 : b ≤ R.length) : lenP (lawPaper R b k more) = R.length := by
  show b + ((R.drop b.toNat).length : Int) = _
  rw [List.length_drop]
  omega
theorem lp_things (h : HistOk R) (h1 : 0 ≤ b) {n : Int} (hn : b ≤ n) : thingsP (lawPaper R b k more) n = thingsOf R n.toNat := by
  show (((R.drop b.toNat).take (n - b).toNat).map (·.2)).foldl afterL (thingsOf R b.toNat) = _
  rw [show (n - b).toNat = n.toNat - b.toNat by omega]
  exact things_on h (by omega)
theorem lp_small (h : HistOk R) (hR : R.length ≤ 900) {n : Int} : small? (lawPaper R b k more) n = true := by
  show (decide ((R.drop b.toNat).length ≤ 1000) && fits (thingsOf R b.toNat) (((R.drop b.toNat).take (n - b).toNat).map (·.2))) = true
  rw [decide_eq_true (show (R.drop b.toNat).length ≤ 1000 by rw [List.length_drop]; omega), fits_good (thingsOf_good h _) (deeds_good (h.drop _))]
  rfl
theorem lp_term (h1 : 0 ≤ b) {n : Int} (hn : b ≤ n) (h2 : n ≤ R.length) : termAt (lawPaper R b k more) n = some (aheadOf R n) := by
  unfold termAt
  show (if n = b then some (aheadOf R b) else (atI (R.drop b.toNat) (n - b - 1)).map (·.1)) = _
  split
  · rename_i e; rw [e]
  · have hl : (n - b - 1).toNat < (R.drop b.toNat).length := by rw [List.length_drop]; omega
    have := atI_nat (n - b - 1).toNat hl
    rw [show (((n - b - 1).toNat : Nat) : Int) = n - b - 1 by omega] at this
    rw [this, List.getElem?_drop]
    unfold aheadOf
    rw [if_pos (by omega), show b.toNat + (n - b - 1).toNat = (n - 1).toNat by omega, List.getElem?_eq_getElem (by omega)]
    rfl
theorem ahead_top (hR : R ≠ []) : aheadOf R R.length = topOf R := by
  unfold aheadOf topOf
  have : 0 < R.length := List.length_pos_iff.mpr hR
  rw [if_pos (by omega), List.getLast?_eq_getElem?, show ((R.length : Int) - 1).toNat = R.length - 1 by omega]
theorem ahead_top' : aheadOf R R.length = topOf R := by
  by_cases h : R = []
  · subst h; rfl
  · exact ahead_top h
theorem lp_trim (h : HistOk R) (h1 : 0 ≤ b) {n : Int} (hn : b ≤ n) (h2 : n ≤ R.length) : trimP (lawPaper R b k more) n = lawPaper R n k more := by
  unfold trimP
  rw [lp_things h h1 hn, lp_term h1 hn h2]
  show Pp.mk _ n (aheadOf R n) (thingsOf R n.toNat) ((R.drop b.toNat).drop (n - b).toNat) k = _
  rw [List.drop_drop, show b.toNat + (n - b).toNat = n.toNat by omega]
  rfl
theorem ahead_bd (h : HistOk R) (h1 : 0 ≤ b) (h2 : b ≤ R.length) : 0 ≤ aheadOf R b ∧ aheadOf R b ≤ topOf R ∧ (0 < b → 1 ≤ aheadOf R b) ∧ topOf R ≤ 90000 ∧ 0 ≤ topOf R := by
  by_cases hR : R = []
  · subst hR
    have : b = 0 := by simp at h2; omega
    subst this
    exact ⟨by decide, by decide, by omega, by decide, by decide⟩
  · have hl : 0 < R.length := List.length_pos_iff.mpr hR
    have ht : topOf R = (R[R.length - 1]'(by omega)).1 := by
      unfold topOf
      rw [List.getLast?_eq_getElem?, List.getElem?_eq_getElem (by omega)]
      rfl
    have t1 := h.ge _ (List.getElem_mem (show R.length - 1 < R.length by omega))
    have t2 := h.le _ (List.getElem_mem (show R.length - 1 < R.length by omega))
    by_cases hb : 0 < b
    · have ha : aheadOf R b = (R[(b - 1).toNat]'(by omega)).1 := by
        unfold aheadOf
        rw [if_pos hb, List.getElem?_eq_getElem (by omega)]
        rfl
      have a1 := h.ge _ (List.getElem_mem (show (b - 1).toNat < R.length by omega))
      have a2 : aheadOf R b ≤ topOf R := by
        rw [ha, ht]
        by_cases e : (b - 1).toNat = R.length - 1
        · simp [e]
        · exact List.pairwise_iff_getElem.mp h.pw _ _ _ _ (by omega)
      rw [← ha] at a1
      rw [← ht] at t1 t2
      omega
    · have ha : aheadOf R b = 0 := by unfold aheadOf; rw [if_neg hb]
      rw [← ht] at t1 t2
      rw [ha]
      omega
theorem scan_ok {hi : Int} : ∀ {l : List Rw} {lo : Int}, (∀ r ∈ l, lo ≤ r.1 ∧ r.1 ≤ hi ∧ GoodD r.2) → l.Pairwise (fun a b => a.1 ≤ b.1) → (scan (rowStep hi) lo (l.map rowD)).isSome = true
  | [], _, _, _ => rfl
  | r :: l, lo, h, hp => by
    obtain ⟨h1, h2, h3⟩ := h r List.mem_cons_self
    obtain ⟨p1, p2⟩ := List.pairwise_cons.mp hp
    have hs : rowStep hi lo (rowD r) = some r.1 := by
      show (if (isWithin (.int r.1) lo hi && isDeed (ddD r.2)) = true then some r.1 else none) = _
      rw [if_pos]
      rw [(good_deed h3 []).1]
      show ((decide (lo ≤ r.1) && decide (r.1 ≤ hi)) && true) = true
      rw [decide_eq_true h1, decide_eq_true h2]
      rfl
    rw [List.map_cons, scan, hs]
    exact scan_ok (fun z hz => ⟨p1 z hz, (h z (List.mem_cons_of_mem _ hz)).2⟩) p2
theorem lp_paper9 (h : HistOk R) (hR : R.length ≤ 900) (h1 : 0 ≤ b) (h2 : b ≤ k) (h3 : k ≤ R.length) (hm : 0 ≤ more ∧ more ≤ 9000) (G : Gp) : isPaper (ppD (lawPaper R b k more)) = true ∧ okP G (ppD (lawPaper R b k more)) = true := by
  obtain ⟨a1, a2, a3, a4, a5⟩ := ahead_bd h h1 (show b ≤ R.length by omega)
  have gt := good_things (thingsOf_good h b.toNat) (thingsOf_sorted R b.toNat) (by have := good_len (thingsOf_good h b.toNat); omega) G
  have w : ∀ i lo hi : Int, lo ≤ i → i ≤ hi → isWithin (.int i) lo hi = true := fun i lo hi x y => by
    show (decide (lo ≤ i) && decide (i ≤ hi)) = true
    rw [decide_eq_true x, decide_eq_true y]
    rfl
  constructor
  · show (isWithin (.int (topOf R + more)) 0 100000 && (isWithin (.int b) 0 100000 && (isWithin (.int (aheadOf R b)) 0 (topOf R + more) && (areThings (.tup ((thingsOf R b.toNat).map Mw.pairD)) && (!((decide (b = 0) && (!decide (aheadOf R b = 0) || !isNilT (.tup ((thingsOf R b.toNat).map Mw.pairD)))) || (decide (0 < b) && decide (aheadOf R b = 0))) && ((scan (rowStep (topOf R + more)) (max (aheadOf R b) 1) ((R.drop b.toNat).map rowD)).isSome && isWithin (.int k) b (b + ((R.drop b.toNat).map rowD).length))))))) = true
    rw [w _ _ _ (by omega) (by omega), w b _ _ (by omega) (by omega), w _ _ _ a1 (by omega), gt.1, w k _ _ h2 (by rw [List.length_map, List.length_drop]; omega)]
    have hs : (scan (rowStep (topOf R + more)) (max (aheadOf R b) 1) ((R.drop b.toNat).map rowD)).isSome = true := by
      refine scan_ok (fun r hr => ?_) (h.drop _).pw
      have g := (h.drop b.toNat).good r hr
      have e1 := (h.drop b.toNat).ge r hr
      obtain ⟨i, hi, he⟩ := List.mem_iff_getElem.mp hr
      rw [List.getElem_drop] at he
      rw [List.length_drop] at hi
      have htop : r.1 ≤ topOf R := by
        rw [← he]
        unfold topOf
        rw [List.getLast?_eq_getElem?, List.getElem?_eq_getElem (by omega)]
        show (R[b.toNat + i]).1 ≤ (R[R.length - 1]).1
        by_cases e : b.toNat + i = R.length - 1
        · simp [e]
        · exact List.pairwise_iff_getElem.mp h.pw _ _ _ _ (by omega)
      have hah : aheadOf R b ≤ r.1 := by
        unfold aheadOf
        split
        · rw [List.getElem?_eq_getElem (by omega), ← he]
          exact List.pairwise_iff_getElem.mp h.pw _ _ _ _ (by omega)
        · omega
      exact ⟨by omega, by omega, g⟩
    rw [hs]
    by_cases hb : b = 0
    · subst hb
      have e1 : aheadOf R 0 = 0 := rfl
      have e2 : thingsOf R (0 : Int).toNat = [] := by simp [thingsOf, sortKV]
      rw [e1, e2]
      rfl
    · have hb2 : 0 < b := by omega
      have := a3 hb2
      rw [decide_eq_false hb, decide_eq_false (show ¬ aheadOf R b = 0 by omega)]
      simp
  · show (true && (true && (true && (okTs G (.tup ((thingsOf R b.toNat).map Mw.pairD)) && (okRs G (.tup ((R.drop b.toNat).map rowD)) && true))))) = true
    rw [gt.2]
    have : okRs G (.tup ((R.drop b.toNat).map rowD)) = true := by
      show (((R.drop b.toNat).map rowD).all (okOne G) && decide (((R.drop b.toNat).map rowD).length ≤ 1000)) = true
      rw [decide_eq_true (by rw [List.length_map, List.length_drop]; omega), Bool.and_true, List.all_eq_true]
      intro d hd
      obtain ⟨r, hr, rfl⟩ := List.mem_map.mp hd
      show (true && (okT G (ddD r.2) && true)) = true
      rw [(good_deed ((h.drop _).good r hr) G).2]
      rfl
    rw [this]
    rfl
theorem lp_paper (h : HistOk R) (hR : R.length ≤ 900) (h1 : 0 ≤ b) (h2 : b ≤ k) (h3 : k ≤ R.length) (hm : 0 ≤ more ∧ more ≤ 100) (G : Gp) : isPaper (ppD (lawPaper R b k more)) = true ∧ okP G (ppD (lawPaper R b k more)) = true := lp_paper9 h hR h1 h2 h3 ⟨hm.1, by omega⟩ G
end
end Mm
namespace Mm
open PySem L2 Mw
open PyProof.Rows hiding St
theorem eq_self {G : Gp} {a : D} (h : plainD 20 a = true) : dEq a a G = .ok true G := by rw [eq_plain h h, D.beq_self]
theorem plain_things {l : List KV} (h : GoodL l) (n : Nat) : plainD (n + 2) (.tup (l.map Mw.pairD)) = true := by
  show (l.map Mw.pairD).all (plainD (n + 1)) = true
  rw [List.all_eq_true]
  intro d hd
  obtain ⟨e, he, rfl⟩ := List.mem_map.mp hd
  show (plainD n (.str e.1) && (plainD n (.int e.2) && true)) = true
  rw [plain_str, plain_int, (keysC_key (h.all e he).1).2.1]
  rfl
theorem plain_lp {R : List Rw} {b k more : Int} (h : HistOk R) : plainD 20 (ppD (lawPaper R b k more)) = true := by
  show (true && (true && (true && (plainD 19 (.tup ((thingsOf R b.toNat).map Mw.pairD)) && (plainD 19 (.tup ((R.drop b.toNat).map rowD)) && (true && true)))))) = true
  rw [plain_things (thingsOf_good h _) 17, plain_rows (h.drop _).keys 16]
  rfl
theorem lookC_eq {f : Pp → Option D} {p : Pp} {G : Gp} {r : D} (h1 : okP G (ppD p) = true) (h2 : isPaper (ppD p) = true) (h3 : f p = some r) : lookC f [ppD p] G = .ok r G := by
  unfold lookC
  dsimp only
  rw [if_pos h1, if_pos h2, pp_D]
  simp only [Option.bind_some, h3]
theorem trim_eq {p : Pp} {G : Gp} {n : Int} (h1 : okP G (ppD p) = true) (h2 : isPaper (ppD p) = true) (h3 : p.base ≤ n) (h4 : n ≤ p.kept) (h5 : small? p n = true) : C_trimmed [ppD p, .int n] G = .ok (ppD (trimP p n)) G := by
  unfold C_trimmed
  dsimp only
  rw [if_pos ⟨h1, rfl⟩, if_pos h2, pp_D]
  simp only
  rw [if_pos (show isWithin (.int n) p.base p.kept = true by show (decide (p.base ≤ n) && decide (n ≤ p.kept)) = true; rw [decide_eq_true h3, decide_eq_true h4]; rfl)]
  rw [if_pos (show small? p (intOf (.int n)) = true from h5)]
  rfl
theorem trim_bad {p : Pp} {G : Gp} {d : D} (h1 : okP G (ppD p) = true) (h2 : isPaper (ppD p) = true) (h3 : okE G d = true) (h4 : isWithin d p.base p.kept = false) : C_trimmed [ppD p, d] G = .exc 5 G := by
  unfold C_trimmed
  dsimp only
  rw [if_pos ⟨h1, h3⟩, if_pos h2, pp_D]
  simp only
  rw [if_neg (by rw [h4]; decide)]
/-- rows[-1][0] if rows != () else 0 -/
theorem top_expr {i : Nat} {e : En} {G : Gp} {m : List Rw} (he : e[i]? = some (some (.tup (m.map rowD)))) (hm : m.all (fun r => okDk r.2) = true) :
    (mIf (mCmpB (notR dEq) (mVar i) (mTup maNil)) (mBin dIx (mBin dIx (mVar i) (mNeg (mC (.int 1)))) (mC (.int 0))) (mC (.int 0))) e G = .ok (.int (topOf m)) G := by
  have hne := eq_plain (G := G) (plain_rows hm 17) (show plainD 20 (.tup []) = true from rfl)
  rw [beq_nil] at hne
  cases m with
  | nil => simp at hne he; simp [hne, topOf, he]
  | cons r m =>
    have hl : atI ((r :: m).map rowD) (-1) = ((r :: m).getLast?).map rowD := by rw [atI_map, atI_last (by simp)]
    obtain ⟨z, hz⟩ : ∃ z, (r :: m).getLast? = some z := ⟨_, List.getLast?_eq_some_getLast (by simp)⟩
    rw [hz] at hl
    simp only [List.isEmpty_cons] at hne
    rw [List.map_cons] at hne hl he
    simp [hne, ix_tup hl, topOf, hz, he]
    simp [rowD, ix_tup]
theorem T_law_k03 {Γ : Fns} (h7 : Kn Γ 7 2 C__law_cell) (h8 : Kn Γ 8 2 C__law_seed) (h11 : Kn Γ 11 2 C__law_after) (h14 : Kn Γ 14 1 C_is_paper) (h16 : Kn Γ 16 4 C__law_paper) (h17 : Kn Γ 17 2 C__law_drawn_paper) (h20 : Kn Γ 20 1 C_length) (h23 : Kn Γ 23 1 C_last) (h25 : Kn Γ 25 1 C_things) (h26 : Kn Γ 26 2 C_trimmed) :
    ∀ ns : List Int, ns.length ≤ 63 → ∃ G, fnRun N_law_k03.length (eB Γ [0, 3, 5] b_law_k03) [.scr ns] [] = .ok (.bl true) G := by
  intro ns _
  have hcl : ∀ (k : Int) (G : Gp), 0 ≤ k → C__law_cell [.scr ns, .int k] G = .ok (.int (cell ns k)) G := fun k G h => if_pos h
  generalize hS : seedN (cell ns 0) 0 = S
  have hO : HistOk (drawnRows S 10) := hist_ok S _ (by unfold histN; omega)
  obtain ⟨d1, d2, d3, d4, d5⟩ := drawn_ok S 10 (by omega)
  have e17 : ∀ G, C__law_drawn_paper [.int S, .int 10] G = .ok (.tup [ppD (drawnPaper S 10), .tup ((drawnRows S 10).map rowD)]) G := fun G => by
    unfold C__law_drawn_paper
    dsimp only
    rw [if_pos (by omega)]
  unfold drawnPaper at e17
  generalize hmo : S / 19 % 3 = more at e17
  have hmore : 0 ≤ more ∧ more ≤ 100 := by omega
  generalize drawnBase S (drawnRows S 10).length = b at d4 d5 e17
  generalize drawnKept S (drawnRows S 10).length = k at d2 d3 d5 e17
  generalize drawnRows S 10 = R at d1 d3 hO e17
  have hpap : ∀ b' : Int, 0 ≤ b' → b' ≤ k → ∀ G, isPaper (ppD (lawPaper R b' k more)) = true ∧ okP G (ppD (lawPaper R b' k more)) = true := fun b' x y G => lp_paper hO (by omega) x y (by omega) hmore G
  have e20 : ∀ G, C_length [ppD (lawPaper R b k more)] G = .ok (.int R.length) G := fun G => lookC_eq (hpap b d4 d5 G).2 (hpap b d4 d5 G).1 (by rw [lp_len d4 (by omega)])
  have e23 : ∀ b' : Int, 0 ≤ b' → b' ≤ k → ∀ G, C_last [ppD (lawPaper R b' k more)] G = .ok (.tup [.int (topOf R), .int R.length]) G := fun b' x y G => lookC_eq (hpap b' x y G).2 (hpap b' x y G).1 (by
    rw [lp_len x (by omega), lp_term x (by omega) (Int.le_refl _), ahead_top']
    rfl)
  have e25 : ∀ b' : Int, 0 ≤ b' → b' ≤ k → ∀ G, C_things [ppD (lawPaper R b' k more)] G = .ok (.tup ((thingsOf R k.toNat).map Mw.pairD)) G := fun b' x y G => lookC_eq (hpap b' x y G).2 (hpap b' x y G).1 (by
    show (if small? (lawPaper R b' k more) k = true then some (D.tup ((thingsP (lawPaper R b' k more) k).map Mw.pairD)) else none) = _
    rw [if_pos (lp_small hO (by omega)), lp_things hO x y])
  have e26 : ∀ b' n : Int, 0 ≤ b' → b' ≤ n → n ≤ k → ∀ G, C_trimmed [ppD (lawPaper R b' k more), .int n] G = .ok (ppD (lawPaper R n k more)) G := fun b' n x y z G => by
    rw [trim_eq (hpap b' x (by omega) G).2 (hpap b' x (by omega) G).1 y z (lp_small hO (by omega)), lp_trim hO x y (by omega)]
  have eb : ∀ d G, okE G d = true → isWithin d b k = false → C_trimmed [ppD (lawPaper R b k more), d] G = .exc 5 G := fun d G x y => trim_bad (hpap b d4 d5 G).2 (hpap b d4 d5 G).1 x y
  have hpl : ∀ b' : Int, plainD 20 (ppD (lawPaper R b' k more)) = true := fun b' => plain_lp hO
  have hth : plainD 20 (.tup ((thingsOf R k.toNat).map Mw.pairD)) = true := plain_things (thingsOf_good hO _) 18
  refine law_ret ?_
  unfold b_law_k03
  simp only [eB]
  refine step [some (.scr ns), none, none, none, none, some (ppD (lawPaper R b k more)), some (.tup (R.map rowD)), none, none, none, none, none, none, none] (fun _ => True) ?_ fun G1 _ => ?_
  · refine ⟨[], ?_, trivial⟩
    simp [startD, N_law_k03, h7.1, h7.2, hcl, h8.1, h8.2, seed_eq, hS, h17.1, h17.2, e17]
  generalize hP : ppD (lawPaper R b k more) = P at e17
  refine step [some (.scr ns), none, none, none, none, some P, some (.tup (R.map rowD)), some (.int (topOf R + more)), some (.int b), some (.int (aheadOf R b)), some (.tup ((thingsOf R b.toNat).map Mw.pairD)), some (.tup ((R.drop b.toNat).map rowD)), some (.int k), none] (fun _ => True) ?_ fun G2 _ => ?_
  · refine ⟨G1, ?_, trivial⟩
    have hset : (Tg.tp [7, 8, 9, 10, 11, 12]).set P [some (.scr ns), none, none, none, none, some P, some (.tup (R.map rowD)), none, none, none, none, none, none, none] = some [some (.scr ns), none, none, none, none, some P, some (.tup (R.map rowD)), some (.int (topOf R + more)), some (.int b), some (.int (aheadOf R b)), some (.tup ((thingsOf R b.toNat).map Mw.pairD)), some (.tup ((R.drop b.toNat).map rowD)), some (.int k), none] := by rw [← hP]; rfl
    simp [-Tg.set, hset]
  generalize D.tup ((thingsOf R b.toNat).map Mw.pairD) = th
  generalize D.tup ((R.drop b.toNat).map rowD) = lf
  generalize aheadOf R b = ah
  have hP' : ∀ G, C_length [P] G = .ok (.int R.length) G := fun G => by rw [← hP]; exact e20 G
  have hP2 : ∀ G, C_last [P] G = .ok (.tup [.int (topOf R), .int R.length]) G := fun G => by rw [← hP]; exact e23 b d4 d5 G
  have hP3 : ∀ G, C_things [P] G = .ok (.tup ((thingsOf R k.toNat).map Mw.pairD)) G := fun G => by rw [← hP]; exact e25 b d4 d5 G
  have hP4 : ∀ n : Int, b ≤ n → n ≤ k → ∀ G, C_trimmed [P, .int n] G = .ok (ppD (lawPaper R n k more)) G := fun n x y G => by rw [← hP]; exact e26 b n d4 x y G
  have hP5 : ∀ d G, okE G d = true → isWithin d b k = false → C_trimmed [P, d] G = .exc 5 G := fun d G x y => by rw [← hP]; exact eb d G x y
  refine step [some (.scr ns), none, none, none, none, some P, some (.tup (R.map rowD)), some (.int (topOf R + more)), some (.int b), some (.int ah), some th, some lf, some (.int k), none] (fun _ => True) ?_ fun G3 _ => ?_
  · refine ⟨G2, ?_, trivial⟩
    have ht := top_expr (i := 6) (e := [some (.scr ns), none, none, none, none, some P, some (.tup (R.map rowD)), some (.int (topOf R + more)), some (.int b), some (.int ah), some th, some lf, some (.int k), none]) (G := G2) rfl hO.keys
    have hs : dEq (.tup [.int (topOf R), .int R.length]) (.tup [.int (topOf R), .int R.length]) G2 = .ok true G2 := eq_self rfl
    simp only [eS]
    simp only [eP, eOr, Cop.f, Bop.f, pl, eA, Blt.f]
    simp [-mIf, h20.1, h20.2, hP', fLen, eq_int, h23.1, h23.2, hP2, ht, hs]
  refine step [some (.scr ns), none, none, none, none, some P, some (.tup (R.map rowD)), some (.int (topOf R + more)), some (.int b), some (.int ah), some th, some lf, some (.int k), none] (fun _ => True) ?_ fun G4 _ => ?_
  · obtain ⟨J, hJ⟩ := rows_lc (i := 13) (it := miVal (mSl (mVar 6) none (some (mVar 12)))) (e := [some (.scr ns), none, none, none, none, some P, some (.tup (R.map rowD)), some (.int (topOf R + more)), some (.int b), some (.int ah), some th, some lf, some (.int k), none]) (G := G3) (G1 := G3) (m := R.take k.toNat) (by
      simp [dSl, cut_take d2, List.map_take]) (by rw [List.length_take]; omega) (by simp)
    generalize ha : (R.take k.toNat).map (·.2) = as at hJ
    refine ⟨G3 ++ .lst (as.map ddD) :: J, ?_, trivial⟩
    have hA := laft_eq (G := G3 ++ .lst (as.map ddD) :: J) (l := []) (d := .ref G3.length) (as := as) (by simp [seqOf]) List.nodup_nil (by rw [← ha, List.length_map, List.length_take]; simp; omega)
    simp only [List.map_nil] at hA
    have hT : sortKV (as.foldl app []) = thingsOf R k.toNat := by rw [← ha]; rfl
    rw [hT] at hA
    simp [h25.1, h25.2, hP3]
    rw [hJ]
    simp [h11.1, h11.2, hA, eq_self hth]
  generalize hn : b + cell ns 1 % (k - b + 1) = n
  have n0 := Int.emod_nonneg (cell ns 1) (show k - b + 1 ≠ 0 by omega)
  have n1 := Int.emod_lt_of_pos (cell ns 1) (show 0 < k - b + 1 by omega)
  have hn1 : b ≤ n := by omega
  have hn2 : n ≤ k := by omega
  refine step [some (.scr ns), some (.int n), none, none, none, some P, some (.tup (R.map rowD)), some (.int (topOf R + more)), some (.int b), some (.int ah), some th, some lf, some (.int k), none] (fun _ => True) ?_ fun G5 _ => ?_
  · refine ⟨G4, ?_, trivial⟩
    have q : 0 < k - b + 1 := by omega
    simp [h7.1, h7.2, hcl, dMod, q, hn]
  refine step [some (.scr ns), some (.int n), some (ppD (lawPaper R n k more)), none, none, some P, some (.tup (R.map rowD)), some (.int (topOf R + more)), some (.int b), some (.int ah), some th, some lf, some (.int k), none] (fun _ => True) ?_ fun G6 _ => ?_
  · refine ⟨G5, ?_, trivial⟩
    simp [h26.1, h26.2, hP4 n hn1 hn2]
  generalize hQ : ppD (lawPaper R n k more) = Q
  have q0 : 0 ≤ n := by omega
  refine step [some (.scr ns), some (.int n), some Q, none, none, some P, some (.tup (R.map rowD)), some (.int (topOf R + more)), some (.int b), some (.int ah), some th, some lf, some (.int k), none] (fun _ => True) ?_ fun G7 _ => ?_
  · refine ⟨G6, ?_, trivial⟩
    have e16 := lpaper_eq (G := G6) (m := R) (b := n) (k := k) (more := 0) q0 (by omega) (by omega) hO.keys
    have e14 : C_is_paper [Q] G6 = .ok (.bl true) G6 := by rw [← hQ, paper_eq (hpap n q0 hn2 G6).2, (hpap n q0 hn2 G6).1]
    have hs := eq_self (G := G6) (hpl n)
    rw [hQ] at hs
    have hcut : dSl (ppD (lawPaper R n k 0)) (some 1) none G6 = .ok (.tup [.int n, .int (aheadOf R n), .tup ((thingsOf R n.toNat).map Mw.pairD), .tup ((R.drop n.toNat).map rowD), .int k]) G6 := by
      show Mw.R.ok (D.tup (Mw.cutD _ (some 1) none)) G6 = _
      rw [cut_drop (by decide)]
      rfl
    have hadd : dAdd (.tup [.int (topOf R + more)]) (.tup [.int n, .int (aheadOf R n), .tup ((thingsOf R n.toNat).map Mw.pairD), .tup ((R.drop n.toNat).map rowD), .int k]) G6 = .ok Q G6 := by
      rw [add_tup (by simp), ← hQ]
      rfl
    simp only [eS]
    simp only [eP, eOr, Cop.f, Bop.f, pl, eA, eO]
    simp [h16.1, h16.2, e16]
    rw [hcut]
    simp only [Mw.R.bind_ok]
    rw [hadd]
    simp [hs, h14.1, h14.2, e14, dIs]
  have hQ2 : ∀ G, C_last [Q] G = .ok (.tup [.int (topOf R), .int R.length]) G := fun G => by rw [← hQ]; exact e23 n q0 hn2 G
  have hQ3 : ∀ G, C_things [Q] G = .ok (.tup ((thingsOf R k.toNat).map Mw.pairD)) G := fun G => by rw [← hQ]; exact e25 n q0 hn2 G
  have hQ4 : ∀ G, C_trimmed [Q, .int k] G = .ok (ppD (lawPaper R k k more)) G := fun G => by rw [← hQ]; exact e26 n k q0 hn2 (Int.le_refl _) G
  refine step [some (.scr ns), some (.int n), some Q, none, none, some P, some (.tup (R.map rowD)), some (.int (topOf R + more)), some (.int b), some (.int ah), some th, some lf, some (.int k), none] (fun _ => True) ?_ fun G8 _ => ?_
  · refine ⟨G7, ?_, trivial⟩
    have hs : dEq (.tup [.int (topOf R), .int R.length]) (.tup [.int (topOf R), .int R.length]) G7 = .ok true G7 := eq_self rfl
    have hs2 := eq_self (G := G7) (hpl k)
    simp [h25.1, h25.2, hP3, hQ3, eq_self hth, h23.1, h23.2, hP2, hQ2, hs, h26.1, h26.2, hP4 k d5 (Int.le_refl _), hQ4, hs2]
  refine step [some (.scr ns), some (.int n), some Q, some (.int 0), none, some P, some (.tup (R.map rowD)), some (.int (topOf R + more)), some (.int b), some (.int ah), some th, some lf, some (.int k), none] (fun _ => True) ?_ fun G9 _ => ?_
  · exact ⟨G8, by simp, trivial⟩
  refine step [some (.scr ns), some (.int n), some Q, some (.int 6), some (.tup [.int b]), some P, some (.tup (R.map rowD)), some (.int (topOf R + more)), some (.int b), some (.int ah), some th, some lf, some (.int k), none] (fun _ => True) ?_ fun Ga _ => ?_
  · refine ⟨G9, ?_, trivial⟩
    have x1 := hP5 (.int (b - 1)) G9 rfl (by show (decide (b ≤ b - 1) && _) = false; rw [decide_eq_false (by omega)]; rfl)
    have x2 := hP5 (.int (k + 1)) G9 rfl (by show (_ && decide (k + 1 ≤ k)) = false; rw [decide_eq_false (show ¬ k + 1 ≤ k by omega), Bool.and_false])
    have x3 := hP5 .non G9 rfl rfl
    have x4 := hP5 (.str "0") G9 (okE_str (by decide +kernel)) rfl
    have x5 := hP5 (.int (-1)) G9 rfl (by show (decide (b ≤ -1) && _) = false; rw [decide_eq_false (by omega)]; rfl)
    have x6 := hP5 (.tup [.int b]) G9 rfl rfl
    simp [mFor, forGo, Src.still, mTry, hdGo, exSub, h26.1, h26.2, x1, x2, x3, x4, x5, x6]
  refine ⟨Ga, ?_⟩
  simp [eq_int]
end Mm
namespace Mm
open PySem L2 Mw
open PyProof.Rows hiding St
def mixN (c p m : Int) : Int := ((c * 48271) % p) ^ 3 % p % m
def C__law_mix : FM := fun ds G => match ds with
  | [.int c, .int p, .int m] => if 0 < p ∧ p < 1000000 ∧ 0 < m then .ok (.int (mixN c p m)) G else .bad
  | _ => .bad
theorem K__law_mix {Γ : Fns} {xs : List Nat} : Cleans 3 (fnRun N__law_mix.length (eB Γ xs b__law_mix)) C__law_mix := by
  intro ds G hl hc hlt
  unfold C__law_mix
  split
  · rename_i c p m
    split
    · rename_i hp
      refine clr_ok ⟨[], ?_⟩ (Nat.le_refl _) hc rfl
      have h1 := Int.emod_nonneg (c * 48271) (show p ≠ 0 by omega)
      have h2 := Int.emod_lt_of_pos (c * 48271) hp.1
      have h : (c * 48271 % p).natAbs < 18446744073709551616 := by omega
      simp [fnRun, b__law_mix, startD, N__law_mix, dMul, dMod, dPow, mixN, h, hp.1, hp.2.2]
    · trivial
  · trivial
theorem cut_mid {ds : List D} {a : Int} (h : 0 ≤ a) : Mw.cutD ds (some a) (some (a + 3)) = (ds.drop a.toNat).take 3 := by
  unfold Mw.cutD HT.sIx
  simp only [if_neg (show ¬ a < 0 by omega), if_neg (show ¬ a + 3 < 0 by omega)]
  by_cases h2 : a.toNat ≤ ds.length
  · rw [Nat.min_eq_left h2]
    by_cases h3 : a.toNat + 3 ≤ ds.length
    · rw [Nat.min_eq_left (by omega), show (a + 3).toNat - a.toNat = 3 by omega]
    · rw [Nat.min_eq_right (by omega), List.take_of_length_le (by rw [List.length_drop]; omega), List.take_of_length_le (by rw [List.length_drop]; omega)]
  · rw [List.drop_of_length_le (show ds.length ≤ min a.toNat ds.length by omega), List.drop_of_length_le (show ds.length ≤ a.toNat by omega)]
    simp
def wholeD (p : Pp) : D := .tup [.str "whole", .int p.term, .int p.base, .int p.ahead, .tup (p.things.map Mw.pairD), .int p.kept]
def rowsD (p : Pp) (n : Int) : D := .tup [.str "rows", .int p.term, .int n, .int ((termAt p n).getD 0), .tup (((p.rows.drop (n - p.base).toNat).take 3).map rowD), .int p.kept]
def sentD (p : Pp) (n : Int) : D := if n < p.base then wholeD p else rowsD p n
def C_sent : FM := fun ds G => match ds with
  | [d, nd] => if okP G d = true ∧ okE G nd = true then (if isPaper d = true then (match pp? d with
    | some p => if (isWithin nd 0 (lenP p) && !decide (p.term = 0)) = true then .ok (sentD p (intOf nd)) G else .exc 5 G
    | none => .bad) else .exc 3 G) else .bad
  | _ => .bad
theorem ltD_sent {m : Nat} (p : Pp) (n : Int) : ltD m (sentD p n) = true := by
  unfold sentD
  split
  · show (true && (true && (true && (true && (ltD m (.tup (p.things.map Mw.pairD)) && (true && true)))))) = true
    rw [lt_pairs]
    rfl
  · show (true && (true && (true && (true && (ltD m (.tup (((p.rows.drop (n - p.base).toNat).take 3).map rowD)) && (true && true)))))) = true
    rw [ltD_rows]
    rfl
theorem K_sent {Γ : Fns} {xs : List Nat} (h0 : Kn Γ 0 3 C_is_within) (h18 : Kn Γ 18 1 C_look) (h19 : Kn Γ 19 1 C_length_of) (h21 : Kn Γ 21 2 C_term_at) : Cleans 2 (fnRun N_sent.length (eB Γ xs b_sent)) C_sent := by
  intro ds G hl hc hlt
  unfold C_sent
  split
  · rename_i d nd
    split
    · rename_i ho
      obtain ⟨ho, ho2⟩ := ho
      split
      · rename_i hp
        obtain ⟨p, rfl, hv⟩ := paper_inv hp
        rw [pp_D]
        simp only
        have i0 : dIx (ppD p) (.int 0) G = .ok (.int p.term) G := by simp [ppD, ix_tup]
        split
        · rename_i hw
          obtain ⟨hw, hz⟩ := ba hw
          have hz' : ¬ p.term = 0 := by simpa using hz
          obtain ⟨n, rfl, n1, n2⟩ := isWithin_inv hw
          simp only [intOf]
          refine clr_ok ⟨[], ?_⟩ (Nat.le_refl _) hc (ltD_sent _ _)
          have hset : (Tg.tp [3, 4, 5, 6, 7, 8]).set (ppD p) [some (ppD p), some (.int n), none, none, none, none, none, none, none] = some [some (ppD p), some (.int n), none, some (.int p.term), some (.int p.base), some (.int p.ahead), some (.tup (p.things.map Mw.pairD)), some (.tup (p.rows.map rowD)), some (.int p.kept)] := rfl
          unfold sentD
          by_cases hb : n < p.base
          · rw [if_pos hb]
            simp [-Tg.set, tg_nm, fnRun, b_sent, startD, N_sent, h18.1, h18.2, look_eq ho hp, h19.1, h19.2, length_eq, h0.1, h0.2, within_eq ho2, hw, i0, eq_int, hz', hset, hb, wholeD]
          · rw [if_neg hb]
            obtain ⟨t, ht⟩ := termAt_some (p := p) (n := n) (by omega) n2
            have hcut := cut_mid (ds := p.rows.map rowD) (show 0 ≤ n - p.base by omega)
            simp [-Tg.set, tg_nm, fnRun, b_sent, startD, N_sent, h18.1, h18.2, look_eq ho hp, h19.1, h19.2, length_eq, h0.1, h0.2, within_eq ho2, hw, i0, eq_int, hz', hset, hb, rowsD, dSl, hcut, h21.1, h21.2, term_eq ht, ht, List.map_take, List.map_drop]
        · rename_i hw
          refine clr_exc ⟨[], ?_⟩ (Nat.le_refl _) hc
          cases hw1 : isWithin nd 0 (lenP p) with
          | false => simp [fnRun, b_sent, startD, N_sent, h18.1, h18.2, look_eq ho hp, h19.1, h19.2, length_eq, h0.1, h0.2, within_eq ho2, hw1]
          | true =>
            have hz : p.term = 0 := by rw [hw1] at hw; simpa using hw
            rw [hz] at i0
            simp [fnRun, b_sent, startD, N_sent, h18.1, h18.2, look_eq ho hp, h19.1, h19.2, length_eq, h0.1, h0.2, within_eq ho2, hw1, i0, eq_int]
      · rename_i hp
        have hp' : isPaper d = false := by simpa using hp
        refine clr_exc ⟨[], ?_⟩ (Nat.le_refl _) hc
        simp [fnRun, b_sent, startD, N_sent, h18.1, h18.2, look_bad ho hp']
    · trivial
  · trivial
theorem sent_eq {p : Pp} {G : Gp} {n : Int} (h1 : okP G (ppD p) = true) (h2 : isPaper (ppD p) = true) (h3 : 0 ≤ n) (h4 : n ≤ lenP p) (h5 : ¬ p.term = 0) : C_sent [ppD p, .int n] G = .ok (sentD p n) G := by
  unfold C_sent
  dsimp only
  rw [if_pos ⟨h1, rfl⟩, if_pos h2, pp_D]
  simp only
  rw [if_pos (show (isWithin (.int n) 0 (lenP p) && !decide (p.term = 0)) = true by show ((decide (0 ≤ n) && decide (n ≤ lenP p)) && _) = true; rw [decide_eq_true h3, decide_eq_true h4, decide_eq_false h5]; rfl)]
  rfl
theorem sent_bad {p : Pp} {G : Gp} {d : D} (h1 : okP G (ppD p) = true) (h2 : isPaper (ppD p) = true) (h3 : okE G d = true) (h4 : (isWithin d 0 (lenP p) && !decide (p.term = 0)) = false) : C_sent [ppD p, d] G = .exc 5 G := by
  unfold C_sent
  dsimp only
  rw [if_pos ⟨h1, h3⟩, if_pos h2, pp_D]
  simp only
  rw [if_neg (by rw [h4]; decide)]
end Mm
namespace Mm
open PySem L2 Mw
open PyProof.Rows hiding St
/-- rows[n - 1][0] if n > 0 else 0 -/
theorem ahead_expr {i j : Nat} {e : En} {G : Gp} {m : List Rw} {n : Int} (he : e[i]? = some (some (.tup (m.map rowD)))) (hj : e[j]? = some (some (.int n))) (h1 : n ≤ m.length) :
    (mIf (mCmpB (fun x y G => dLt y x G) (mVar j) (mC (.int 0))) (mBin dIx (mBin dIx (mVar i) (mBin dSub (mVar j) (mC (.int 1)))) (mC (.int 0))) (mC (.int 0))) e G = .ok (.int (aheadOf m n)) G := by
  by_cases hb : 0 < n
  · have hlt : (n - 1).toNat < m.length := by omega
    have hl : atI (m.map rowD) (n - 1) = some (rowD m[(n - 1).toNat]) := by
      have := atI_nat (l := m.map rowD) (n - 1).toNat (by simpa using hlt)
      rw [show (((n - 1).toNat : Nat) : Int) = n - 1 by omega] at this
      rw [this, List.getElem?_map, List.getElem?_eq_getElem hlt]
      rfl
    simp [he, hj, hb, ix_tup hl, aheadOf]
    simp [rowD, ix_tup]
    rw [List.getElem?_eq_getElem (show n.toNat - 1 < m.length by omega)]
    rfl
  · simp [hj, hb, aheadOf]
theorem T_law_k05 {Γ : Fns} (h7 : Kn Γ 7 2 C__law_cell) (h8 : Kn Γ 8 2 C__law_seed) (h17 : Kn Γ 17 2 C__law_drawn_paper) (h28 : Kn Γ 28 2 C_sent) (h36 : Kn Γ 36 3 C__law_mix) :
    ∀ ns : List Int, ns.length ≤ 63 → ∃ G, fnRun N_law_k05.length (eB Γ [0, 3, 5] b_law_k05) [.scr ns] [] = .ok (.bl true) G := by
  intro ns _
  have hcl : ∀ (k : Int) (G : Gp), 0 ≤ k → C__law_cell [.scr ns, .int k] G = .ok (.int (cell ns k)) G := fun k G h => if_pos h
  generalize hS : seedN (cell ns 0) 0 = S
  have hO : HistOk (drawnRows S 10) := hist_ok S _ (by unfold histN; omega)
  obtain ⟨d1, d2, d3, d4, d5⟩ := drawn_ok S 10 (by omega)
  have e17 : ∀ G, C__law_drawn_paper [.int S, .int 10] G = .ok (.tup [ppD (drawnPaper S 10), .tup ((drawnRows S 10).map rowD)]) G := fun G => by
    unfold C__law_drawn_paper
    dsimp only
    rw [if_pos (by omega)]
  unfold drawnPaper at e17
  generalize hmo : S / 19 % 3 = more at e17
  have hmore : 0 ≤ more ∧ more ≤ 2 := by omega
  generalize drawnBase S (drawnRows S 10).length = b at d4 d5 e17
  generalize drawnKept S (drawnRows S 10).length = k at d2 d3 d5 e17
  generalize drawnRows S 10 = R at d1 d3 hO e17
  obtain ⟨_, _, _, tp1, tp2⟩ := ahead_bd hO d4 (show b ≤ R.length by omega)
  have hmx : ∃ mo : Int, 0 ≤ mo ∧ mo ≤ 100 ∧ ¬ topOf R + mo = 0 ∧ mo = if topOf R + more = 0 then 1 else more := by
    by_cases h : topOf R + more = 0
    · exact ⟨1, by omega, by omega, by omega, by rw [if_pos h]⟩
    · exact ⟨more, by omega, by omega, h, by rw [if_neg h]⟩
  obtain ⟨mo, m1, m2, m3, m4⟩ := hmx
  have hpap : ∀ G, isPaper (ppD (lawPaper R b k mo)) = true ∧ okP G (ppD (lawPaper R b k mo)) = true := fun G => lp_paper hO (by omega) d4 d5 (by omega) ⟨m1, m2⟩ G
  have hlen : lenP (lawPaper R b k mo) = R.length := lp_len d4 (by omega)
  have e28 : ∀ n : Int, 0 ≤ n → n ≤ R.length → ∀ G, C_sent [ppD (lawPaper R b k mo), .int n] G = .ok (sentD (lawPaper R b k mo) n) G := fun n x y G => sent_eq (hpap G).2 (hpap G).1 x (by rw [hlen]; exact y) m3
  have eb : ∀ d G, okE G d = true → isWithin d 0 R.length = false → C_sent [ppD (lawPaper R b k mo), d] G = .exc 5 G := fun d G x y => sent_bad (hpap G).2 (hpap G).1 x (by rw [hlen, y]; rfl)
  refine law_ret ?_
  unfold b_law_k05
  simp only [eB]
  refine step [some (.scr ns), none, none, none, none, some (ppD (lawPaper R b k more)), some (.tup (R.map rowD)), none, none, none, none, none, none] (fun _ => True) ?_ fun G1 _ => ?_
  · refine ⟨[], ?_, trivial⟩
    simp [startD, N_law_k05, h7.1, h7.2, hcl, h8.1, h8.2, seed_eq, hS, h17.1, h17.2, e17]
  generalize hlf : D.tup ((R.drop b.toNat).map rowD) = lf
  generalize hth : D.tup ((thingsOf R b.toNat).map Mw.pairD) = th
  refine step [some (.scr ns), none, none, none, none, some (ppD (lawPaper R b k more)), some (.tup (R.map rowD)), some (.int (topOf R + more)), some (.int b), some (.int (aheadOf R b)), some th, some lf, some (.int k)] (fun _ => True) ?_ fun G2 _ => ?_
  · refine ⟨G1, ?_, trivial⟩
    have hset : (Tg.tp [7, 8, 9, 10, 11, 12]).set (ppD (lawPaper R b k more)) [some (.scr ns), none, none, none, none, some (ppD (lawPaper R b k more)), some (.tup (R.map rowD)), none, none, none, none, none, none] = some [some (.scr ns), none, none, none, none, some (ppD (lawPaper R b k more)), some (.tup (R.map rowD)), some (.int (topOf R + more)), some (.int b), some (.int (aheadOf R b)), some th, some lf, some (.int k)] := by rw [← hth, ← hlf]; rfl
    simp [-Tg.set, hset]
  refine step [some (.scr ns), none, none, none, none, some (ppD (lawPaper R b k mo)), some (.tup (R.map rowD)), some (.int (topOf R + mo)), some (.int b), some (.int (aheadOf R b)), some th, some lf, some (.int k)] (fun _ => True) ?_ fun G3 _ => ?_
  · refine ⟨G2, ?_, trivial⟩
    by_cases h : topOf R + more = 0
    · rw [if_pos h] at m4
      subst m4
      have ht : topOf R = 0 := by omega
      have hp : ppD (lawPaper R b k 1) = .tup [.int 1, .int b, .int (aheadOf R b), th, lf, .int k] := by
        rw [← hth, ← hlf]
        show D.tup [.int (topOf R + 1), _, _, _, _, _] = _
        rw [ht]
        rfl
      have h0 : more = 0 := by omega
      rw [hp, ht]
      simp [eq_int, h0]
    · rw [if_neg h] at m4
      subst m4
      simp [eq_int, h]
  generalize hn : mixN (cell ns 1) 9949 ((R.length : Int) + 1) = n
  have n0 : 0 ≤ n := by rw [← hn]; exact Int.emod_nonneg _ (by omega)
  have n1 : n ≤ R.length := by
    have := Int.emod_lt_of_pos (((cell ns 1) * 48271 % 9949) ^ 3 % 9949) (show (0 : Int) < R.length + 1 by omega)
    have e : n = ((cell ns 1) * 48271 % 9949) ^ 3 % 9949 % ((R.length : Int) + 1) := by rw [← hn]; rfl
    omega
  have e36 : ∀ G, C__law_mix [.int (cell ns 1), .int 9949, .int ((R.length : Int) + 1)] G = .ok (.int n) G := fun G => by
    unfold C__law_mix
    dsimp only
    rw [if_pos (by omega), hn]
  generalize hP : ppD (lawPaper R b k mo) = P
  refine step [some (.scr ns), some (.int n), none, none, none, some P, some (.tup (R.map rowD)), some (.int (topOf R + mo)), some (.int b), some (.int (aheadOf R b)), some th, some lf, some (.int k)] (fun _ => True) ?_ fun G4 _ => ?_
  · refine ⟨G3, ?_, trivial⟩
    simp [h7.1, h7.2, hcl, fLen, h36.1, h36.2, e36]
  generalize hX : D.tup [.str "rows", .int (topOf R + mo), .int n, .int (aheadOf R n), .tup (((R.drop n.toNat).take 3).map rowD), .int k] = X
  refine step [some (.scr ns), some (.int n), some X, none, none, some P, some (.tup (R.map rowD)), some (.int (topOf R + mo)), some (.int b), some (.int (aheadOf R b)), some th, some lf, some (.int k)] (fun _ => True) ?_ fun G5 _ => ?_
  · refine ⟨G4, ?_, trivial⟩
    have ht := ahead_expr (i := 6) (j := 1) (e := [some (.scr ns), some (.int n), none, none, none, some P, some (.tup (R.map rowD)), some (.int (topOf R + mo)), some (.int b), some (.int (aheadOf R b)), some th, some lf, some (.int k)]) (G := G4) rfl rfl n1
    have hcut := cut_mid (ds := R.map rowD) n0
    simp only [eS]
    simp only [eP, Cop.f, Bop.f, pl, eA, eO]
    simp [-mIf, ht, dSl, hcut, ← hX, List.map_take, List.map_drop]
  have hs1 : sentD (lawPaper R b k mo) n = if n < b then .tup [.str "whole", .int (topOf R + mo), .int b, .int (aheadOf R b), th, .int k] else X := by
    unfold sentD
    show (if n < b then wholeD (lawPaper R b k mo) else rowsD (lawPaper R b k mo) n) = _
    by_cases h : n < b
    · rw [if_pos h, if_pos h, ← hth]
      rfl
    · rw [if_neg h, if_neg h, ← hX]
      unfold rowsD
      rw [lp_term d4 (by omega) n1]
      show D.tup [_, _, _, .int (aheadOf R n), .tup ((((R.drop b.toNat).drop (n - b).toNat).take 3).map rowD), _] = _
      rw [List.drop_drop, show b.toNat + (n - b).toNat = n.toNat by omega]
      rfl
  generalize hY : sentD (lawPaper R b k mo) n = Y at hs1
  have hpY : plainD 20 Y = true := by
    have o1 : PyData.strOk "whole" = true := by decide +kernel
    have o2 : PyData.strOk "rows" = true := by decide +kernel
    rw [hs1]
    split
    · show (plainD 19 (.str "whole") && (true && (true && (true && (plainD 19 th && (true && true)))))) = true
      rw [plain_str, o1, ← hth, plain_things (thingsOf_good hO _) 17]
      rfl
    · rw [← hX]
      show (plainD 19 (.str "rows") && (true && (true && (true && (plainD 19 (.tup (((R.drop n.toNat).take 3).map rowD)) && (true && true)))))) = true
      have hk : ((R.drop n.toNat).take 3).all (fun r => okDk r.2) = true := by
        rw [List.all_eq_true]
        intro r hr
        exact List.all_eq_true.mp hO.keys r (List.mem_of_mem_drop (List.mem_of_mem_take hr))
      rw [plain_str, o2, plain_rows hk 16]
      rfl
  refine step [some (.scr ns), some (.int n), some Y, none, none, some P, some (.tup (R.map rowD)), some (.int (topOf R + mo)), some (.int b), some (.int (aheadOf R b)), some th, some lf, some (.int k)] (fun _ => True) ?_ fun G6 _ => ?_
  · refine ⟨G5, ?_, trivial⟩
    by_cases h : n < b
    · rw [if_pos h] at hs1
      simp [h, hs1]
    · rw [if_neg h] at hs1
      simp [h, hs1]
  have hP1 : ∀ G, C_sent [P, .int n] G = .ok Y G := fun G => by rw [← hP, e28 n n0 n1 G, hY]
  have hP5 : ∀ d G, okE G d = true → isWithin d 0 R.length = false → C_sent [P, d] G = .exc 5 G := fun d G x y => by rw [← hP]; exact eb d G x y
  refine step [some (.scr ns), some (.int n), some Y, none, none, some P, some (.tup (R.map rowD)), some (.int (topOf R + mo)), some (.int b), some (.int (aheadOf R b)), some th, some lf, some (.int k)] (fun _ => True) ?_ fun G7 _ => ?_
  · refine ⟨G6, ?_, trivial⟩
    simp [h28.1, h28.2, hP1, eq_self hpY]
  refine step [some (.scr ns), some (.int n), some Y, some (.int 0), none, some P, some (.tup (R.map rowD)), some (.int (topOf R + mo)), some (.int b), some (.int (aheadOf R b)), some th, some lf, some (.int k)] (fun _ => True) ?_ fun G8 _ => ?_
  · exact ⟨G7, by simp, trivial⟩
  refine step [some (.scr ns), some (.int n), some Y, some (.int 5), some (.str "0"), some P, some (.tup (R.map rowD)), some (.int (topOf R + mo)), some (.int b), some (.int (aheadOf R b)), some th, some lf, some (.int k)] (fun _ => True) ?_ fun G9 _ => ?_
  · refine ⟨G8, ?_, trivial⟩
    have x1 := hP5 (.int (-1)) G8 rfl rfl
    have x2 := hP5 (.int ((R.length : Int) + 1)) G8 rfl (by show (decide ((0 : Int) ≤ (R.length : Int) + 1) && decide ((R.length : Int) + 1 ≤ R.length)) = false; rw [decide_eq_false (show ¬ (R.length : Int) + 1 ≤ R.length by omega), Bool.and_false])
    have x3 := hP5 .non G8 rfl rfl
    have x4 := hP5 (.bl true) G8 rfl rfl
    have x5 := hP5 (.str "0") G8 (okE_str (by decide +kernel)) rfl
    simp [mFor, forGo, Src.still, mTry, hdGo, exSub, h28.1, h28.2, fLen, x1, x2, x3, x4, x5]
  refine step [some (.scr ns), some (.int n), some Y, some (.int 6), some (.str "0"), some P, some (.tup (R.map rowD)), some (.int (topOf R + mo)), some (.int b), some (.int (aheadOf R b)), some th, some lf, some (.int k)] (fun _ => True) ?_ fun Ga _ => ?_
  · refine ⟨G9, ?_, trivial⟩
    have z := sent_bad (p := ⟨0, 0, 0, [], [], 0⟩) (G := G9) (d := .int 0) rfl rfl rfl rfl
    simp only [ppD, List.map_nil] at z
    simp [mTry, hdGo, exSub, h28.1, h28.2, z]
  refine ⟨Ga, ?_⟩
  simp [eq_int]
end Mm
namespace Mm
open PySem L2 Mw
open PyProof.Rows hiding St
def KeyL (l : List KV) : Prop := ∀ e ∈ l, PyData.strOk e.1 = true
theorem KeyL.app {l : List KV} (h : KeyL l) {d : Dd} (hd : okDk d = true) : KeyL (app l d) := fun e he => by
  cases d with
  | non => exact h e he
  | put k v =>
    rcases putL_mem he with q | q
    · exact h e q
    · rw [q]; exact hd
  | add k v =>
    rcases putL_mem he with q | q
    · exact h e q
    · rw [q]; exact hd
  | drop k => exact h e (List.mem_filter.mp he).1
theorem KeyL.fold {l : List KV} (h : KeyL l) {ds : List Dd} (hd : ∀ d ∈ ds, okDk d = true) : KeyL (ds.foldl afterL l) := by
  induction ds generalizing l with
  | nil => exact h
  | cons d ds ih => exact ih (fun e he => (h.app (hd d List.mem_cons_self)) e ((sortKV_perm _).mem_iff.mp he)) fun z hz => hd z (List.mem_cons_of_mem _ hz)
theorem plain_keys {l : List KV} (h : KeyL l) (n : Nat) : plainD (n + 2) (.tup (l.map Mw.pairD)) = true := by
  show (l.map Mw.pairD).all (plainD (n + 1)) = true
  rw [List.all_eq_true]
  intro d hd
  obtain ⟨e, he, rfl⟩ := List.mem_map.mp hd
  show (plainD n (.str e.1) && (plainD n (.int e.2) && true)) = true
  rw [plain_str, plain_int, h e he]
  rfl
theorem deed_ok {a : Dd} (h : isDeed (ddD a) = true) : okDk a = true := by
  have x1 : ¬ ((Str.ofString "put") = Str.ofString "none") := by decide +kernel
  have x2 : ¬ ((Str.ofString "put") = Str.ofString "drop") := by decide +kernel
  have x3 : ¬ ((Str.ofString "add") = Str.ofString "none") := by decide +kernel
  have x4 : ¬ ((Str.ofString "add") = Str.ofString "drop") := by decide +kernel
  have x5 : ¬ ((Str.ofString "drop") = Str.ofString "none") := by decide +kernel
  cases a with
  | non => rfl
  | put k v => simp [isDeed, ddD, x1, x2, isKey] at h; exact isKeyS_ok h.1
  | add k v => simp [isDeed, ddD, x3, x4, isKey] at h; exact isKeyS_ok h.1
  | drop k => simp [isDeed, ddD, x5, isKey] at h; exact isKeyS_ok h
theorem Valid.keys {p : Pp} (h : Valid p) : KeyL p.things := fun e he => isKeyS_ok (h.th e he).1
theorem Valid.deeds {p : Pp} (h : Valid p) : p.rows.all (fun r => okDk r.2) = true := by
  rw [List.all_eq_true]
  intro r hr
  exact deed_ok (h.rs r hr).1
theorem Valid.upkeys {p : Pp} (h : Valid p) (n : Int) : KeyL (thingsP p n) := h.keys.fold fun d hd => by
  obtain ⟨r, hr, rfl⟩ := List.mem_map.mp hd
  exact deed_ok (h.rs r (List.mem_of_mem_take hr)).1
def headD (p : Pp) (n : Int) : D := .tup [.int ((termAt p n).getD 0), .tup ((thingsP p n).map Mw.pairD)]
def restD (p : Pp) (n m : Int) : D := .tup (((p.rows.drop (n - p.base).toNat).take (m - n).toNat).map rowD)
def agreeB (p q : Pp) : Bool := if min p.kept q.kept < max p.base q.base then true else
  D.beq (headD p (max p.base q.base)) (headD q (max p.base q.base)) && D.beq (restD p (max p.base q.base) (min p.kept q.kept)) (restD q (max p.base q.base) (min p.kept q.kept))
def C_agree : FM := fun ds G => match ds with
  | [c, d] => if okP G c = true ∧ okP G d = true then (if isPaper c = true then (if isPaper d = true then (match pp? c, pp? d with
    | some p, some q => if small? p (max p.base q.base) = true ∧ small? q (max p.base q.base) = true then .ok (.bl (agreeB p q)) G else .bad
    | _, _ => .bad) else .exc 3 G) else .exc 3 G) else .bad
  | _ => .bad
theorem plain_head {p : Pp} (h : Valid p) (n : Int) : plainD 20 (headD p n) = true := by
  show (true && (plainD 19 (.tup ((thingsP p n).map Mw.pairD)) && true)) = true
  rw [plain_keys (h.upkeys n) 17]
  rfl
theorem plain_rest {p : Pp} (h : Valid p) (n m : Int) : plainD 20 (restD p n m) = true := by
  refine plain_rows ?_ 17
  rw [List.all_eq_true]
  intro r hr
  exact List.all_eq_true.mp h.deeds r (List.mem_of_mem_drop (List.mem_of_mem_take hr))
theorem K_agree {Γ : Fns} {xs : List Nat} (h18 : Kn Γ 18 1 C_look) (h26 : Kn Γ 26 2 C_trimmed) : Cleans 2 (fnRun N_agree.length (eB Γ xs b_agree)) C_agree := by
  intro ds G hl hc hlt
  unfold C_agree
  split
  · rename_i c d
    split
    · rename_i ho
      obtain ⟨ho1, ho2⟩ := ho
      split
      · rename_i hp
        split
        · rename_i hq
          obtain ⟨p, rfl, hv⟩ := paper_inv hp
          obtain ⟨q, rfl, hw⟩ := paper_inv hq
          rw [pp_D, pp_D]
          simp only
          split
          · rename_i hs
            refine clr_ok ⟨[], ?_⟩ (Nat.le_refl _) hc rfl
            have i1 : dIx (ppD p) (.int 1) G = .ok (.int p.base) G := by simp [ppD, ix_tup]
            have i5 : dIx (ppD p) (.int 5) G = .ok (.int p.kept) G := by simp [ppD, dIx, atI, ixN]
            have j1 : dIx (ppD q) (.int 1) G = .ok (.int q.base) G := by simp [ppD, ix_tup]
            have j5 : dIx (ppD q) (.int 5) G = .ok (.int q.kept) G := by simp [ppD, dIx, atI, ixN]
            unfold agreeB
            by_cases hlow : min p.kept q.kept < max p.base q.base
            · rw [if_pos hlow]
              simp [fnRun, b_agree, startD, N_agree, h18.1, h18.2, look_eq ho1 hp, look_eq ho2 hq, i1, i5, j1, j5, fMax, fMin, hlow]
            · rw [if_neg hlow]
              have t1 := trim_eq (n := max p.base q.base) ho1 hp (by omega) (by omega) hs.1
              have t2 := trim_eq (n := max p.base q.base) ho2 hq (by omega) (by omega) hs.2
              generalize hlo : max p.base q.base = lo at hlow t1 t2 ⊢
              generalize hhi : min p.kept q.kept = hi at hlow ⊢
              have hcut : ∀ r : Pp, dSl (ppD (trimP r lo)) (some 2) (some 4) G = .ok (headD r lo) G := fun r => rfl
              have hr4 : ∀ r : Pp, dIx (ppD (trimP r lo)) (.int 4) G = .ok (.tup ((r.rows.drop (lo - r.base).toNat).map rowD)) G := fun r => by simp [ppD, trimP, ix_tup]
              have hct : ∀ r : Pp, dSl (.tup ((r.rows.drop (lo - r.base).toNat).map rowD)) none (some (hi - lo)) G = .ok (restD r lo hi) G := fun r => by
                show R.ok (D.tup (Mw.cutD _ none (some (hi - lo)))) G = _
                rw [cut_take (by omega), ← List.map_take]
                rfl
              have eq1 := eq_plain (G := G) (plain_head hv lo) (plain_head hw lo)
              have eq2 := eq_plain (G := G) (plain_rest hv lo hi) (plain_rest hw lo hi)
              have c1 := hcut p
              have c2 := hcut q
              have r1 := hr4 p
              have r2 := hr4 q
              have s1 := hct p
              have s2 := hct q
              clear hcut hr4 hct
              generalize ppD (trimP p lo) = P1 at t1 c1 r1
              generalize ppD (trimP q lo) = P2 at t2 c2 r2
              generalize headD p lo = A1 at c1 eq1 ⊢
              generalize headD q lo = A2 at c2 eq1 ⊢
              generalize restD p lo hi = B1 at s1 eq2 ⊢
              generalize restD q lo hi = B2 at s2 eq2 ⊢
              generalize D.tup ((p.rows.drop (lo - p.base).toNat).map rowD) = X1 at r1 s1
              generalize D.tup ((q.rows.drop (lo - q.base).toNat).map rowD) = X2 at r2 s2
              have hlow' : ¬ hi < lo := hlow
              simp [fnRun, b_agree, startD, N_agree, h18.1, h18.2, look_eq ho1 hp, look_eq ho2 hq, i1, i5, j1, j5, fMax, fMin, hlo, hhi, hlow', h26.1, h26.2, t1, t2, c1, c2, r1, r2, s1, s2, eq1, eq2]
              cases D.beq A1 A2 <;> simp
          · trivial
        · rename_i hq
          have hq' : isPaper d = false := by simpa using hq
          refine clr_exc ⟨[], ?_⟩ (Nat.le_refl _) hc
          simp [fnRun, b_agree, startD, N_agree, h18.1, h18.2, look_eq ho1 hp, look_bad ho2 hq']
      · rename_i hp
        have hp' : isPaper c = false := by simpa using hp
        refine clr_exc ⟨[], ?_⟩ (Nat.le_refl _) hc
        simp [fnRun, b_agree, startD, N_agree, h18.1, h18.2, look_bad ho1 hp']
    · trivial
  · trivial
theorem agree_eq {p q : Pp} {G : Gp} (h1 : okP G (ppD p) = true) (h2 : isPaper (ppD p) = true) (h3 : okP G (ppD q) = true) (h4 : isPaper (ppD q) = true) (h5 : small? p (max p.base q.base) = true) (h6 : small? q (max p.base q.base) = true) : C_agree [ppD p, ppD q] G = .ok (.bl (agreeB p q)) G := by
  unfold C_agree
  dsimp only
  rw [if_pos ⟨h1, h3⟩, if_pos h2, if_pos h4, pp_D, pp_D]
  simp only
  rw [if_pos ⟨h5, h6⟩]
end Mm
namespace Mm
open PySem L2 Mw
open PyProof.Rows hiding St
def nthS : MB → Nat → MS
  | .cons s _, 0 => s
  | .cons _ r, n + 1 => nthS r n
  | .nil, _ => .pass
def forBody : MS → MB
  | .forS _ _ b => b
  | _ => .nil
theorem seq_nx {s t : MS0} {e e1 : En} {G G1 : Gp} (h : s e G = .nx e1 G1) : mSeq s t e G = t e1 G1 := by
  unfold mSeq
  rw [h]
theorem for2 {i : Nat} {it : MI0} {B : MS0} {e e0 e1 : En} {G G1 G2 : Gp} {d0 d1 : D} (hi : it e G = .ok ⟨[d0, d1], none⟩ G) (h0 : B (e.set i (some d0)) G = .nx e0 G1) (h1 : B (e0.set i (some d1)) G1 = .nx e1 G2) : mFor (.nm i) it B e G = .nx e1 G2 := by
  unfold mFor
  rw [hi]
  simp only [Src.still, if_true, forGo, Tg.set, h0, h1]
theorem cut_ab {ds : List D} {a b : Int} (h : 0 ≤ a) (h2 : a ≤ b) : Mw.cutD ds (some a) (some b) = (ds.drop a.toNat).take (b - a).toNat := by
  unfold Mw.cutD HT.sIx
  simp only [if_neg (show ¬ a < 0 by omega), if_neg (show ¬ b < 0 by omega)]
  by_cases h3 : a.toNat ≤ ds.length
  · rw [Nat.min_eq_left h3]
    by_cases h4 : b.toNat ≤ ds.length
    · rw [Nat.min_eq_left h4, show b.toNat - a.toNat = (b - a).toNat by omega]
    · rw [Nat.min_eq_right (by omega), List.take_of_length_le (by rw [List.length_drop]; omega), List.take_of_length_le (by rw [List.length_drop]; omega)]
  · rw [List.drop_of_length_le (show ds.length ≤ min a.toNat ds.length by omega), List.drop_of_length_le (show ds.length ≤ a.toNat by omega)]
    simp
/-- some of the rows, one of them perhaps with another deed -/
structure MineOk (R m : List Rw) : Prop where
  ok : HistOk m
  len : m.length ≤ R.length
  ts : m.map (·.1) = (R.map (·.1)).take m.length
theorem mine_take {R : List Rw} (h : HistOk R) (n : Nat) : MineOk R (R.take n) := by
  refine ⟨⟨h.pw.sublist (List.take_sublist n R), fun r hr => h.ge r (List.mem_of_mem_take hr), fun r hr => h.le r (List.mem_of_mem_take hr), fun r hr => h.good r (List.mem_of_mem_take hr)⟩, by rw [List.length_take]; omega, ?_⟩
  rw [List.map_take, List.length_take]
  by_cases hn : n ≤ R.length
  · rw [Nat.min_eq_left hn]
  · rw [Nat.min_eq_right (by omega), List.take_of_length_le (by simp; omega), List.take_of_length_le (by simp)]
theorem mine_set {R m : List Rw} (h : MineOk R m) {i : Nat} (hi : i < m.length) {d : Dd} (hd : GoodD d) : MineOk R (m.set i (m[i].1, d)) := by
  have ht : (m.set i (m[i].1, d)).map (·.1) = m.map (·.1) := by
    rw [List.map_set]
    apply List.ext_getElem?
    intro j
    by_cases hj : j = i
    · subst hj
      rw [List.getElem?_set_self (by simpa using hi), List.getElem?_map, List.getElem?_eq_getElem hi]
      rfl
    · rw [List.getElem?_set_ne (Ne.symm hj)]
  refine ⟨⟨?_, fun r hr => ?_, fun r hr => ?_, fun r hr => ?_⟩, by rw [List.length_set]; exact h.len, by rw [ht, List.length_set]; exact h.ts⟩
  · have hp : (m.map (·.1)).Pairwise (· ≤ ·) := List.pairwise_map.mpr h.ok.pw
    rw [← ht] at hp
    exact List.pairwise_map.mp hp
  · rcases List.mem_or_eq_of_mem_set hr with q | q
    · exact h.ok.ge r q
    · rw [q]; exact h.ok.ge m[i] (List.getElem_mem hi)
  · rcases List.mem_or_eq_of_mem_set hr with q | q
    · exact h.ok.le r q
    · rw [q]; exact h.ok.le m[i] (List.getElem_mem hi)
  · rcases List.mem_or_eq_of_mem_set hr with q | q
    · exact h.ok.good r q
    · rw [q]; exact hd
theorem mine_ahead {R m : List Rw} (h : MineOk R m) {b : Int} (h1 : 0 ≤ b) (h2 : b ≤ m.length) : aheadOf m b = aheadOf R b := by
  unfold aheadOf
  split
  · have e1 := congrArg (fun l : List Int => l[(b - 1).toNat]?) h.ts
    simp only [List.getElem?_map, List.getElem?_take] at e1
    rw [if_pos (by omega)] at e1
    rw [e1]
  · rfl
def Ev4 (ns : List Int) (R : List Rw) (k : Option D) (w9 w10 w11 w12 w14 w15 w16 : Option D) : En := [some (.scr ns), some (.tup (R.map rowD)), some (.ref 0), some (.ref 1), k, none, none, none, none, w9, w10, w11, w12, none, w14, w15, w16, none, none]
theorem mix_eq {G : Gp} {c p m : Int} (h : 0 < p ∧ p < 1000000 ∧ 0 < m) : C__law_mix [.int c, .int p, .int m] G = .ok (.int (mixN c p m)) G := by
  unfold C__law_mix
  dsimp only
  rw [if_pos h]
theorem mix_bd (c p : Int) {m : Int} (h : 0 < m) : 0 ≤ mixN c p m ∧ mixN c p m < m := by
  unfold mixN
  exact ⟨Int.emod_nonneg _ (by omega), Int.emod_lt_of_pos _ h⟩
theorem k04_body {Γ : Fns} {xs : List Nat} (h7 : Kn Γ 7 2 C__law_cell) (h8 : Kn Γ 8 2 C__law_seed) (h10 : Kn Γ 10 1 C__law_deed) (h16 : Kn Γ 16 4 C__law_paper) (h36 : Kn Γ 36 3 C__law_mix) {ns : List Int} {R : List Rw} (hO : HistOk R) (hR : R.length ≤ 800) {k : Int} (hk : k = 0 ∨ k = 1) (w9 w10 w11 w12 w14 w15 w16 : Option D) (ps fs : List D) (hps : ps.length ≤ 5) (hfs : fs.length ≤ 5) (J : Gp) :
    ∃ (m : List Rw) (kp bs : Int) (v9 v14 v15 v16 : Option D) (J' : Gp), eB Γ xs (forBody (nthS b_law_k04 3)) (Ev4 ns R (some (.int k)) w9 w10 w11 w12 w14 w15 w16) (.lst ps :: .lst fs :: J) =
      .nx (Ev4 ns R (some (.int k)) v9 (some (.tup (m.map rowD))) (some (.int kp)) (some (.int bs)) v14 v15 v16) (.lst (ps ++ [ppD (lawPaper m bs kp 0)]) :: .lst (fs ++ [.tup (m.map rowD)]) :: J') ∧ MineOk R m ∧ 0 ≤ bs ∧ bs ≤ kp ∧ kp ≤ m.length := by
  have hcl : ∀ (k : Int) (G : Gp), 0 ≤ k → C__law_cell [.scr ns, .int k] G = .ok (.int (cell ns k)) G := fun k G h => if_pos h
  have k0 : 0 ≤ 1 + k := by omega
  have k7 : 0 ≤ 7 + k := by omega
  have k9 : 0 ≤ 9 + k := by omega
  generalize hmn : (R.length : Int) - cell ns (1 + k) % (R.length + 1) * (if cell ns (1 + k) % 3 = 0 then 1 else 0) = many
  have a1 := Int.emod_nonneg (cell ns (1 + k)) (show (R.length : Int) + 1 ≠ 0 by omega)
  have a2 := Int.emod_lt_of_pos (cell ns (1 + k)) (show (0 : Int) < R.length + 1 by omega)
  have hm0 : 0 ≤ many ∧ many ≤ R.length := by
    rw [← hmn]
    split <;> omega
  have m1 := mine_take hO many.toNat
  have ml : (R.take many.toNat).length = many.toNat := by rw [List.length_take]; omega
  unfold Ev4
  simp only [b_law_k04, nthS, forBody, eB]
  rw [seq_nx (e1 := [some (.scr ns), some (.tup (R.map rowD)), some (.ref 0), some (.ref 1), some (.int k), none, none, none, none, some (.int many), w10, w11, w12, none, w14, w15, w16, none, none]) (G1 := .lst ps :: .lst fs :: J) ?h1]
  case h1 =>
    have q : (0 : Int) < R.length + 1 := by omega
    by_cases hc : cell ns (1 + k) % 3 = 0
    · rw [if_pos hc] at hmn
      simp [fLen, h7.1, h7.2, hcl _ _ k0, dMod, q, fInt, eq_int, hc, dMul, ← hmn]
    · rw [if_neg hc] at hmn
      simp [fLen, h7.1, h7.2, hcl _ _ k0, dMod, q, fInt, eq_int, hc, dMul, ← hmn]
  rw [seq_nx (e1 := [some (.scr ns), some (.tup (R.map rowD)), some (.ref 0), some (.ref 1), some (.int k), none, none, none, none, some (.int many), some (.tup ((R.take many.toNat).map rowD)), w11, w12, none, w14, w15, w16, none, none]) (G1 := .lst ps :: .lst fs :: J) ?h2]
  case h2 =>
    simp [dSl, cut_take hm0.1, List.map_take]
  obtain ⟨m, v14, v15, v16, J1, hif, hM, hml⟩ : ∃ (m : List Rw) (v14 v15 v16 : Option D) (J1 : Gp), eS Γ xs (nthS (forBody (nthS b_law_k04 3)) 2) [some (.scr ns), some (.tup (R.map rowD)), some (.ref 0), some (.ref 1), some (.int k), none, none, none, none, some (.int many), some (.tup ((R.take many.toNat).map rowD)), w11, w12, none, w14, w15, w16, none, none] (.lst ps :: .lst fs :: J) =
      .nx [some (.scr ns), some (.tup (R.map rowD)), some (.ref 0), some (.ref 1), some (.int k), none, none, none, none, some (.int many), some (.tup (m.map rowD)), w11, w12, none, v14, v15, v16, none, none] (.lst ps :: .lst fs :: J1) ∧ MineOk R m ∧ m.length = many.toNat := by
    simp only [b_law_k04, nthS, forBody]
    generalize hT : R.take many.toNat = T at m1 ml
    have hne := eq_plain (G := .lst ps :: .lst fs :: J) (plain_rows m1.ok.keys 17) (show plainD 20 (.tup []) = true from rfl)
    rw [beq_nil] at hne
    rcases hk with rfl | rfl
    · exact ⟨T, w14, w15, w16, J, by simp [eq_int], m1, ml⟩
    · by_cases he : T = []
      · subst he
        simp only [List.map_nil] at hne
        exact ⟨[], w14, w15, w16, J, by simp [eq_int, hne], m1, ml⟩
      · have hie : T.isEmpty = false := by cases T with | nil => exact absurd rfl he | cons _ _ => rfl
        rw [hie] at hne
        by_cases hc3 : cell ns 3 % 2 = 0
        · have hmp : 0 < many := by have := List.length_pos_iff.mpr he; omega
          obtain ⟨at0, at1⟩ := mix_bd (cell ns 4) 9949 hmp
          generalize hat : mixN (cell ns 4) 9949 many = at_ at at0 at1
          have hati : at_.toNat < T.length := by omega
          have e36 := mix_eq (G := .lst ps :: .lst fs :: J) (c := cell ns 4) (p := 9949) (m := many) (by omega)
          rw [hat] at e36
          have hrow : atI (T.map rowD) at_ = some (rowD T[at_.toNat]) := by
            have := atI_nat (l := T.map rowD) at_.toNat (by simpa using hati)
            rw [show ((at_.toNat : Nat) : Int) = at_ by omega] at this
            rw [this, List.getElem?_map, List.getElem?_eq_getElem hati]
            rfl
          generalize hdd : deedN (seedN (cell ns 5) 2) = dd
          obtain ⟨a, ha, hia⟩ := atI_mem [T[at_.toNat].2, dd, Dd.put "q" 7] (cell ns 6 % 3) (by omega) (by show _ < (3 : Int); omega)
          have hga : GoodD a := by
            simp only [List.mem_cons, List.not_mem_nil, or_false] at ha
            rcases ha with rfl | rfl | rfl
            · exact m1.ok.good _ (List.getElem_mem hati)
            · rw [← hdd]; exact deedN_good _
            · exact ⟨by decide +kernel, by decide, by decide⟩
          have hia' : atI [ddD T[at_.toNat].2, ddD dd, .tup [.str "put", .str "q", .int 7]] (cell ns 6 % 3) = some (ddD a) := by
            show atI (List.map ddD [T[at_.toNat].2, dd, Dd.put "q" 7]) _ = _
            rw [atI_map, hia]
            rfl
          have hset : (T.set at_.toNat (T[at_.toNat].1, a)).map rowD = (T.map rowD).take at_.toNat ++ [rowD (T[at_.toNat].1, a)] ++ (T.map rowD).drop (at_.toNat + 1) := by
            rw [List.set_eq_take_append_cons_drop, if_pos hati]
            simp [List.map_take, List.map_drop]
          refine ⟨T.set at_.toNat (T[at_.toNat].1, a), some (.int at_), some (ddD dd), some (ddD a), J ++ [.lst [ddD T[at_.toNat].2, ddD dd, .tup [.str "put", .str "q", .int 7]]], ?_, mine_set m1 hati hga, by rw [List.length_set]; exact ml⟩
          have c1 := cut_take (ds := T.map rowD) at0
          have c2 := cut_drop (ds := T.map rowD) (show 0 ≤ at_ + 1 by omega)
          rw [show (at_ + 1).toNat = at_.toNat + 1 by omega] at c2
          have l1 : ((T.map rowD).take at_.toNat).length + 1 ≤ 100000 := by rw [List.length_take, List.length_map]; omega
          rw [hset]
          generalize hM : T[at_.toNat] = r at *
          have r1 : dIx (rowD r) (.int 1) (.lst ps :: .lst fs :: J) = .ok (ddD r.2) (.lst ps :: .lst fs :: J) := by simp [rowD, ix_tup]
          have r0 : ∀ G, dIx (rowD r) (.int 0) G = .ok (.int r.1) G := fun G => by simp [rowD, ix_tup]
          have hx : ∀ G, dIx (.tup (T.map rowD)) (.int at_) G = .ok (rowD r) G := fun G => ix_tup hrow
          have hl3 : dIx (.ref (J.length + 1 + 1)) (.int (cell ns 6 % 3)) (.lst ps :: .lst fs :: (J ++ [.lst [ddD r.2, ddD dd, .tup [.str "put", .str "q", .int 7]]])) = .ok (ddD a) (.lst ps :: .lst fs :: (J ++ [.lst [ddD r.2, ddD dd, .tup [.str "put", .str "q", .int 7]]])) := ix_lst (by simp) hia'
          have hrd : rowD (r.1, a) = .tup [.int r.1, ddD a] := rfl
          have sl1 : ∀ G, dSl (.tup (T.map rowD)) none (some at_) G = .ok (.tup ((T.map rowD).take at_.toNat)) G := fun G => by rw [← c1]; rfl
          have sl2 : ∀ G, dSl (.tup (T.map rowD)) (some (at_ + 1)) none G = .ok (.tup ((T.map rowD).drop (at_.toNat + 1))) G := fun G => by rw [← c2]; rfl
          have l2 : ((T.map rowD).drop (at_.toNat + 1)).length ≤ 900 := by rw [List.length_drop, List.length_map]; omega
          have l3 : ((T.map rowD).take at_.toNat).length ≤ 900 := by rw [List.length_take, List.length_map]; omega
          clear c1 c2 l1 hset hrow
          generalize (T.map rowD).take at_.toNat = A1 at sl1 l3 ⊢
          generalize (T.map rowD).drop (at_.toNat + 1) = A2 at sl2 l2 ⊢
          generalize D.tup (T.map rowD) = TD at hx hne sl1 sl2 ⊢
          have q1 : A1.length + 1 ≤ 100000 := by omega
          have q2 : A1.length + (1 + A2.length) ≤ 100000 := by omega
          have q3 : A1.length + 1 + A2.length ≤ 100000 := by omega
          have hd1 : ∀ x G, dAdd (.tup A1) (.tup [x]) G = .ok (.tup (A1 ++ [x])) G := fun x G => add_tup (by simp; omega)
          have hd2 : ∀ x G, dAdd (.tup (A1 ++ [x])) (.tup A2) G = .ok (.tup (A1 ++ [x] ++ A2)) G := fun x G => add_tup (by simp; omega)
          simp [-List.append_assoc, eq_int, hne, h7.1, h7.2, hcl, dMod, hc3, h36.1, h36.2, e36, h8.1, h8.2, seed_eq, h10.1, h10.2, ldeed_eq, hdd, hx, r1, r0, hl3, sl1, sl2, hd1, hd2, hrd]
        · exact ⟨T, w14, w15, w16, J, by simp [eq_int, hne, h7.1, h7.2, hcl, dMod, hc3], m1, ml⟩
  simp only [b_law_k04, nthS, forBody] at hif
  rw [seq_nx hif]
  obtain ⟨x0, x1⟩ := mix_bd (cell ns (7 + k)) 9941 (show 0 < many + 1 by omega)
  have e7 := mix_eq (G := .lst ps :: .lst fs :: J1) (c := cell ns (7 + k)) (p := 9941) (m := many + 1) (by omega)
  generalize hkp : many - mixN (cell ns (7 + k)) 9941 (many + 1) = kp
  rw [seq_nx (e1 := [some (.scr ns), some (.tup (R.map rowD)), some (.ref 0), some (.ref 1), some (.int k), none, none, none, none, some (.int many), some (.tup (m.map rowD)), some (.int kp), w12, none, v14, v15, v16, none, none]) (G1 := .lst ps :: .lst fs :: J1) (by simp [h7.1, h7.2, hcl _ _ k7, h36.1, h36.2, e7, hkp])]
  obtain ⟨y0, y1⟩ := mix_bd (cell ns (9 + k)) 9931 (show 0 < kp + 1 by omega)
  have e9 := mix_eq (G := .lst ps :: .lst fs :: J1) (c := cell ns (9 + k)) (p := 9931) (m := kp + 1) (by omega)
  generalize hbs : mixN (cell ns (9 + k)) 9931 (kp + 1) = bs at y0 y1 e9
  rw [seq_nx (e1 := [some (.scr ns), some (.tup (R.map rowD)), some (.ref 0), some (.ref 1), some (.int k), none, none, none, none, some (.int many), some (.tup (m.map rowD)), some (.int kp), some (.int bs), none, v14, v15, v16, none, none]) (G1 := .lst ps :: .lst fs :: J1) (by simp [h7.1, h7.2, hcl _ _ k9, h36.1, h36.2, e9])]
  have e16 := lpaper_eq (G := .lst ps :: .lst fs :: J1) (m := m) (b := bs) (k := kp) (more := 0) y0 (by omega) (by omega) hM.ok.keys
  have z1 : ps.length < 100000 := by omega
  have z2 : fs.length < 100000 := by omega
  refine ⟨m, kp, bs, some (.int many), v14, v15, v16, J1, ?_, hM, y0, by omega, by omega⟩
  generalize hPD : ppD (lawPaper m bs kp 0) = PD at e16
  generalize hMD : D.tup (m.map rowD) = MD at e16
  simp [h16.1, h16.2, e16, isL, dApp, z1, z2]
end Mm
namespace Mm
open PySem L2 Mw
open PyProof.Rows hiding St
inductive Msg where
  | rows (term number ahead : Int) (more : List Rw) (kept : Int)
  | whole (term number ahead : Int) (things : List KV) (kept : Int)
def msgD : Msg → D
  | .rows t n a m k => .tup [.str "rows", .int t, .int n, .int a, .tup (m.map rowD), .int k]
  | .whole t n a th k => .tup [.str "whole", .int t, .int n, .int a, .tup (th.map Mw.pairD), .int k]
def msg? : D → Option Msg
  | .tup [.str x, .int t, .int n, .int a, .tup m, .int k] => if x = "whole" then (kvs? m).map fun l => .whole t n a l k else if x = "rows" then (rows? m).map fun l => .rows t n a l k else none
  | _ => none
theorem ne_rw : ¬ (Str.ofString "rows" = Str.ofString "whole") := by decide +kernel
theorem msg_D (m : Msg) : msg? (msgD m) = some m := by
  cases m with
  | rows t n a m k =>
    show (if Str.ofString "rows" = Str.ofString "whole" then (kvs? (m.map rowD)).map (fun l => Msg.whole t n a l k) else if Str.ofString "rows" = Str.ofString "rows" then (rows? (m.map rowD)).map (fun l => Msg.rows t n a l k) else none) = _
    rw [if_neg ne_rw, if_pos rfl, rows_D]
    rfl
  | whole t n a m k =>
    show (if Str.ofString "whole" = Str.ofString "whole" then (kvs? (m.map Mw.pairD)).map (fun l => Msg.whole t n a l k) else if Str.ofString "whole" = Str.ofString "rows" then (rows? (m.map Mw.pairD)).map (fun l => Msg.rows t n a l k) else none) = _
    rw [if_pos rfl, kvs_D]
    rfl
def isMsg : D → Bool
  | .tup [.str x, t, n, a, m, k] => isWithin t 1 100000 && (isWithin n 0 100000 && (isWithin a 0 (intOf t) && (isWithin k 0 100000 && ((decide (intOf n = 0) == decide (intOf a = 0)) &&
      (if x = "whole" then (decide (0 < intOf n) && (areThings m && decide (intOf n ≤ intOf k))) else decide (x = "rows") && (areRows m (max (intOf a) 1) (intOf t) && decide (lenOf m ≤ 3)))))))
  | _ => false
def okM (G : Gp) (d : D) : Bool := match d with
  | .tup [w, t, n, a, m, k] => okE G w && (okE G t && (okE G n && (okE G a && (okTs G m && (okRs G m && okE G k)))))
  | .tup _ => true
  | d => okE G d
def C_is_message : FM := fun ds G => match ds with
  | [d] => if okM G d = true then .ok (.bl (isMsg d)) G else .bad
  | _ => .bad
theorem K_is_message {Γ : Fns} {xs : List Nat} (h0 : Kn Γ 0 3 C_is_within) (h3 : Kn Γ 3 1 C_are_things) (h13 : Kn Γ 13 3 C_are_rows) : Cleans 1 (fnRun N_is_message.length (eB Γ xs b_is_message)) C_is_message := by
  intro ds G hl hc hlt
  unfold C_is_message
  split
  · rename_i d
    split
    · rename_i hs
      refine clr_ok ⟨[], ?_⟩ (Nat.le_refl _) hc rfl
      rw [List.append_nil]
      cases d with
      | tup ds =>
        match ds, hs with
        | [w, t, n, a, m, k], hs =>
          obtain ⟨o0, hs⟩ := ba (show (okE G w && (okE G t && (okE G n && (okE G a && (okTs G m && (okRs G m && okE G k)))))) = true from hs)
          obtain ⟨o1, hs⟩ := ba hs
          obtain ⟨o2, hs⟩ := ba hs
          obtain ⟨o3, hs⟩ := ba hs
          obtain ⟨o4, hs⟩ := ba hs
          obtain ⟨o5, o6⟩ := ba hs
          cases w with
          | str x =>
            have hx : PyData.strOk x = true := (ba (show (decide (x.length ≤ 1000) && PyData.strOk x) = true from o0)).2
            have w1 : PyData.strOk "whole" = true := by decide +kernel
            have w2 : PyData.strOk "rows" = true := by decide +kernel
            cases c1 : isWithin t 1 100000 with
            | false => simp [fnRun, b_is_message, startD, N_is_message, isMsg, fLen, eq_int, ix_tup, h0.1, h0.2, within_eq o1, c1]
            | true =>
              obtain ⟨ti, rfl, t1, t2⟩ := isWithin_inv c1
              cases c2 : isWithin n 0 100000 with
              | false => simp [fnRun, b_is_message, startD, N_is_message, isMsg, fLen, eq_int, ix_tup, h0.1, h0.2, within_eq o1, c1, within_eq o2, c2]
              | true =>
                obtain ⟨ni, rfl, n1, n2⟩ := isWithin_inv c2
                cases c3 : isWithin a 0 ti with
                | false => simp [fnRun, b_is_message, startD, N_is_message, isMsg, fLen, eq_int, ix_tup, h0.1, h0.2, within_eq o1, c1, within_eq o2, c2, within_eq o3, c3, intOf]
                | true =>
                  obtain ⟨ai, rfl, a1, a2⟩ := isWithin_inv c3
                  cases c4 : isWithin k 0 100000 with
                  | false => simp [fnRun, b_is_message, startD, N_is_message, isMsg, fLen, eq_int, ix_tup, h0.1, h0.2, within_eq o1, c1, within_eq o2, c2, within_eq o3, c3, intOf, within_eq o6, c4]
                  | true =>
                    obtain ⟨ki, rfl, k1, k2⟩ := isWithin_inv c4
                    by_cases c5 : (ni = 0 ↔ ai = 0)
                    · by_cases hw : x = "whole"
                      · subst hw
                        by_cases z1 : 0 < ni
                        · cases c6 : areThings m with
                          | false => simp [fnRun, b_is_message, startD, N_is_message, isMsg, fLen, eq_int, ix_tup, h0.1, h0.2, within_eq o1, c1, within_eq o2, c2, within_eq o3, c3, intOf, within_eq o6, c4, eq_bl, c5, eq_str w1 w1, z1, h3.1, h3.2, things_eq o4, c6]
                          | true => simp [fnRun, b_is_message, startD, N_is_message, isMsg, fLen, eq_int, ix_tup, h0.1, h0.2, within_eq o1, c1, within_eq o2, c2, within_eq o3, c3, intOf, within_eq o6, c4, eq_bl, c5, eq_str w1 w1, z1, h3.1, h3.2, things_eq o4, c6]; by_cases y0 : ai = 0 <;> simp [y0] <;> rfl
                        · simp [fnRun, b_is_message, startD, N_is_message, isMsg, fLen, eq_int, ix_tup, h0.1, h0.2, within_eq o1, c1, within_eq o2, c2, within_eq o3, c3, intOf, within_eq o6, c4, eq_bl, c5, eq_str w1 w1, z1]
                      · by_cases hr : x = "rows"
                        · subst hr
                          cases c6 : areRows m (max ai 1) ti with
                          | false => simp [fnRun, b_is_message, startD, N_is_message, isMsg, fLen, eq_int, ix_tup, h0.1, h0.2, within_eq o1, c1, within_eq o2, c2, within_eq o3, c3, intOf, within_eq o6, c4, eq_bl, c5, eq_str w2 w1, eq_str w2 w2, hw, fMax, h13.1, h13.2, rows_eq o5, c6]
                          | true =>
                            have hrest : ∃ rl, m = .tup rl := by
                              cases m with
                              | tup rl => exact ⟨rl, rfl⟩
                              | _ => cases c6
                            obtain ⟨rl, rfl⟩ := hrest
                            simp [fnRun, b_is_message, startD, N_is_message, isMsg, fLen, eq_int, ix_tup, h0.1, h0.2, within_eq o1, c1, within_eq o2, c2, within_eq o3, c3, intOf, within_eq o6, c4, eq_bl, c5, eq_str w2 w1, eq_str w2 w2, hw, fMax, h13.1, h13.2, rows_eq o5, c6, lenOf]
                            by_cases y0 : ai = 0 <;> simp [y0] <;> rfl
                        · simp [fnRun, b_is_message, startD, N_is_message, isMsg, fLen, eq_int, ix_tup, h0.1, h0.2, within_eq o1, c1, within_eq o2, c2, within_eq o3, c3, intOf, within_eq o6, c4, eq_bl, c5, eq_str hx w1, eq_str hx w2, hw, hr]
                    · simp [fnRun, b_is_message, startD, N_is_message, isMsg, fLen, eq_int, ix_tup, h0.1, h0.2, within_eq o1, c1, within_eq o2, c2, within_eq o3, c3, intOf, within_eq o6, c4, eq_bl]
                      have c6 : ¬ (decide (ni = 0) = decide (ai = 0)) := fun hh => c5 (decide_eq_decide.mp hh)
                      cases hq : (decide (ni = 0) == decide (ai = 0)) with
                      | true => exact absurd (eq_of_beq hq) c6
                      | false =>
                        simp [hq]
                        intro hh
                        exact absurd (decide_eq_decide.mp hh) c5
          | ref n =>
            have hx' := okE_seen (show okE G (.ref n) = true from o0)
            unfold seen at hx'
            dsimp only at hx'
            split at hx'
            · rename_i g
              simp [fnRun, b_is_message, startD, N_is_message, isMsg, fLen, eq_int, ix_tup, isi_lst g]
            · rename_i g
              simp [fnRun, b_is_message, startD, N_is_message, isMsg, fLen, eq_int, ix_tup, isi_dct g]
            · cases hx'
          | scr n => cases o0
          | _ => simp [fnRun, b_is_message, startD, N_is_message, isMsg, fLen, eq_int, ix_tup]
        | [], _ => simp [fnRun, b_is_message, startD, N_is_message, isMsg, fLen, eq_int]
        | [_], _ => simp [fnRun, b_is_message, startD, N_is_message, isMsg, fLen, eq_int]
        | [_, _], _ => simp [fnRun, b_is_message, startD, N_is_message, isMsg, fLen, eq_int]
        | [_, _, _], _ => simp [fnRun, b_is_message, startD, N_is_message, isMsg, fLen, eq_int]
        | [_, _, _, _], _ => simp [fnRun, b_is_message, startD, N_is_message, isMsg, fLen, eq_int]
        | [_, _, _, _, _], _ => simp [fnRun, b_is_message, startD, N_is_message, isMsg, fLen, eq_int]
        | _ :: _ :: _ :: _ :: _ :: _ :: _ :: r, _ =>
          have hn : ¬ ((r.length : Int) + 1 + 1 + 1 + 1 + 1 + 1 + 1 = 6) := by omega
          simp [fnRun, b_is_message, startD, N_is_message, isMsg, fLen, eq_int, hn]
      | ref n =>
        unfold okM okE seen at hs
        dsimp only at hs
        split at hs
        · rename_i g
          simp [fnRun, b_is_message, startD, N_is_message, isi_lst g, isMsg]
        · rename_i g
          simp [fnRun, b_is_message, startD, N_is_message, isi_dct g, isMsg]
        · cases hs
      | scr ns => cases hs
      | _ => simp [fnRun, b_is_message, startD, N_is_message, isMsg]
    · trivial
  · trivial
theorem message_eq {G : Gp} {d : D} (h : okM G d = true) : C_is_message [d] G = .ok (.bl (isMsg d)) G := if_pos h
/-- what a good message is -/
def MsgOk : Msg → Prop
  | .rows t n a m k => (1 ≤ t ∧ t ≤ 100000) ∧ (0 ≤ n ∧ n ≤ 100000) ∧ (0 ≤ a ∧ a ≤ t) ∧ (0 ≤ k ∧ k ≤ 100000) ∧ (n = 0 ↔ a = 0) ∧ m.length ≤ 3 ∧ areRows (.tup (m.map rowD)) (max a 1) t = true
  | .whole t n a l k => (1 ≤ t ∧ t ≤ 100000) ∧ (0 < n ∧ n ≤ 100000) ∧ (0 < a ∧ a ≤ t) ∧ (n ≤ k ∧ k ≤ 100000) ∧ areThings (.tup (l.map Mw.pairD)) = true
theorem msg_inv {d : D} (h : isMsg d = true) : ∃ m, d = msgD m ∧ MsgOk m := by
  unfold isMsg at h
  split at h
  · rename_i x t n a m k
    obtain ⟨c1, g1⟩ := ba h
    obtain ⟨c2, g2⟩ := ba g1
    obtain ⟨c3, g3⟩ := ba g2
    obtain ⟨c4, g4⟩ := ba g3
    obtain ⟨c5, g5⟩ := ba g4
    clear h g1 g2 g3 g4
    obtain ⟨ti, rfl, t1, t2⟩ := isWithin_inv c1
    obtain ⟨ni, rfl, n1, n2⟩ := isWithin_inv c2
    obtain ⟨ai, rfl, a1, a2⟩ := isWithin_inv c3
    obtain ⟨ki, rfl, k1, k2⟩ := isWithin_inv c4
    have hna : (ni = 0 ↔ ai = 0) := by
      exact decide_eq_decide.mp (eq_of_beq (by simpa only [intOf] using c5))
    split at g5
    · rename_i hx
      subst hx
      obtain ⟨c6, g6⟩ := ba g5
      obtain ⟨c7, c8⟩ := ba g6
      obtain ⟨l, rfl, _⟩ := things_inv c7
      have c6' : 0 < ni := of_decide_eq_true c6
      have c8' : ni ≤ ki := of_decide_eq_true c8
      exact ⟨.whole ti ni ai l ki, rfl, ⟨t1, t2⟩, ⟨c6', n2⟩, ⟨by simp only [intOf] at a2; omega, a2⟩, ⟨c8', k2⟩, c7⟩
    · obtain ⟨c6, g6⟩ := ba g5
      obtain ⟨c7, c8⟩ := ba g6
      have hx : x = "rows" := of_decide_eq_true c6
      subst hx
      cases m with
      | tup rs =>
        obtain ⟨l, rfl, _⟩ := scan_rows (show (scan (rowStep ti) (max ai 1) rs).isSome = true from c7)
        have c8' : ((l.map rowD).length : Int) ≤ 3 := of_decide_eq_true c8
        rw [List.length_map] at c8'
        exact ⟨.rows ti ni ai l ki, rfl, ⟨t1, t2⟩, ⟨n1, n2⟩, ⟨a1, a2⟩, ⟨k1, k2⟩, hna, by omega, c7⟩
      | _ => cases c7
  · cases h
end Mm
namespace Mm
open PySem L2 Mw
open PyProof.Rows hiding St
def wholeP (p : Pp) (t n a : Int) (th : List KV) : Pp := if n ≤ p.base ∨ (n ≤ lenP p ∧ termAt p n = some a) then { p with term := t, kept := max p.kept n } else ⟨t, n, a, th, [], n⟩
def C_with_whole : FM := fun ds G => match ds with
  | [pd, md] => (match pp? pd, msg? md with
    | some p, some (.whole t n a l k) => .ok (ppD (wholeP p t n a l)) G
    | _, _ => .bad)
  | _ => .bad
theorem msg_inv2 {d : D} {m : Msg} (h : msg? d = some m) : d = msgD m := by
  unfold msg? at h
  split at h
  · split at h
    · rename_i e
      subst e
      obtain ⟨l, h1, rfl⟩ := Option.map_eq_some_iff.mp h
      rw [kvs_inv h1]
      rfl
    · split at h
      · rename_i e
        subst e
        obtain ⟨l, h1, rfl⟩ := Option.map_eq_some_iff.mp h
        rw [rows_inv h1]
        rfl
      · cases h
  · cases h
theorem K_with_whole {Γ : Fns} {xs : List Nat} (h19 : Kn Γ 19 1 C_length_of) (h21 : Kn Γ 21 2 C_term_at) : Cleans 2 (fnRun N_with_whole.length (eB Γ xs b_with_whole)) C_with_whole := by
  intro ds G hl hc hlt
  unfold C_with_whole
  split
  · rename_i pd md
    split
    · rename_i p t n a l k hp hm
      obtain rfl := pp_inv hp
      obtain rfl := msg_inv2 hm
      refine clr_ok ⟨[], ?_⟩ (Nat.le_refl _) hc (ltD_pp _)
      generalize hM : msgD (.whole t n a l k) = M
      have hset1 : (Tg.tp [2, 3, 4, 5, 6, 7]).set (ppD p) [some (ppD p), some M, none, none, none, none, none, none, none, none, none, none, none, none] = some [some (ppD p), some M, some (.int p.term), some (.int p.base), some (.int p.ahead), some (.tup (p.things.map Mw.pairD)), some (.tup (p.rows.map rowD)), some (.int p.kept), none, none, none, none, none, none] := rfl
      have hset2 : (Tg.tp [8, 9, 10, 11, 12, 13]).set M [some (ppD p), some M, some (.int p.term), some (.int p.base), some (.int p.ahead), some (.tup (p.things.map Mw.pairD)), some (.tup (p.rows.map rowD)), some (.int p.kept), none, none, none, none, none, none] = some [some (ppD p), some M, some (.int p.term), some (.int p.base), some (.int p.ahead), some (.tup (p.things.map Mw.pairD)), some (.tup (p.rows.map rowD)), some (.int p.kept), some (.str "whole"), some (.int t), some (.int n), some (.int a), some (.tup (l.map Mw.pairD)), some (.int k)] := by rw [← hM]; rfl
      unfold wholeP
      by_cases c1 : n ≤ p.base
      · rw [if_pos (.inl c1)]
        simp [-Tg.set, tg_nm, fnRun, b_with_whole, startD, N_with_whole, hset1, hset2, c1, fMax]
        rfl
      · by_cases c2 : n ≤ lenP p
        · obtain ⟨ta, hta⟩ := termAt_some (p := p) (n := n) (by omega) c2
          by_cases c3 : ta = a
          · subst c3
            rw [if_pos (.inr ⟨c2, hta⟩)]
            simp [-Tg.set, tg_nm, fnRun, b_with_whole, startD, N_with_whole, hset1, hset2, c1, c2, h19.1, h19.2, length_eq, h21.1, h21.2, term_eq hta, eq_int, fMax]
            rfl
          · rw [if_neg (by rw [hta]; simp [c1, c3])]
            simp [-Tg.set, tg_nm, fnRun, b_with_whole, startD, N_with_whole, hset1, hset2, c1, c2, h19.1, h19.2, length_eq, h21.1, h21.2, term_eq hta, eq_int, c3]
            rfl
        · rw [if_neg (by simp [c1, c2])]
          simp [-Tg.set, tg_nm, fnRun, b_with_whole, startD, N_with_whole, hset1, hset2, c1, c2, h19.1, h19.2, length_eq]
          rfl
    · trivial
  · trivial
theorem withwhole_eq {G : Gp} (p : Pp) (t n a : Int) (l : List KV) (k : Int) : C_with_whole [ppD p, msgD (.whole t n a l k)] G = .ok (ppD (wholeP p t n a l)) G := by
  unfold C_with_whole
  dsimp only
  rw [pp_D, msg_D]
theorem forGo_relT {α : Type} {t : Tg} {B : MS0} {s : Src} (E : α → En) (Hh : α → Gp) (Q : α → List D → Prop) (hst : ∀ a rest, Q a rest → s.still (Hh a) = true)
    (hB : ∀ a d rest, Q a (d :: rest) → ∃ e1 a', t.set d (E a) = some e1 ∧ B e1 (Hh a) = .nx (E a') (Hh a') ∧ Q a' rest) : ∀ (ds : List D) (a : α), Q a ds → ∃ a', forGo t B s ds (E a) (Hh a) = .nx (E a') (Hh a') ∧ Q a' []
  | [], a, q => ⟨a, rfl, q⟩
  | d :: ds, a, q => by
    obtain ⟨e1, a1, h0, h1, q1⟩ := hB a d ds q
    obtain ⟨a2, h2, q2⟩ := forGo_relT E Hh Q hst hB ds a1 q1
    refine ⟨a2, ?_, q2⟩
    rw [forGo]
    dsimp only
    rw [h0]
    dsimp only
    rw [h1]
    dsimp only
    rw [if_pos (hst _ _ q1), h2]
theorem mFor_relT {α : Type} {t : Tg} {it : MI0} {B : MS0} {s : Src} {e : En} {G : Gp} (E : α → En) (Hh : α → Gp) (Q : α → List D → Prop) (a : α) (he : e = E a) (hi : it e G = .ok s (Hh a)) (q : Q a s.ds) (hst : ∀ a rest, Q a rest → s.still (Hh a) = true)
    (hB : ∀ a d rest, Q a (d :: rest) → ∃ e1 a', t.set d (E a) = some e1 ∧ B e1 (Hh a) = .nx (E a') (Hh a') ∧ Q a' rest) : ∃ a', mFor t it B e G = .nx (E a') (Hh a') ∧ Q a' [] := by
  obtain ⟨a', h, q'⟩ := forGo_relT (s := s) E Hh Q hst hB s.ds a q
  refine ⟨a', ?_, q'⟩
  unfold mFor
  rw [hi]
  dsimp only
  rw [if_pos (hst _ _ q), he, h]
def enumF (ds : List D) (k : Nat) : List D := (ds.zipIdx k).map fun x => .tup [.int (x.2 : Nat), x.1]
theorem enumF_cons (d : D) (ds : List D) (k : Nat) : enumF (d :: ds) k = .tup [.int (k : Nat), d] :: enumF ds (k + 1) := by
  unfold enumF
  rw [List.zipIdx_cons, List.map_cons]
theorem enumF_nil (k : Nat) : enumF [] k = [] := rfl
def putStep (o : Int) (rows : List Rw) (r : Rw) : List Rw := if (rows.length : Int) ≤ o then rows ++ [r] else if 0 ≤ o then (match rows[o.toNat]? with
  | some x => if x.1 = r.1 then rows else rows.take o.toNat ++ [r]
  | none => rows) else rows
def putGo : Int → List Rw → List Rw → List Rw
  | _, rows, [] => rows
  | o, rows, r :: more => putGo (o + 1) (putStep o rows r) more
theorem putStep_len (o : Int) (rows : List Rw) (r : Rw) : (putStep o rows r).length ≤ rows.length + 1 := by
  unfold putStep
  split
  · simp
  · split
    · split
      · split
        · omega
        · simp; omega
      · omega
    · omega
theorem row_ix {rows : List Rw} {o : Int} (h1 : 0 ≤ o) (h2 : o < rows.length) : ∃ x, rows[o.toNat]? = some x ∧ ∀ G, dIx (.tup (rows.map rowD)) (.int o) G = .ok (rowD x) G := by
  have hlt : o.toNat < rows.length := by omega
  refine ⟨rows[o.toNat], List.getElem?_eq_getElem hlt, fun G => ?_⟩
  have hl : atI (rows.map rowD) o = some (rowD rows[o.toNat]) := by
    have := atI_nat (l := rows.map rowD) o.toNat (by simpa using hlt)
    rw [show ((o.toNat : Nat) : Int) = o by omega] at this
    rw [this, List.getElem?_map, List.getElem?_eq_getElem hlt]
    rfl
  exact ix_tup hl
theorem row_0 (r : Rw) (G : Gp) : dIx (rowD r) (.int 0) G = .ok (.int r.1) G := by simp [rowD, ix_tup]
theorem row_1 (r : Rw) (G : Gp) : dIx (rowD r) (.int 1) G = .ok (ddD r.2) G := by simp [rowD, ix_tup]
theorem rows_add {rows more : List Rw} (h : rows.length + more.length ≤ 100000) (G : Gp) : dAdd (.tup (rows.map rowD)) (.tup (more.map rowD)) G = .ok (.tup ((rows ++ more).map rowD)) G := by
  rw [add_tup (by simpa using h), List.map_append]
theorem rows_take {rows : List Rw} {o : Int} (h : 0 ≤ o) (G : Gp) : dSl (.tup (rows.map rowD)) none (some o) G = .ok (.tup ((rows.take o.toNat).map rowD)) G := by
  show Mw.R.ok (D.tup (Mw.cutD _ none (some o))) G = _
  rw [cut_take h, List.map_take]
theorem rows_drop {rows : List Rw} {o : Int} (h : 0 ≤ o) (G : Gp) : dSl (.tup (rows.map rowD)) (some o) none G = .ok (.tup ((rows.drop o.toNat).map rowD)) G := by
  show Mw.R.ok (D.tup (Mw.cutD _ (some o) none)) G = _
  rw [cut_drop h, List.map_drop]
def C_put_rows : FM := fun ds G => match ds with
  | [pd, .int n, .tup ms] => (match pp? pd, rows? ms with
    | some p, some m => if p.rows.length + m.length ≤ 2000 then .ok (.tup ((putGo (n - p.base) p.rows m).map rowD)) G else .bad
    | _, _ => .bad)
  | _ => .bad
def putBody : MB := forBody (nthS b_put_rows 2)
theorem put_body {Γ : Fns} {xs : List Nat} {pd md : D} {n b : Int} {rows : List Rw} {r : Rw} {k : Nat} (w : Option D) (hl : rows.length ≤ 3000) (G : Gp) :
    ∃ w', eB Γ xs putBody [some pd, some (.int n), some md, some (.int b), some (.tup (rows.map rowD)), some (.int k), some (rowD r), w] G = .nx [some pd, some (.int n), some md, some (.int b), some (.tup ((putStep (n - b + k) rows r).map rowD)), some (.int k), some (rowD r), w'] G := by
  have hadd := rows_add (rows := rows) (more := [r]) (by simp; omega) G
  have hlen : dLen (.tup (rows.map rowD)) G = .ok (.int rows.length) G := by simp
  have r0 := row_0 r G
  have e0 : n + (k : Int) - b = n - b + k := by omega
  generalize ho : n - b + (k : Int) = o at e0
  unfold putStep
  by_cases c1 : (rows.length : Int) ≤ o
  · rw [if_pos c1]
    rw [List.map_cons, List.map_nil] at hadd
    generalize hR : D.tup (rows.map rowD) = RD at hadd hlen
    generalize hr : rowD r = rd at hadd r0
    refine ⟨some (.int o), ?_⟩
    simp [putBody, b_put_rows, nthS, forBody, fLen, hlen, e0, c1, hadd]
  · rw [if_neg c1]
    by_cases c2 : 0 ≤ o
    · rw [if_pos c2]
      obtain ⟨x, hx, hix⟩ := row_ix (rows := rows) c2 (by omega)
      rw [hx]
      simp only
      have hix := hix G
      have x0 := row_0 x G
      have hsl := rows_take (rows := rows) c2 G
      have hadd2 := rows_add (rows := rows.take o.toNat) (more := [r]) (by simp; omega) G
      rw [List.map_cons, List.map_nil] at hadd2
      generalize hR : D.tup (rows.map rowD) = RD at hlen hix hsl
      generalize hr : rowD r = rd at hadd2 r0
      generalize rowD x = xd at hix x0
      generalize D.tup ((rows.take o.toNat).map rowD) = TD at hsl hadd2
      refine ⟨some (.int o), ?_⟩
      by_cases c3 : x.1 = r.1
      · rw [if_pos c3, hR]
        simp [putBody, b_put_rows, nthS, forBody, fLen, hlen, e0, c1, c2, hix, x0, r0, eq_int, c3]
      · rw [if_neg c3]
        simp [putBody, b_put_rows, nthS, forBody, fLen, hlen, e0, c1, c2, hix, x0, r0, eq_int, c3, hsl, hadd2]
    · rw [if_neg c2]
      generalize hR : D.tup (rows.map rowD) = RD at hlen
      refine ⟨some (.int o), ?_⟩
      simp [putBody, b_put_rows, nthS, forBody, fLen, hlen, e0, c1, c2]
theorem K_put_rows {Γ : Fns} {xs : List Nat} : Cleans 3 (fnRun N_put_rows.length (eB Γ xs b_put_rows)) C_put_rows := by
  intro ds G hl hc hlt
  unfold C_put_rows
  split
  · rename_i pd n ms
    split
    · rename_i p m hp hm
      split
      · rename_i hsz
        obtain rfl := pp_inv hp
        obtain rfl := rows_inv hm
        refine clr_ok ⟨[], ?_⟩ (Nat.le_refl _) hc (ltD_rows _)
        have i1 : dIx (ppD p) (.int 1) G = .ok (.int p.base) G := by simp [ppD, ix_tup]
        have i4 : dIx (ppD p) (.int 4) G = .ok (.tup (p.rows.map rowD)) G := by simp [ppD, ix_tup]
        generalize ppD p = P at i1 i4
        obtain ⟨⟨k, rows, more, w5, w6, w7⟩, h1, h2⟩ := mFor_relT (α := Nat × List Rw × List Rw × Option D × Option D × Option D) (t := .tp [5, 6]) (it := eI Γ (.enum (.var 2))) (B := eB Γ xs putBody) (s := ⟨enumD (m.map rowD), none⟩) (e := [some P, some (.int n), some (.tup (m.map rowD)), some (.int p.base), some (.tup (p.rows.map rowD)), none, none, none]) (G := G)
          (fun a => [some P, some (.int n), some (.tup (m.map rowD)), some (.int p.base), some (.tup (a.2.1.map rowD)), a.2.2.2.1, a.2.2.2.2.1, a.2.2.2.2.2]) (fun _ => G) (fun a rest => rest = enumF (a.2.2.1.map rowD) a.1 ∧ putGo (n - p.base + a.1) a.2.1 a.2.2.1 = putGo (n - p.base) p.rows m ∧ a.2.1.length + a.2.2.1.length ≤ 2000) (0, p.rows, m, none, none, none) rfl (by simp [eI]) ⟨rfl, by simp, hsz⟩ (fun _ _ _ => rfl) (fun a d rest hq => by
            obtain ⟨k, rows, more, w5, w6, w7⟩ := a
            obtain ⟨q1, q2, q3⟩ := hq
            cases more with
            | nil => rw [List.map_nil, enumF_nil] at q1; cases q1
            | cons r more =>
              rw [List.map_cons, enumF_cons] at q1
              obtain ⟨rfl, rfl⟩ := List.cons.inj q1
              simp only [List.length_cons] at q3
              obtain ⟨w', hb⟩ := put_body (Γ := Γ) (xs := xs) (pd := P) (md := .tup (m.map rowD)) (n := n) (b := p.base) (rows := rows) (r := r) (k := k) w7 (by omega) G
              refine ⟨_, (k + 1, putStep (n - p.base + k) rows r, more, some (.int k), some (rowD r), w'), rfl, hb, rfl, ?_, ?_⟩
              · rw [← q2, putGo]
                congr 1
                push_cast
                omega
              · have := putStep_len (n - p.base + k) rows r
                simp only
                omega)
        obtain ⟨q1, q2, q3⟩ := h2
        cases more with
        | cons r more => rw [List.map_cons, enumF_cons] at q1; cases q1
        | nil =>
          have hf : rows = putGo (n - p.base) p.rows m := q2
          rw [hf] at h1
          have h1' : mFor (.tp [5, 6]) (eI Γ (.enum (.var 2))) (eB Γ xs (forBody (nthS b_put_rows 2))) [some P, some (.int n), some (.tup (m.map rowD)), some (.int p.base), some (.tup (p.rows.map rowD)), none, none, none] G = _ := h1
          simp only [b_put_rows, nthS, forBody] at h1'
          unfold fnRun b_put_rows
          rw [eB, eS]
          rw [seq_nx (e1 := [some P, some (.int n), some (.tup (m.map rowD)), some (.int p.base), none, none, none, none]) (G1 := G) (by simp [startD, N_put_rows, i1])]
          rw [eB, eS]
          rw [seq_nx (e1 := [some P, some (.int n), some (.tup (m.map rowD)), some (.int p.base), some (.tup (p.rows.map rowD)), none, none, none]) (G1 := G) (by simp [i4])]
          rw [eB, eS]
          rw [seq_nx h1']
          simp
      · trivial
    · trivial
  · trivial
theorem put_eq {G : Gp} {p : Pp} {n : Int} {m : List Rw} (h : p.rows.length + m.length ≤ 2000) : C_put_rows [ppD p, .int n, .tup (m.map rowD)] G = .ok (.tup ((putGo (n - p.base) p.rows m).map rowD)) G := by
  unfold C_put_rows
  dsimp only
  rw [pp_D, rows_D]
  simp only
  rw [if_pos h]
end Mm
namespace Mm
open PySem L2 Mw
open PyProof.Rows hiding St
def ansD (w : Str) (t n : Int) : D := .tup [.str w, .int t, .int n]
def msgT : Msg → Int
  | .rows t _ _ _ _ => t
  | .whole t _ _ _ _ => t
def putP (p : Pp) (t n : Int) (m : List Rw) (k : Int) : Pp := { p with term := t, rows := putGo (n - p.base) p.rows m, kept := max p.kept (min k (n + m.length)) }
def rowsP (p : Pp) (t n a : Int) (m : List Rw) (k : Int) : Pp × Str × Int × Int :=
  if lenP p < n then ({ p with term := t }, "no", t, lenP p) else if p.base ≤ n ∧ termAt p n ≠ some a then ({ p with term := t }, "no", t, n - 1)
  else (putP p t n m k, "have", t, n + m.length)
def heardP (p : Pp) (m : Msg) : Pp × Str × Int × Int := if msgT m < p.term then (p, "old", p.term, 0) else match m with
  | .whole t n a l k => (wholeP p t n a l, "have", t, n)
  | .rows t n a m k => rowsP p t n a m k
def heardD (x : Pp × Str × Int × Int) : D := .tup [ppD x.1, ansD x.2.1 x.2.2.1 x.2.2.2]
def C_heard : FM := fun ds G => match ds with
  | [pd, md] => if okP G pd = true ∧ okM G md = true then (if isPaper pd = true then (if isMsg md = true then (match pp? pd, msg? md with
    | some p, some m => .ok (heardD (heardP p m)) G
    | _, _ => .bad) else .exc 4 G) else .exc 3 G) else .bad
  | _ => .bad
theorem okP_len {G : Gp} {p : Pp} (h : okP G (ppD p) = true) : p.rows.length ≤ 1000 := by
  obtain ⟨_, h⟩ := ba (show (okE G (.int p.term) && (okE G (.int p.base) && (okE G (.int p.ahead) && (okTs G (.tup (p.things.map Mw.pairD)) && (okRs G (.tup (p.rows.map rowD)) && okE G (.int p.kept)))))) = true from h)
  obtain ⟨_, h⟩ := ba h
  obtain ⟨_, h⟩ := ba h
  obtain ⟨_, h⟩ := ba h
  obtain ⟨h, _⟩ := ba h
  obtain ⟨_, h⟩ := ba (show ((p.rows.map rowD).all (okOne G) && decide ((p.rows.map rowD).length ≤ 1000)) = true from h)
  simpa using h
theorem ltD_heard {m : Nat} (x : Pp × Str × Int × Int) : ltD m (heardD x) = true := by
  show (ltD m (ppD x.1) && (true && true)) = true
  rw [ltD_pp]
  rfl
theorem pp_cut1 (p : Pp) (G : Gp) : dSl (ppD p) (some 1) none G = .ok (.tup [.int p.base, .int p.ahead, .tup (p.things.map Mw.pairD), .tup (p.rows.map rowD), .int p.kept]) G := by
  show Mw.R.ok (D.tup (Mw.cutD _ (some 1) none)) G = _
  rw [cut_drop (by decide)]
  rfl
theorem pp_cut4 (p : Pp) (G : Gp) : dSl (ppD p) none (some 4) G = .ok (.tup [.int p.term, .int p.base, .int p.ahead, .tup (p.things.map Mw.pairD)]) G := by
  show Mw.R.ok (D.tup (Mw.cutD _ none (some 4))) G = _
  rw [cut_take (by decide)]
  rfl
theorem pp_add1 (p : Pp) (t : Int) (G : Gp) : dAdd (.tup [.int t]) (.tup [.int p.base, .int p.ahead, .tup (p.things.map Mw.pairD), .tup (p.rows.map rowD), .int p.kept]) G = .ok (ppD { p with term := t }) G := by
  rw [add_tup (by simp)]
  rfl
theorem pp_add4 (p : Pp) (m : List Rw) (k : Int) (G : Gp) : dAdd (.tup [.int p.term, .int p.base, .int p.ahead, .tup (p.things.map Mw.pairD)]) (.tup [.tup (m.map rowD), .int k]) G = .ok (ppD { p with rows := m, kept := k }) G := by
  rw [add_tup (by simp)]
  rfl
theorem K_heard {Γ : Fns} {xs : List Nat} (h18 : Kn Γ 18 1 C_look) (h19 : Kn Γ 19 1 C_length_of) (h21 : Kn Γ 21 2 C_term_at) (h29 : Kn Γ 29 1 C_is_message) (h30 : Kn Γ 30 2 C_with_whole) (h31 : Kn Γ 31 3 C_put_rows) : Cleans 2 (fnRun N_heard.length (eB Γ xs b_heard)) C_heard := by
  intro ds G hl hc hlt
  unfold C_heard
  split
  · rename_i pd md
    split
    · rename_i ho
      obtain ⟨ho, ho2⟩ := ho
      split
      · rename_i hp
        obtain ⟨p, rfl, hv⟩ := paper_inv hp
        rw [pp_D]
        split
        · rename_i hm
          obtain ⟨m, rfl, hmv⟩ := msg_inv hm
          rw [msg_D]
          simp only
          refine clr_ok ⟨[], ?_⟩ (Nat.le_refl _) hc (ltD_heard _)
          have e18 := look_eq ho hp
          have e29 := message_eq ho2
          rw [hm] at e29
          have i0 : dIx (ppD p) (.int 0) G = .ok (.int p.term) G := by simp [ppD, ix_tup]
          have i1 : dIx (ppD p) (.int 1) G = .ok (.int p.base) G := by simp [ppD, ix_tup]
          have i5 : dIx (ppD p) (.int 5) G = .ok (.int p.kept) G := by simp [ppD, dIx, atI, ixN]
          have hlen := length_eq (G := G) p
          have w1 : PyData.strOk "whole" = true := by decide +kernel
          have w2 : PyData.strOk "rows" = true := by decide +kernel
          have hpl := okP_len ho
          cases m with
          | whole t n a l k =>
            have hset : (Tg.tp [5, 6, 7, 8, 9, 10]).set (msgD (.whole t n a l k)) [some (ppD p), some (msgD (.whole t n a l k)), none, none, none, none, none, none, none, none, none] = some [some (ppD p), some (msgD (.whole t n a l k)), none, none, none, some (.str "whole"), some (.int t), some (.int n), some (.int a), some (.tup (l.map Mw.pairD)), some (.int k)] := rfl
            have e30 := withwhole_eq (G := G) p t n a l k
            unfold heardP
            rw [show msgT (.whole t n a l k) = t from rfl]
            generalize msgD (.whole t n a l k) = M at e29 e30 hset
            by_cases c1 : t < p.term
            · rw [if_pos c1]
              simp only [heardD]
              generalize ppD p = P at e18 i0 i1 i5 hlen e30 hset
              simp [-Tg.set, tg_nm, fnRun, b_heard, startD, N_heard, h18.1, h18.2, e18, h29.1, h29.2, e29, hset, i0, c1, ansD]
            · rw [if_neg c1]
              simp only [heardD]
              generalize ppD (wholeP p t n a l) = Q at e30
              generalize ppD p = P at e18 i0 i1 i5 hlen e30 hset
              simp [-Tg.set, tg_nm, fnRun, b_heard, startD, N_heard, h18.1, h18.2, e18, h29.1, h29.2, e29, hset, i0, c1, ansD, eq_str w1 w1, h30.1, h30.2, e30]
          | rows t n a mo k =>
            obtain ⟨_, _, _, _, _, hm3, _⟩ := hmv
            have hset : (Tg.tp [5, 6, 7, 8, 9, 10]).set (msgD (.rows t n a mo k)) [some (ppD p), some (msgD (.rows t n a mo k)), none, none, none, none, none, none, none, none, none] = some [some (ppD p), some (msgD (.rows t n a mo k)), none, none, none, some (.str "rows"), some (.int t), some (.int n), some (.int a), some (.tup (mo.map rowD)), some (.int k)] := rfl
            have e31 := put_eq (G := G) (p := p) (n := n) (m := mo) (by omega)
            have hw : ¬ (Str.ofString "rows" = Str.ofString "whole") := ne_rw
            unfold heardP
            rw [show msgT (.rows t n a mo k) = t from rfl]
            generalize msgD (.rows t n a mo k) = M at e29 hset
            by_cases c1 : t < p.term
            · rw [if_pos c1]
              simp only [heardD]
              generalize ppD p = P at e18 i0 i1 i5 hlen e31 hset
              simp [-Tg.set, tg_nm, fnRun, b_heard, startD, N_heard, h18.1, h18.2, e18, h29.1, h29.2, e29, hset, i0, c1, ansD]
            · rw [if_neg c1]
              simp only [heardD, rowsP]
              have cut1 := pp_cut1 p G
              have add1 := pp_add1 p t G
              by_cases c2 : lenP p < n
              · rw [if_pos c2]
                simp only
                generalize ppD { p with term := t } = Q at add1
                generalize ppD p = P at e18 i0 i1 i5 hlen e31 hset cut1
                generalize D.tup [.int p.base, .int p.ahead, .tup (p.things.map Mw.pairD), .tup (p.rows.map rowD), .int p.kept] = P1 at cut1 add1
                simp [-Tg.set, tg_nm, fnRun, b_heard, startD, N_heard, h18.1, h18.2, e18, h29.1, h29.2, e29, hset, i0, c1, ansD, eq_str w2 w1, hw, cut1, add1, h19.1, h19.2, hlen, c2]
              · rw [if_neg c2]
                have cut4 := pp_cut4 { p with term := t } G
                have add4 := pp_add4 { p with term := t } (putGo (n - p.base) p.rows mo) (max p.kept (min k (n + mo.length))) G
                have hfin : ∀ (b : Bool), (b = true → p.base ≤ n ∧ ∃ t', termAt p n = some t' ∧ t' = a) → True := fun _ _ => trivial
                by_cases c3 : p.base ≤ n
                · obtain ⟨ta, hta⟩ := termAt_some (p := p) (n := n) c3 (by omega)
                  have et := term_eq (G := G) hta
                  by_cases c4 : ta = a
                  · subst c4
                    rw [if_neg (by rw [hta]; simp)]
                    simp only [putP]
                    generalize ppD { p with term := t, rows := putGo (n - p.base) p.rows mo, kept := max p.kept (min k (n + mo.length)) } = Q2 at add4
                    generalize ppD { p with term := t } = Q at add1 cut4
                    generalize ppD p = P at e18 i0 i1 i5 hlen e31 hset cut1 et
                    generalize D.tup [.int p.base, .int p.ahead, .tup (p.things.map Mw.pairD), .tup (p.rows.map rowD), .int p.kept] = P1 at cut1 add1
                    generalize D.tup ((putGo (n - p.base) p.rows mo).map rowD) = RR at e31 add4
                    simp [-Tg.set, tg_nm, fnRun, b_heard, startD, N_heard, h18.1, h18.2, e18, h29.1, h29.2, e29, hset, i0, i1, i5, c1, ansD, eq_str w2 w1, hw, cut1, add1, h19.1, h19.2, hlen, c2, c3, h21.1, h21.2, et, eq_int, h31.1, h31.2, e31, fLen, fMax, fMin, cut4, add4]
                  · rw [if_pos ⟨c3, by rw [hta]; simpa using c4⟩]
                    simp only
                    generalize ppD { p with term := t } = Q at add1 cut4
                    generalize ppD p = P at e18 i0 i1 i5 hlen e31 hset cut1 et
                    generalize D.tup [.int p.base, .int p.ahead, .tup (p.things.map Mw.pairD), .tup (p.rows.map rowD), .int p.kept] = P1 at cut1 add1
                    simp [-Tg.set, tg_nm, fnRun, b_heard, startD, N_heard, h18.1, h18.2, e18, h29.1, h29.2, e29, hset, i0, i1, i5, c1, ansD, eq_str w2 w1, hw, cut1, add1, h19.1, h19.2, hlen, c2, c3, h21.1, h21.2, et, eq_int, c4]
                · rw [if_neg (fun h => c3 h.1)]
                  simp only [putP]
                  generalize ppD { p with term := t, rows := putGo (n - p.base) p.rows mo, kept := max p.kept (min k (n + mo.length)) } = Q2 at add4
                  generalize ppD { p with term := t } = Q at add1 cut4
                  generalize ppD p = P at e18 i0 i1 i5 hlen e31 hset cut1
                  generalize D.tup [.int p.base, .int p.ahead, .tup (p.things.map Mw.pairD), .tup (p.rows.map rowD), .int p.kept] = P1 at cut1 add1
                  generalize D.tup ((putGo (n - p.base) p.rows mo).map rowD) = RR at e31 add4
                  simp [-Tg.set, tg_nm, fnRun, b_heard, startD, N_heard, h18.1, h18.2, e18, h29.1, h29.2, e29, hset, i0, i1, i5, c1, ansD, eq_str w2 w1, hw, cut1, add1, h19.1, h19.2, hlen, c2, c3, h31.1, h31.2, e31, fLen, fMax, fMin, cut4, add4]
        · rename_i hm
          have hm' : isMsg md = false := by simpa using hm
          refine clr_exc ⟨[], ?_⟩ (Nat.le_refl _) hc
          have e29 := message_eq ho2
          rw [hm'] at e29
          simp [fnRun, b_heard, startD, N_heard, h18.1, h18.2, look_eq ho hp, h29.1, h29.2, e29]
      · rename_i hp
        have hp' : isPaper pd = false := by simpa using hp
        refine clr_exc ⟨[], ?_⟩ (Nat.le_refl _) hc
        simp [fnRun, b_heard, startD, N_heard, h18.1, h18.2, look_bad ho hp']
    · trivial
  · trivial
theorem heard_eq {G : Gp} {p : Pp} {m : Msg} (h1 : okP G (ppD p) = true) (h2 : isPaper (ppD p) = true) (h3 : okM G (msgD m) = true) (h4 : isMsg (msgD m) = true) : C_heard [ppD p, msgD m] G = .ok (heardD (heardP p m)) G := by
  unfold C_heard
  dsimp only
  rw [if_pos ⟨h1, h3⟩, if_pos h2, if_pos h4, pp_D, msg_D]
theorem heard_badp {G : Gp} {d md : D} (h1 : okP G d = true) (h2 : isPaper d = false) (h3 : okM G md = true) : C_heard [d, md] G = .exc 3 G := by
  unfold C_heard
  dsimp only
  rw [if_pos ⟨h1, h3⟩, if_neg (by rw [h2]; decide)]
theorem heard_badm {G : Gp} {d md : D} (h1 : okP G d = true) (h2 : isPaper d = true) (h3 : okM G md = true) (h4 : isMsg md = false) : C_heard [d, md] G = .exc 4 G := by
  unfold C_heard
  dsimp only
  rw [if_pos ⟨h1, h3⟩, if_pos h2, if_neg (by rw [h4]; decide)]
end Mm
namespace Mm
open PySem L2 Mw
open PyProof.Rows hiding St
def lawP (m : List Rw) (b k t : Int) : Pp := ⟨t, b, aheadOf m b, thingsOf m b.toNat, m.drop b.toNat, k⟩
theorem lawP_eq (m : List Rw) (b k more : Int) : lawPaper m b k more = lawP m b k (topOf m + more) := rfl
theorem lawP_eq2 (m : List Rw) (b k t : Int) : lawP m b k t = lawPaper m b k (t - topOf m) := by
  rw [lawP_eq, show topOf m + (t - topOf m) = t by omega]
theorem HistOk.take {R : List Rw} (h : HistOk R) (n : Nat) : HistOk (R.take n) := (mine_take h n).ok
theorem drop_bd {R : List Rw} (h : HistOk R) {b : Int} {r : Rw} (hr : r ∈ R.drop b.toNat) : aheadOf R b ≤ r.1 ∧ r.1 ≤ topOf R := by
  obtain ⟨i, hi, he⟩ := List.mem_iff_getElem.mp hr
  rw [List.getElem_drop] at he
  rw [List.length_drop] at hi
  have e1 := (h.drop b.toNat).ge r hr
  constructor
  · unfold aheadOf
    split
    · rw [List.getElem?_eq_getElem (by omega), ← he]
      exact List.pairwise_iff_getElem.mp h.pw _ _ _ _ (by omega)
    · omega
  · rw [← he]
    unfold topOf
    rw [List.getLast?_eq_getElem?, List.getElem?_eq_getElem (by omega)]
    show (R[b.toNat + i]).1 ≤ (R[R.length - 1]).1
    by_cases e : b.toNat + i = R.length - 1
    · simp [e]
    · exact List.pairwise_iff_getElem.mp h.pw _ _ _ _ (by omega)
theorem within_ok {i lo hi : Int} (h1 : lo ≤ i) (h2 : i ≤ hi) : isWithin (.int i) lo hi = true := by
  show (decide (lo ≤ i) && decide (i ≤ hi)) = true
  rw [decide_eq_true h1, decide_eq_true h2]
  rfl
theorem lawP_paper {m : List Rw} {b k t : Int} (h : HistOk m) (hR : m.length ≤ 900) (h1 : 0 ≤ b) (h2 : b ≤ k) (h3 : k ≤ m.length) (ht : topOf m ≤ t) (ht2 : t ≤ 9000) (G : Gp) : isPaper (ppD (lawP m b k t)) = true ∧ okP G (ppD (lawP m b k t)) = true := by
  rw [lawP_eq2]
  obtain ⟨_, _, _, _, a5⟩ := ahead_bd h h1 (show b ≤ m.length by omega)
  exact lp_paper9 h hR h1 h2 h3 ⟨by omega, by omega⟩ G
theorem lawP_plain {m : List Rw} {b k t : Int} (h : HistOk m) : plainD 19 (ppD (lawP m b k t)) = true := by
  show (true && (true && (true && (plainD 18 (.tup ((thingsOf m b.toNat).map Mw.pairD)) && (plainD 18 (.tup ((m.drop b.toNat).map rowD)) && (true && true)))))) = true
  rw [plain_things (thingsOf_good h _) 16, plain_rows (h.drop _).keys 15]
  rfl
theorem plain_up : ∀ (n : Nat) (d : D), plainD n d = true → plainD (n + 1) d = true
  | n, .non, _ => rfl
  | n, .int _, _ => rfl
  | n, .str x, h => by rw [plain_str] at h ⊢; exact h
  | n + 1, .tup ds, h => by
    have h' : ds.all (plainD n) = true := h
    show ds.all (plainD (n + 1)) = true
    rw [List.all_eq_true] at h' ⊢
    exact fun d hd => plain_up n d (h' d hd)
  | 0, .tup ds, h => by cases h
  | 0, .bl _, h => by cases h
  | n + 1, .bl _, h => by cases h
  | 0, .ref _, h => by cases h
  | n + 1, .ref _, h => by cases h
  | 0, .scr _, h => by cases h
  | n + 1, .scr _, h => by cases h
theorem heard_plain {x : Pp × Str × Int × Int} (h : plainD 19 (ppD x.1) = true) (h2 : PyData.strOk x.2.1 = true) : plainD 20 (heardD x) = true := by
  show (plainD 19 (ppD x.1) && ((plainD 18 (.str x.2.1) && (plainD 18 (.int x.2.2.1) && (plainD 18 (.int x.2.2.2) && true))) && true)) = true
  rw [h, plain_str, h2]
  rfl
theorem lawP_len {m : List Rw} {b k t : Int} (h1 : 0 ≤ b) (h2 : b ≤ m.length) : lenP (lawP m b k t) = m.length := by rw [lawP_eq2, lp_len h1 h2]
theorem lawP_term {m : List Rw} {b k t n : Int} (h1 : 0 ≤ b) (hn : b ≤ n) (h2 : n ≤ m.length) : termAt (lawP m b k t) n = some (aheadOf m n) := by rw [lawP_eq2, lp_term h1 hn h2]
structure Pre (R m : List Rw) (s : Nat) : Prop where
  l1 : s ≤ R.length
  l2 : s ≤ m.length
  same : m.take s = R.take s
  ne : ∀ a ∈ m.drop s, ∀ r ∈ R.drop s, a.1 ≠ r.1
section
variable {R m : List Rw} {s : Nat}
theorem Pre.get (h : Pre R m s) {i : Nat} (hi : i < s) : m[i]? = R[i]? := by
  have := congrArg (fun l : List Rw => l[i]?) h.same
  simp only [List.getElem?_take, if_pos hi] at this
  exact this
theorem Pre.ahead (h : Pre R m s) {n : Int} (hn : n ≤ s) : aheadOf m n = aheadOf R n := by
  unfold aheadOf
  split
  · rw [h.get (by omega)]
  · rfl
theorem Pre.un (h : Pre R m s) {i : Nat} (hi : s ≤ i) (h1 : i < m.length) (h2 : i < R.length) : (m[i]).1 ≠ (R[i]).1 :=
  h.ne _ (List.mem_drop_iff_getElem.mpr ⟨i - s, by omega, by congr 1; omega⟩) _ (List.mem_drop_iff_getElem.mpr ⟨i - s, by omega, by congr 1; omega⟩)
theorem Pre.aheadNe (h : Pre R m s) {n : Int} (hn : (s : Int) < n) (h1 : n ≤ m.length) (h2 : n ≤ R.length) : aheadOf m n ≠ aheadOf R n := by
  unfold aheadOf
  rw [if_pos (by omega), if_pos (by omega), List.getElem?_eq_getElem (by omega), List.getElem?_eq_getElem (by omega)]
  exact h.un (by omega) _ _
theorem Pre.things (h : Pre R m s) {n : Nat} (hn : n ≤ s) : thingsOf m n = thingsOf R n := by
  unfold thingsOf
  have : m.take n = R.take n := by
    have := congrArg (List.take n) h.same
    rw [List.take_take, List.take_take, Nat.min_eq_left hn] at this
    exact this
  rw [this]
end
theorem take_things (R : List Rw) {a n : Nat} (h : n ≤ a) : thingsOf (R.take a) n = thingsOf R n := by
  unfold thingsOf
  rw [List.take_take, Nat.min_eq_left h]
theorem take_ahead (R : List Rw) {a : Nat} {n : Int} (h : n ≤ a) : aheadOf (R.take a) n = aheadOf R n := by
  unfold aheadOf
  split
  · rw [List.getElem?_take, if_pos (by omega)]
  · rfl
theorem pre_take (R : List Rw) {a : Nat} (h : a ≤ R.length) : Pre R (R.take a) a := by
  refine ⟨h, by rw [List.length_take]; omega, by rw [List.take_take, Nat.min_self], fun x hx => ?_⟩
  rw [List.drop_of_length_le (by rw [List.length_take]; omega)] at hx
  cases hx
theorem top_take {R : List Rw} (h : HistOk R) (a : Nat) : topOf (R.take a) ≤ topOf R ∧ 0 ≤ topOf (R.take a) := by
  have hb := ahead_bd (h.take a) (b := 0) (Int.le_refl _) (by omega)
  refine ⟨?_, hb.2.2.2.2⟩
  by_cases hl : a ≤ R.length
  · have e := ahead_top' (R := R.take a)
    rw [List.length_take, Nat.min_eq_left hl, take_ahead R (Int.le_refl _)] at e
    rw [← e]
    exact (ahead_bd h (b := a) (by omega) (by omega)).2.1
  · rw [List.take_of_length_le (by omega)]
    exact Int.le_refl _
def joinStep (b o : Int) (full : List Rw) (r : Rw) : List Rw := if (full.length : Int) ≤ o then full ++ [r] else if b ≤ o then (match full[o.toNat]? with
  | some x => if x.1 = r.1 then full else full.take o.toNat ++ [r]
  | none => full) else full
def joinGo (b : Int) : Int → List Rw → List Rw → List Rw
  | _, full, [] => full
  | o, full, r :: more => joinGo b (o + 1) (joinStep b o full r) more
theorem put_step {b o : Int} {full : List Rw} {r : Rw} (h1 : 0 ≤ b) (h2 : b ≤ full.length) : putStep (o - b) (full.drop b.toNat) r = (joinStep b o full r).drop b.toNat ∧ (joinStep b o full r).take b.toNat = full.take b.toNat ∧ b ≤ (joinStep b o full r).length := by
  have hl : b.toNat ≤ full.length := by omega
  unfold putStep joinStep
  rw [List.length_drop]
  by_cases c1 : (full.length : Int) ≤ o
  · rw [if_pos (by omega), if_pos c1]
    refine ⟨?_, ?_, ?_⟩
    · rw [List.drop_append_of_le_length hl]
    · rw [List.take_append_of_le_length hl]
    · rw [List.length_append]; omega
  · rw [if_neg (by omega), if_neg c1]
    by_cases c2 : b ≤ o
    · rw [if_pos (by omega), if_pos c2, List.getElem?_drop, show b.toNat + (o - b).toNat = o.toNat by omega, List.getElem?_eq_getElem (by omega)]
      simp only
      split
      · exact ⟨rfl, rfl, h2⟩
      · have e : b.toNat ≤ (full.take o.toNat).length := by rw [List.length_take]; omega
        refine ⟨?_, ?_, ?_⟩
        · rw [List.drop_append_of_le_length e, List.drop_take, show (o - b).toNat = o.toNat - b.toNat by omega]
        · rw [List.take_append_of_le_length e, List.take_take, Nat.min_eq_left (by omega)]
        · rw [List.length_append, List.length_take]; omega
    · rw [if_neg (by omega), if_neg c2]
      exact ⟨rfl, rfl, h2⟩
theorem put_join {b : Int} (h1 : 0 ≤ b) : ∀ (more : List Rw) (o : Int) (full : List Rw), b ≤ full.length → putGo (o - b) (full.drop b.toNat) more = (joinGo b o full more).drop b.toNat ∧ (joinGo b o full more).take b.toNat = full.take b.toNat ∧ b ≤ (joinGo b o full more).length
  | [], o, full, h2 => ⟨rfl, rfl, h2⟩
  | r :: more, o, full, h2 => by
    obtain ⟨e1, e2, e3⟩ := put_step (o := o) (r := r) h1 h2
    obtain ⟨f1, f2, f3⟩ := put_join h1 more (o + 1) (joinStep b o full r) e3
    rw [putGo, joinGo, e1, show o - b + 1 = o + 1 - b by omega]
    exact ⟨f1, f2.trans e2, f3⟩
theorem take_succ {R : List Rw} {o : Nat} (h : o < R.length) : R.take o ++ [R[o]] = R.take (o + 1) := by
  rw [List.take_succ_eq_append_getElem h]
theorem join_on {R : List Rw} {b : Int} : ∀ (c o : Nat), o ≤ R.length → joinGo b o (R.take o) ((R.drop o).take c) = R.take (o + c)
  | 0, o, _ => by rw [List.take_zero]; rfl
  | c + 1, o, h => by
    by_cases hl : o < R.length
    · rw [List.drop_eq_getElem_cons hl, List.take_succ_cons, joinGo]
      have e : joinStep b o (R.take o) R[o] = R.take (o + 1) := by
        unfold joinStep
        rw [if_pos (by rw [List.length_take]; omega), take_succ hl]
      rw [e]
      have := join_on (R := R) (b := b) c (o + 1) (by omega)
      rw [show ((o : Int) + 1) = ((o + 1 : Nat) : Int) by omega, this]
      congr 1
      omega
    · rw [List.drop_of_length_le (by omega), List.take_nil, joinGo, List.take_of_length_le (by omega), List.take_of_length_le (by omega)]
theorem join_pre {R m : List Rw} {s : Nat} {b : Int} (h : Pre R m s) (hb : b ≤ s) : ∀ (c o : Nat), o ≤ s → joinGo b o m ((R.drop o).take c) = if min (o + c) R.length ≤ s then m else R.take (o + c)
  | 0, o, ho => by
    rw [List.take_zero, if_pos (by omega)]
    rfl
  | c + 1, o, ho => by
    have l1 := h.l1
    have l2 := h.l2
    by_cases hl : o < R.length
    · rw [List.drop_eq_getElem_cons hl, List.take_succ_cons, joinGo]
      by_cases hs : o < s
      · have e : joinStep b o m R[o] = m := by
          unfold joinStep
          rw [if_neg (by omega)]
          have := h.get hs
          rw [List.getElem?_eq_getElem hl] at this
          rw [Int.toNat_natCast, this]
          simp
        rw [e, show ((o : Int) + 1) = ((o + 1 : Nat) : Int) by omega, join_pre h hb c (o + 1) (by omega), show o + 1 + c = o + (c + 1) by omega]
      · have ho' : o = s := by omega
        subst ho'
        rw [if_neg (by omega)]
        have e : joinStep b o m R[o] = R.take (o + 1) := by
          unfold joinStep
          by_cases c1 : (m.length : Int) ≤ o
          · rw [if_pos c1]
            have : m = R.take o := by rw [← h.same, List.take_of_length_le (by omega)]
            rw [this, take_succ hl]
          · rw [if_neg c1, if_pos hb, Int.toNat_natCast, List.getElem?_eq_getElem (by omega)]
            simp only
            rw [if_neg (h.un (Nat.le_refl _) _ _), h.same, take_succ hl]
        rw [e, show ((o : Int) + 1) = ((o + 1 : Nat) : Int) by omega, join_on c (o + 1) (by omega)]
        congr 1
        omega
    · rw [List.drop_of_length_le (by omega), List.take_nil, if_pos (by omega)]
      rfl
def joinR (R m : List Rw) (s : Nat) (n : Int) : List Rw := if min (n.toNat + 3) R.length ≤ s then m else R.take (n.toNat + 3)
theorem join_3 {R m : List Rw} {s : Nat} {b n : Int} (h : Pre R m s) (hb : b ≤ s) (n0 : 0 ≤ n) (ns : n ≤ s) : joinGo b n m ((R.drop n.toNat).take 3) = joinR R m s n := by
  have := join_pre h hb 3 n.toNat (by omega)
  rw [show ((n.toNat : Nat) : Int) = n by omega] at this
  exact this
theorem joinR_pre {R m : List Rw} {s : Nat} {n : Int} (h : Pre R m s) (ns : n ≤ s) : ∃ s', s ≤ s' ∧ min (n.toNat + 3) R.length ≤ s' ∧ Pre R (joinR R m s n) s' ∧ ((joinR R m s n = m ∧ s' = s) ∨ (joinR R m s n = R.take s')) := by
  unfold joinR
  have l1 := h.l1
  split
  · exact ⟨s, Nat.le_refl _, by omega, h, .inl ⟨rfl, rfl⟩⟩
  · refine ⟨min (n.toNat + 3) R.length, by omega, Nat.le_refl _, ?_, .inr ?_⟩
    · have e : R.take (n.toNat + 3) = R.take (min (n.toNat + 3) R.length) := by
        by_cases hl : n.toNat + 3 ≤ R.length
        · rw [Nat.min_eq_left hl]
        · rw [Nat.min_eq_right (by omega), List.take_of_length_le (by omega), List.take_of_length_le (Nat.le_refl _)]
      rw [e]
      exact pre_take R (by omega)
    · by_cases hl : n.toNat + 3 ≤ R.length
      · rw [Nat.min_eq_left hl]
      · rw [Nat.min_eq_right (by omega), List.take_of_length_le (by omega), List.take_of_length_le (Nat.le_refl _)]
section
variable {R m : List Rw} {s : Nat} {b k t0 t n lk : Int}
theorem put_law (h1 : 0 ≤ b) (h2 : b ≤ m.length) (more : List Rw) : putP (lawP m b k t0) t n more lk = lawP (joinGo b n m more) b (max k (min lk (n + more.length))) t := by
  obtain ⟨e1, e2, e3⟩ := put_join h1 more n m h2
  have e4 : aheadOf (joinGo b n m more) b = aheadOf m b := by
    rw [← take_ahead m (a := b.toNat) (n := b) (by omega), ← e2, take_ahead _ (by omega)]
  have e5 : thingsOf (joinGo b n m more) b.toNat = thingsOf m b.toNat := by
    rw [← take_things m (Nat.le_refl b.toNat), ← e2, take_things _ (Nat.le_refl _)]
  unfold putP lawP
  simp only
  rw [e1, e4, e5]
theorem heard_rows (hP : Pre R m s) (h1 : 0 ≤ b) (h2 : b ≤ k) (h3 : k ≤ s) (n0 : 0 ≤ n) (n1 : n ≤ R.length) (ht : t0 ≤ t) :
    heardP (lawP m b k t0) (.rows t n (aheadOf R n) ((R.drop n.toNat).take 3) lk) = if (m.length : Int) < n then (lawP m b k t, ("no" : Str), t, (m.length : Int)) else if (s : Int) < n then (lawP m b k t, ("no" : Str), t, n - 1)
      else (lawP (joinR R m s n) b (max k (min lk (n + ((R.drop n.toNat).take 3).length))) t, ("have" : Str), t, n + ((R.drop n.toNat).take 3).length) := by
  have l2 := hP.l2
  unfold heardP
  rw [if_neg (show ¬ (msgT (.rows t n (aheadOf R n) ((R.drop n.toNat).take 3) lk) < (lawP m b k t0).term) by show ¬ (t < t0); omega)]
  simp only [rowsP]
  rw [lawP_len h1 (by omega)]
  by_cases c1 : (m.length : Int) < n
  · rw [if_pos c1, if_pos c1]; rfl
  · rw [if_neg c1, if_neg c1]
    by_cases c2 : (s : Int) < n
    · rw [if_pos c2, if_pos ⟨show b ≤ n by omega, by rw [lawP_term h1 (by omega) (by omega)]; simpa using hP.aheadNe c2 (by omega) n1⟩]
      rfl
    · rw [if_neg c2, if_neg (fun h => by
        obtain ⟨h4, h5⟩ := h
        have h4' : b ≤ n := h4
        rw [lawP_term h1 h4' (by omega), hP.ahead (by omega)] at h5
        exact h5 rfl)]
      rw [put_law h1 (by omega), join_3 hP (by omega) n0 (by omega)]
theorem heard_whole (hP : Pre R m s) (h1 : 0 ≤ b) (h2 : b ≤ k) (h3 : k ≤ s) (n0 : 0 < n) (n1 : n ≤ R.length) (ht : t0 ≤ t) :
    heardP (lawP m b k t0) (.whole t n (aheadOf R n) (thingsOf R n.toNat) lk) = (if n ≤ s then lawP m b (max k n) t else lawP (R.take n.toNat) n n t, ("have" : Str), t, n) := by
  have l2 := hP.l2
  unfold heardP
  rw [if_neg (show ¬ (msgT (.whole t n (aheadOf R n) (thingsOf R n.toNat) lk) < (lawP m b k t0).term) by show ¬ (t < t0); omega)]
  simp only [wholeP]
  rw [lawP_len h1 (by omega)]
  by_cases c2 : n ≤ s
  · rw [if_pos c2, if_pos (by
      by_cases c3 : n ≤ b
      · exact .inl c3
      · exact .inr ⟨by omega, by rw [lawP_term h1 (by omega) (by omega), hP.ahead c2]⟩)]
    rfl
  · rw [if_neg c2, if_neg (fun h => by
      rcases h with h | ⟨h, h4⟩
      · have h' : n ≤ b := h
        omega
      · rw [lawP_term h1 (by omega) (by omega)] at h4
        exact hP.aheadNe (by omega) (by omega) n1 (Option.some.inj h4))]
    unfold lawP
    rw [take_ahead R (by omega), take_things R (Nat.le_refl _), List.drop_of_length_le (by rw [List.length_take]; omega)]
theorem msg_rows_ok (h : HistOk R) (hR : R.length ≤ 900) (n0 : 0 ≤ n) (n1 : n ≤ R.length) (t1 : topOf R ≤ t) (t2 : 1 ≤ t) (t3 : t ≤ 9000) (k0 : 0 ≤ lk) (k1 : lk ≤ 1000) (G : Gp) : isMsg (msgD (.rows t n (aheadOf R n) ((R.drop n.toNat).take 3) lk)) = true ∧ okM G (msgD (.rows t n (aheadOf R n) ((R.drop n.toNat).take 3) lk)) = true := by
  obtain ⟨a1, a2, a3, a4, a5⟩ := ahead_bd h n0 n1
  have hsc : (scan (rowStep t) (max (aheadOf R n) 1) (((R.drop n.toNat).take 3).map rowD)).isSome = true := by
    refine scan_ok (fun r hr => ?_) ((h.drop n.toNat).take 3).pw
    have hr' := List.mem_of_mem_take hr
    have g := (h.drop n.toNat).good r hr'
    have e1 := (h.drop n.toNat).ge r hr'
    have e2 := drop_bd h hr'
    exact ⟨by omega, by omega, g⟩
  have hlen : ((((R.drop n.toNat).take 3).map rowD).length : Int) ≤ 3 := by rw [List.length_map, List.length_take]; omega
  constructor
  · show (isWithin (.int t) 1 100000 && (isWithin (.int n) 0 100000 && (isWithin (.int (aheadOf R n)) 0 t && (isWithin (.int lk) 0 100000 && ((decide (n = 0) == decide (aheadOf R n = 0)) && (if Str.ofString "rows" = Str.ofString "whole" then _ else decide (Str.ofString "rows" = Str.ofString "rows") && ((scan (rowStep t) (max (aheadOf R n) 1) (((R.drop n.toNat).take 3).map rowD)).isSome && decide ((((R.drop n.toNat).take 3).map rowD).length ≤ (3 : Int))))))))) = true
    rw [within_ok t2 (by omega), within_ok n0 (by omega), within_ok a1 (by omega), within_ok k0 (by omega), if_neg ne_rw, hsc, decide_eq_true hlen, decide_eq_true (show Str.ofString "rows" = Str.ofString "rows" from rfl)]
    have : decide (n = 0) = decide (aheadOf R n = 0) := by
      rw [decide_eq_decide]
      constructor
      · intro e; rw [e]; rfl
      · intro e
        rcases Int.lt_or_eq_of_le n0 with q | q
        · have := a3 q; omega
        · exact q.symm
    rw [this]
    simp
  · have er : okRs G (.tup (((R.drop n.toNat).take 3).map rowD)) = true := by
      show ((((R.drop n.toNat).take 3).map rowD).all (okOne G) && decide ((((R.drop n.toNat).take 3).map rowD).length ≤ 1000)) = true
      rw [decide_eq_true (by omega), Bool.and_true, List.all_eq_true]
      intro d hd
      obtain ⟨r, hr, rfl⟩ := List.mem_map.mp hd
      show (true && (okT G (ddD r.2) && true)) = true
      rw [(good_deed ((h.drop n.toNat).good r (List.mem_of_mem_take hr)) G).2]
      rfl
    have et : okTs G (.tup (((R.drop n.toNat).take 3).map rowD)) = true := by
      show ((((R.drop n.toNat).take 3).map rowD).all (okT G) && decide ((((R.drop n.toNat).take 3).map rowD).length ≤ 1000)) = true
      rw [decide_eq_true (by omega), Bool.and_true, List.all_eq_true]
      intro d hd
      obtain ⟨r, hr, rfl⟩ := List.mem_map.mp hd
      obtain ⟨x, y⟩ := r
      cases y <;> rfl
    have ew : okE G (.str "rows") = true := okE_str (by decide +kernel)
    show (okE G (.str "rows") && (true && (true && (true && (okTs G (.tup (((R.drop n.toNat).take 3).map rowD)) && (okRs G (.tup (((R.drop n.toNat).take 3).map rowD)) && true)))))) = true
    rw [er, et, ew]
    rfl
theorem msg_whole_ok (h : HistOk R) (hR : R.length ≤ 900) (n0 : 0 < n) (n1 : n ≤ R.length) (t1 : topOf R ≤ t) (t3 : t ≤ 9000) (k0 : n ≤ lk) (k1 : lk ≤ 1000) (G : Gp) : isMsg (msgD (.whole t n (aheadOf R n) (thingsOf R n.toNat) lk)) = true ∧ okM G (msgD (.whole t n (aheadOf R n) (thingsOf R n.toNat) lk)) = true := by
  obtain ⟨a1, a2, a3, a4, a5⟩ := ahead_bd h (show 0 ≤ n by omega) n1
  have a3 := a3 n0
  have gt := good_things (thingsOf_good h n.toNat) (thingsOf_sorted R n.toNat) (by have := good_len (thingsOf_good h n.toNat); omega) G
  constructor
  · show (isWithin (.int t) 1 100000 && (isWithin (.int n) 0 100000 && (isWithin (.int (aheadOf R n)) 0 t && (isWithin (.int lk) 0 100000 && ((decide (n = 0) == decide (aheadOf R n = 0)) && (if Str.ofString "whole" = Str.ofString "whole" then (decide (0 < n) && (areThings (.tup ((thingsOf R n.toNat).map Mw.pairD)) && decide (n ≤ lk))) else _)))))) = true
    rw [within_ok (by omega) (by omega), within_ok (by omega) (by omega), within_ok a1 (by omega), within_ok (by omega) (by omega), if_pos rfl, gt.1, decide_eq_true n0, decide_eq_true k0, decide_eq_false (show ¬ n = 0 by omega), decide_eq_false (show ¬ aheadOf R n = 0 by omega)]
    rfl
  · have er : okRs G (.tup ((thingsOf R n.toNat).map Mw.pairD)) = true := by
      have hl := good_len (thingsOf_good h n.toNat)
      show (((thingsOf R n.toNat).map Mw.pairD).all (okOne G) && decide (((thingsOf R n.toNat).map Mw.pairD).length ≤ 1000)) = true
      rw [decide_eq_true (by rw [List.length_map]; omega), Bool.and_true, List.all_eq_true]
      intro d hd
      obtain ⟨e, he, rfl⟩ := List.mem_map.mp hd
      obtain ⟨h1, h2, h3⟩ := keysC_key ((thingsOf_good h n.toNat).all e he).1
      show (okE G (.str e.1) && (true && true)) = true
      rw [show okE G (.str e.1) = (decide (e.1.length ≤ 1000) && PyData.strOk e.1) from rfl, h2, decide_eq_true h3]
      rfl
    have ew : okE G (.str "whole") = true := okE_str (by decide +kernel)
    show (okE G (.str "whole") && (true && (true && (true && (okTs G (.tup ((thingsOf R n.toNat).map Mw.pairD)) && (okRs G (.tup ((thingsOf R n.toNat).map Mw.pairD)) && true)))))) = true
    rw [er, gt.2, ew]
    rfl
end
end Mm
namespace Mm
open PySem L2 Mw
open PyProof.Rows hiding St
def upGo (ts : List Int) : Nat → Int → Int
  | 0, t => t
  | n + 1, t => if t ∈ ts then upGo ts n (t + 1) else t
def cntGe (ts : List Int) (t : Int) : Nat := (ts.filter fun x => decide (t ≤ x)).length
theorem cnt_lt : ∀ {ts : List Int} {t : Int}, t ∈ ts → cntGe ts (t + 1) < cntGe ts t
  | x :: ts, t, h => by
    have le : ∀ l : List Int, cntGe l (t + 1) ≤ cntGe l t := fun l => by
      induction l with
      | nil => exact Nat.le_refl _
      | cons y l ih =>
        unfold cntGe at ih ⊢
        rw [List.filter_cons, List.filter_cons]
        by_cases c1 : t + 1 ≤ y
        · rw [if_pos (decide_eq_true c1), if_pos (decide_eq_true (show t ≤ y by omega))]
          simpa using ih
        · rw [if_neg (by simpa using c1)]
          by_cases c2 : t ≤ y
          · rw [if_pos (decide_eq_true c2), List.length_cons]; omega
          · rw [if_neg (by simpa using c2)]; exact ih
    have hl := le ts
    unfold cntGe at hl ⊢
    rw [List.filter_cons, List.filter_cons]
    rcases List.mem_cons.mp h with q | q
    · subst q
      rw [if_neg (by rw [decide_eq_true_eq]; omega), if_pos (by simp), List.length_cons]
      omega
    · have := cnt_lt q
      unfold cntGe at this
      by_cases c1 : t + 1 ≤ x
      · rw [if_pos (decide_eq_true c1), if_pos (decide_eq_true (show t ≤ x by omega)), List.length_cons, List.length_cons]
        omega
      · rw [if_neg (by simpa using c1)]
        by_cases c2 : t ≤ x
        · rw [if_pos (decide_eq_true c2), List.length_cons]; omega
        · rw [if_neg (by simpa using c2)]; exact this
theorem cnt_len (ts : List Int) (t : Int) : cntGe ts t ≤ ts.length := List.length_filter_le _ _
theorem up_not {ts : List Int} : ∀ (n : Nat) (t : Int), cntGe ts t < n → upGo ts n t ∉ ts
  | 0, t, h => by omega
  | n + 1, t, h => by
    rw [upGo]
    split
    · rename_i c
      have := cnt_lt c
      exact up_not n (t + 1) (by omega)
    · assumption
theorem up_bd {ts : List Int} : ∀ (n : Nat) (t : Int), t ≤ upGo ts n t ∧ upGo ts n t ≤ t + n
  | 0, t => ⟨Int.le_refl _, by rw [upGo]; omega⟩
  | n + 1, t => by
    rw [upGo]
    split
    · have := up_bd (ts := ts) n (t + 1)
      omega
    · omega
/-- [row[0] for row in ..] -/
theorem terms_lc {i : Nat} {it : MI0} {e : En} {G G1 : Gp} {m : List Rw} (hi : it e G = .ok ⟨m.map rowD, none⟩ G1) (hl : m.length ≤ 1000) (hlen : i < e.length) : ∃ J, mLc (.nm i) it mYes (mBin dIx (mVar i) (mC (.int 0))) [i] e G = .ok (.ref G1.length) (G1 ++ .lst ((m.map (·.1)).map D.int) :: J) := by
  obtain ⟨J, hJ⟩ := mLc_ok (t := .nm i) (it := it) (tst := mYes) (elt := mBin dIx (mVar i) (mC (.int 0))) (vs := [i]) (e := e) (G := G) (G1 := G1) (s := ⟨m.map rowD, none⟩) (fun d => match d with | .tup [x, _] => some x | _ => none) hi rfl (by rw [List.length_map]; simp; omega) (fun d hd acc J => by
    obtain ⟨r, _, rfl⟩ := List.mem_map.mp hd
    refine ⟨_, true, J, rfl, rfl, .inr ⟨rfl, .int r.1, J, rfl, ?_⟩⟩
    have : i < (wipeE e [i]).length := by simpa [wipeE] using hlen
    simp [List.getElem?_set_self this, rowD, ix_tup])
  refine ⟨J, ?_⟩
  rw [hJ]
  congr 4
  rw [List.filterMap_map, List.map_map, ← List.filterMap_eq_map]
  rfl
theorem in_terms {G : Gp} {n : Nat} {ts : List Int} {t : Int} (h : G[n]? = some (.lst (ts.map D.int))) : dIn (.int t) (.ref n) G = .ok (decide (t ∈ ts)) G := by
  unfold dIn
  simp only [h]
  rw [List.mapM_map, mapM_some (f := py G 20 ∘ D.int) (g := fun i => PyData.int i) fun i _ => rfl]
  show Mw.R.ok (((ts.map fun i => PyData.int i)).any fun z => PyData.eqv z (.int t)) G = _
  congr 1
  rw [List.any_map, Bool.eq_iff_iff, List.any_eq_true]
  constructor
  · rintro ⟨x, hx, h⟩
    have : x = t := by simpa [PyData.eqv] using h
    subst this
    exact decide_eq_true hx
  · intro h
    exact ⟨t, of_decide_eq_true h, by simp [PyData.eqv]⟩
theorem while_up {c : En → Gp → R Bool} {b : MS0} (E : Int → En) (G : Gp) (ts : List Int) (hc : ∀ t J, ∃ J', c (E t) (G ++ J) = .ok (decide (t ∈ ts)) (G ++ J')) (hb : ∀ t J, b (E t) (G ++ J) = .nx (E (t + 1)) (G ++ J)) : ∀ (n : Nat) (t : Int) (J : Gp), cntGe ts t < n → ∃ J', whileGo c b n (E t) (G ++ J) = .nx (E (upGo ts n t)) (G ++ J')
  | 0, t, J, h => by omega
  | n + 1, t, J, h => by
    obtain ⟨J1, h1⟩ := hc t J
    rw [whileGo]
    dsimp only
    rw [h1, upGo]
    by_cases hm : t ∈ ts
    · obtain ⟨J2, h2⟩ := while_up E G ts hc hb n (t + 1) J1 (by have := cnt_lt hm; omega)
      rw [decide_eq_true hm, if_pos hm]
      dsimp only
      rw [hb]
      exact ⟨J2, h2⟩
    · rw [decide_eq_false hm, if_neg hm]
      exact ⟨J1, rfl⟩
def twoTop (R : List Rw) (s k : Nat) (top : Int) : Int := upGo ((R.drop s).map (·.1)) 60 (if top ∈ ((R.drop (s + k)).take 1).map (·.1) then top + 1 else top)
def twoGo (R : List Rw) (s : Nat) (c : Int) : Nat → Int × List Rw
  | 0 => (if (R.take s).isEmpty then 1 else topOf (R.take s), R.take s)
  | k + 1 => (twoTop R s k (twoGo R s c k).1, (twoGo R s c k).2 ++ [(twoTop R s k (twoGo R s c k).1, deedN (seedN c k))])
def twoR (ns : List Int) (a : Int) : List Rw := hist (seedN (cell ns a) 0) (histN (seedN (cell ns a) 0) 10)
def twoS (ns : List Int) (a : Int) : Int := mixN (cell ns (a + 1)) 9949 ((twoR ns a).length + 1)
def twoM (ns : List Int) (a : Int) : List Rw := (twoGo (twoR ns a) (twoS ns a).toNat (cell ns (a + 3)) (if 0 < cell ns (a + 2) % 3 then (cell ns (a + 3) % 5).toNat else 0)).2
def C__law_two : FM := fun ds G => match ds with
  | [.scr ns, .int a] => if 0 ≤ a then .ok (.tup [.tup ((twoR ns a).map rowD), .tup ((twoM ns a).map rowD), .int (twoS ns a)]) G else .bad
  | _ => .bad
theorem hist10 (s : Int) : (hist s (histN s 10)).length ≤ 10 ∧ HistOk (hist s (histN s 10)) := by
  have hn : histN s 10 ≤ 10 := by unfold histN; omega
  refine ⟨?_, hist_ok s _ (by omega)⟩
  unfold hist
  rw [hist_len]
  exact hn
theorem cut_1 {ds : List D} {a : Int} (h : 0 ≤ a) : Mw.cutD ds (some a) (some (a + 1)) = (ds.drop a.toNat).take 1 := by
  have := cut_ab (ds := ds) (a := a) (b := a + 1) h (by omega)
  rw [this, show (a + 1 - a).toNat = 1 by omega]
/-- rows[-1][0] if rows != () else 1 -/
theorem top_expr1 {i : Nat} {e : En} {G : Gp} {m : List Rw} (he : e[i]? = some (some (.tup (m.map rowD)))) (hm : m.all (fun r => okDk r.2) = true) :
    (mIf (mCmpB (notR dEq) (mVar i) (mTup maNil)) (mBin dIx (mBin dIx (mVar i) (mNeg (mC (.int 1)))) (mC (.int 0))) (mC (.int 1))) e G = .ok (.int (if m.isEmpty then 1 else topOf m)) G := by
  have hne := eq_plain (G := G) (plain_rows hm 17) (show plainD 20 (.tup []) = true from rfl)
  rw [beq_nil] at hne
  cases m with
  | nil => simp at hne he; simp [hne, he]
  | cons r m =>
    have hl : atI ((r :: m).map rowD) (-1) = ((r :: m).getLast?).map rowD := by rw [atI_map, atI_last (by simp)]
    obtain ⟨z, hz⟩ : ∃ z, (r :: m).getLast? = some z := ⟨_, List.getLast?_eq_some_getLast (by simp)⟩
    rw [hz] at hl
    simp only [List.isEmpty_cons] at hne
    rw [List.map_cons] at hne hl he
    simp [hne, ix_tup hl, topOf, hz, he]
    simp [rowD, ix_tup]
def ifBody : MS → MB
  | .ifS _ b _ => b
  | _ => .nil
def twoBody : MB := forBody (nthS (ifBody (nthS b__law_two 4)) 0)
def twoE (ns : List Int) (a : Int) (R m : List Rw) (s : Nat) (top : Int) (k w : Option D) : En := [some (.scr ns), some (.int a), some (.tup (R.map rowD)), some (.int s), some (.tup (m.map rowD)), some (.int top), k, w, none]
theorem two_body {Γ : Fns} {xs : List Nat} (h7 : Kn Γ 7 2 C__law_cell) (h8 : Kn Γ 8 2 C__law_seed) (h10 : Kn Γ 10 1 C__law_deed) {ns : List Int} {a : Int} (ha : 0 ≤ a) {R m : List Rw} {s k : Nat} (hR : R.length ≤ 50) (hm : m.length ≤ 500) {top : Int} (w : Option D) (G J0 : Gp) :
    ∃ w' J', eB Γ xs twoBody (twoE ns a R m s top (some (.int k)) w) (G ++ J0) = .nx (twoE ns a R (m ++ [(twoTop R s k top, deedN (seedN (cell ns (a + 3)) k))]) s (twoTop R s k top) (some (.int k)) w') (G ++ J') := by
  have hcl : ∀ (k : Int) (G : Gp), 0 ≤ k → C__law_cell [.scr ns, .int k] G = .ok (.int (cell ns k)) G := fun k G h => if_pos h
  have hcut := cut_1 (ds := R.map rowD) (a := (s : Int) + k) (by omega)
  have hcutd := cut_drop (ds := R.map rowD) (k := (s : Int)) (by omega)
  rw [show ((s : Int) + k).toNat = s + k by omega] at hcut
  rw [Int.toNat_natCast] at hcutd
  unfold twoBody
  simp only [b__law_two, nthS, ifBody, forBody, eB]
  -- there
  obtain ⟨J1, hJ1⟩ := terms_lc (i := 8) (it := eI Γ (.val (.sl (.var 2) (.some (.bin .add (.var 3) (.var 6))) (.some (.bin .add (.bin .add (.var 3) (.var 6)) (.int 1)))))) (e := twoE ns a R m s top (some (.int k)) w) (G := G ++ J0) (G1 := G ++ J0) (m := (R.drop (s + k)).take 1) (by
    simp [eI, twoE, dSl, hcut, List.map_take, List.map_drop]) (by rw [List.length_take]; omega) (by simp [twoE])
  generalize hts : ((R.drop (s + k)).take 1).map (·.1) = ts at hJ1
  rw [seq_nx (e1 := twoE ns a R m s top (some (.int k)) (some (.ref (G ++ J0).length))) (G1 := (G ++ J0) ++ .lst (ts.map D.int) :: J1) (by
    rw [eS, mAsg]
    have : mLc (.nm 8) (eI Γ (.val (.sl (.var 2) (.some (.bin .add (.var 3) (.var 6))) (.some (.bin .add (.bin .add (.var 3) (.var 6)) (.int 1)))))) (eTst Γ .none) (eP Γ (.ix (.var 8) (.int 0))).1 ([((("row" : Str)), 8)].map (·.2)) (twoE ns a R m s top (some (.int k)) w) (G ++ J0) = _ := hJ1
    rw [this]
    rfl)]
  have hin := in_terms (G := (G ++ J0) ++ .lst (ts.map D.int) :: J1) (n := (G ++ J0).length) (ts := ts) (t := top) (by simp)
  generalize htop1 : (if top ∈ ts then top + 1 else top) = top1
  rw [seq_nx (e1 := twoE ns a R m s top1 (some (.int k)) (some (.ref (G ++ J0).length))) (G1 := (G ++ J0) ++ .lst (ts.map D.int) :: J1) (by
    generalize (G ++ J0).length = N at hin
    generalize (G ++ J0) ++ .lst (ts.map D.int) :: J1 = H at hin
    by_cases c : top ∈ ts
    · rw [if_pos c] at htop1
      rw [decide_eq_true c] at hin
      subst htop1
      simp [twoE, hin]
    · rw [if_neg c] at htop1
      rw [decide_eq_false c] at hin
      subst htop1
      simp [twoE, hin])]
  obtain ⟨J2, hJ2⟩ := while_up (c := (eP Γ (.cmp .inC (.var 5) (.lc (.ix (.var 8) (.int 0)) (.nm 8) (.val (.sl (.var 2) (.some (.var 3)) .none)) .none [("row", 8)]))).2) (b := eB Γ xs (.cons (.asg (.nm 5) (.bin .add (.var 5) (.int 1))) .nil)) (fun t => twoE ns a R m s t (some (.int k)) (some (.ref (G ++ J0).length))) G ((R.drop s).map (·.1)) (fun t J => by
      obtain ⟨J3, hJ3⟩ := terms_lc (i := 8) (it := eI Γ (.val (.sl (.var 2) (.some (.var 3)) .none))) (e := twoE ns a R m s t (some (.int k)) (some (.ref (G ++ J0).length))) (G := G ++ J) (G1 := G ++ J) (m := R.drop s) (by
        simp [eI, twoE, dSl, hcutd, List.map_drop]) (by rw [List.length_drop]; omega) (by simp [twoE])
      refine ⟨.lst (((R.drop s).map (·.1)).map D.int) :: J3 |> (J ++ ·), ?_⟩
      have hin2 := in_terms (G := (G ++ J) ++ .lst (((R.drop s).map (·.1)).map D.int) :: J3) (n := (G ++ J).length) (ts := (R.drop s).map (·.1)) (t := t) (by simp)
      simp only [eP, mCmpB, Cop.f, pl]
      have hJ3' : mLc (.nm 8) (eI Γ (.val (.sl (.var 2) (.some (.var 3)) .none))) (eTst Γ .none) (mBin dIx (mVar 8) (mC (.int 0))) ([((("row" : Str)), 8)].map (·.2)) (twoE ns a R m s t (some (.int k)) (some (.ref (G ++ J0).length))) (G ++ J) = _ := hJ3
      have hv : mVar 5 (twoE ns a R m s t (some (.int k)) (some (.ref (G ++ J0).length))) (G ++ J) = .ok (.int t) (G ++ J) := rfl
      rw [hv, Mw.R.bind_ok]
      rw [hJ3', Mw.R.bind_ok, hin2, List.append_assoc]) (fun t J => by simp [twoE]) 60 top1 (J0 ++ .lst (ts.map D.int) :: J1) (by have := cnt_len ((R.drop s).map (·.1)) top1; rw [List.length_map, List.length_drop] at this; omega)
  rw [List.append_assoc]
  have hJ2' : eS Γ xs (.whileS 60 (.cmp .inC (.var 5) (.lc (.ix (.var 8) (.int 0)) (.nm 8) (.val (.sl (.var 2) (.some (.var 3)) .none)) .none [("row", 8)])) (.cons (.asg (.nm 5) (.bin .add (.var 5) (.int 1))) .nil)) (twoE ns a R m s top1 (some (.int k)) (some (.ref (G ++ J0).length))) (G ++ (J0 ++ .lst (ts.map D.int) :: J1)) = _ := hJ2
  rw [seq_nx hJ2']
  have htt : upGo ((R.drop s).map (·.1)) 60 top1 = twoTop R s k top := by unfold twoTop; rw [hts, htop1]
  rw [htt]
  generalize twoTop R s k top = tt
  generalize hdd : deedN (seedN (cell ns (a + 3)) k) = dd
  have hadd := rows_add (rows := m) (more := [(tt, dd)]) (by simp; omega) (G ++ J2)
  rw [List.map_cons, List.map_nil] at hadd
  refine ⟨some (.ref (G ++ J0).length), J2, ?_⟩
  have q3 : 0 ≤ a + 3 := by omega
  have hrd : rowD (tt, dd) = .tup [.int tt, ddD dd] := rfl
  rw [hrd] at hadd
  generalize D.tup (R.map rowD) = RD
  unfold twoE
  generalize D.tup ((m ++ [(tt, dd)]).map rowD) = MD2 at hadd
  generalize D.tup (m.map rowD) = MD at hadd
  simp [h7.1, h7.2, hcl _ _ q3, h8.1, h8.2, seed_eq, h10.1, h10.2, ldeed_eq, hdd, hadd]
end Mm
namespace Mm
open PySem L2 Mw
open PyProof.Rows hiding St
theorem twoGo_len (R : List Rw) (s : Nat) (c : Int) : ∀ k, (twoGo R s c k).2.length ≤ R.length + k
  | 0 => by rw [twoGo, List.length_take]; omega
  | k + 1 => by
    have := twoGo_len R s c k
    rw [twoGo, List.length_append]
    simp
    omega
theorem twoS_bd (ns : List Int) (a : Int) : 0 ≤ twoS ns a ∧ twoS ns a ≤ (twoR ns a).length := by
  have := mix_bd (cell ns (a + 1)) 9949 (show (0 : Int) < (twoR ns a).length + 1 by omega)
  unfold twoS
  omega
theorem hist_eq {G : Gp} {s m : Int} (h : 0 ≤ m ∧ m ≤ 1000) : C__law_history [.int s, .int m] G = .ok (.tup ((hist s (histN s m)).map rowD)) G := by
  unfold C__law_history
  dsimp only
  rw [if_pos h]
theorem K__law_two {Γ : Fns} {xs : List Nat} (h7 : Kn Γ 7 2 C__law_cell) (h8 : Kn Γ 8 2 C__law_seed) (h10 : Kn Γ 10 1 C__law_deed) (h15 : Kn Γ 15 2 C__law_history) (h36 : Kn Γ 36 3 C__law_mix) : Cleans 2 (fnRun N__law_two.length (eB Γ xs b__law_two)) C__law_two := by
  intro ds G hl hc hlt
  unfold C__law_two
  split
  · rename_i ns a
    split
    · rename_i ha
      have hcl : ∀ (k : Int) (G : Gp), 0 ≤ k → C__law_cell [.scr ns, .int k] G = .ok (.int (cell ns k)) G := fun k G h => if_pos h
      refine clr_ok ?_ (Nat.le_refl _) hc (by
        show (ltD _ (.tup ((twoR ns a).map rowD)) && (ltD _ (.tup ((twoM ns a).map rowD)) && (true && true))) = true
        rw [ltD_rows, ltD_rows]
        rfl)
      have q1 : 0 ≤ a + 1 := by omega
      have q2 : 0 ≤ a + 2 := by omega
      have q3 : 0 ≤ a + 3 := by omega
      obtain ⟨hR10, hO⟩ : (twoR ns a).length ≤ 10 ∧ HistOk (twoR ns a) := hist10 _
      obtain ⟨s0, s1⟩ := twoS_bd ns a
      have e36 := mix_eq (G := G) (c := cell ns (a + 1)) (p := 9949) (m := (twoR ns a).length + 1) (by omega)
      rw [show mixN (cell ns (a + 1)) 9949 ((twoR ns a).length + 1) = twoS ns a from rfl] at e36
      have e15 := hist_eq (G := G) (s := seedN (cell ns a) 0) (m := 10) (by decide)
      rw [show hist (seedN (cell ns a) 0) (histN (seedN (cell ns a) 0) 10) = twoR ns a from rfl] at e15
      unfold twoM
      generalize hRv : twoR ns a = R at hR10 hO s1 e36 e15
      obtain ⟨s, hs⟩ : ∃ s : Nat, twoS ns a = s := ⟨(twoS ns a).toNat, by omega⟩
      rw [hs] at e36 s1
      rw [hs, Int.toNat_natCast]
      have hcut := cut_take (ds := R.map rowD) (k := (s : Int)) (by omega)
      rw [Int.toNat_natCast, ← List.map_take] at hcut
      have hsl : ∀ G, dSl (.tup (R.map rowD)) none (some (s : Int)) G = .ok (.tup ((R.take s).map rowD)) G := fun G => by rw [← hcut]; rfl
      unfold fnRun b__law_two
      simp only [eB]
      rw [seq_nx (e1 := [some (.scr ns), some (.int a), some (.tup (R.map rowD)), none, none, none, none, none, none]) (G1 := G) (by
        simp [startD, N__law_two, h7.1, h7.2, hcl _ _ ha, h8.1, h8.2, seed_eq, h15.1, h15.2, e15])]
      rw [seq_nx (e1 := [some (.scr ns), some (.int a), some (.tup (R.map rowD)), some (.int s), none, none, none, none, none]) (G1 := G) (by
        simp [h7.1, h7.2, hcl _ _ q1, fLen, h36.1, h36.2, e36])]
      rw [seq_nx (e1 := [some (.scr ns), some (.int a), some (.tup (R.map rowD)), some (.int s), some (.tup ((R.take s).map rowD)), none, none, none, none]) (G1 := G) (by
        simp [hsl])]
      rw [seq_nx (e1 := twoE ns a R (twoGo R s (cell ns (a + 3)) 0).2 s (twoGo R s (cell ns (a + 3)) 0).1 none none) (G1 := G) (by
        have ht := top_expr1 (i := 4) (e := [some (.scr ns), some (.int a), some (.tup (R.map rowD)), some (.int s), some (.tup ((R.take s).map rowD)), none, none, none, none]) (G := G) (m := R.take s) rfl (hO.take s).keys
        simp only [eS]
        simp only [eP, Cop.f, Bop.f, pl, eA, eO]
        simp only [mAsg]
        rw [ht]
        rfl)]
      obtain ⟨w6, w7, J, top, hif⟩ : ∃ w6 w7 J top, eS Γ xs (nthS b__law_two 4) (twoE ns a R (twoGo R s (cell ns (a + 3)) 0).2 s (twoGo R s (cell ns (a + 3)) 0).1 none none) G = .nx (twoE ns a R (twoGo R s (cell ns (a + 3)) (if 0 < cell ns (a + 2) % 3 then (cell ns (a + 3) % 5).toNat else 0)).2 s top w6 w7) (G ++ J) := by
        by_cases c : 0 < cell ns (a + 2) % 3
        · rw [if_pos c]
          generalize hn : (cell ns (a + 3) % 5).toNat = n
          have hn5 : n < 5 := by omega
          have en : cell ns (a + 3) % 5 = (n : Int) := by omega
          obtain ⟨⟨k, J, w6, w7⟩, h1, h2⟩ := mFor_relT (α := Nat × Gp × Option D × Option D) (t := .nm 6) (it := eI Γ (.range1 (.bin .mod (.call 7 (.cons (.var 0) (.cons (.bin .add (.var 1) (.int 3)) .nil))) (.int 5)))) (B := eB Γ xs twoBody) (s := ⟨rangeD 0 n, none⟩) (e := twoE ns a R (twoGo R s (cell ns (a + 3)) 0).2 s (twoGo R s (cell ns (a + 3)) 0).1 none none) (G := G)
            (fun x => twoE ns a R (twoGo R s (cell ns (a + 3)) x.1).2 s (twoGo R s (cell ns (a + 3)) x.1).1 x.2.2.1 x.2.2.2) (fun x => G ++ x.2.1) (fun x rest => x.1 ≤ n ∧ rest = (rangeD 0 n).drop x.1) (0, [], none, none) rfl (by
              have z : (-100000 < (n : Int) ∧ (n : Int) < 100000) := by omega
              simp [eI, twoE, h7.1, h7.2, hcl _ _ q3, dMod, en, z]) ⟨Nat.zero_le _, rfl⟩ (fun _ _ _ => rfl) (fun x d rest hq => by
              obtain ⟨k, J, w6, w7⟩ := x
              obtain ⟨hk, rfl, h2⟩ := range_drop hq.2
              have hl := twoGo_len R s (cell ns (a + 3)) k
              obtain ⟨w', J', hb⟩ := two_body (Γ := Γ) (xs := xs) h7 h8 h10 (ns := ns) ha (R := R) (m := (twoGo R s (cell ns (a + 3)) k).2) (s := s) (k := k) (by omega) (by omega) (top := (twoGo R s (cell ns (a + 3)) k).1) w7 G J
              exact ⟨_, (k + 1, J', some (.int k), w'), rfl, hb, hk, h2⟩)
          have hkn : k = n := by
            obtain ⟨q1, q2⟩ := h2
            have hl : (rangeD 0 n).length = n := by simp [rangeD]
            have := congrArg List.length q2
            rw [List.length_drop, hl] at this
            simp at this
            omega
          subst hkn
          refine ⟨w6, w7, J, (twoGo R s (cell ns (a + 3)) k).1, ?_⟩
          have h1' : eS Γ xs (nthS (ifBody (nthS b__law_two 4)) 0) (twoE ns a R (twoGo R s (cell ns (a + 3)) 0).2 s (twoGo R s (cell ns (a + 3)) 0).1 none none) G = .nx (twoE ns a R (twoGo R s (cell ns (a + 3)) k).2 s (twoGo R s (cell ns (a + 3)) k).1 w6 w7) (G ++ J) := h1
          have hcond : (eP Γ (.cmp .gt (.bin .mod (.call 7 (.cons (.var 0) (.cons (.bin .add (.var 1) (.int 2)) .nil))) (.int 3)) (.int 0))).2 (twoE ns a R (twoGo R s (cell ns (a + 3)) 0).2 s (twoGo R s (cell ns (a + 3)) 0).1 none none) G = .ok true G := by
            simp [twoE, h7.1, h7.2, hcl _ _ q2, dMod, c]
          simp only [b__law_two, nthS, ifBody] at h1' ⊢
          rw [eS, mIfS]
          rw [hcond]
          simp only [eB]
          rw [seq_nx h1']
          rfl
        · rw [if_neg c]
          refine ⟨none, none, [], (twoGo R s (cell ns (a + 3)) 0).1, ?_⟩
          have hcond : (eP Γ (.cmp .gt (.bin .mod (.call 7 (.cons (.var 0) (.cons (.bin .add (.var 1) (.int 2)) .nil))) (.int 3)) (.int 0))).2 (twoE ns a R (twoGo R s (cell ns (a + 3)) 0).2 s (twoGo R s (cell ns (a + 3)) 0).1 none none) G = .ok false G := by
            simp [twoE, h7.1, h7.2, hcl _ _ q2, dMod, c]
          simp only [b__law_two, nthS]
          rw [eS, mIfS]
          rw [hcond, List.append_nil]
          rfl
      simp only [b__law_two, nthS] at hif
      rw [seq_nx hif]
      exact ⟨J, rfl⟩
    · trivial
  · trivial
theorem two_eq {G : Gp} {ns : List Int} {a : Int} (h : 0 ≤ a) : C__law_two [.scr ns, .int a] G = .ok (.tup [.tup ((twoR ns a).map rowD), .tup ((twoM ns a).map rowD), .int (twoS ns a)]) G := if_pos h
theorem two_ok {R : List Rw} {s : Nat} {c : Int} (hO : HistOk R) (hR : R.length ≤ 10) (hs : s ≤ R.length) (ht : topOf R ≤ 100) : ∀ k : Nat, ∃ ex : List Rw, (twoGo R s c k).2 = R.take s ++ ex ∧ ex.length = k ∧ (1 ≤ (twoGo R s c k).1 ∧ topOf (R.take s) ≤ (twoGo R s c k).1 ∧ (twoGo R s c k).1 ≤ 101 + 61 * k) ∧
    (∀ x ∈ ex, topOf (R.take s) ≤ x.1 ∧ 1 ≤ x.1 ∧ x.1 ≤ (twoGo R s c k).1 ∧ GoodD x.2 ∧ ∀ r ∈ R.drop s, x.1 ≠ r.1) ∧ ex.Pairwise (fun a b => a.1 ≤ b.1)
  | 0 => by
    refine ⟨[], by rw [List.append_nil]; rfl, rfl, ?_, (fun _ h => nomatch h), .nil⟩
    have htt := top_take hO s
    rw [twoGo]
    dsimp only
    split
    · rename_i he
      have : R.take s = [] := List.isEmpty_iff.mp he
      rw [this]
      exact ⟨by decide, by decide, by omega⟩
    · rename_i he
      have hne : R.take s ≠ [] := fun h => he (by rw [h]; rfl)
      have hl : 0 < (R.take s).length := List.length_pos_iff.mpr hne
      have hb := ahead_bd (hO.take s) (b := (R.take s).length) (by omega) (by omega)
      have h3 := hb.2.2.1 (by omega)
      rw [ahead_top'] at h3
      omega
  | k + 1 => by
    obtain ⟨ex, e1, e2, e3, e4, e5⟩ := two_ok (c := c) hO hR hs ht k
    have hup := up_bd (ts := (R.drop s).map (·.1)) 60 (if (twoGo R s c k).1 ∈ ((R.drop (s + k)).take 1).map (·.1) then (twoGo R s c k).1 + 1 else (twoGo R s c k).1)
    have hno := up_not (ts := (R.drop s).map (·.1)) 60 (if (twoGo R s c k).1 ∈ ((R.drop (s + k)).take 1).map (·.1) then (twoGo R s c k).1 + 1 else (twoGo R s c k).1) (by
      have := cnt_len ((R.drop s).map (·.1)) (if (twoGo R s c k).1 ∈ ((R.drop (s + k)).take 1).map (·.1) then (twoGo R s c k).1 + 1 else (twoGo R s c k).1)
      rw [List.length_map, List.length_drop] at this
      omega)
    rw [twoGo]
    unfold twoTop
    generalize hif : (if (twoGo R s c k).1 ∈ ((R.drop (s + k)).take 1).map (·.1) then (twoGo R s c k).1 + 1 else (twoGo R s c k).1) = t1 at hup hno
    have ht1 : (twoGo R s c k).1 ≤ t1 ∧ t1 ≤ (twoGo R s c k).1 + 1 := by rw [← hif]; split <;> omega
    generalize upGo ((R.drop s).map (·.1)) 60 t1 = tt at hup hno
    dsimp only
    refine ⟨ex ++ [(tt, deedN (seedN c k))], by rw [e1, List.append_assoc], by rw [List.length_append, e2]; rfl, ⟨by omega, by omega, by push_cast; omega⟩, fun x hx => ?_, ?_⟩
    · rcases List.mem_append.mp hx with q | q
      · obtain ⟨f1, f2, f3, f4, f5⟩ := e4 x q
        exact ⟨f1, f2, by omega, f4, f5⟩
      · rw [List.mem_singleton.mp q]
        refine ⟨by dsimp only; omega, by dsimp only; omega, Int.le_refl _, deedN_good _, fun r hr he => hno ?_⟩
        dsimp only at he
        rw [he]
        exact List.mem_map_of_mem hr
    · rw [List.pairwise_append]
      refine ⟨e5, List.pairwise_singleton _ _, fun x hx y hy => ?_⟩
      rw [List.mem_singleton.mp hy]
      have := (e4 x hx).2.2.1
      dsimp only
      omega
structure TwoOk (R m : List Rw) (s : Nat) : Prop where
  pre : Pre R m s
  hR : HistOk R
  hm : HistOk m
  lR : R.length ≤ 10
  lm : m.length ≤ 14
  tR : topOf R ≤ 21
  tm : topOf m ≤ 345
theorem hist_top (s : Int) : topOf (hist s (histN s 10)) ≤ 21 := by
  obtain ⟨hl, hO⟩ := hist10 s
  have hn : histN s 10 ≤ 10 := by unfold histN; omega
  have hb := histSt_bd s (histN s 10)
  generalize histN s 10 = n at *
  by_cases hR : hist s n = []
  · rw [hR]; decide
  · unfold topOf
    rw [List.getLast?_eq_some_getLast hR]
    have := hb.2.2.1 _ (List.getLast_mem hR)
    show ((hist s n).getLast hR).1 ≤ 21
    have h2 := hb.2.1
    omega
theorem two_all (ns : List Int) (a : Int) : TwoOk (twoR ns a) (twoM ns a) (twoS ns a).toNat := by
  obtain ⟨hl, hO⟩ : (twoR ns a).length ≤ 10 ∧ HistOk (twoR ns a) := hist10 _
  have ht : topOf (twoR ns a) ≤ 21 := hist_top _
  obtain ⟨s0, s1⟩ := twoS_bd ns a
  unfold twoM
  generalize hk : (if 0 < cell ns (a + 2) % 3 then (cell ns (a + 3) % 5).toNat else 0) = k
  have hk4 : k ≤ 4 := by rw [← hk]; split <;> omega
  generalize twoR ns a = R at *
  generalize hs : (twoS ns a).toNat = s
  have hsl : s ≤ R.length := by omega
  obtain ⟨ex, e1, e2, e3, e4, e5⟩ := two_ok (s := s) (c := cell ns (a + 3)) hO hl hsl (by omega) k
  rw [e1]
  have tl : (R.take s).length = s := by rw [List.length_take]; omega
  have hOk : HistOk (R.take s ++ ex) := by
    refine ⟨?_, fun r hr => ?_, fun r hr => ?_, fun r hr => ?_⟩
    · rw [List.pairwise_append]
      refine ⟨(hO.take s).pw, e5, fun x hx y hy => ?_⟩
      have h1 := (e4 y hy).1
      have h2 := (drop_bd (hO.take s) (b := 0) (r := x) (by simpa using hx)).2
      omega
    · rcases List.mem_append.mp hr with q | q
      · exact (hO.take s).ge r q
      · exact (e4 r q).2.1
    · rcases List.mem_append.mp hr with q | q
      · exact (hO.take s).le r q
      · have := (e4 r q).2.2.1
        omega
    · rcases List.mem_append.mp hr with q | q
      · exact (hO.take s).good r q
      · exact (e4 r q).2.2.2.1
  refine ⟨⟨hsl, by rw [List.length_append]; omega, ?_, fun x hx r hr => ?_⟩, hO, hOk, hl, by rw [List.length_append]; omega, ht, ?_⟩
  · rw [List.take_append_of_le_length (by omega), List.take_take, Nat.min_self]
  · rw [List.drop_append_of_le_length (by omega), List.drop_of_length_le (by omega), List.nil_append] at hx
    exact (e4 x hx).2.2.2.2 r hr
  · by_cases he : R.take s ++ ex = []
    · rw [he]; decide
    · unfold topOf
      rw [List.getLast?_eq_some_getLast he]
      show ((R.take s ++ ex).getLast he).1 ≤ 345
      rcases List.mem_append.mp (List.getLast_mem he) with q | q
      · have := (drop_bd (hO.take s) (b := 0) (r := (R.take s ++ ex).getLast he) (by simpa using q)).2
        have := (top_take hO s).1
        omega
      · have := (e4 _ q).2.2.1
        omega
def C__law_joined : FM := fun ds G => match ds with
  | [.tup fs, .int n, .tup ms, .int b] => (match rows? fs, rows? ms with
    | some f, some m => if f.length + m.length ≤ 2000 ∧ 0 ≤ n ∧ 0 ≤ b then .ok (.tup ((joinGo b n f m).map rowD)) G else .bad
    | _, _ => .bad)
  | _ => .bad
theorem joinStep_len (b o : Int) (rows : List Rw) (r : Rw) : (joinStep b o rows r).length ≤ rows.length + 1 := by
  unfold joinStep
  split
  · simp
  · split
    · split
      · split
        · omega
        · simp; omega
      · omega
    · omega
def joinBody : MB := forBody (nthS b__law_joined 1)
theorem join_body {Γ : Fns} {xs : List Nat} {fd md : D} {n b : Int} {rows : List Rw} {r : Rw} {k : Nat} (hb : 0 ≤ b) (hl : rows.length ≤ 3000) (G : Gp) :
    eB Γ xs joinBody [some fd, some (.int n), some md, some (.int b), some (.tup (rows.map rowD)), some (.int k), some (rowD r)] G = .nx [some fd, some (.int n), some md, some (.int b), some (.tup ((joinStep b (n + k) rows r).map rowD)), some (.int k), some (rowD r)] G := by
  have hadd := rows_add (rows := rows) (more := [r]) (by simp; omega) G
  have hlen : dLen (.tup (rows.map rowD)) G = .ok (.int rows.length) G := by simp
  have r0 := row_0 r G
  generalize ho : n + (k : Int) = o
  unfold joinStep
  by_cases c1 : (rows.length : Int) ≤ o
  · rw [if_pos c1]
    rw [List.map_cons, List.map_nil] at hadd
    generalize hR : D.tup (rows.map rowD) = RD at hadd hlen
    generalize hr : rowD r = rd at hadd r0
    simp [joinBody, b__law_joined, nthS, forBody, fLen, hlen, ho, c1, hadd]
  · rw [if_neg c1]
    by_cases c2 : b ≤ o
    · rw [if_pos c2]
      obtain ⟨x, hx, hix⟩ := row_ix (rows := rows) (o := o) (by omega) (by omega)
      rw [hx]
      simp only
      have hix := hix G
      have x0 := row_0 x G
      have hsl := rows_take (rows := rows) (o := o) (by omega) G
      have hadd2 := rows_add (rows := rows.take o.toNat) (more := [r]) (by simp; omega) G
      rw [List.map_cons, List.map_nil] at hadd2
      generalize hR : D.tup (rows.map rowD) = RD at hlen hix hsl
      generalize hr : rowD r = rd at hadd2 r0
      generalize rowD x = xd at hix x0
      generalize D.tup ((rows.take o.toNat).map rowD) = TD at hsl hadd2
      by_cases c3 : x.1 = r.1
      · rw [if_pos c3, hR]
        simp [joinBody, b__law_joined, nthS, forBody, fLen, hlen, ho, c1, c2, hix, x0, r0, eq_int, c3]
      · rw [if_neg c3]
        simp [joinBody, b__law_joined, nthS, forBody, fLen, hlen, ho, c1, c2, hix, x0, r0, eq_int, c3, hsl, hadd2]
    · rw [if_neg c2]
      generalize hR : D.tup (rows.map rowD) = RD at hlen
      simp [joinBody, b__law_joined, nthS, forBody, fLen, hlen, ho, c1, c2]
theorem K__law_joined {Γ : Fns} {xs : List Nat} : Cleans 4 (fnRun N__law_joined.length (eB Γ xs b__law_joined)) C__law_joined := by
  intro ds G hl hc hlt
  unfold C__law_joined
  split
  · rename_i fs n ms b
    split
    · rename_i f m hf hm
      split
      · rename_i hsz
        obtain rfl := rows_inv hf
        obtain rfl := rows_inv hm
        refine clr_ok ⟨[], ?_⟩ (Nat.le_refl _) hc (ltD_rows _)
        obtain ⟨⟨k, rows, more, w5, w6⟩, h1, h2⟩ := mFor_relT (α := Nat × List Rw × List Rw × Option D × Option D) (t := .tp [5, 6]) (it := eI Γ (.enum (.var 2))) (B := eB Γ xs joinBody) (s := ⟨enumD (m.map rowD), none⟩) (e := [some (.tup (f.map rowD)), some (.int n), some (.tup (m.map rowD)), some (.int b), some (.tup (f.map rowD)), none, none]) (G := G)
          (fun a => [some (.tup (f.map rowD)), some (.int n), some (.tup (m.map rowD)), some (.int b), some (.tup (a.2.1.map rowD)), a.2.2.2.1, a.2.2.2.2]) (fun _ => G) (fun a rest => rest = enumF (a.2.2.1.map rowD) a.1 ∧ joinGo b (n + a.1) a.2.1 a.2.2.1 = joinGo b n f m ∧ a.2.1.length + a.2.2.1.length ≤ 2000) (0, f, m, none, none) rfl (by simp [eI]) ⟨rfl, by simp, hsz.1⟩ (fun _ _ _ => rfl) (fun a d rest hq => by
            obtain ⟨k, rows, more, w5, w6⟩ := a
            obtain ⟨q1, q2, q3⟩ := hq
            cases more with
            | nil => rw [List.map_nil, enumF_nil] at q1; cases q1
            | cons r more =>
              rw [List.map_cons, enumF_cons] at q1
              obtain ⟨rfl, rfl⟩ := List.cons.inj q1
              simp only [List.length_cons] at q3
              have hb := join_body (Γ := Γ) (xs := xs) (fd := .tup (f.map rowD)) (md := .tup (m.map rowD)) (n := n) (b := b) (rows := rows) (r := r) (k := k) hsz.2.2 (by omega) G
              refine ⟨_, (k + 1, joinStep b (n + k) rows r, more, some (.int k), some (rowD r)), rfl, hb, rfl, ?_, ?_⟩
              · rw [← q2, joinGo]
                congr 1
                push_cast
                omega
              · have := joinStep_len b (n + k) rows r
                simp only
                omega)
        obtain ⟨q1, q2, q3⟩ := h2
        cases more with
        | cons r more => rw [List.map_cons, enumF_cons] at q1; cases q1
        | nil =>
          have hf : rows = joinGo b n f m := q2
          rw [hf] at h1
          have h1' : mFor (.tp [5, 6]) (eI Γ (.enum (.var 2))) (eB Γ xs (forBody (nthS b__law_joined 1))) [some (.tup (f.map rowD)), some (.int n), some (.tup (m.map rowD)), some (.int b), some (.tup (f.map rowD)), none, none] G = _ := h1
          simp only [b__law_joined, nthS, forBody] at h1'
          unfold fnRun b__law_joined
          rw [eB, eS]
          rw [seq_nx (e1 := [some (.tup (f.map rowD)), some (.int n), some (.tup (m.map rowD)), some (.int b), some (.tup (f.map rowD)), none, none]) (G1 := G) (by simp [startD, N__law_joined])]
          rw [eB, eS]
          rw [seq_nx h1']
          simp
      · trivial
    · trivial
  · trivial
theorem joined_eq {G : Gp} {f m : List Rw} {n b : Int} (h : f.length + m.length ≤ 2000 ∧ 0 ≤ n ∧ 0 ≤ b) : C__law_joined [.tup (f.map rowD), .int n, .tup (m.map rowD), .int b] G = .ok (.tup ((joinGo b n f m).map rowD)) G := by
  unfold C__law_joined
  dsimp only
  rw [rows_D, rows_D]
  simp only
  rw [if_pos h]
end Mm
namespace Mm
open PySem L2 Mw
open PyProof.Rows hiding St
theorem row_ahead {m : List Rw} {n : Int} (h1 : 0 < n) (h2 : n ≤ m.length) : ∃ x : Rw, x.1 = aheadOf m n ∧ ∀ G, dIx (.tup (m.map rowD)) (.int (n - 1)) G = .ok (rowD x) G := by
  obtain ⟨x, hx, hix⟩ := row_ix (rows := m) (o := n - 1) (by omega) (by omega)
  refine ⟨x, ?_, hix⟩
  unfold aheadOf
  rw [if_pos h1, hx]
  rfl
theorem joinR_ok {R m : List Rw} {s : Nat} {n : Int} (hR : HistOk R) (hm : HistOk m) : HistOk (joinR R m s n) ∧ (joinR R m s n).length ≤ max m.length R.length ∧ topOf (joinR R m s n) ≤ max (topOf m) (topOf R) := by
  unfold joinR
  split
  · exact ⟨hm, by omega, by omega⟩
  · have := (top_take hR (n.toNat + 3)).1
    exact ⟨hR.take _, by rw [List.length_take]; omega, by omega⟩
theorem joinR_len {R m : List Rw} {s : Nat} {n : Int} (h : Pre R m s) : s ≤ (joinR R m s n).length ∧ min (n.toNat + 3) R.length ≤ (joinR R m s n).length := by
  have := h.l2
  unfold joinR
  split
  · omega
  · rw [List.length_take]; omega
def Ev6 (ns : List Int) (w1 w2 w3 w4 w5 w6 w7 w8 w9 w10 w11 w12 : Option D) (RD MD : D) (s : Nat) : En := [some (.scr ns), w1, w2, w3, w4, w5, w6, w7, w8, w9, w10, w11, w12, some RD, some MD, some (.int s)]
theorem T_law_k06 {Γ : Fns} (h7 : Kn Γ 7 2 C__law_cell) (h14 : Kn Γ 14 1 C_is_paper) (h16 : Kn Γ 16 4 C__law_paper) (h32 : Kn Γ 32 2 C_heard) (h36 : Kn Γ 36 3 C__law_mix) (h39 : Kn Γ 39 2 C__law_two) (h40 : Kn Γ 40 4 C__law_joined) :
    ∀ ns : List Int, ns.length ≤ 63 → ∃ G, fnRun N_law_k06.length (eB Γ [0, 3, 4] b_law_k06) [.scr ns] [] = .ok (.bl true) G := by
  intro ns _
  have hcl : ∀ (k : Int) (G : Gp), 0 ≤ k → C__law_cell [.scr ns, .int k] G = .ok (.int (cell ns k)) G := fun k G h => if_pos h
  have T := two_all ns 0
  have e39 := two_eq (G := []) (ns := ns) (a := 0) (by decide)
  obtain ⟨s0, s1⟩ := twoS_bd ns 0
  obtain ⟨s, hs⟩ : ∃ s : Nat, twoS ns 0 = s := ⟨(twoS ns 0).toNat, by omega⟩
  rw [hs, Int.toNat_natCast] at T
  rw [hs] at e39 s1
  generalize twoR ns 0 = R at T e39 s1
  generalize twoM ns 0 = m at T e39
  obtain ⟨hP, hR, hm, lR, lm, tR, tm⟩ := T
  have l2 := hP.l2
  refine law_ret ?_
  unfold b_law_k06
  simp only [eB]
  rw [seq_nx (e1 := Ev6 ns none none none none none none none none none none none none (.tup (R.map rowD)) (.tup (m.map rowD)) s) (G1 := []) (by
    simp [startD, N_law_k06, h39.1, h39.2, e39, Ev6])]
  obtain ⟨k0, k1⟩ := mix_bd (cell ns 4) 9949 (show (0 : Int) < s + 1 by omega)
  have e4 := mix_eq (G := []) (c := cell ns 4) (p := 9949) (m := (s : Int) + 1) (by omega)
  generalize mixN (cell ns 4) 9949 ((s : Int) + 1) = k at k0 k1 e4
  rw [seq_nx (e1 := Ev6 ns (some (.int k)) none none none none none none none none none none none (.tup (R.map rowD)) (.tup (m.map rowD)) s) (G1 := []) (by
    simp [h7.1, h7.2, hcl, h36.1, h36.2, e4, Ev6])]
  obtain ⟨b0, b1⟩ := mix_bd (cell ns 5) 9941 (show (0 : Int) < k + 1 by omega)
  have e5 := mix_eq (G := []) (c := cell ns 5) (p := 9941) (m := k + 1) (by omega)
  generalize mixN (cell ns 5) 9941 (k + 1) = b at b0 b1 e5
  rw [seq_nx (e1 := Ev6 ns (some (.int k)) (some (.int b)) none none none none none none none none none none (.tup (R.map rowD)) (.tup (m.map rowD)) s) (G1 := []) (by
    simp [h7.1, h7.2, hcl, h36.1, h36.2, e5, Ev6])]
  rw [seq_nx (e1 := Ev6 ns (some (.int k)) (some (.int b)) (some (.int (topOf m))) none none none none none none none none none (.tup (R.map rowD)) (.tup (m.map rowD)) s) (G1 := []) (by
    have ht := top_expr (i := 14) (e := Ev6 ns (some (.int k)) (some (.int b)) none none none none none none none none none none (.tup (R.map rowD)) (.tup (m.map rowD)) s) (G := []) (m := m) rfl hm.keys
    simp only [eS]
    simp only [eP, Cop.f, Bop.f, pl, eA, eO]
    simp only [mAsg]
    rw [ht]
    rfl)]
  generalize hmo : cell ns 6 % 3 = mo
  have mo0 : 0 ≤ mo ∧ mo ≤ 2 := by omega
  have e16 := lpaper_eq (G := []) (m := m) (b := b) (k := k) (more := mo) b0 (by omega) (by omega) hm.keys
  rw [lawP_eq] at e16
  generalize ht0 : topOf m + mo = t0 at e16
  rw [seq_nx (e1 := Ev6 ns (some (.int k)) (some (.int b)) (some (.int (topOf m))) (some (ppD (lawP m b k t0))) none none none none none none none none (.tup (R.map rowD)) (.tup (m.map rowD)) s) (G1 := []) (by
    simp [h7.1, h7.2, hcl, dMod, hmo, h16.1, h16.2, e16, Ev6])]
  generalize hP0 : ppD (lawP m b k t0) = PD
  have tb := ahead_bd hm (b := 0) (Int.le_refl _) (by omega)
  have tbR := ahead_bd hR (b := 0) (Int.le_refl _) (by omega)
  generalize htR : (if R.isEmpty then 1 else topOf R) = tr
  have htr : topOf R ≤ tr ∧ 1 ≤ tr ∧ tr ≤ 21 := by
    rw [← htR]
    split
    · rename_i he
      rw [List.isEmpty_iff.mp he]
      decide
    · rename_i he
      have hne : R ≠ [] := fun h => he (by rw [h]; rfl)
      have hl : 0 < R.length := List.length_pos_iff.mpr hne
      have h3 := (ahead_bd hR (b := R.length) (by omega) (by omega)).2.2.1 (by omega)
      rw [ahead_top'] at h3
      omega
  generalize htm : max tr (topOf m) + cell ns 7 % 3 = t
  have ht : topOf R ≤ t ∧ topOf m ≤ t ∧ 1 ≤ t ∧ t ≤ 400 := by omega
  rw [seq_nx (e1 := Ev6 ns (some (.int k)) (some (.int b)) (some (.int (topOf m))) (some PD) (some (.int t)) none none none none none none none (.tup (R.map rowD)) (.tup (m.map rowD)) s) (G1 := []) (by
    have hx := top_expr1 (i := 13) (e := Ev6 ns (some (.int k)) (some (.int b)) (some (.int (topOf m))) (some PD) none none none none none none none none (.tup (R.map rowD)) (.tup (m.map rowD)) s) (G := []) (m := R) rfl hR.keys
    rw [htR] at hx
    simp only [eS]
    simp only [eP, Cop.f, Bop.f, pl, eA, eO, Blt.f]
    simp [-mIf, hx, fMax, h7.1, h7.2, hcl, dMod, Ev6, htm]
    simp [-mIf, Ev6] at hx
    simp [-mIf, hx, fMax, h7.1, h7.2, hcl, dMod, Ev6, htm])]
  obtain ⟨q0, q1⟩ := mix_bd (cell ns 8) 9931 (show (0 : Int) < R.length - k + 1 by omega)
  have e8 := mix_eq (G := []) (c := cell ns 8) (p := 9931) (m := (R.length : Int) - k + 1) (by omega)
  generalize hlk : k + mixN (cell ns 8) 9931 ((R.length : Int) - k + 1) = lk
  have hlkb : k ≤ lk ∧ lk ≤ R.length := by omega
  rw [seq_nx (e1 := Ev6 ns (some (.int k)) (some (.int b)) (some (.int (topOf m))) (some PD) (some (.int t)) (some (.int lk)) none none none none none none (.tup (R.map rowD)) (.tup (m.map rowD)) s) (G1 := []) (by
    simp [h7.1, h7.2, hcl, h36.1, h36.2, e8, Ev6, fLen, hlk])]
  obtain ⟨n0, n1⟩ := mix_bd (cell ns 9) 9929 (show (0 : Int) < R.length + 1 by omega)
  have e9 := mix_eq (G := []) (c := cell ns 9) (p := 9929) (m := (R.length : Int) + 1) (by omega)
  generalize mixN (cell ns 9) 9929 ((R.length : Int) + 1) = n at n0 n1 e9
  rw [seq_nx (e1 := Ev6 ns (some (.int k)) (some (.int b)) (some (.int (topOf m))) (some PD) (some (.int t)) (some (.int lk)) (some (.int n)) none none none none none (.tup (R.map rowD)) (.tup (m.map rowD)) s) (G1 := []) (by
    simp [h7.1, h7.2, hcl, h36.1, h36.2, e9, Ev6, fLen])]
  have hcut := cut_mid (ds := R.map rowD) n0
  generalize hmr : (R.drop n.toNat).take 3 = more
  have hml : more.length ≤ 3 := by rw [← hmr, List.length_take]; omega
  rw [← List.map_drop, ← List.map_take, hmr] at hcut
  rw [seq_nx (e1 := Ev6 ns (some (.int k)) (some (.int b)) (some (.int (topOf m))) (some PD) (some (.int t)) (some (.int lk)) (some (.int n)) (some (.tup (more.map rowD))) none none none none (.tup (R.map rowD)) (.tup (m.map rowD)) s) (G1 := []) (by
    simp [dSl, hcut, Ev6])]
  rw [seq_nx (e1 := Ev6 ns (some (.int k)) (some (.int b)) (some (.int (topOf m))) (some PD) (some (.int t)) (some (.int lk)) (some (.int n)) (some (.tup (more.map rowD))) (some (msgD (.rows t n (aheadOf R n) more lk))) none none none (.tup (R.map rowD)) (.tup (m.map rowD)) s) (G1 := []) (by
    have hx := ahead_expr (i := 13) (j := 7) (e := Ev6 ns (some (.int k)) (some (.int b)) (some (.int (topOf m))) (some PD) (some (.int t)) (some (.int lk)) (some (.int n)) (some (.tup (more.map rowD))) none none none none (.tup (R.map rowD)) (.tup (m.map rowD)) s) (G := []) rfl rfl (show n ≤ R.length by omega)
    simp only [eS]
    simp only [eP, Cop.f, Bop.f, pl, eA, eO]
    simp [-mIf, Ev6] at hx
    simp [-mIf, hx, Ev6, msgD])]
  have hMs := msg_rows_ok (t := t) (lk := lk) hR (by omega) n0 (by omega) ht.1 ht.2.2.1 (by omega) (by omega) (by omega) []
  rw [hmr] at hMs
  have hPap := lawP_paper (t := t0) hm (by omega) b0 (by omega) (show k ≤ m.length by omega) (by omega) (by omega) []
  have e32 := heard_eq hPap.2 hPap.1 hMs.2 hMs.1
  rw [hP0] at e32
  have pl0 := lawP_plain (m := m) (b := b) (k := k) (t := t0) hm
  have plt := lawP_plain (m := m) (b := b) (k := k) (t := t) hm
  have i0 : dIx PD (.int 0) [] = .ok (.int t0) [] := by rw [← hP0]; simp [ppD, ix_tup, lawP]
  have cut1 := pp_cut1 (lawP m b k t0) []
  have add1 := pp_add1 (lawP m b k t0) t []
  rw [hP0] at cut1
  rw [show ({ lawP m b k t0 with term := t } : Pp) = lawP m b k t from rfl] at add1
  generalize hTL : D.tup [.int (lawP m b k t0).base, .int (lawP m b k t0).ahead, .tup ((lawP m b k t0).things.map Mw.pairD), .tup ((lawP m b k t0).rows.map rowD), .int (lawP m b k t0).kept] = TL at cut1 add1
  have i3 : dIx (msgD (.rows t n (aheadOf R n) more lk)) (.int 3) [] = .ok (.int (aheadOf R n)) [] := by simp [msgD, ix_tup]
  generalize msgD (.rows t n (aheadOf R n) more lk) = MSG at e32 i3
  generalize hF : heardP (lawP m b k t0) (.rows t n (aheadOf R n) more lk) = F at e32
  rw [seq_nx (e1 := Ev6 ns (some (.int k)) (some (.int b)) (some (.int (topOf m))) (some PD) (some (.int t)) (some (.int lk)) (some (.int n)) (some (.tup (more.map rowD))) (some MSG) (some (heardD F)) none none (.tup (R.map rowD)) (.tup (m.map rowD)) s) (G1 := []) (by
    simp [h32.1, h32.2, e32, Ev6])]
  have s1' : PyData.strOk "old" = true := by decide +kernel
  have s2' : PyData.strOk "no" = true := by decide +kernel
  have s3' : PyData.strOk "have" = true := by decide +kernel
  by_cases c1 : t < t0
  · have hF' : F = (lawP m b k t0, ("old" : Str), t0, 0) := by
      rw [← hF]
      unfold heardP
      rw [if_pos (show msgT (.rows t n (aheadOf R n) more lk) < (lawP m b k t0).term from c1)]
      rfl
    have hpl := heard_plain (x := F) (by rw [hF']; exact pl0) (by rw [hF']; exact s1')
    have heq := eq_self (G := []) hpl
    have hD : heardD F = .tup [PD, .tup [.str "old", .int t0, .int 0]] := by rw [hF', ← hP0]; rfl
    generalize heardD F = FD at hpl heq hD
    refine ⟨[], ?_⟩
    have heq2 : dEq FD (.tup [PD, .tup [.str "old", .int t0, .int 0]]) [] = .ok true [] := by rw [← hD]; exact heq
    simp [Ev6, i0, c1, heq2]
  · rw [← hmr] at hF
    rw [heard_rows hP b0 (by omega) (by omega) n0 (by omega) (by omega), hmr] at hF
    rw [seq_nx (e1 := Ev6 ns (some (.int k)) (some (.int b)) (some (.int (topOf m))) (some PD) (some (.int t)) (some (.int lk)) (some (.int n)) (some (.tup (more.map rowD))) (some MSG) (some (heardD F)) none none (.tup (R.map rowD)) (.tup (m.map rowD)) s) (G1 := []) (by
      simp [i0, c1, Ev6])]
    have hlm : dLen (.tup (m.map rowD)) [] = .ok (.int m.length) [] := by simp
    by_cases c2 : (m.length : Int) < n
    · rw [if_pos c2] at hF
      have hpl := heard_plain (x := F) (by rw [← hF]; exact plt) (by rw [← hF]; exact s2')
      have heq := eq_self (G := []) hpl
      have hD : heardD F = .tup [ppD (lawP m b k t), .tup [.str "no", .int t, .int m.length]] := by rw [← hF]; rfl
      generalize heardD F = FD at hpl heq hD
      generalize ppD (lawP m b k t) = QD at add1 hD
      generalize D.tup (m.map rowD) = MD at hlm
      have heq2 : dEq FD (.tup [QD, .tup [.str "no", .int t, .int m.length]]) [] = .ok true [] := by rw [← hD]; exact heq
      refine ⟨[], ?_⟩
      simp [Ev6, fLen, hlm, c2, cut1, add1, heq2]
    · rw [if_neg c2] at hF
      rw [seq_nx (e1 := Ev6 ns (some (.int k)) (some (.int b)) (some (.int (topOf m))) (some PD) (some (.int t)) (some (.int lk)) (some (.int n)) (some (.tup (more.map rowD))) (some MSG) (some (heardD F)) none none (.tup (R.map rowD)) (.tup (m.map rowD)) s) (G1 := []) (by
        generalize D.tup (m.map rowD) = MD at hlm
        simp [fLen, hlm, c2, Ev6])]
      by_cases c3 : (s : Int) < n
      · rw [if_pos c3] at hF
        have hpl := heard_plain (x := F) (by rw [← hF]; exact plt) (by rw [← hF]; exact s2')
        have heq := eq_self (G := []) hpl
        have hD : heardD F = .tup [ppD (lawP m b k t), .tup [.str "no", .int t, .int (n - 1)]] := by rw [← hF]; rfl
        obtain ⟨x, hx, hix⟩ := row_ahead (m := m) (n := n) (by omega) (by omega)
        have x0 := row_0 x []
        have hne : ¬ (x.1 = aheadOf R n) := by rw [hx]; exact hP.aheadNe c3 (by omega) (by omega)
        have hix := hix []
        generalize heardD F = FD at hpl heq hD
        generalize ppD (lawP m b k t) = QD at add1 hD
        generalize D.tup (m.map rowD) = MD at hlm hix
        generalize rowD x = xd at hix x0
        have heq2 : dEq FD (.tup [QD, .tup [.str "no", .int t, .int (n - 1)]]) [] = .ok true [] := by rw [← hD]; exact heq
        have c4 : b ≤ n := by omega
        have c5 : 0 < n := by omega
        refine ⟨[], ?_⟩
        simp [Ev6, c4, c5, hix, x0, i3, eq_int, hne, cut1, add1, heq2]
      · rw [if_neg c3] at hF
        have hcond : eS Γ [0, 3, 4] (nthS b_law_k06 13) (Ev6 ns (some (.int k)) (some (.int b)) (some (.int (topOf m))) (some PD) (some (.int t)) (some (.int lk)) (some (.int n)) (some (.tup (more.map rowD))) (some MSG) (some (heardD F)) none none (.tup (R.map rowD)) (.tup (m.map rowD)) s) [] = .nx (Ev6 ns (some (.int k)) (some (.int b)) (some (.int (topOf m))) (some PD) (some (.int t)) (some (.int lk)) (some (.int n)) (some (.tup (more.map rowD))) (some MSG) (some (heardD F)) none none (.tup (R.map rowD)) (.tup (m.map rowD)) s) [] := by
          simp only [b_law_k06, nthS]
          generalize heardD F = FD
          by_cases c4 : b ≤ n
          · by_cases c5 : 0 < n
            · obtain ⟨x, hx, hix⟩ := row_ahead (m := m) (n := n) (by omega) (by omega)
              have x0 := row_0 x []
              have hne : x.1 = aheadOf R n := by rw [hx]; exact hP.ahead (by omega)
              have hix := hix []
              generalize D.tup (m.map rowD) = MD at hlm hix
              generalize rowD x = xd at hix x0
              simp [Ev6, c4, c5, hix, x0, i3, eq_int, hne]
            · simp [Ev6, c4, c5]
          · simp [Ev6, c4]
        simp only [b_law_k06, nthS] at hcond
        rw [seq_nx hcond]
        have hj := join_3 (b := b) hP (by omega) n0 (show n ≤ s by omega)
        rw [hmr] at hj
        have e40 := joined_eq (G := []) (f := m) (m := more) (n := n) (b := b) ⟨by omega, n0, b0⟩
        rw [hj] at e40
        obtain ⟨j1, j2, j3⟩ := joinR_ok (R := R) (m := m) (s := s) (n := n) hR hm
        obtain ⟨j4, j5⟩ := joinR_len (n := n) hP
        generalize hJ : joinR R m s n = mm at e40 j1 j2 j3 j4 j5 hF
        rw [seq_nx (e1 := Ev6 ns (some (.int k)) (some (.int b)) (some (.int (topOf m))) (some PD) (some (.int t)) (some (.int lk)) (some (.int n)) (some (.tup (more.map rowD))) (some MSG) (some (heardD F)) (some (.tup (mm.map rowD))) none (.tup (R.map rowD)) (.tup (m.map rowD)) s) (G1 := []) (by
          simp [Ev6, h40.1, h40.2, e40])]
        generalize hk' : max k (min lk (n + more.length)) = k' at hF
        have hc3 : more.length = min 3 (R.length - n.toNat) := by rw [← hmr, List.length_take, List.length_drop]
        have hk'b : b ≤ k' ∧ k' ≤ mm.length := by omega
        have e16b := lpaper_eq (G := []) (m := mm) (b := b) (k := k') (more := 0) b0 (by omega) (by omega) j1.keys
        rw [lawP_eq] at e16b
        rw [seq_nx (e1 := Ev6 ns (some (.int k)) (some (.int b)) (some (.int (topOf m))) (some PD) (some (.int t)) (some (.int lk)) (some (.int n)) (some (.tup (more.map rowD))) (some MSG) (some (heardD F)) (some (.tup (mm.map rowD))) (some (ppD (lawP mm b k' (topOf mm + 0)))) (.tup (R.map rowD)) (.tup (m.map rowD)) s) (G1 := []) (by
          simp only [Int.add_zero] at e16b ⊢
          simp [Ev6, fLen, fMax, fMin, hk', h16.1, h16.2, e16b])]
        have plm := lawP_plain (m := mm) (b := b) (k := k') (t := t) j1
        have hpl := heard_plain (x := F) (by rw [← hF]; exact plm) (by rw [← hF]; exact s3')
        have heq := eq_self (G := []) hpl
        have hD : heardD F = .tup [ppD (lawP mm b k' t), .tup [.str "have", .int t, .int (n + more.length)]] := by rw [← hF]; rfl
        have hpp := lawP_paper (t := t) j1 (by omega) b0 hk'b.1 hk'b.2 (by omega) (by omega) []
        have e14 := paper_eq hpp.2
        rw [hpp.1] at e14
        have cut1b := pp_cut1 (lawP mm b k' (topOf mm + 0)) []
        have add1b := pp_add1 (lawP mm b k' (topOf mm + 0)) t []
        rw [show ({ lawP mm b k' (topOf mm + 0) with term := t } : Pp) = lawP mm b k' t from rfl] at add1b
        generalize D.tup [.int (lawP mm b k' (topOf mm + 0)).base, .int (lawP mm b k' (topOf mm + 0)).ahead, .tup ((lawP mm b k' (topOf mm + 0)).things.map Mw.pairD), .tup ((lawP mm b k' (topOf mm + 0)).rows.map rowD), .int (lawP mm b k' (topOf mm + 0)).kept] = TL2 at cut1b add1b
        have fi0 : dIx (heardD F) (.int 0) [] = .ok (ppD (lawP mm b k' t)) [] := by rw [hD]; simp [ix_tup]
        have hlmo : dLen (.tup (more.map rowD)) [] = .ok (.int more.length) [] := by simp
        generalize heardD F = FD at hpl heq hD fi0
        generalize ppD (lawP mm b k' t) = QD at add1b hD e14 fi0
        generalize ppD (lawP mm b k' (topOf mm + 0)) = ND at cut1b
        have heq2 : dEq FD (.tup [QD, .tup [.str "have", .int t, .int (n + more.length)]]) [] = .ok true [] := by rw [← hD]; exact heq
        generalize D.tup (more.map rowD) = MoD at hlmo
        refine ⟨[], ?_⟩
        simp [Ev6, cut1b, add1b, fLen, hlmo, heq2, fi0, h14.1, h14.2, e14, dIs]
end Mm
namespace Mm
open PySem L2 Mw
open PyProof.Rows hiding St
theorem pp_cut15 (p : Pp) (G : Gp) : dSl (ppD p) (some 1) (some 5) G = .ok (.tup [.int p.base, .int p.ahead, .tup (p.things.map Mw.pairD), .tup (p.rows.map rowD)]) G := by
  show Mw.R.ok (D.tup (Mw.cutD _ (some 1) (some 5))) G = _
  rw [cut_ab (by decide) (by decide)]
  rfl
def Ev7 (ns : List Int) (w1 w2 w3 w4 w5 w6 w7 w8 w12 : Option D) (RD MD : D) (s : Nat) : En := [some (.scr ns), w1, w2, w3, w4, w5, w6, w7, w8, some RD, some MD, some (.int s), w12, none]
theorem T_law_k07 {Γ : Fns} (h7 : Kn Γ 7 2 C__law_cell) (h11 : Kn Γ 11 2 C__law_after) (h14 : Kn Γ 14 1 C_is_paper) (h16 : Kn Γ 16 4 C__law_paper) (h32 : Kn Γ 32 2 C_heard) (h36 : Kn Γ 36 3 C__law_mix) (h39 : Kn Γ 39 2 C__law_two) :
    ∀ ns : List Int, ns.length ≤ 63 → ∃ G, fnRun N_law_k07.length (eB Γ [0, 3, 4] b_law_k07) [.scr ns] [] = .ok (.bl true) G := by
  intro ns _
  have hcl : ∀ (k : Int) (G : Gp), 0 ≤ k → C__law_cell [.scr ns, .int k] G = .ok (.int (cell ns k)) G := fun k G h => if_pos h
  have T := two_all ns 0
  have e39 := two_eq (G := []) (ns := ns) (a := 0) (by decide)
  obtain ⟨s0, s1⟩ := twoS_bd ns 0
  obtain ⟨s, hs⟩ : ∃ s : Nat, twoS ns 0 = s := ⟨(twoS ns 0).toNat, by omega⟩
  rw [hs, Int.toNat_natCast] at T
  rw [hs] at e39 s1
  generalize twoR ns 0 = R at T e39 s1
  generalize twoM ns 0 = m at T e39
  obtain ⟨hP, hR, hm, lR, lm, tR, tm⟩ := T
  have l2 := hP.l2
  refine law_ret ?_
  unfold b_law_k07
  simp only [eB]
  rw [seq_nx (e1 := Ev7 ns none none none none none none none none none (.tup (R.map rowD)) (.tup (m.map rowD)) s) (G1 := []) (by
    simp [startD, N_law_k07, h39.1, h39.2, e39, Ev7])]
  have hne := eq_plain (G := []) (plain_rows hR.keys 17) (show plainD 20 (.tup []) = true from rfl)
  rw [beq_nil] at hne
  by_cases hRe : R = []
  · subst hRe
    simp only [List.map_nil] at hne ⊢
    refine ⟨[], ?_⟩
    simp at hne
    simp [Ev7, hne]
  have hie : R.isEmpty = false := by cases R with | nil => exact absurd rfl hRe | cons _ _ => rfl
  rw [hie] at hne
  have hl : 0 < R.length := List.length_pos_iff.mpr hRe
  have hlR : dLen (.tup (R.map rowD)) [] = .ok (.int R.length) [] := by simp
  rw [seq_nx (e1 := Ev7 ns none none none none none none none none none (.tup (R.map rowD)) (.tup (m.map rowD)) s) (G1 := []) (by
    generalize D.tup (R.map rowD) = RD at hne
    simp [Ev7, hne])]
  obtain ⟨n0, n1⟩ := mix_bd (cell ns 4) 9949 (show (0 : Int) < R.length by omega)
  have e4 := mix_eq (G := []) (c := cell ns 4) (p := 9949) (m := (R.length : Int)) (by omega)
  generalize hn : 1 + mixN (cell ns 4) 9949 (R.length : Int) = n
  have hnb : 0 < n ∧ n ≤ R.length := by omega
  rw [seq_nx (e1 := Ev7 ns (some (.int n)) none none none none none none none none (.tup (R.map rowD)) (.tup (m.map rowD)) s) (G1 := []) (by
    simp [h7.1, h7.2, hcl, h36.1, h36.2, e4, Ev7, fLen, hn])]
  obtain ⟨k0, k1⟩ := mix_bd (cell ns 5) 9941 (show (0 : Int) < s + 1 by omega)
  have e5 := mix_eq (G := []) (c := cell ns 5) (p := 9941) (m := (s : Int) + 1) (by omega)
  generalize mixN (cell ns 5) 9941 ((s : Int) + 1) = k at k0 k1 e5
  rw [seq_nx (e1 := Ev7 ns (some (.int n)) (some (.int k)) none none none none none none none (.tup (R.map rowD)) (.tup (m.map rowD)) s) (G1 := []) (by
    simp [h7.1, h7.2, hcl, h36.1, h36.2, e5, Ev7])]
  obtain ⟨b0, b1⟩ := mix_bd (cell ns 6) 9931 (show (0 : Int) < k + 1 by omega)
  have e6 := mix_eq (G := []) (c := cell ns 6) (p := 9931) (m := k + 1) (by omega)
  generalize mixN (cell ns 6) 9931 (k + 1) = b at b0 b1 e6
  rw [seq_nx (e1 := Ev7 ns (some (.int n)) (some (.int k)) (some (.int b)) none none none none none none (.tup (R.map rowD)) (.tup (m.map rowD)) s) (G1 := []) (by
    simp [h7.1, h7.2, hcl, h36.1, h36.2, e6, Ev7])]
  generalize hmo : cell ns 7 % 2 = mo
  have mo0 : 0 ≤ mo ∧ mo ≤ 1 := by omega
  have e16 := lpaper_eq (G := []) (m := m) (b := b) (k := k) (more := mo) b0 (by omega) (by omega) hm.keys
  rw [lawP_eq] at e16
  generalize ht0 : topOf m + mo = t0 at e16
  rw [seq_nx (e1 := Ev7 ns (some (.int n)) (some (.int k)) (some (.int b)) (some (ppD (lawP m b k t0))) none none none none none (.tup (R.map rowD)) (.tup (m.map rowD)) s) (G1 := []) (by
    simp [h7.1, h7.2, hcl, dMod, hmo, h16.1, h16.2, e16, Ev7])]
  generalize hP0 : ppD (lawP m b k t0) = PD
  have tb := ahead_bd hm (b := 0) (Int.le_refl _) (by omega)
  have tbR := ahead_bd hR (b := R.length) (by omega) (by omega)
  have tr1 := tbR.2.2.1 (by omega)
  rw [ahead_top'] at tr1
  generalize htm : max (topOf R) (topOf m) + cell ns 8 % 2 = t
  have ht : topOf R ≤ t ∧ topOf m ≤ t ∧ 1 ≤ t ∧ t ≤ 400 := by omega
  obtain ⟨z, hz⟩ : ∃ z, R.getLast? = some z := ⟨_, List.getLast?_eq_some_getLast hRe⟩
  have hlast : dIx (.tup (R.map rowD)) (.int (-1)) [] = .ok (rowD z) [] := by
    refine ix_tup ?_
    rw [atI_map, atI_last hRe, hz]
    rfl
  have hz1 : z.1 = topOf R := by unfold topOf; rw [hz]; rfl
  have z0 := row_0 z []
  rw [hz1] at z0
  rw [seq_nx (e1 := Ev7 ns (some (.int n)) (some (.int k)) (some (.int b)) (some PD) (some (.int t)) none none none none (.tup (R.map rowD)) (.tup (m.map rowD)) s) (G1 := []) (by
    have hx := top_expr (i := 10) (e := Ev7 ns (some (.int n)) (some (.int k)) (some (.int b)) (some PD) none none none none none (.tup (R.map rowD)) (.tup (m.map rowD)) s) (G := []) (m := m) rfl hm.keys
    simp only [eS]
    simp only [eP, Cop.f, Bop.f, pl, eA, eO, Blt.f]
    generalize D.tup (R.map rowD) = RD at hlast hx
    generalize rowD z = zd at hlast z0
    simp [-mIf, Ev7] at hx
    simp [-mIf, hx, fMax, h7.1, h7.2, hcl, dMod, Ev7, htm, hlast, z0])]
  obtain ⟨q0, q1⟩ := mix_bd (cell ns 9) 9929 (show (0 : Int) < R.length - n + 1 by omega)
  have e9 := mix_eq (G := []) (c := cell ns 9) (p := 9929) (m := (R.length : Int) - n + 1) (by omega)
  generalize hlk : n + mixN (cell ns 9) 9929 ((R.length : Int) - n + 1) = lk
  have hlkb : n ≤ lk ∧ lk ≤ R.length := by omega
  rw [seq_nx (e1 := Ev7 ns (some (.int n)) (some (.int k)) (some (.int b)) (some PD) (some (.int t)) (some (.int lk)) none none none (.tup (R.map rowD)) (.tup (m.map rowD)) s) (G1 := []) (by
    simp [h7.1, h7.2, hcl, h36.1, h36.2, e9, Ev7, fLen, hlk])]
  obtain ⟨J, hJ⟩ := rows_lc (i := 13) (it := miVal (mSl (mVar 9) none (some (mVar 1)))) (e := Ev7 ns (some (.int n)) (some (.int k)) (some (.int b)) (some PD) (some (.int t)) (some (.int lk)) none none none (.tup (R.map rowD)) (.tup (m.map rowD)) s) (G := []) (G1 := []) (m := R.take n.toNat) (by
    simp [dSl, cut_take (show 0 ≤ n by omega), List.map_take, Ev7]) (by rw [List.length_take]; omega) (by simp [Ev7])
  generalize has : (R.take n.toNat).map (·.2) = as at hJ
  have hA := laft_eq (G := [] ++ .lst (as.map ddD) :: J) (l := []) (d := .ref ([] : Gp).length) (as := as) (by simp [seqOf]) List.nodup_nil (by rw [← has, List.length_map, List.length_take]; simp; omega)
  simp only [List.map_nil, List.length_nil] at hA hJ
  have hT : sortKV (as.foldl app []) = thingsOf R n.toNat := by rw [← has]; rfl
  rw [hT] at hA
  generalize hG1 : ([] : Gp) ++ .lst (as.map ddD) :: J = G1 at hJ hA
  rw [seq_nx (e1 := Ev7 ns (some (.int n)) (some (.int k)) (some (.int b)) (some PD) (some (.int t)) (some (.int lk)) (some (.tup ((thingsOf R n.toNat).map Mw.pairD))) none none (.tup (R.map rowD)) (.tup (m.map rowD)) s) (G1 := G1) (by
    unfold Ev7 at hJ ⊢
    simp
    rw [hJ]
    simp [h11.1, h11.2, hA])]
  generalize hTh : D.tup ((thingsOf R n.toNat).map Mw.pairD) = th
  have hMs := msg_whole_ok (t := t) (lk := lk) hR (by omega) hnb.1 hnb.2 ht.1 (by omega) hlkb.1 (by omega) G1
  have hPap := lawP_paper (t := t0) hm (by omega) b0 (by omega) (show k ≤ m.length by omega) (by omega) (by omega) G1
  have e32 := heard_eq hPap.2 hPap.1 hMs.2 hMs.1
  rw [hP0] at e32
  have pl0 := lawP_plain (m := m) (b := b) (k := k) (t := t0) hm
  have i0 : dIx PD (.int 0) G1 = .ok (.int t0) G1 := by rw [← hP0]; simp [ppD, ix_tup, lawP]
  have cut15 := pp_cut15 (lawP m b k t0) G1
  rw [hP0] at cut15
  have hMD : msgD (.whole t n (aheadOf R n) (thingsOf R n.toNat) lk) = .tup [.str "whole", .int t, .int n, .int (aheadOf R n), th, .int lk] := by rw [← hTh]; rfl
  rw [hMD] at e32
  obtain ⟨x, hx, hix⟩ := row_ahead (m := R) (n := n) hnb.1 hnb.2
  have x0 := row_0 x G1
  rw [hx] at x0
  have hix := hix G1
  generalize hF : heardP (lawP m b k t0) (.whole t n (aheadOf R n) (thingsOf R n.toNat) lk) = F at e32
  rw [seq_nx (e1 := Ev7 ns (some (.int n)) (some (.int k)) (some (.int b)) (some PD) (some (.int t)) (some (.int lk)) (some th) (some (heardD F)) none (.tup (R.map rowD)) (.tup (m.map rowD)) s) (G1 := G1) (by
    generalize D.tup (R.map rowD) = RD at hix
    generalize rowD x = xd at hix x0
    simp [hix, x0, h32.1, h32.2, e32, Ev7])]
  have s1' : PyData.strOk "old" = true := by decide +kernel
  have s3' : PyData.strOk "have" = true := by decide +kernel
  by_cases c1 : t < t0
  · have hF' : F = (lawP m b k t0, ("old" : Str), t0, 0) := by
      rw [← hF]
      unfold heardP
      rw [if_pos (show msgT (.whole t n (aheadOf R n) (thingsOf R n.toNat) lk) < (lawP m b k t0).term from c1)]
      rfl
    have hpl := heard_plain (x := F) (by rw [hF']; exact pl0) (by rw [hF']; exact s1')
    have heq := eq_self (G := G1) hpl
    have hD : heardD F = .tup [PD, .tup [.str "old", .int t0, .int 0]] := by rw [hF', ← hP0]; rfl
    generalize heardD F = FD at hpl heq hD
    refine ⟨G1, ?_⟩
    have heq2 : dEq FD (.tup [PD, .tup [.str "old", .int t0, .int 0]]) G1 = .ok true G1 := by rw [← hD]; exact heq
    simp [Ev7, i0, c1, heq2]
  · rw [heard_whole hP b0 (by omega) (by omega) hnb.1 hnb.2 (by omega)] at hF
    rw [seq_nx (e1 := Ev7 ns (some (.int n)) (some (.int k)) (some (.int b)) (some PD) (some (.int t)) (some (.int lk)) (some th) (some (heardD F)) none (.tup (R.map rowD)) (.tup (m.map rowD)) s) (G1 := G1) (by
      simp [i0, c1, Ev7])]
    have hlm : dLen (.tup (m.map rowD)) G1 = .ok (.int m.length) G1 := by simp
    generalize hq : (if n ≤ (s : Int) then lawP m b (max k n) t else lawP (R.take n.toNat) n n t) = q at hF
    have hqp : plainD 19 (ppD q) = true ∧ isPaper (ppD q) = true ∧ okP G1 (ppD q) = true := by
      rw [← hq]
      split
      · have := lawP_paper (t := t) hm (by omega) b0 (by omega) (show max k n ≤ m.length by omega) (by omega) (by omega) G1
        exact ⟨lawP_plain hm, this.1, this.2⟩
      · have htt := (top_take hR n.toNat).1
        have hln : (R.take n.toNat).length = n.toNat := by rw [List.length_take]; omega
        have := lawP_paper (t := t) (b := n) (k := n) (hR.take n.toNat) (by omega) (by omega) (by omega) (by omega) (by omega) (by omega) G1
        exact ⟨lawP_plain (hR.take _), this.1, this.2⟩
    rw [seq_nx (e1 := Ev7 ns (some (.int n)) (some (.int k)) (some (.int b)) (some PD) (some (.int t)) (some (.int lk)) (some th) (some (heardD F)) (some (ppD q)) (.tup (R.map rowD)) (.tup (m.map rowD)) s) (G1 := G1) (by
      generalize heardD F = FD
      have hkeep : n ≤ (s : Int) → ppD q = .tup ([.int t, .int b, .int (aheadOf m b), .tup ((thingsOf m b.toNat).map Mw.pairD), .tup ((m.drop b.toNat).map rowD)] ++ [.int (max k n)]) := fun h => by
        rw [← hq, if_pos h]; rfl
      have cut15' : dSl PD (some 1) (some 5) G1 = .ok (.tup [.int b, .int (aheadOf m b), .tup ((thingsOf m b.toNat).map Mw.pairD), .tup ((m.drop b.toNat).map rowD)]) G1 := cut15
      have hd1 : dAdd (.tup [.int t]) (.tup [.int b, .int (aheadOf m b), .tup ((thingsOf m b.toNat).map Mw.pairD), .tup ((m.drop b.toNat).map rowD)]) G1 = .ok (.tup [.int t, .int b, .int (aheadOf m b), .tup ((thingsOf m b.toNat).map Mw.pairD), .tup ((m.drop b.toNat).map rowD)]) G1 := by rw [add_tup (by simp)]; rfl
      have hd2 : n ≤ (s : Int) → dAdd (.tup [.int t, .int b, .int (aheadOf m b), .tup ((thingsOf m b.toNat).map Mw.pairD), .tup ((m.drop b.toNat).map rowD)]) (.tup [.int (max k n)]) G1 = .ok (ppD q) G1 := fun h => by rw [hkeep h, add_tup (by simp)]
      generalize D.tup [.int b, .int (aheadOf m b), .tup ((thingsOf m b.toNat).map Mw.pairD), .tup ((m.drop b.toNat).map rowD)] = P15 at cut15' hd1
      generalize D.tup [.int t, .int b, .int (aheadOf m b), .tup ((thingsOf m b.toNat).map Mw.pairD), .tup ((m.drop b.toNat).map rowD)] = P05 at hd1 hd2
      have hoth : ¬ n ≤ (s : Int) → ppD q = .tup [.int t, .int n, .int (aheadOf R n), th, .tup [], .int n] := fun h => by
        rw [← hq, if_neg h, ← hTh]
        unfold lawP ppD
        rw [take_ahead R (by omega), take_things R (Nat.le_refl _), List.drop_of_length_le (by rw [List.length_take]; omega)]
        rfl
      by_cases c2 : n ≤ b
      · have hd2 := hd2 (by omega)
        generalize ppD q = QD at hd2
        simp [Ev7, c2, cut15', hd1, fMax, hd2]
      · by_cases c3 : n ≤ m.length
        · obtain ⟨y, hy, hiy⟩ := row_ahead (m := m) (n := n) hnb.1 c3
          have y0 := row_0 y G1
          have hiy := hiy G1
          by_cases c4 : n ≤ (s : Int)
          · have hyx : y.1 = aheadOf R n := by rw [hy]; exact hP.ahead c4
            rw [hyx] at y0
            have hd2 := hd2 c4
            generalize ppD q = QD at hd2
            generalize D.tup (m.map rowD) = MD at hlm hiy
            generalize D.tup (R.map rowD) = RD at hix
            generalize rowD x = xd at hix x0
            generalize rowD y = yd at hiy y0
            simp [Ev7, c2, fLen, hlm, c3, hiy, y0, hix, x0, eq_int, cut15', hd1, fMax, hd2]
          · have hyx : ¬ (y.1 = aheadOf R n) := by rw [hy]; exact hP.aheadNe (by omega) c3 hnb.2
            rw [hoth c4]
            generalize D.tup (m.map rowD) = MD at hlm hiy
            generalize D.tup (R.map rowD) = RD at hix
            generalize rowD x = xd at hix x0
            generalize rowD y = yd at hiy y0
            simp [Ev7, c2, fLen, hlm, c3, hiy, y0, hix, x0, eq_int, hyx]
        · rw [hoth (by omega)]
          generalize D.tup (m.map rowD) = MD at hlm
          generalize D.tup (R.map rowD) = RD at hix
          generalize rowD x = xd at hix x0
          simp [Ev7, c2, fLen, hlm, c3, hix, x0])]
    have hpl := heard_plain (x := F) (by rw [← hF]; exact hqp.1) (by rw [← hF]; exact s3')
    have heq := eq_self (G := G1) hpl
    have hD : heardD F = .tup [ppD q, .tup [.str "have", .int t, .int n]] := by rw [← hF]; rfl
    have e14 := paper_eq hqp.2.2
    rw [hqp.2.1] at e14
    have fi0 : dIx (heardD F) (.int 0) G1 = .ok (ppD q) G1 := by rw [hD]; simp [ix_tup]
    generalize heardD F = FD at hpl heq hD fi0
    generalize ppD q = QD at hD e14 fi0
    have heq2 : dEq FD (.tup [QD, .tup [.str "have", .int t, .int n]]) G1 = .ok true G1 := by rw [← hD]; exact heq
    refine ⟨G1, ?_⟩
    simp [Ev7, heq2, fi0, h14.1, h14.2, e14, dIs]
end Mm
namespace Mm
open PySem L2 Mw
open PyProof.Rows hiding St
theorem hist_snoc {R : List Rw} {t : Int} {d : Dd} (h : HistOk R) (h1 : 1 ≤ t) (h2 : topOf R ≤ t) (h3 : t ≤ 9000) (hd : GoodD d) : HistOk (R ++ [(t, d)]) ∧ topOf (R ++ [(t, d)]) = t := by
  refine ⟨⟨?_, fun r hr => ?_, fun r hr => ?_, fun r hr => ?_⟩, ?_⟩
  · rw [List.pairwise_append]
    refine ⟨h.pw, List.pairwise_singleton _ _, fun x hx y hy => ?_⟩
    rw [List.mem_singleton.mp hy]
    have := (drop_bd h (b := 0) (r := x) (by simpa using hx)).2
    dsimp only
    omega
  · rcases List.mem_append.mp hr with q | q
    · exact h.ge r q
    · rw [List.mem_singleton.mp q]; exact h1
  · rcases List.mem_append.mp hr with q | q
    · exact h.le r q
    · rw [List.mem_singleton.mp q]; dsimp only; omega
  · rcases List.mem_append.mp hr with q | q
    · exact h.good r q
    · rw [List.mem_singleton.mp q]; exact hd
  · unfold topOf
    rw [List.getLast?_append]
    rfl
def noD8 : D := .tup [.str "none"]
section
variable (n a k : Int) (mo : D)
def m1 : List D := [.tup [.str "row", .int 41, .int n, .int a, mo, .int k], .tup [.str "rows", .int 0, .int n, .int a, mo, .int k]]
def m2 : List D := [.tup [.str "rows", .bl true, .int n, .int a, mo, .int k], .tup [.str "rows", .int 41, .int (-1), .int a, mo, .int k]]
def m3 : List D := [.tup [.str "rows", .int 41, .non, .int a, mo, .int k], .tup [.str "rows", .int 41, .int 5, .int 0, mo, .int k], .tup [.str "rows", .int 41, .int 0, .int 1, mo, .int k]]
def m4 : List D := [.tup [.str "rows", .int 41, .int n, .int 42, mo, .int k], .tup [.str "rows", .int 41, .int n, .int a, mo, .int (-1)]]
def m5 (r : Nat) : List D := [.tup [.str "rows", .int 41, .int n, .int a, .ref r, .int k], .tup [.str "rows", .int 41, .int n, .int a, .non, .int k]]
def m6 : List D := [.tup [.str "rows", .int 9, .int 1, .int 1, .int 5, .int 1], .tup [.str "rows", .int 9, .int 0, .int 0, .tup [.tup [.int 1, noD8], .tup [.int 1, noD8], .tup [.int 1, noD8], .tup [.int 1, noD8]], .int 1], .tup [.str "rows", .int 9, .int 2, .int 4, .tup [.tup [.int 3, noD8]], .int 1]]
def m7 : List D := [.tup [.str "rows", .int 9, .int 0, .int 0, .tup [.tup [.int 10, noD8]], .int 1], .tup [.str "whole", .int 9, .int 0, .int 0, .tup [], .int 1], .tup [.str "whole", .int 9, .int 3, .int 1, .tup [], .int 2]]
def m8 : List D := [.tup [.str "whole", .int 9, .int 3, .int 1, .tup [.tup [.str "b", .int 1], .tup [.str "a", .int 1]], .int 3]]
def m9 (r : Nat) : List D := [.tup [.str "rows", .int 41, .int n, .int a, mo], .ref r, .non]
end
theorem msgs_ok {n a k : Int} {mo : D} {G : Gp} {r1 r2 : Nat} {x1 x2 : List D} (g1 : G[r1]? = some (.lst x1)) (g2 : G[r2]? = some (.lst x2)) (o1' : okTs G mo = true) (o2' : okRs G mo = true) :
    ∀ d ∈ m1 n a k mo ++ m2 n a k mo ++ m3 a k mo ++ m4 n a k mo ++ m5 n a k r1 ++ m6 ++ m7 ++ m8 ++ m9 n a mo r2, okM G d = true ∧ isMsg d = false := by
  intro d hd
  have s1 : okE G (.ref r1) = true := by simp [okE, seen, g1]
  have s2 : okE G (.ref r2) = true := by simp [okE, seen, g2]
  have ei : ∀ i, okE G (.int i) = true := fun _ => rfl
  have eb : okE G (.bl true) = true := rfl
  have en : okE G .non = true := rfl
  have e0 : okTs G (.tup []) = true := rfl
  have e00 : okRs G (.tup []) = true := rfl
  have et : okTs G .non = true := rfl
  have et2 : okRs G .non = true := rfl
  have er : okRs G (.ref r1) = true := s1
  have er2 : okTs G (.ref r1) = true := s1
  have ew : okE G (.str "rows") = true := okE_str (by decide +kernel)
  have ew2 : okE G (.str "whole") = true := okE_str (by decide +kernel)
  have ew3 : okE G (.str "row") = true := okE_str (by decide +kernel)
  have i5 : okTs G (.int 5) = true := rfl
  have i6 : okRs G (.int 5) = true := rfl
  have w1 : ¬ (Str.ofString "row" = Str.ofString "whole") := by decide +kernel
  have w2 : ¬ (Str.ofString "row" = Str.ofString "rows") := by decide +kernel
  have w3 := ne_rw
  simp only [m1, m2, m3, m4, m5, m6, m7, m8, m9, noD8, List.cons_append, List.nil_append, List.mem_cons, List.not_mem_nil, or_false] at hd
  rcases hd with rfl | rfl | rfl | rfl | rfl | rfl | rfl | rfl | rfl | rfl | rfl | rfl | rfl | rfl | rfl | rfl | rfl | rfl | rfl | rfl | rfl
  · exact ⟨by simp [okM, ei, o1', o2', ew3], by simp [isMsg, w1, w2]⟩
  · exact ⟨by simp [okM, ei, o1', o2', ew], by simp [isMsg, isWithin]⟩
  · exact ⟨by simp [okM, ei, eb, o1', o2', ew], by simp [isMsg, isWithin]⟩
  · exact ⟨by simp [okM, ei, o1', o2', ew], by simp [isMsg, isWithin]⟩
  · exact ⟨by simp [okM, ei, en, o1', o2', ew], by simp [isMsg, isWithin]⟩
  · exact ⟨by simp [okM, ei, o1', o2', ew], by simp [isMsg, intOf]⟩
  · exact ⟨by simp [okM, ei, o1', o2', ew], by simp [isMsg, intOf]⟩
  · exact ⟨by simp [okM, ei, o1', o2', ew], by simp [isMsg, intOf, isWithin]⟩
  · exact ⟨by simp [okM, ei, o1', o2', ew], by simp [isMsg, intOf, isWithin]⟩
  · exact ⟨by simp [okM, ei, er, er2, ew], by simp [isMsg, w3, areRows]⟩
  · exact ⟨by simp [okM, ei, et, et2, ew], by simp [isMsg, w3, areRows]⟩
  · exact ⟨by simp [okM, ei, i5, i6, ew], by simp [isMsg, w3, areRows]⟩
  · refine ⟨?_, by decide +kernel⟩
    have x1 : okTs G (.tup [.tup [.int 1, .tup [.str "none"]], .tup [.int 1, .tup [.str "none"]], .tup [.int 1, .tup [.str "none"]], .tup [.int 1, .tup [.str "none"]]]) = true := by simp [okTs, okT, okE, seen]
    have x2 : okRs G (.tup [.tup [.int 1, .tup [.str "none"]], .tup [.int 1, .tup [.str "none"]], .tup [.int 1, .tup [.str "none"]], .tup [.int 1, .tup [.str "none"]]]) = true := by simp [okRs, okOne, okT, okE, seen]; decide +kernel
    simp [okM, ei, x1, x2, ew]
  · refine ⟨?_, by decide +kernel⟩
    have x1 : okTs G (.tup [.tup [.int 3, .tup [.str "none"]]]) = true := by simp [okTs, okT, okE, seen]
    have x2 : okRs G (.tup [.tup [.int 3, .tup [.str "none"]]]) = true := by simp [okRs, okOne, okT, okE, seen]; decide +kernel
    simp [okM, ei, x1, x2, ew]
  · refine ⟨?_, by decide +kernel⟩
    have x1 : okTs G (.tup [.tup [.int 10, .tup [.str "none"]]]) = true := by simp [okTs, okT, okE, seen]
    have x2 : okRs G (.tup [.tup [.int 10, .tup [.str "none"]]]) = true := by simp [okRs, okOne, okT, okE, seen]; decide +kernel
    simp [okM, ei, x1, x2, ew]
  · exact ⟨by simp [okM, ei, e0, e00, ew2], by decide +kernel⟩
  · exact ⟨by simp [okM, ei, e0, e00, ew2], by decide +kernel⟩
  · refine ⟨?_, by decide +kernel⟩
    have x1 : okTs G (.tup [.tup [.str "b", .int 1], .tup [.str "a", .int 1]]) = true := by simp [okTs, okT, okE, seen]; decide +kernel
    have x2 : okRs G (.tup [.tup [.str "b", .int 1], .tup [.str "a", .int 1]]) = true := by simp [okRs, okOne, okT, okE, seen]; decide +kernel
    simp [okM, ei, x1, x2, ew2]
  · exact ⟨rfl, rfl⟩
  · exact ⟨s2, rfl⟩
  · exact ⟨rfl, rfl⟩
def Ev8 (ns : List Int) (w4 w5 w6 w7 : Option D) (RD P : D) (n a k : Int) (mo : D) : En := [some (.scr ns), some RD, some P, some (.int n), w4, w5, w6, w7, some (.str "rows"), some (.int 41), some (.int n), some (.int a), some mo, some (.int k)]
theorem T_law_k08 {Γ : Fns} (h7 : Kn Γ 7 2 C__law_cell) (h8 : Kn Γ 8 2 C__law_seed) (h15 : Kn Γ 15 2 C__law_history) (h16 : Kn Γ 16 4 C__law_paper) (h28 : Kn Γ 28 2 C_sent) (h32 : Kn Γ 32 2 C_heard) (h36 : Kn Γ 36 3 C__law_mix) :
    ∀ ns : List Int, ns.length ≤ 63 → ∃ G, fnRun N_law_k08.length (eB Γ [0, 3, 4, 5] b_law_k08) [.scr ns] [] = .ok (.bl true) G := by
  intro ns _
  have hcl : ∀ (k : Int) (G : Gp), 0 ≤ k → C__law_cell [.scr ns, .int k] G = .ok (.int (cell ns k)) G := fun k G h => if_pos h
  generalize hS : seedN (cell ns 0) 0 = S
  obtain ⟨hl0, hO0⟩ := hist10 S
  have ht0 := hist_top S
  have e15 := hist_eq (G := []) (s := S) (m := 10) (by decide)
  generalize hist S (histN S 10) = R0 at hl0 hO0 ht0 e15
  obtain ⟨hR, htop⟩ := hist_snoc (t := 40) (d := .non) hO0 (by decide) (by omega) (by decide) trivial
  have hadd := rows_add (rows := R0) (more := [(40, .non)]) (by simp; omega) []
  have hlen : (R0 ++ [((40 : Int), Dd.non)]).length = R0.length + 1 := by simp
  generalize hRv : R0 ++ [((40 : Int), Dd.non)] = R at hR htop hadd hlen
  have lR : R.length ≤ 11 := by omega
  rw [List.map_cons, List.map_nil, show rowD ((40 : Int), Dd.non) = .tup [.int 40, .tup [.str "none"]] from rfl] at hadd
  refine law_ret ?_
  unfold b_law_k08
  simp only [eB]
  rw [seq_nx (e1 := [some (.scr ns), some (.tup (R.map rowD)), none, none, none, none, none, none, none, none, none, none, none, none]) (G1 := []) (by
    simp [startD, N_law_k08, h7.1, h7.2, hcl, h8.1, h8.2, seed_eq, hS, h15.1, h15.2, e15, hadd])]
  have e16 := lpaper_eq (G := []) (m := R) (b := 0) (k := R.length) (more := 1) (by decide) (by omega) (by omega) hR.keys
  rw [lawP_eq, htop, show (40 : Int) + 1 = 41 by decide] at e16
  rw [seq_nx (e1 := [some (.scr ns), some (.tup (R.map rowD)), some (ppD (lawP R 0 R.length 41)), none, none, none, none, none, none, none, none, none, none, none]) (G1 := []) (by
    simp [fLen, h16.1, h16.2, e16])]
  obtain ⟨n0, n1⟩ := mix_bd (cell ns 1) 9949 (show (0 : Int) < R.length by omega)
  have e1 := mix_eq (G := []) (c := cell ns 1) (p := 9949) (m := (R.length : Int)) (by omega)
  generalize mixN (cell ns 1) 9949 (R.length : Int) = n at n0 n1 e1
  rw [seq_nx (e1 := [some (.scr ns), some (.tup (R.map rowD)), some (ppD (lawP R 0 R.length 41)), some (.int n), none, none, none, none, none, none, none, none, none, none]) (G1 := []) (by
    simp [h7.1, h7.2, hcl, fLen, h36.1, h36.2, e1])]
  have hPap : ∀ G, isPaper (ppD (lawP R 0 R.length 41)) = true ∧ okP G (ppD (lawP R 0 R.length 41)) = true := fun G => lawP_paper hR (by omega) (by decide) (by omega) (by omega) (by omega) (by omega) G
  have e28 := sent_eq (p := lawP R 0 R.length 41) (G := []) (n := n) (hPap []).2 (hPap []).1 n0 (by rw [lawP_len (by decide) (by omega)]; omega) (by show ¬ (41 : Int) = 0; decide)
  have hsD : sentD (lawP R 0 R.length 41) n = msgD (.rows 41 n (aheadOf R n) ((R.drop n.toNat).take 3) R.length) := by
    unfold sentD
    rw [if_neg (show ¬ n < (lawP R 0 R.length 41).base by show ¬ n < 0; omega)]
    unfold rowsD
    rw [lawP_term (by decide) n0 (by omega)]
    show D.tup [.str "rows", .int 41, .int n, .int (aheadOf R n), .tup ((((R.drop (0 : Int).toNat).drop (n - 0).toNat).take 3).map rowD), .int R.length] = _
    rw [List.drop_drop, show (0 : Int).toNat + (n - 0).toNat = n.toNat by omega]
    rfl
  rw [hsD] at e28
  have hMs := fun G => msg_rows_ok (t := 41) (lk := R.length) hR (by omega) n0 (by omega) (by omega) (by decide) (by decide) (by omega) (by omega) G
  generalize hfs : ((R.drop n.toNat).take 3).map rowD = fs
  have hmsg : msgD (.rows 41 n (aheadOf R n) ((R.drop n.toNat).take 3) R.length) = .tup [.str "rows", .int 41, .int n, .int (aheadOf R n), .tup fs, .int R.length] := by rw [← hfs]; rfl
  rw [hmsg] at e28 hMs
  have hoks : ∀ G, okTs G (.tup fs) = true ∧ okRs G (.tup fs) = true := fun G => by
    have h := (hMs G).2
    obtain ⟨_, h⟩ := ba (show (okE G (.str "rows") && (okE G (.int 41) && (okE G (.int n) && (okE G (.int (aheadOf R n)) && (okTs G (.tup fs) && (okRs G (.tup fs) && okE G (.int R.length))))))) = true from h)
    obtain ⟨_, h⟩ := ba h
    obtain ⟨_, h⟩ := ba h
    obtain ⟨_, h⟩ := ba h
    obtain ⟨h1, h⟩ := ba h
    exact ⟨h1, (ba h).1⟩
  generalize aheadOf R n = a at e28 hMs
  generalize hk : (R.length : Int) = k at e28 hMs hPap
  generalize ppD (lawP R 0 k 41) = P at e28 hPap
  generalize D.tup (R.map rowD) = RD
  rw [seq_nx (e1 := Ev8 ns none none none none RD P n a k (.tup fs)) (G1 := []) (by
    simp [h28.1, h28.2, e28, Ev8])]
  generalize hA1 : m1 n a k (.tup fs) = A1
  generalize hA2 : m2 n a k (.tup fs) = A2
  generalize hA3 : m3 a k (.tup fs) = A3
  generalize hA4 : m4 n a k (.tup fs) = A4
  generalize hA5 : m5 n a k 7 = A5
  generalize hA9 : m9 n a (.tup fs) 14 = A9
  have z1 : A1.length = 2 := by rw [← hA1]; rfl
  have z2 : A2.length = 2 := by rw [← hA2]; rfl
  have z3 : A3.length = 3 := by rw [← hA3]; rfl
  have z4 : A4.length = 2 := by rw [← hA4]; rfl
  have z5 : A5.length = 2 := by rw [← hA5]; rfl
  have z6 : m6.length = 3 := rfl
  have z7 : m7.length = 3 := rfl
  have z8 : m8.length = 1 := rfl
  have z9 : A9.length = 3 := by rw [← hA9]; rfl
  rw [seq_nx (e1 := Ev8 ns (some (.ref 0)) none none none RD P n a k (.tup fs)) (G1 := [.lst A1]) (by rw [← hA1]; simp [Ev8, m1])]
  rw [seq_nx (e1 := Ev8 ns (some (.ref 2)) none none none RD P n a k (.tup fs)) (G1 := [.lst A1, .lst A2, .lst (A1 ++ A2)]) (by rw [← hA2]; simp [Ev8, m2, dAdd, z1])]
  rw [seq_nx (e1 := Ev8 ns (some (.ref 4)) none none none RD P n a k (.tup fs)) (G1 := [.lst A1, .lst A2, .lst (A1 ++ A2), .lst A3, .lst (A1 ++ A2 ++ A3)]) (by rw [← hA3]; simp [Ev8, m3, dAdd, z1, z2])]
  rw [seq_nx (e1 := Ev8 ns (some (.ref 6)) none none none RD P n a k (.tup fs)) (G1 := [.lst A1, .lst A2, .lst (A1 ++ A2), .lst A3, .lst (A1 ++ A2 ++ A3), .lst A4, .lst (A1 ++ A2 ++ A3 ++ A4)]) (by rw [← hA4]; simp [Ev8, m4, dAdd, z1, z2, z3])]
  rw [seq_nx (e1 := Ev8 ns (some (.ref 9)) none none none RD P n a k (.tup fs)) (G1 := [.lst A1, .lst A2, .lst (A1 ++ A2), .lst A3, .lst (A1 ++ A2 ++ A3), .lst A4, .lst (A1 ++ A2 ++ A3 ++ A4), .lst fs, .lst A5, .lst (A1 ++ A2 ++ A3 ++ A4 ++ A5)]) (by rw [← hA5]; simp [Ev8, m5, dAdd, fList, z1, z2, z3, z4])]
  generalize hB : A1 ++ A2 ++ A3 ++ A4 ++ A5 = B
  have zB : B.length = 11 := by rw [← hB]; simp [z1, z2, z3, z4, z5]
  generalize A1 ++ A2 ++ A3 ++ A4 = W4
  generalize A1 ++ A2 ++ A3 = W3
  generalize A1 ++ A2 = W2
  rw [seq_nx (e1 := Ev8 ns (some (.ref 9)) (some noD8) none none RD P n a k (.tup fs)) (G1 := [.lst A1, .lst A2, .lst W2, .lst A3, .lst W3, .lst A4, .lst W4, .lst fs, .lst A5, .lst B]) (by simp [Ev8, noD8])]
  rw [seq_nx (e1 := Ev8 ns (some (.ref 11)) (some noD8) none none RD P n a k (.tup fs)) (G1 := [.lst A1, .lst A2, .lst W2, .lst A3, .lst W3, .lst A4, .lst W4, .lst fs, .lst A5, .lst B, .lst m6, .lst (B ++ m6)]) (by simp [Ev8, m6, dMul, dAdd, zB])]
  generalize hB6 : B ++ m6 = B6
  have zB6 : B6.length = 14 := by rw [← hB6]; simp [zB, z6]
  rw [seq_nx (e1 := Ev8 ns (some (.ref 13)) (some noD8) none none RD P n a k (.tup fs)) (G1 := [.lst A1, .lst A2, .lst W2, .lst A3, .lst W3, .lst A4, .lst W4, .lst fs, .lst A5, .lst B, .lst m6, .lst B6, .lst m7, .lst (B6 ++ m7)]) (by simp [Ev8, m7, dAdd, zB6])]
  generalize hB7 : B6 ++ m7 = B7
  have zB7 : B7.length = 17 := by rw [← hB7]; simp [zB6, z7]
  rw [seq_nx (e1 := Ev8 ns (some (.ref 13)) (some noD8) none none RD P n a k (.tup fs)) (G1 := [.lst A1, .lst A2, .lst W2, .lst A3, .lst W3, .lst A4, .lst W4, .lst fs, .lst A5, .lst B, .lst m6, .lst B6, .lst m7, .lst (B7 ++ m8)]) (by simp [Ev8, m8, isL, dApp, zB7])]
  generalize hB8 : B7 ++ m8 = B8
  have zB8 : B8.length = 18 := by rw [← hB8]; simp [zB7, z8]
  generalize hL : [D.str "rows", .int 41, .int n, .int a, .tup fs, .int k] = L
  rw [seq_nx (e1 := Ev8 ns (some (.ref 16)) (some noD8) none none RD P n a k (.tup fs)) (G1 := [.lst A1, .lst A2, .lst W2, .lst A3, .lst W3, .lst A4, .lst W4, .lst fs, .lst A5, .lst B, .lst m6, .lst B6, .lst m7, .lst B8, .lst L, .lst A9, .lst (B8 ++ A9)]) (by rw [← hA9, ← hL]; simp [Ev8, m9, dAdd, zB8])]
  generalize hB9 : B8 ++ A9 = B9
  have zB9 : B9.length = 21 := by rw [← hB9]; simp [zB8, z9]
  obtain ⟨d, hd, hdi⟩ := atI_mem B9 (cell ns 2 % 21) (by omega) (by rw [zB9]; show _ < (21 : Int); omega)
  rw [seq_nx (e1 := Ev8 ns (some (.ref 16)) (some noD8) (some (.ref 17)) none RD P n a k (.tup fs)) (G1 := [.lst A1, .lst A2, .lst W2, .lst A3, .lst W3, .lst A4, .lst W4, .lst fs, .lst A5, .lst B, .lst m6, .lst B6, .lst m7, .lst B8, .lst L, .lst A9, .lst B9] ++ [.lst []]) (by simp [Ev8])]
  generalize hG : ([.lst A1, .lst A2, .lst W2, .lst A3, .lst W3, .lst A4, .lst W4, .lst fs, .lst A5, .lst B, .lst m6, .lst B6, .lst m7, .lst B8, .lst L, .lst A9, .lst B9] : Gp) = G
  have gl : G.length = 17 := by rw [← hG]; rfl
  have hget : ∀ (i : Nat) (J : Gp), i < 17 → (G ++ J)[i]? = G[i]? := fun i J h => List.getElem?_append_left (by omega)
  have ok : ∀ J, okM (G ++ J) d = true ∧ isMsg d = false := fun J => by
    refine msgs_ok (n := n) (a := a) (k := k) (mo := .tup fs) (r1 := 7) (r2 := 14) (x1 := fs) (x2 := L) (by rw [hget _ _ (by decide), ← hG]; rfl) (by rw [hget _ _ (by decide), ← hG]; rfl) (hoks _).1 (hoks _).2 d ?_
    rw [hA1, hA2, hA3, hA4, hA5, hA9, hB, hB6, hB7, hB8, hB9]
    exact hd
  have gg : ∀ J, (G ++ J)[16]? = some (.lst B9) := fun J => by rw [hget _ _ (by decide), ← hG]; rfl
  have hix : ∀ J, dIx (.ref 16) (.int (cell ns 2 % 21)) (G ++ J) = .ok d (G ++ J) := fun J => ix_lst (gg J) hdi
  have x1 : ∀ J, C_heard [P, d] (G ++ J) = .exc 4 (G ++ J) := fun J => heard_badm (hPap (G ++ J)).2 (hPap (G ++ J)).1 (ok J).1 (ok J).2
  have x2 : ∀ J, C_heard [.tup [.int 1, .int 2, .int 3], d] (G ++ J) = .exc 3 (G ++ J) := fun J => heard_badp rfl rfl (ok J).1
  have g17 : ∀ o J, (G ++ o :: J)[17]? = some o := fun o J => by rw [← gl]; simp
  have set17 : ∀ o o' J, (G ++ o :: J).set 17 o' = G ++ o' :: J := fun o o' J => by rw [← gl]; simp
  rw [seq_nx (e1 := Ev8 ns (some (.ref 16)) (some noD8) (some (.ref 17)) (some (.int 1)) RD P n a k (.tup fs)) (G1 := G ++ [.lst [.str "message", .str "paper"]]) (by
    simp [Ev8, mFor, forGo, Src.still, rangeD, List.range_succ, mTry, hdGo, exSub, eq_int, h7.1, h7.2, hcl, dMod, hix, h32.1, h32.2, x1, x2, isL, dApp, g17, set17])]
  have o1 : PyData.strOk "message" = true := by decide +kernel
  have o2 : PyData.strOk "paper" = true := by decide +kernel
  have g18 : ∀ o o' J, (G ++ o :: o' :: J)[18]? = some o' := fun o o' J => by rw [show 18 = G.length + 1 by omega]; simp
  refine ⟨G ++ [.lst [.str "message", .str "paper"], .lst [.str "message", .str "paper"]], ?_⟩
  simp [Ev8, gl, dEq, py, g17, g18, o1, o2, PyData.eqv, PyData.eqvAll]
end Mm
namespace Mm
open PySem L2 Mw
open PyProof.Rows hiding St
theorem up_max {ts : List Int} {M : Int} (h : ∀ x ∈ ts, x ≤ M) : ∀ (n : Nat) (t : Int), upGo ts n t ≤ max t (M + 1)
  | 0, t => by rw [upGo]; omega
  | n + 1, t => by
    rw [upGo]
    split
    · rename_i c
      have h1 := h t c
      have := up_max h n (t + 1)
      omega
    · omega
theorem two_top {R : List Rw} {s : Nat} {c : Int} (hO : HistOk R) (ht : topOf R ≤ 21) : ∀ k, (twoGo R s c k).1 ≤ 22
  | 0 => by
    have := top_take hO s
    rw [twoGo]
    dsimp only
    split <;> omega
  | k + 1 => by
    have ih := two_top (s := s) (c := c) hO ht k
    have hd : ∀ (n : Nat), ∀ x ∈ (R.drop n).map (·.1), x ≤ 21 := fun n x hx => by
      obtain ⟨r, hr, rfl⟩ := List.mem_map.mp hx
      have := (drop_bd hO (b := n) (r := r) (by simpa using hr)).2
      omega
    rw [twoGo]
    unfold twoTop
    dsimp only
    have hu := up_max (hd s) 60 (if (twoGo R s c k).1 ∈ ((R.drop (s + k)).take 1).map (·.1) then (twoGo R s c k).1 + 1 else (twoGo R s c k).1)
    have hif : (if (twoGo R s c k).1 ∈ ((R.drop (s + k)).take 1).map (·.1) then (twoGo R s c k).1 + 1 else (twoGo R s c k).1) ≤ 22 := by
      split
      · rename_i hm
        obtain ⟨r, hr, he⟩ := List.mem_map.mp hm
        have := hd (s + k) r.1 (List.mem_map_of_mem (List.mem_of_mem_take hr))
        omega
      · exact ih
    omega
/-- the leader's rows with one more, whose term is greater than all -/
theorem two_more (ns : List Int) : ∃ R m : List Rw, ∃ s : Nat, twoR ns 0 = R ∧ twoM ns 0 = m ∧ twoS ns 0 = s ∧ Pre (R ++ [((30 : Int), Dd.non)]) m s ∧ HistOk (R ++ [((30 : Int), Dd.non)]) ∧ HistOk m ∧ R.length ≤ 10 ∧ m.length ≤ 14 ∧ topOf (R ++ [((30 : Int), Dd.non)]) = 30 ∧ topOf m ≤ 22 ∧ s ≤ R.length := by
  have T := two_all ns 0
  obtain ⟨s0, s1⟩ := twoS_bd ns 0
  have hO := T.hR
  have ht := T.tR
  obtain ⟨ex, e1, e2, e3, e4, e5⟩ := two_ok (s := (twoS ns 0).toNat) (c := cell ns (0 + 3)) T.hR T.lR (by omega) (by omega) (if 0 < cell ns (0 + 2) % 3 then (cell ns (0 + 3) % 5).toNat else 0)
  have h22 := two_top (s := (twoS ns 0).toNat) (c := cell ns (0 + 3)) hO ht (if 0 < cell ns (0 + 2) % 3 then (cell ns (0 + 3) % 5).toNat else 0)
  have hM : twoM ns 0 = (twoR ns 0).take (twoS ns 0).toNat ++ ex := e1
  obtain ⟨hR', htop⟩ := hist_snoc (t := 30) (d := .non) hO (by decide) (by omega) (by decide) trivial
  have hle : ∀ r ∈ twoM ns 0, r.1 ≤ 22 := fun r hr => by
    rw [hM] at hr
    rcases List.mem_append.mp hr with q | q
    · have := (drop_bd hO (b := 0) (r := r) (by simpa using List.mem_of_mem_take q)).2
      omega
    · have := (e4 r q).2.2.1
      omega
  refine ⟨twoR ns 0, twoM ns 0, (twoS ns 0).toNat, rfl, rfl, by omega, ⟨?_, T.pre.l2, ?_, fun a ha r hr => ?_⟩, hR', T.hm, T.lR, T.lm, htop, ?_, by omega⟩
  · have := T.pre.l1
    rw [List.length_append]
    omega
  · rw [T.pre.same, List.take_append_of_le_length T.pre.l1]
  · rw [List.drop_append_of_le_length T.pre.l1] at hr
    rcases List.mem_append.mp hr with q | q
    · exact T.pre.ne a ha r q
    · rw [List.mem_singleton.mp q]
      have := hle a (List.mem_of_mem_drop ha)
      dsimp only
      omega
  · by_cases he : twoM ns 0 = []
    · rw [he]; decide
    · unfold topOf
      rw [List.getLast?_eq_some_getLast he]
      exact hle _ (List.getLast_mem he)
theorem agree_law {R m : List Rw} {s : Nat} {B LK t b k t2 : Int} (hP : Pre R m s) (hR : HistOk R) (hm : HistOk m) (b0 : 0 ≤ b) (bk : b ≤ k) (ks : k ≤ s) (B0 : 0 ≤ B) (BK : B ≤ LK) (KL : LK ≤ R.length) : agreeB (lawP R B LK t) (lawP m b k t2) = true := by
  have l1 := hP.l1
  have l2 := hP.l2
  unfold agreeB
  show (if min LK k < max B b then true else D.beq (headD (lawP R B LK t) (max B b)) (headD (lawP m b k t2) (max B b)) && D.beq (restD (lawP R B LK t) (max B b) (min LK k)) (restD (lawP m b k t2) (max B b) (min LK k))) = true
  split
  · rfl
  · rename_i hlt
    generalize hlo : max B b = lo at hlt
    generalize hhi : min LK k = hi at hlt
    have h1 : headD (lawP R B LK t) lo = headD (lawP m b k t2) lo := by
      unfold headD
      rw [lawP_term B0 (by omega) (by omega), lawP_term b0 (by omega) (by omega), hP.ahead (by omega)]
      rw [lawP_eq2 R, lawP_eq2 m, lp_things hR B0 (by omega), lp_things hm b0 (by omega), hP.things (by omega)]
    have h2 : restD (lawP R B LK t) lo hi = restD (lawP m b k t2) lo hi := by
      show D.tup ((((R.drop B.toNat).drop (lo - B).toNat).take (hi - lo).toNat).map rowD) = D.tup ((((m.drop b.toNat).drop (lo - b).toNat).take (hi - lo).toNat).map rowD)
      rw [List.drop_drop, List.drop_drop, show B.toNat + (lo - B).toNat = lo.toNat by omega, show b.toNat + (lo - b).toNat = lo.toNat by omega]
      have e : ∀ l : List Rw, (l.drop lo.toNat).take (hi - lo).toNat = ((l.take s).drop lo.toNat).take (hi - lo).toNat := fun l => by
        rw [List.drop_take, List.take_take, Nat.min_eq_left (by omega)]
      rw [e R, e m, hP.same]
    rw [h1, h2, D.beq_self, D.beq_self]
    rfl
def sentM (R : List Rw) (B LK t n : Int) : Msg := if n < B then .whole t B (aheadOf R B) (thingsOf R B.toNat) LK else .rows t n (aheadOf R n) ((R.drop n.toNat).take 3) LK
theorem sent_msg {R : List Rw} {B LK t n : Int} (B0 : 0 ≤ B) (n1 : n ≤ R.length) : sentD (lawP R B LK t) n = msgD (sentM R B LK t n) := by
  unfold sentD sentM
  show (if n < B then wholeD (lawP R B LK t) else rowsD (lawP R B LK t) n) = _
  split
  · rfl
  · unfold rowsD
    rw [lawP_term B0 (by omega) n1]
    show D.tup [.str "rows", .int t, .int n, .int (aheadOf R n), .tup ((((R.drop B.toNat).drop (n - B).toNat).take 3).map rowD), .int LK] = _
    rw [List.drop_drop, show B.toNat + (n - B).toNat = n.toNat by omega]
    rfl
theorem sentM_ok {R : List Rw} {B LK t n : Int} (h : HistOk R) (hR : R.length ≤ 900) (n0 : 0 ≤ n) (n1 : n ≤ R.length) (t1 : topOf R ≤ t) (t2 : 1 ≤ t) (t3 : t ≤ 9000) (B0 : 0 ≤ B) (BK : B ≤ LK) (KL : LK ≤ R.length) (G : Gp) : isMsg (msgD (sentM R B LK t n)) = true ∧ okM G (msgD (sentM R B LK t n)) = true := by
  unfold sentM
  split
  · exact msg_whole_ok h hR (by omega) (by omega) t1 t3 BK (by omega) G
  · exact msg_rows_ok h hR n0 n1 t1 t2 t3 (by omega) (by omega) G
theorem lead_sent {R : List Rw} {B LK t n : Int} (h : HistOk R) (hR : R.length ≤ 900) (n0 : 0 ≤ n) (n1 : n ≤ R.length) (t1 : topOf R ≤ t) (t2 : 1 ≤ t) (t3 : t ≤ 9000) (B0 : 0 ≤ B) (BK : B ≤ LK) (KL : LK ≤ R.length) (G : Gp) : C_sent [ppD (lawP R B LK t), .int n] G = .ok (msgD (sentM R B LK t n)) G := by
  have hp := lawP_paper (t := t) h hR B0 BK KL t1 t3 G
  rw [sent_eq hp.2 hp.1 n0 (by rw [lawP_len B0 (by omega)]; exact n1) (by show ¬ t = 0; omega), sent_msg B0 n1]
structure Plc (R m : List Rw) (s : Nat) (b k t : Int) (LK T : Int) : Prop where
  pre : Pre R m s
  hm : HistOk m
  lm : m.length ≤ 50
  b0 : 0 ≤ b
  bk : b ≤ k
  ks : k ≤ s
  kl : k ≤ LK
  tm : topOf m ≤ t
  tt : t ≤ T
structure Led (R : List Rw) (B LK T : Int) : Prop where
  hR : HistOk R
  lR : R.length ≤ 50
  B0 : 0 ≤ B
  BK : B ≤ LK
  KL : LK ≤ R.length
  tR : topOf R ≤ T
  t1 : 1 ≤ T
  t2 : T ≤ 9000
/-- what comes of a message: the new paper of the place, and the answer -/
theorem hear_all {R m : List Rw} {s : Nat} {b k t B LK KX T n : Int} (L : Led R B LK T) (P : Plc R m s b k t KX T) (hk : LK ≤ KX) (n0 : 0 ≤ n) (n1 : n ≤ R.length) :
    ∃ (m' : List Rw) (s' : Nat) (b' k' : Int) (w : Str) (j : Int), heardP (lawP m b k t) (sentM R B LK T n) = (lawP m' b' k' T, w, T, j) ∧ Plc R m' s' b' k' T KX T ∧ k ≤ k' ∧ s ≤ s' ∧ ((m' = m ∧ s' = s) ∨ m' = R.take s') ∧
      ((n < B ∧ w = "have" ∧ j = B ∧ B ≤ s' ∧ k' = max k B) ∨
       (B ≤ n ∧ n ≤ s ∧ w = "have" ∧ j = n + min 3 (R.length - n) ∧ j ≤ s' ∧ k' = max k (min LK j) ∧ b' = b) ∨
       (B ≤ n ∧ (s : Int) < n ∧ n ≤ m.length ∧ w = "no" ∧ j = n - 1 ∧ m' = m ∧ s' = s ∧ k' = k ∧ b' = b) ∨
       (B ≤ n ∧ (m.length : Int) < n ∧ w = "no" ∧ j = m.length ∧ m' = m ∧ s' = s ∧ k' = k ∧ b' = b)) := by
  obtain ⟨hP, hm, lm, b0, bk, ks, kl, tm, tt⟩ := P
  obtain ⟨hR, lR, B0, BK, KL, tR, t1, t2⟩ := L
  have l1 := hP.l1
  have l2 := hP.l2
  unfold sentM
  by_cases c : n < B
  · rw [if_pos c, heard_whole hP b0 bk ks (by omega) (by omega) tt]
    by_cases c2 : B ≤ (s : Int)
    · rw [if_pos c2]
      exact ⟨m, s, b, max k B, "have", B, rfl, ⟨hP, hm, lm, b0, by omega, by omega, by omega, by omega, Int.le_refl _⟩, by omega, Nat.le_refl _, .inl ⟨rfl, rfl⟩, .inl ⟨c, rfl, rfl, c2, rfl⟩⟩
    · rw [if_neg c2]
      have htt := (top_take hR B.toNat).1
      refine ⟨R.take B.toNat, B.toNat, B, B, "have", B, rfl, ⟨pre_take R (by omega), hR.take _, by rw [List.length_take]; omega, B0, Int.le_refl _, by omega, by omega, by omega, Int.le_refl _⟩, by omega, by omega, .inr rfl, .inl ⟨c, rfl, rfl, by omega, by omega⟩⟩
  · rw [if_neg c, heard_rows hP b0 bk ks n0 n1 tt]
    have hc : (((R.drop n.toNat).take 3).length : Int) = min 3 (R.length - n) := by
      rw [List.length_take, List.length_drop]
      omega
    by_cases c1 : (m.length : Int) < n
    · rw [if_pos c1]
      exact ⟨m, s, b, k, "no", m.length, rfl, ⟨hP, hm, lm, b0, bk, ks, kl, by omega, Int.le_refl _⟩, Int.le_refl _, Nat.le_refl _, .inl ⟨rfl, rfl⟩, .inr (.inr (.inr ⟨by omega, c1, rfl, rfl, rfl, rfl, rfl, rfl⟩))⟩
    · rw [if_neg c1]
      by_cases c2 : (s : Int) < n
      · rw [if_pos c2]
        exact ⟨m, s, b, k, "no", n - 1, rfl, ⟨hP, hm, lm, b0, bk, ks, kl, by omega, Int.le_refl _⟩, Int.le_refl _, Nat.le_refl _, .inl ⟨rfl, rfl⟩, .inr (.inr (.inl ⟨by omega, c2, by omega, rfl, rfl, rfl, rfl, rfl, rfl⟩))⟩
      · rw [if_neg c2, hc]
        obtain ⟨s', g1, g2, g3, g4⟩ := joinR_pre (n := n) hP (by omega)
        obtain ⟨j1, j2, j3⟩ := joinR_ok (R := R) (m := m) (s := s) (n := n) hR hm
        refine ⟨joinR R m s n, s', b, max k (min LK (n + min 3 (R.length - n))), "have", n + min 3 (R.length - n), rfl, ⟨g3, j1, by omega, b0, by omega, by omega, by omega, by omega, Int.le_refl _⟩, by omega, g1, g4, .inr (.inl ⟨by omega, by omega, rfl, rfl, by omega, rfl, rfl⟩)⟩
end Mm
namespace Mm
open PySem L2 Mw
open PyProof.Rows hiding St
theorem forGo_fin {α : Type} {i : Nat} {B : MS0} {s : Src} {G : Gp} (E : α → Option D → En) (μ : α → Nat) (P : α → Prop) (hset : ∀ a w d, (E a w).set i (some d) = E a (some d)) (hst : s.still G = true)
    (hB : ∀ a d, P a → B (E a (some d)) G = .rt (.bl true) G ∨ ∃ a', B (E a (some d)) G = .nx (E a' (some d)) G ∧ P a' ∧ μ a' < μ a) : ∀ (ds : List D) (a : α) (w : Option D), P a → μ a < ds.length → forGo (.nm i) B s ds (E a w) G = .rt (.bl true) G
  | [], a, w, q, h => by simp at h
  | d :: ds, a, w, q, h => by
    rw [forGo]
    simp only [Tg.set]
    rw [hset]
    rcases hB a d q with h1 | ⟨a', h1, q1, h2⟩
    · rw [h1]
    · rw [h1]
      dsimp only
      rw [if_pos hst]
      rw [List.length_cons] at h
      exact forGo_fin E μ P hset hst hB ds a' (some d) q1 (by omega)
def Ev9 (ns : List Int) (RD LKD LD kD PD nD : D) (w7 : Option D) (MD sD : D) (w10 w11 : Option D) : En := [some (.scr ns), some RD, some LKD, some LD, some kD, some PD, some nD, w7, some MD, some sD, w10, w11]
def body9 : MB := forBody (nthS b_law_k09 7)
section
variable {Γ : Fns} {xs : List Nat} {ns : List Int} {RD LD kD PD X QD MD sD TH X2 : D} {LK n kp kq j : Int} {L : Nat} {w : Str} {w7 w10 w11 : Option D}
theorem k09_mid (h14 : Kn Γ 14 1 C_is_paper) (h27 : Kn Γ 27 2 C_agree) (h28 : Kn Γ 28 2 C_sent) (h32 : Kn Γ 32 2 C_heard)
    (e28 : C_sent [LD, .int n] [] = .ok X []) (e32 : C_heard [PD, X] [] = .ok (.tup [QD, .tup [.str w, .int 31, .int j]]) []) (p5 : dIx PD (.int 5) [] = .ok (.int kp) []) (q5 : dIx QD (.int 5) [] = .ok (.int kq) []) (hk : kp ≤ kq) (e27 : C_agree [LD, QD] [] = .ok (.bl true) []) (e14 : C_is_paper [QD] [] = .ok (.bl true) []) (hw : (w = "no" ∧ j < n) ∨ w = "have") :
    eB Γ xs body9 (Ev9 ns RD (.int LK) LD kD PD (.int n) w7 MD sD w10 w11) [] = mSeq (eS Γ xs (nthS body9 5)) mNext (Ev9 ns RD (.int LK) LD kD QD (.int j) w7 MD sD (some QD) (some (.tup [.str w, .int 31, .int j]))) [] := by
  have o1 : PyData.strOk "no" = true := by decide +kernel
  have o2 : PyData.strOk "have" = true := by decide +kernel
  have o3 : PyData.strOk "old" = true := by decide +kernel
  have ow : PyData.strOk w = true := by rcases hw with ⟨rfl, _⟩ | rfl <;> assumption
  have nhn : ¬ (Str.ofString "have" = Str.ofString "no") := by decide +kernel
  have nho : ¬ (Str.ofString "have" = Str.ofString "old") := by decide +kernel
  have nno : ¬ (Str.ofString "no" = Str.ofString "old") := by decide +kernel
  have hk' : ¬ kq < kp := by omega
  simp only [body9, b_law_k09, nthS, forBody, eB]
  rw [seq_nx (e1 := Ev9 ns RD (.int LK) LD kD PD (.int n) w7 MD sD (some QD) (some (.tup [.str w, .int 31, .int j]))) (G1 := []) (by
    simp [Ev9, h28.1, h28.2, e28, h32.1, h32.2, e32])]
  rw [seq_nx (e1 := Ev9 ns RD (.int LK) LD kD PD (.int n) w7 MD sD (some QD) (some (.tup [.str w, .int 31, .int j]))) (G1 := []) (by
    simp [Ev9, q5, p5, hk', h27.1, h27.2, e27, h14.1, h14.2, e14, dIs, ix_tup, eq_int])]
  rw [seq_nx (e1 := Ev9 ns RD (.int LK) LD kD PD (.int n) w7 MD sD (some QD) (some (.tup [.str w, .int 31, .int j]))) (G1 := []) (by
    rcases hw with ⟨rfl, hj⟩ | rfl
    · have hj' : ¬ n ≤ j := by omega
      simp [Ev9, ix_tup, eq_str o1 o1, eq_str o1 o3, hj', nno]
    · simp [Ev9, ix_tup, eq_str o2 o1, eq_str o2 o3, nhn, nho])]
  rw [seq_nx (e1 := Ev9 ns RD (.int LK) LD kD QD (.int n) w7 MD sD (some QD) (some (.tup [.str w, .int 31, .int j]))) (G1 := []) (by
    simp [Ev9])]
  rw [seq_nx (e1 := Ev9 ns RD (.int LK) LD kD QD (.int j) w7 MD sD (some QD) (some (.tup [.str w, .int 31, .int j]))) (G1 := []) (by
    simp [Ev9, ix_tup])]
theorem ans_eq (hw : w = "no" ∨ w = "have") : dEq (.tup [.str w, .int 31, .int j]) (.tup [.str "have", .int 31, .int L]) [] = .ok (decide (w = "have" ∧ j = L)) [] := by
  have o1 : PyData.strOk "no" = true := by decide +kernel
  have o2 : PyData.strOk "have" = true := by decide +kernel
  have ow : PyData.strOk w = true := by rcases hw with rfl | rfl <;> assumption
  rw [eq_plain (by show (plainD 19 (.str w) && (true && (true && true))) = true; rw [plain_str, ow]; rfl) (by show (plainD 19 (.str "have") && (true && (true && true))) = true; rw [plain_str, o2]; rfl)]
  congr 1
  simp only [D.beq, beqs]
  by_cases c1 : w = "have"
  · subst c1
    by_cases c2 : j = L
    · simp [c2]
    · simp [c2]
  · simp [c1]
theorem k09_nx (hl : dLen RD [] = .ok (.int L) []) (hw : w = "no" ∨ w = "have") (hno : ¬ (w = "have" ∧ j = L)) :
    mSeq (eS Γ xs (nthS body9 5)) mNext (Ev9 ns RD (.int LK) LD kD QD (.int j) w7 MD sD (some QD) (some (.tup [.str w, .int 31, .int j]))) [] = .nx (Ev9 ns RD (.int LK) LD kD QD (.int j) w7 MD sD (some QD) (some (.tup [.str w, .int 31, .int j]))) [] := by
  have he := ans_eq (L := L) (j := j) hw
  rw [decide_eq_false hno] at he
  generalize D.tup [.str w, .int 31, .int j] = AD at he
  simp only [body9, b_law_k09, nthS, forBody]
  simp [Ev9, fLen, hl, he]
theorem k09_rt (h23 : Kn Γ 23 1 C_last) (h25 : Kn Γ 25 1 C_things) (h28 : Kn Γ 28 2 C_sent) (h32 : Kn Γ 32 2 C_heard) (hl : dLen RD [] = .ok (.int L) []) (q5 : dIx QD (.int 5) [] = .ok (.int LK) [])
    (e23 : C_last [QD] [] = .ok (.tup [.int 30, .int L]) []) (e25 : C_things [QD] [] = .ok TH []) (e25b : C_things [LD] [] = .ok TH []) (hTH : dEq TH TH [] = .ok true []) (e28 : C_sent [LD, .int L] [] = .ok X2 []) (e32 : C_heard [QD, X2] [] = .ok (.tup [QD, .tup [.str "have", .int 31, .int L]]) []) (hpl : plainD 20 (.tup [QD, .tup [.str "have", .int 31, .int L]]) = true) :
    mSeq (eS Γ xs (nthS body9 5)) mNext (Ev9 ns RD (.int LK) LD kD QD (.int L) w7 MD sD (some QD) (some (.tup [.str "have", .int 31, .int L]))) [] = .rt (.bl true) [] := by
  have he := ans_eq (L := L) (j := L) (w := "have") (.inr rfl)
  rw [decide_eq_true ⟨rfl, rfl⟩] at he
  have h30 : dEq (.tup [.int 30, .int L]) (.tup [.int 30, .int L]) [] = .ok true [] := eq_self rfl
  have heq := eq_self (G := []) hpl
  simp only [body9, b_law_k09, nthS, forBody]
  simp [Ev9, fLen, hl, he, h23.1, h23.2, e23, h30, h25.1, h25.2, e25, e25b, hTH, q5, eq_int, h28.1, h28.2, e28, h32.1, h32.2, e32, heq]
end
end Mm
namespace Mm
open PySem L2 Mw
open PyProof.Rows hiding St
structure S9 where
  m : List Rw
  s : Nat
  b : Int
  k : Int
  t : Int
  n : Int
  w10 : Option D
  w11 : Option D
def mu9 (B L : Int) (a : S9) : Nat := (if a.n < B then L + 2 else if a.n ≤ a.s then L - a.n + 1 else if a.n ≤ a.m.length then L + 2 + (a.n - a.s) else L + 3 + (a.m.length - a.s)).toNat
theorem lawP_small {m : List Rw} {b k t n : Int} (h : HistOk m) (hl : m.length ≤ 900) : small? (lawP m b k t) n = true := by rw [lawP_eq2]; exact lp_small h hl
theorem end_things {m : List Rw} {b k t : Int} (h : HistOk m) (hl : m.length ≤ 900) (b0 : 0 ≤ b) (bk : b ≤ k) (km : k ≤ m.length) (t1 : topOf m ≤ t) (t2 : t ≤ 9000) (G : Gp) : C_things [ppD (lawP m b k t)] G = .ok (.tup ((thingsOf m k.toNat).map Mw.pairD)) G := by
  have hp := lawP_paper (t := t) h hl b0 bk km t1 t2 G
  refine lookC_eq hp.2 hp.1 ?_
  show (if small? (lawP m b k t) k = true then some (D.tup ((thingsP (lawP m b k t) k).map Mw.pairD)) else none) = _
  rw [if_pos (lawP_small h hl), lawP_eq2, lp_things h b0 bk]
theorem end_last {m : List Rw} {b k t : Int} (h : HistOk m) (hl : m.length ≤ 900) (b0 : 0 ≤ b) (bk : b ≤ k) (km : k ≤ m.length) (t1 : topOf m ≤ t) (t2 : t ≤ 9000) (G : Gp) : C_last [ppD (lawP m b k t)] G = .ok (.tup [.int (topOf m), .int m.length]) G := by
  have hp := lawP_paper (t := t) h hl b0 bk km t1 t2 G
  refine lookC_eq hp.2 hp.1 ?_
  rw [lawP_len b0 (by omega), lawP_term b0 (by omega) (Int.le_refl _), ahead_top']
  rfl
theorem end_length {m : List Rw} {b k t : Int} (h : HistOk m) (hl : m.length ≤ 900) (b0 : 0 ≤ b) (bk : b ≤ k) (km : k ≤ m.length) (t1 : topOf m ≤ t) (t2 : t ≤ 9000) (G : Gp) : C_length [ppD (lawP m b k t)] G = .ok (.int m.length) G := by
  have hp := lawP_paper (t := t) h hl b0 bk km t1 t2 G
  refine lookC_eq hp.2 hp.1 ?_
  rw [lawP_len b0 (by omega)]
theorem lawP_5 {m : List Rw} {b k t : Int} (G : Gp) : dIx (ppD (lawP m b k t)) (.int 5) G = .ok (.int k) G := by simp [ppD, lawP, dIx, atI, ixN]
theorem k09_step {Γ : Fns} {xs : List Nat} (h14 : Kn Γ 14 1 C_is_paper) (h23 : Kn Γ 23 1 C_last) (h25 : Kn Γ 25 1 C_things) (h27 : Kn Γ 27 2 C_agree) (h28 : Kn Γ 28 2 C_sent) (h32 : Kn Γ 32 2 C_heard) {ns : List Int} {kD MD sD : D} {R m0 : List Rw} {s0 : Nat} {B LK : Int} (Ld : Led R B LK 31) (htop : topOf R = 30) (hs0 : s0 < R.length) (a : S9) (d : D)
    (hP : Plc R a.m a.s a.b a.k a.t LK 31) (n0 : 0 ≤ a.n) (n1 : a.n ≤ R.length) (hor : (a.m = m0 ∧ a.s = s0) ∨ a.m = R.take a.s) :
    eB Γ xs body9 (Ev9 ns (.tup (R.map rowD)) (.int LK) (ppD (lawP R B LK 31)) kD (ppD (lawP a.m a.b a.k a.t)) (.int a.n) (some d) MD sD a.w10 a.w11) [] = .rt (.bl true) [] ∨
    ∃ a' : S9, eB Γ xs body9 (Ev9 ns (.tup (R.map rowD)) (.int LK) (ppD (lawP R B LK 31)) kD (ppD (lawP a.m a.b a.k a.t)) (.int a.n) (some d) MD sD a.w10 a.w11) [] = .nx (Ev9 ns (.tup (R.map rowD)) (.int LK) (ppD (lawP R B LK 31)) kD (ppD (lawP a'.m a'.b a'.k a'.t)) (.int a'.n) (some d) MD sD a'.w10 a'.w11) [] ∧
      (Plc R a'.m a'.s a'.b a'.k a'.t LK 31 ∧ 0 ≤ a'.n ∧ a'.n ≤ R.length ∧ ((a'.m = m0 ∧ a'.s = s0) ∨ a'.m = R.take a'.s)) ∧ mu9 B R.length a' < mu9 B R.length a := by
  obtain ⟨m, s, b, k, t, n, w10, w11⟩ := a
  simp only at hP n0 n1 hor ⊢
  have nhn : ¬ (Str.ofString "no" = Str.ofString "have") := by decide +kernel
  obtain ⟨m', s', b', k', w, j, hh, hP', kk, ss, hor2, hc⟩ := hear_all Ld hP (Int.le_refl _) n0 n1
  have lR := Ld.lR
  have e28 := lead_sent (n := n) Ld.hR (by omega) n0 n1 Ld.tR Ld.t1 Ld.t2 Ld.B0 Ld.BK Ld.KL []
  have hMs := sentM_ok (n := n) Ld.hR (by omega) n0 n1 Ld.tR Ld.t1 Ld.t2 Ld.B0 Ld.BK Ld.KL []
  have pl1 := hP.pre.l1
  have pl2 := hP.pre.l2
  have pl1' := hP'.pre.l1
  have pl2' := hP'.pre.l2
  have plm := hP.lm
  have plm' := hP'.lm
  have ks := hP.ks
  have ks' := hP'.ks
  have hp := lawP_paper (t := t) hP.hm (by omega) hP.b0 hP.bk (by omega) hP.tm (by have := hP.tt; omega) []
  have hp' := lawP_paper (t := 31) hP'.hm (by omega) hP'.b0 hP'.bk (by omega) hP'.tm (by decide) []
  have hpL := lawP_paper (t := 31) Ld.hR (by omega) Ld.B0 Ld.BK Ld.KL Ld.tR (by decide) []
  have e32 := heard_eq hp.2 hp.1 hMs.2 hMs.1
  rw [hh, show heardD (lawP m' b' k' 31, w, 31, j) = .tup [ppD (lawP m' b' k' 31), .tup [.str w, .int 31, .int j]] from rfl] at e32
  have e27 := agree_eq hpL.2 hpL.1 hp'.2 hp'.1 (lawP_small Ld.hR (by omega)) (lawP_small hP'.hm (by omega))
  rw [agree_law hP'.pre Ld.hR hP'.hm hP'.b0 hP'.bk hP'.ks Ld.B0 Ld.BK Ld.KL] at e27
  have e14 := paper_eq hp'.2
  rw [hp'.1] at e14
  have hlen : dLen (.tup (R.map rowD)) [] = .ok (.int R.length) [] := by simp
  have hw : (w = "no" ∧ j < n) ∨ w = "have" := by
    rcases hc with h | h | h | h
    · exact .inr h.2.1
    · exact .inr h.2.2.1
    · exact .inl ⟨h.2.2.2.1, by omega⟩
    · exact .inl ⟨h.2.2.1, by omega⟩
  rw [k09_mid (kp := k) (kq := k') h14 h27 h28 h32 e28 e32 (lawP_5 []) (lawP_5 []) kk e27 e14 hw]
  by_cases hfin : w = "have" ∧ j = R.length
  · left
    obtain ⟨rfl, rfl⟩ := hfin
    have hsL : s' = R.length ∧ k' = LK := by
      have := hP'.kl
      have := Ld.KL
      have := Ld.BK
      rcases hc with h | h | h | h
      · obtain ⟨h1, h2, h3, h4, h5⟩ := h
        omega
      · obtain ⟨h1, h2, h3, h4, h5, h6, h7⟩ := h
        omega
      · exact absurd h.2.2.2.1.symm nhn
      · exact absurd h.2.2.1.symm nhn
    have hmR : m' = R := by
      rcases hor2 with ⟨h1, h2⟩ | h
      · rcases hor with ⟨h3, h4⟩ | h
        · omega
        · rw [h1, h, ← h2, hsL.1, List.take_length]
      · rw [h, hsL.1, List.take_length]
    have hk' := hsL.2
    subst hmR
    subst hk'
    have e23 := end_last (t := 31) (b := b') (k := k') Ld.hR (by omega) hP'.b0 hP'.bk (by omega) Ld.tR (by decide) []
    rw [htop] at e23
    have e25 := end_things (t := 31) (b := b') (k := k') Ld.hR (by omega) hP'.b0 hP'.bk (by omega) Ld.tR (by decide) []
    have e25b := end_things (t := 31) (b := B) (k := k') Ld.hR (by omega) Ld.B0 Ld.BK (by omega) Ld.tR (by decide) []
    have hTH := eq_self (G := []) (plain_things (thingsOf_good Ld.hR k'.toNat) 18)
    have e28b := lead_sent (n := m'.length) Ld.hR (by omega) (by omega) (Int.le_refl _) Ld.tR Ld.t1 Ld.t2 Ld.B0 Ld.BK Ld.KL []
    have hMsb := sentM_ok (n := m'.length) Ld.hR (by omega) (by omega) (Int.le_refl _) Ld.tR Ld.t1 Ld.t2 Ld.B0 Ld.BK Ld.KL []
    have e32b := heard_eq hp'.2 hp'.1 hMsb.2 hMsb.1
    have hpre : Pre m' m' m'.length := by
      have := pre_take m' (Nat.le_refl m'.length)
      rw [List.take_length] at this
      exact this
    have hhb : heardP (lawP m' b' k' 31) (sentM m' B k' 31 m'.length) = (lawP m' b' k' 31, ("have" : Str), 31, (m'.length : Int)) := by
      unfold sentM
      have := Ld.KL
      have := Ld.BK
      rw [if_neg (by omega), heard_rows hpre hP'.b0 hP'.bk (by omega) (by omega) (Int.le_refl _) (Int.le_refl _), if_neg (by omega), if_neg (by omega)]
      have e0 : ((m'.drop (m'.length : Int).toNat).take 3).length = 0 := by rw [Int.toNat_natCast, List.drop_length]; rfl
      rw [e0]
      unfold joinR
      rw [if_pos (by omega), show max k' (min k' ((m'.length : Int) + ((0 : Nat) : Int))) = k' by omega, show (m'.length : Int) + ((0 : Nat) : Int) = m'.length by omega]
    rw [hhb, show heardD (lawP m' b' k' 31, ("have" : Str), 31, (m'.length : Int)) = .tup [ppD (lawP m' b' k' 31), .tup [.str "have", .int 31, .int m'.length]] from rfl] at e32b
    have hpl := heard_plain (x := (lawP m' b' k' 31, ("have" : Str), 31, (m'.length : Int))) (lawP_plain Ld.hR) (show PyData.strOk "have" = true by decide +kernel)
    exact k09_rt h23 h25 h28 h32 hlen (lawP_5 []) e23 e25 e25b hTH e28b e32b hpl
  · right
    rw [k09_nx hlen (by rcases hw with h | h; exact .inl h.1; exact .inr h) hfin]
    refine ⟨⟨m', s', b', k', 31, j, _, _⟩, rfl, ⟨hP', ?_, ?_, ?_⟩, ?_⟩
    · have := Ld.B0
      rcases hc with h | h | h | h <;> (dsimp only; omega)
    · have := Ld.KL
      have := Ld.BK
      rcases hc with h | h | h | h <;> (dsimp only; omega)
    · rcases hor2 with ⟨h1, h2⟩ | h
      · dsimp only
        rw [h1, h2]
        exact hor
      · exact .inr h
    · have := Ld.B0
      have := Ld.KL
      have := Ld.BK
      unfold mu9
      dsimp only
      rcases hc with h | h | h | h
      · obtain ⟨h1, h2, h3, h4, h5⟩ := h
        rw [if_pos h1, if_neg (by omega), if_pos (by omega)]
        omega
      · obtain ⟨h1, h2, h3, h4, h5, h6, h7⟩ := h
        have hjL : ¬ j = R.length := fun e => hfin ⟨h3, e⟩
        rw [if_neg (by omega), if_pos (by omega), if_neg (by omega), if_pos h2]
        omega
      · obtain ⟨h1, h2, h3, h4, h5, h6, h7, h8, h9⟩ := h
        subst h6 h7
        rw [if_neg (show ¬ n < B by omega), if_neg (show ¬ n ≤ (s' : Int) by omega), if_pos h3]
        split
        · omega
        · split
          · omega
          · split <;> omega
      · obtain ⟨h1, h2, h4, h5, h6, h7, h8, h9⟩ := h
        subst h6 h7
        rw [if_neg (show ¬ n < B by omega), if_neg (show ¬ n ≤ (s' : Int) by omega), if_neg (show ¬ n ≤ (m'.length : Int) by omega)]
        split
        · omega
        · split
          · omega
          · split <;> omega
theorem T_law_k09 {Γ : Fns} (h7 : Kn Γ 7 2 C__law_cell) (h14 : Kn Γ 14 1 C_is_paper) (h16 : Kn Γ 16 4 C__law_paper) (h23 : Kn Γ 23 1 C_last) (h25 : Kn Γ 25 1 C_things) (h27 : Kn Γ 27 2 C_agree) (h28 : Kn Γ 28 2 C_sent) (h32 : Kn Γ 32 2 C_heard) (h36 : Kn Γ 36 3 C__law_mix) (h39 : Kn Γ 39 2 C__law_two) :
    ∀ ns : List Int, ns.length ≤ 63 → ∃ G, fnRun N_law_k09.length (eB Γ [0, 3, 4, 5] b_law_k09) [.scr ns] [] = .ok (.bl true) G := by
  intro ns _
  have hcl : ∀ (k : Int) (G : Gp), 0 ≤ k → C__law_cell [.scr ns, .int k] G = .ok (.int (cell ns k)) G := fun k G h => if_pos h
  have e39 := two_eq (G := []) (ns := ns) (a := 0) (by decide)
  obtain ⟨R0, m, s, hR0, hm0, hs0, hP, hR, hm, lR0, lm, htop, tm, sl⟩ := two_more ns
  rw [hR0, hm0, hs0] at e39
  have hadd := rows_add (rows := R0) (more := [(30, .non)]) (by simp; omega) []
  have hlen : (R0 ++ [((30 : Int), Dd.non)]).length = R0.length + 1 := by simp
  generalize hRv : R0 ++ [((30 : Int), Dd.non)] = R at hR htop hadd hlen hP
  rw [List.map_cons, List.map_nil, show rowD ((30 : Int), Dd.non) = .tup [.int 30, .tup [.str "none"]] from rfl] at hadd
  have l2 := hP.l2
  have tb := ahead_bd hm (b := 0) (Int.le_refl _) (by omega)
  refine law_ret ?_
  unfold b_law_k09
  simp only [eB]
  rw [seq_nx (e1 := [some (.scr ns), some (.tup (R0.map rowD)), none, none, none, none, none, none, some (.tup (m.map rowD)), some (.int s), none, none]) (G1 := []) (by
    simp [startD, N_law_k09, h39.1, h39.2, e39])]
  rw [seq_nx (e1 := [some (.scr ns), some (.tup (R.map rowD)), none, none, none, none, none, none, some (.tup (m.map rowD)), some (.int s), none, none]) (G1 := []) (by
    simp [hadd])]
  obtain ⟨q0, q1⟩ := mix_bd (cell ns 4) 9949 (show (0 : Int) < R.length - s + 1 by omega)
  have e4 := mix_eq (G := []) (c := cell ns 4) (p := 9949) (m := (R.length : Int) - s + 1) (by omega)
  generalize hlk : (s : Int) + mixN (cell ns 4) 9949 ((R.length : Int) - s + 1) = LK
  have hLK : (s : Int) ≤ LK ∧ LK ≤ R.length := by omega
  rw [seq_nx (e1 := [some (.scr ns), some (.tup (R.map rowD)), some (.int LK), none, none, none, none, none, some (.tup (m.map rowD)), some (.int s), none, none]) (G1 := []) (by
    simp [h7.1, h7.2, hcl, fLen, h36.1, h36.2, e4, hlk])]
  obtain ⟨B0, B1⟩ := mix_bd (cell ns 5) 9941 (show (0 : Int) < LK + 1 by omega)
  have e5 := mix_eq (G := []) (c := cell ns 5) (p := 9941) (m := LK + 1) (by omega)
  generalize mixN (cell ns 5) 9941 (LK + 1) = B at B0 B1 e5
  have e16 := lpaper_eq (G := []) (m := R) (b := B) (k := LK) (more := 1) B0 (by omega) (by omega) hR.keys
  rw [lawP_eq, htop, show (30 : Int) + 1 = 31 by decide] at e16
  rw [seq_nx (e1 := [some (.scr ns), some (.tup (R.map rowD)), some (.int LK), some (ppD (lawP R B LK 31)), none, none, none, none, some (.tup (m.map rowD)), some (.int s), none, none]) (G1 := []) (by
    simp [h7.1, h7.2, hcl, h36.1, h36.2, e5, h16.1, h16.2, e16])]
  obtain ⟨k0, k1⟩ := mix_bd (cell ns 6) 9931 (show (0 : Int) < s + 1 by omega)
  have e6 := mix_eq (G := []) (c := cell ns 6) (p := 9931) (m := (s : Int) + 1) (by omega)
  generalize mixN (cell ns 6) 9931 ((s : Int) + 1) = k at k0 k1 e6
  rw [seq_nx (e1 := [some (.scr ns), some (.tup (R.map rowD)), some (.int LK), some (ppD (lawP R B LK 31)), some (.int k), none, none, none, some (.tup (m.map rowD)), some (.int s), none, none]) (G1 := []) (by
    simp [h7.1, h7.2, hcl, h36.1, h36.2, e6])]
  obtain ⟨b0, b1⟩ := mix_bd (cell ns 7) 9929 (show (0 : Int) < k + 1 by omega)
  have e7 := mix_eq (G := []) (c := cell ns 7) (p := 9929) (m := k + 1) (by omega)
  generalize mixN (cell ns 7) 9929 (k + 1) = b at b0 b1 e7
  have e16b := lpaper_eq (G := []) (m := m) (b := b) (k := k) (more := 0) b0 (by omega) (by omega) hm.keys
  rw [lawP_eq, Int.add_zero] at e16b
  rw [seq_nx (e1 := [some (.scr ns), some (.tup (R.map rowD)), some (.int LK), some (ppD (lawP R B LK 31)), some (.int k), some (ppD (lawP m b k (topOf m))), none, none, some (.tup (m.map rowD)), some (.int s), none, none]) (G1 := []) (by
    simp [h7.1, h7.2, hcl, h36.1, h36.2, e7, h16.1, h16.2, e16b])]
  rw [seq_nx (e1 := Ev9 ns (.tup (R.map rowD)) (.int LK) (ppD (lawP R B LK 31)) (.int k) (ppD (lawP m b k (topOf m))) (.int R.length) none (.tup (m.map rowD)) (.int s) none none) (G1 := []) (by
    simp [fLen, Ev9])]
  have Ld : Led R B LK 31 := ⟨hR, by omega, B0, by omega, hLK.2, by omega, by decide, by decide⟩
  have hPl : Plc R m s b k (topOf m) LK 31 := ⟨hP, hm, by omega, b0, by omega, by omega, by omega, Int.le_refl _, by omega⟩
  have hfor : mFor (.nm 7) (eI Γ (.range1 (.bin .add (.bin .add (.blt .len (.var 1) .nil) (.blt .len (.var 8) .nil)) (.int 4)))) (eB Γ [0, 3, 4, 5] body9) (Ev9 ns (.tup (R.map rowD)) (.int LK) (ppD (lawP R B LK 31)) (.int k) (ppD (lawP m b k (topOf m))) (.int R.length) none (.tup (m.map rowD)) (.int s) none none) [] = .rt (.bl true) [] := by
    have hi : eI Γ (.range1 (.bin .add (.bin .add (.blt .len (.var 1) .nil) (.blt .len (.var 8) .nil)) (.int 4))) (Ev9 ns (.tup (R.map rowD)) (.int LK) (ppD (lawP R B LK 31)) (.int k) (ppD (lawP m b k (topOf m))) (.int R.length) none (.tup (m.map rowD)) (.int s) none none) [] = .ok ⟨rangeD 0 (R.length + m.length + 4), none⟩ [] := by
      have z : (-100000 < (R.length : Int) + m.length + 4 ∧ (R.length : Int) + m.length + 4 < 100000) := by omega
      have z2 : ((R.length : Int) + m.length + 4).toNat = R.length + m.length + 4 := by omega
      simp [eI, Ev9, fLen, z, z2]
    unfold mFor
    rw [hi]
    dsimp only
    rw [if_pos (show Src.still ⟨rangeD 0 (R.length + m.length + 4), none⟩ [] = true from rfl)]
    refine forGo_fin (α := S9) (fun a w => Ev9 ns (.tup (R.map rowD)) (.int LK) (ppD (lawP R B LK 31)) (.int k) (ppD (lawP a.m a.b a.k a.t)) (.int a.n) w (.tup (m.map rowD)) (.int s) a.w10 a.w11) (mu9 B R.length) (fun a => Plc R a.m a.s a.b a.k a.t LK 31 ∧ 0 ≤ a.n ∧ a.n ≤ R.length ∧ ((a.m = m ∧ a.s = s) ∨ a.m = R.take a.s)) (fun _ _ _ => rfl) rfl (fun a d hq => ?_) (rangeD 0 (R.length + m.length + 4)) ⟨m, s, b, k, topOf m, R.length, none, none⟩ none ⟨hPl, by dsimp only; omega, Int.le_refl _, .inl ⟨rfl, rfl⟩⟩ ?_
    · exact k09_step h14 h23 h25 h27 h28 h32 Ld htop (by omega) a d hq.1 hq.2.1 hq.2.2.1 hq.2.2.2
    · have hrl : (rangeD 0 (R.length + m.length + 4)).length = R.length + m.length + 4 := by simp [rangeD]
      rw [hrl]
      unfold mu9
      dsimp only
      split
      · omega
      · split
        · omega
        · split <;> omega
  refine ⟨[], ?_⟩
  simp only [body9, b_law_k09, nthS, forBody] at hfor
  simp only [eS]
  unfold mSeq
  rw [hfor]
end Mm
namespace Mm
open PySem L2 Mw
open PyProof.Rows hiding St
theorem heard_take {R : List Rw} {l c : Nat} {b p t n K : Int} (hl : l ≤ R.length) (b0 : 0 ≤ b) (bp : b ≤ p) (pl : p ≤ l) (n0 : 0 ≤ n) (n1 : n + c ≤ R.length) (ht : t ≤ 40) :
    heardP (lawP (R.take l) b p t) (.rows 40 n (aheadOf R n) ((R.drop n.toNat).take c) K) = if (l : Int) < n then (lawP (R.take l) b p 40, ("no" : Str), 40, (l : Int)) else (lawP (R.take (max l (n.toNat + c))) b (max p (min K (n + c))) 40, ("have" : Str), 40, n + c) := by
  have hP := pre_take R hl
  have hlen : (R.take l).length = l := by rw [List.length_take]; omega
  have hml : (((R.drop n.toNat).take c).length : Int) = c := by rw [List.length_take, List.length_drop]; omega
  unfold heardP
  rw [if_neg (show ¬ (msgT (.rows 40 n (aheadOf R n) ((R.drop n.toNat).take c) K) < (lawP (R.take l) b p t).term) by show ¬ (40 < t); omega)]
  simp only [rowsP]
  rw [lawP_len b0 (by omega), hlen]
  by_cases c1 : (l : Int) < n
  · rw [if_pos c1, if_pos c1]; rfl
  · rw [if_neg c1, if_neg c1, if_neg (fun h => by
      obtain ⟨h4, h5⟩ := h
      have h4' : b ≤ n := h4
      rw [lawP_term b0 h4' (by omega), hP.ahead (by omega)] at h5
      exact h5 rfl)]
    have hj := join_pre (b := b) hP (by omega) c n.toNat (by omega)
    rw [show ((n.toNat : Nat) : Int) = n by omega] at hj
    rw [put_law b0 (by omega), hj, hml]
    have : (if min (n.toNat + c) R.length ≤ l then R.take l else R.take (n.toNat + c)) = R.take (max l (n.toNat + c)) := by
      split
      · rw [show max l (n.toNat + c) = l by omega]
      · rw [show max l (n.toNat + c) = n.toNat + c by omega]
    rw [this]
def h10 (B K n : Int) (c l : Nat) (b p : Int) : Nat × Int × Int := if n < B then (if B ≤ (l : Int) then (l, b, max p B) else (B.toNat, B, B)) else if (l : Int) < n then (l, b, p) else (max l (n.toNat + c), b, max p (min K (n + c)))
/-- a message that a leader sent at some time -/
structure M10 (R : List Rw) (kept : Int) (M : Nat) (B K n : Int) : Prop where
  m1 : M ≤ R.length
  b0 : 0 ≤ B
  bk : B ≤ K
  km : K ≤ M
  n0 : 0 ≤ n
  nm : n ≤ M
  kk : K ≤ kept
structure P10 (R : List Rw) (kept : Int) (l : Nat) (b p : Int) : Prop where
  l1 : l ≤ R.length
  b0 : 0 ≤ b
  bp : b ≤ p
  pl : p ≤ l
  pk : p ≤ kept
def c10 (M : Nat) (n : Int) : Nat := min 3 (M - n.toNat)
theorem sent_take {R : List Rw} {kept : Int} {M : Nat} {B K n : Int} (h : M10 R kept M B K n) : sentM (R.take M) B K 40 n = if n < B then .whole 40 B (aheadOf R B) (thingsOf R B.toNat) K else .rows 40 n (aheadOf R n) ((R.drop n.toNat).take (c10 M n)) K := by
  obtain ⟨m1, b0, bk, km, n0, nm, kk⟩ := h
  unfold sentM
  split
  · rw [take_ahead R (by omega), take_things R (by omega)]
  · rw [take_ahead R (by omega), List.drop_take, List.take_take]
    rfl
theorem hear10 {R : List Rw} {kept : Int} {M l : Nat} {B K n b p t : Int} (h : M10 R kept M B K n) (hp : P10 R kept l b p) (ht : t ≤ 40) : ∃ (w : Str) (j : Int), heardP (lawP (R.take l) b p t) (sentM (R.take M) B K 40 n) = (lawP (R.take (h10 B K n (c10 M n) l b p).1) (h10 B K n (c10 M n) l b p).2.1 (h10 B K n (c10 M n) l b p).2.2 40, w, 40, j) := by
  have hs := sent_take h
  obtain ⟨m1, b0, bk, km, n0, nm, kk⟩ := h
  obtain ⟨l1, pb0, bp, pl, pk⟩ := hp
  have hlen : (R.take l).length = l := by rw [List.length_take]; omega
  rw [hs]
  unfold h10
  by_cases c1 : n < B
  · rw [if_pos c1, if_pos c1, heard_whole (pre_take R l1) pb0 bp pl (by omega) (by omega) ht]
    by_cases c2 : B ≤ (l : Int)
    · rw [if_pos c2, if_pos c2]; exact ⟨_, _, rfl⟩
    · rw [if_neg c2, if_neg c2]; exact ⟨_, _, rfl⟩
  · rw [if_neg c1, if_neg c1, heard_take l1 pb0 bp pl n0 (by unfold c10; omega) ht]
    by_cases c2 : (l : Int) < n
    · rw [if_pos c2, if_pos c2]; exact ⟨_, _, rfl⟩
    · rw [if_neg c2, if_neg c2]; exact ⟨_, _, rfl⟩
theorem h10_ok {R : List Rw} {kept : Int} {M l : Nat} {B K n b p : Int} (h : M10 R kept M B K n) (hp : P10 R kept l b p) : P10 R kept (h10 B K n (c10 M n) l b p).1 (h10 B K n (c10 M n) l b p).2.1 (h10 B K n (c10 M n) l b p).2.2 ∧ p ≤ (h10 B K n (c10 M n) l b p).2.2 ∧ l ≤ (h10 B K n (c10 M n) l b p).1 ∧
    h10 B K n (c10 M n) (h10 B K n (c10 M n) l b p).1 (h10 B K n (c10 M n) l b p).2.1 (h10 B K n (c10 M n) l b p).2.2 = h10 B K n (c10 M n) l b p := by
  obtain ⟨m1, b0, bk, km, n0, nm, kk⟩ := h
  obtain ⟨l1, pb0, bp, pl, pk⟩ := hp
  have hc : n.toNat + c10 M n ≤ M := by unfold c10; omega
  generalize c10 M n = c at hc
  unfold h10
  by_cases c1 : n < B
  · simp only [if_pos c1]
    by_cases c2 : B ≤ (l : Int)
    · simp only [if_pos c2]
      refine ⟨⟨by omega, by omega, by omega, by omega, by omega⟩, by omega, Nat.le_refl _, ?_⟩
      rw [show max (max p B) B = max p B by omega]
    · simp only [if_neg c2]
      refine ⟨⟨by omega, by omega, by omega, by omega, by omega⟩, by omega, by omega, ?_⟩
      rw [if_pos (by omega), Int.max_self]
  · simp only [if_neg c1]
    by_cases c2 : (l : Int) < n
    · simp only [if_pos c2]
      exact ⟨⟨by omega, by omega, by omega, by omega, by omega⟩, Int.le_refl _, Nat.le_refl _, trivial⟩
    · simp only [if_neg c2]
      refine ⟨⟨by omega, by omega, by omega, by omega, by omega⟩, by omega, by omega, ?_⟩
      rw [if_neg (by omega), show max (max l (n.toNat + c)) (n.toNat + c) = max l (n.toNat + c) by omega, show max (max p (min K (n + c))) (min K (n + c)) = max p (min K (n + c)) by omega]
def Ev10 (ns : List Int) (RD : D) (kept : Int) (w4 w5 w6 w7 w8 w9 w10 w11 w12 : Option D) : En := [some (.scr ns), some RD, some (.ref 0), some (.int kept), w4, w5, w6, w7, w8, w9, w10, w11, w12]
theorem mul_small {i j : Int} {G : Gp} (h : 0 ≤ i ∧ i < 1000) : dMul (.int i) (.int j) G = .ok (.int (i * j)) G := by
  unfold dMul
  dsimp only
  rw [if_pos (.inr ⟨by omega, by omega⟩)]
def body10 : MB := forBody (nthS b_law_k10 4)
def body10b : MB := forBody (nthS b_law_k10 6)
theorem k10_body1 {Γ : Fns} {xs : List Nat} (h7 : Kn Γ 7 2 C__law_cell) (h16 : Kn Γ 16 4 C__law_paper) (h28 : Kn Γ 28 2 C_sent) (h36 : Kn Γ 36 3 C__law_mix) {ns : List Int} {R : List Rw} (hR : HistOk R) (lR : R.length ≤ 20) (lR1 : 1 ≤ R.length) (tR : topOf R ≤ 40) {kept : Int} (k0 : 0 ≤ kept) (k1 : kept ≤ R.length) {k : Int} (w5 w6 w7 w8 w9 w10 w11 w12 : Option D) {msgs : List D} (hms : msgs.length ≤ 100) :
    ∃ (M : Nat) (B K n : Int) (v6 v7 v8 : Option D), eB Γ xs body10 (Ev10 ns (.tup (R.map rowD)) kept (some (.int k)) w5 w6 w7 w8 w9 w10 w11 w12) [.lst msgs] = .nx (Ev10 ns (.tup (R.map rowD)) K (some (.int k)) w5 v6 v7 v8 w9 w10 w11 w12) [.lst (msgs ++ [msgD (sentM (R.take M) B K 40 n)])] ∧ kept ≤ K ∧ M10 R K M B K n := by
  have hcl : ∀ (k : Int) (G : Gp), 0 ≤ k → C__law_cell [.scr ns, .int k] G = .ok (.int (cell ns k)) G := fun k G h => if_pos h
  have hl : ∀ G, dLen (.tup (R.map rowD)) G = .ok (.int R.length) G := fun G => by simp
  simp only [body10, b_law_k10, nthS, forBody, eB]
  have m31 := mul_small (i := 31) (j := k) (G := [.lst msgs]) ⟨by omega, by omega⟩
  have m17 := mul_small (i := 17) (j := k) (G := [.lst msgs]) ⟨by omega, by omega⟩
  have m13 := mul_small (i := 13) (j := k) (G := [.lst msgs]) ⟨by omega, by omega⟩
  have m11 := mul_small (i := 11) (j := k) (G := [.lst msgs]) ⟨by omega, by omega⟩
  obtain ⟨x0, x1⟩ := mix_bd (cell ns 2 + 31 * k) 9949 (show (0 : Int) < R.length - max kept 1 + 1 by omega)
  have e2 := mix_eq (G := [.lst msgs]) (c := cell ns 2 + 31 * k) (p := 9949) (m := (R.length : Int) - max kept 1 + 1) (by omega)
  generalize mixN (cell ns 2 + 31 * k) 9949 ((R.length : Int) - max kept 1 + 1) = qa at x0 x1 e2
  generalize hM : max kept 1 + qa = Mi
  have hMb : 1 ≤ Mi ∧ kept ≤ Mi ∧ Mi ≤ R.length := by omega
  rw [seq_nx (e1 := Ev10 ns (.tup (R.map rowD)) kept (some (.int k)) w5 (some (.int Mi)) w7 w8 w9 w10 w11 w12) (G1 := [.lst msgs]) (by
    generalize D.tup (R.map rowD) = RD at hl
    simp [Ev10, h7.1, h7.2, hcl, fMax, m31, fLen, hl, h36.1, h36.2, e2, hM])]
  obtain ⟨y0, y1⟩ := mix_bd (cell ns 3 + 17 * k) 9941 (show (0 : Int) < Mi - kept + 1 by omega)
  have e3 := mix_eq (G := [.lst msgs]) (c := cell ns 3 + 17 * k) (p := 9941) (m := Mi - kept + 1) (by omega)
  generalize mixN (cell ns 3 + 17 * k) 9941 (Mi - kept + 1) = qb at y0 y1 e3
  generalize hK : kept + qb = K
  have hKb : kept ≤ K ∧ K ≤ Mi := by omega
  rw [seq_nx (e1 := Ev10 ns (.tup (R.map rowD)) K (some (.int k)) w5 (some (.int Mi)) w7 w8 w9 w10 w11 w12) (G1 := [.lst msgs]) (by
    simp [Ev10, h7.1, h7.2, hcl, m17, h36.1, h36.2, e3, hK])]
  obtain ⟨z0, z1⟩ := mix_bd (cell ns 4 + 13 * k) 9931 (show (0 : Int) < K + 1 by omega)
  have e4 := mix_eq (G := [.lst msgs]) (c := cell ns 4 + 13 * k) (p := 9931) (m := K + 1) (by omega)
  generalize mixN (cell ns 4 + 13 * k) 9931 (K + 1) = B at z0 z1 e4
  rw [seq_nx (e1 := Ev10 ns (.tup (R.map rowD)) K (some (.int k)) w5 (some (.int Mi)) (some (.int B)) w8 w9 w10 w11 w12) (G1 := [.lst msgs]) (by
    simp [Ev10, h7.1, h7.2, hcl, m13, h36.1, h36.2, e4])]
  have hsl := rows_take (rows := R) (o := Mi) (by omega) [.lst msgs]
  have hlt : (R.take Mi.toNat).length = Mi.toNat := by rw [List.length_take]; omega
  have e16 := lpaper_eq (G := [.lst msgs]) (m := R.take Mi.toNat) (b := B) (k := K) (more := 0) z0 (by omega) (by omega) (hR.take _).keys
  rw [lawP_eq] at e16
  have cut1 := pp_cut1 (lawP (R.take Mi.toNat) B K (topOf (R.take Mi.toNat) + 0)) [.lst msgs]
  have add1 := pp_add1 (lawP (R.take Mi.toNat) B K (topOf (R.take Mi.toNat) + 0)) 40 [.lst msgs]
  rw [show ({ lawP (R.take Mi.toNat) B K (topOf (R.take Mi.toNat) + 0) with term := 40 } : Pp) = lawP (R.take Mi.toNat) B K 40 from rfl] at add1
  generalize D.tup [.int (lawP (R.take Mi.toNat) B K (topOf (R.take Mi.toNat) + 0)).base, .int (lawP (R.take Mi.toNat) B K (topOf (R.take Mi.toNat) + 0)).ahead, .tup ((lawP (R.take Mi.toNat) B K (topOf (R.take Mi.toNat) + 0)).things.map Mw.pairD), .tup ((lawP (R.take Mi.toNat) B K (topOf (R.take Mi.toNat) + 0)).rows.map rowD), .int (lawP (R.take Mi.toNat) B K (topOf (R.take Mi.toNat) + 0)).kept] = TL at cut1 add1
  generalize ppD (lawP (R.take Mi.toNat) B K (topOf (R.take Mi.toNat) + 0)) = L0 at e16 cut1
  rw [seq_nx (e1 := Ev10 ns (.tup (R.map rowD)) K (some (.int k)) w5 (some (.int Mi)) (some (.int B)) (some (ppD (lawP (R.take Mi.toNat) B K 40))) w9 w10 w11 w12) (G1 := [.lst msgs]) (by
    generalize ppD (lawP (R.take Mi.toNat) B K 40) = L1 at add1
    generalize D.tup ((R.take Mi.toNat).map rowD) = TD at hsl e16
    generalize D.tup (R.map rowD) = RD at hsl
    simp [Ev10, hsl, h16.1, h16.2, e16, cut1, add1])]
  obtain ⟨v0, v1⟩ := mix_bd (cell ns 5 + 11 * k) 9929 (show (0 : Int) < Mi + 1 by omega)
  have e5 := mix_eq (G := [.lst msgs]) (c := cell ns 5 + 11 * k) (p := 9929) (m := Mi + 1) (by omega)
  generalize mixN (cell ns 5 + 11 * k) 9929 (Mi + 1) = n at v0 v1 e5
  have htt := (top_take hR Mi.toNat).1
  have e28 := lead_sent (n := n) (B := B) (LK := K) (t := 40) (hR.take Mi.toNat) (by omega) v0 (by omega) (by omega) (by decide) (by decide) z0 (by omega) (by omega) [.lst msgs]
  refine ⟨Mi.toNat, B, K, n, some (.int Mi), some (.int B), some (ppD (lawP (R.take Mi.toNat) B K 40)), ?_, hKb.1, ⟨by omega, z0, by omega, by omega, v0, by omega, Int.le_refl _⟩⟩
  generalize msgD (sentM (R.take Mi.toNat) B K 40 n) = MD at e28
  generalize ppD (lawP (R.take Mi.toNat) B K 40) = L1 at e28
  have hml : msgs.length < 100000 := by omega
  simp [Ev10, h7.1, h7.2, hcl, m11, h36.1, h36.2, e5, h28.1, h28.2, e28, isL, dApp, hml]
end Mm
namespace Mm
open PySem L2 Mw
open PyProof.Rows hiding St
structure Gst where
  need : Int
  papers : List Pp
  up : List Bool
  leads : List Int
  told : List (List Int)
  nexts : List (List Int)
  wire : List D
  word : Int
structure Lay where
  p : Nat
  u : Nat
  l : Nat
  t : Nat
  n : Nat
  w : Nat
  ti : List Nat
  ni : List Nat
def insO (L : Lay) (st : Gst) : O := .ins [(0, .int st.need), (1, .ref L.p), (2, .ref L.u), (3, .ref L.l), (4, .ref L.t), (5, .ref L.n), (6, .ref L.w), (7, .int st.word)]
def intsO (xs : List Int) : O := .lst (xs.map D.int)
def refsO (xs : List Nat) : O := .lst (xs.map D.ref)
def papO (xs : List Pp) : O := .lst (xs.map ppD)
def blsO (xs : List Bool) : O := .lst (xs.map D.bl)
def refsL (g : Nat) (L : Lay) : List Nat := g :: L.p :: L.u :: L.l :: L.t :: L.n :: L.w :: (L.ti ++ L.ni)
structure Grp (G : Gp) (g : Nat) (L : Lay) (st : Gst) : Prop where
  ins : G[g]? = some (insO L st)
  p : G[L.p]? = some (papO st.papers)
  u : G[L.u]? = some (blsO st.up)
  l : G[L.l]? = some (intsO st.leads)
  t : G[L.t]? = some (refsO L.ti)
  n : G[L.n]? = some (refsO L.ni)
  w : G[L.w]? = some (.lst st.wire)
  tl : L.ti.length = st.told.length
  nl : L.ni.length = st.nexts.length
  ts : ∀ (i r : Nat) (xs : List Int), L.ti[i]? = some r → st.told[i]? = some xs → G[r]? = some (intsO xs)
  ns : ∀ (i r : Nat) (xs : List Int), L.ni[i]? = some r → st.nexts[i]? = some xs → G[r]? = some (intsO xs)
  nd : (refsL g L).Nodup
theorem map_inj {α β : Type} {f : α → β} (h : ∀ a b, f a = f b → a = b) : ∀ {xs ys : List α}, xs.map f = ys.map f → xs = ys
  | [], [], _ => rfl
  | [], _ :: _, e => by cases e
  | _ :: _, [], e => by cases e
  | x :: xs, y :: ys, e => by
    rw [List.map_cons, List.map_cons] at e
    obtain ⟨e1, e2⟩ := List.cons.inj e
    rw [h _ _ e1, map_inj h e2]
theorem ppD_inj {p q : Pp} (h : ppD p = ppD q) : p = q := by
  have := congrArg pp? h
  rw [pp_D, pp_D] at this
  exact Option.some.inj this
theorem Grp.uniq {G : Gp} {g : Nat} {L M : Lay} {st su : Gst} (h : Grp G g L st) (k : Grp G g M su) : L = M ∧ st = su := by
  have e := Option.some.inj (h.ins.symm.trans k.ins)
  unfold insO at e
  simp only [O.ins.injEq, List.cons.injEq, Prod.mk.injEq, D.int.injEq, D.ref.injEq, true_and, and_true] at e
  obtain ⟨e0, e1, e2, e3, e4, e5, e6, e7⟩ := e
  obtain ⟨Lp, Lu, Ll, Lt, Ln, Lw, Lti, Lni⟩ := L
  obtain ⟨Mp, Mu, Ml, Mt, Mn, Mw, Mti, Mni⟩ := M
  obtain ⟨s1, s2, s3, s4, s5, s6, s7, s8⟩ := st
  obtain ⟨u1, u2, u3, u4, u5, u6, u7, u8⟩ := su
  simp only at e0 e1 e2 e3 e4 e5 e6 e7
  subst e0 e1 e2 e3 e4 e5 e6 e7
  have hp := Option.some.inj (h.p.symm.trans k.p)
  have hu := Option.some.inj (h.u.symm.trans k.u)
  have hl := Option.some.inj (h.l.symm.trans k.l)
  have ht := Option.some.inj (h.t.symm.trans k.t)
  have hn := Option.some.inj (h.n.symm.trans k.n)
  have hw := Option.some.inj (h.w.symm.trans k.w)
  have a2 := map_inj (fun _ _ => ppD_inj) (O.lst.inj hp)
  have a3 := map_inj (fun _ _ e => D.bl.inj e) (O.lst.inj hu)
  have a4 := map_inj (fun _ _ e => D.int.inj e) (O.lst.inj hl)
  have b7 := map_inj (fun _ _ e => D.ref.inj e) (O.lst.inj ht)
  have b8 := map_inj (fun _ _ e => D.ref.inj e) (O.lst.inj hn)
  have a7 := O.lst.inj hw
  simp only at a2 a3 a4 b7 b8 a7
  subst a2 a3 a4 b7 b8 a7
  have lists : ∀ {R : List Nat} {xs ys : List (List Int)}, R.length = xs.length → R.length = ys.length → (∀ (i r : Nat) (x : List Int), R[i]? = some r → xs[i]? = some x → G[r]? = some (intsO x)) → (∀ (i r : Nat) (x : List Int), R[i]? = some r → ys[i]? = some x → G[r]? = some (intsO x)) → xs = ys := fun {R xs ys} l1 l2 q1 q2 => by
    apply List.ext_getElem (by omega)
    intro i h1 h2
    have r1 := q1 i R[i] xs[i] (List.getElem?_eq_getElem (by omega)) (List.getElem?_eq_getElem h1)
    have r2 := q2 i R[i] ys[i] (List.getElem?_eq_getElem (by omega)) (List.getElem?_eq_getElem h2)
    exact map_inj (fun _ _ e => D.int.inj e) (O.lst.inj (Option.some.inj (r1.symm.trans r2)))
  have a5 := lists h.tl k.tl h.ts k.ts
  have a6 := lists h.nl k.nl h.ns k.ns
  simp only at a5 a6
  subst a5 a6
  exact ⟨rfl, rfl⟩
open Classical in
noncomputable def grp? (G : Gp) (g : Nat) : Option (Lay × Gst) := if h : ∃ x : Lay × Gst, Grp G g x.1 x.2 then some (choose h) else none
theorem grp_inv {G : Gp} {g : Nat} {L : Lay} {st : Gst} (h : grp? G g = some (L, st)) : Grp G g L st := by
  unfold grp? at h
  split at h
  · rename_i hx
    have := Classical.choose_spec hx
    rw [Option.some.inj h] at this
    exact this
  · cases h
theorem grp_eq {G : Gp} {g : Nat} {L : Lay} {st : Gst} (h : Grp G g L st) : grp? G g = some (L, st) := by
  unfold grp?
  have hx : ∃ x : Lay × Gst, Grp G g x.1 x.2 := ⟨(L, st), h⟩
  rw [dif_pos hx]
  obtain ⟨e1, e2⟩ := (Classical.choose_spec hx).uniq h
  exact congrArg some (Prod.ext e1 e2)
section
variable {G : Gp} {g : Nat} {L : Lay} {st : Gst}
theorem Grp.neq (h : Grp G g L st) : (g ≠ L.p ∧ g ≠ L.u ∧ g ≠ L.l ∧ g ≠ L.t ∧ g ≠ L.n ∧ g ≠ L.w ∧ g ∉ L.ti ∧ g ∉ L.ni) ∧ (L.p ≠ L.u ∧ L.p ≠ L.l ∧ L.p ≠ L.t ∧ L.p ≠ L.n ∧ L.p ≠ L.w ∧ L.p ∉ L.ti ∧ L.p ∉ L.ni) ∧ (L.u ≠ L.l ∧ L.u ≠ L.t ∧ L.u ≠ L.n ∧ L.u ≠ L.w ∧ L.u ∉ L.ti ∧ L.u ∉ L.ni) ∧ (L.l ≠ L.t ∧ L.l ≠ L.n ∧ L.l ≠ L.w ∧ L.l ∉ L.ti ∧ L.l ∉ L.ni) ∧ (L.t ≠ L.n ∧ L.t ≠ L.w ∧ L.t ∉ L.ti ∧ L.t ∉ L.ni) ∧ (L.n ≠ L.w ∧ L.n ∉ L.ti ∧ L.n ∉ L.ni) ∧ (L.w ∉ L.ti ∧ L.w ∉ L.ni) ∧ L.ti.Nodup ∧ L.ni.Nodup ∧ ∀ a ∈ L.ti, a ∉ L.ni := by
  have := h.nd
  unfold refsL at this
  simp only [List.nodup_cons, List.mem_cons, List.mem_append, not_or, List.nodup_append] at this
  obtain ⟨a, b, c, d, e, f, k, m, n, o⟩ := this
  refine ⟨a, b, c, d, e, f, k, m, n, fun x hx hy => o x hx x hy rfl⟩
theorem lt_of {n : Nat} {o : O} (h : G[n]? = some o) : n < G.length := (List.getElem?_eq_some_iff.mp h).1
/-- a change elsewhere -/
theorem Grp.out (h : Grp G g L st) {n : Nat} (hn : n ∉ refsL g L) (o : O) : Grp (G.set n o) g L st := by
  have k : ∀ a ∈ refsL g L, (G.set n o)[a]? = G[a]? := fun a ha => List.getElem?_set_ne (fun (e : n = a) => hn (by rw [e]; exact ha))
  have kt : ∀ a ∈ L.ti, (G.set n o)[a]? = G[a]? := fun a ha => k a (by unfold refsL; simp [ha])
  have kn : ∀ a ∈ L.ni, (G.set n o)[a]? = G[a]? := fun a ha => k a (by unfold refsL; simp [ha])
  exact ⟨by rw [k g (by simp [refsL])]; exact h.ins, by rw [k L.p (by simp [refsL])]; exact h.p, by rw [k L.u (by simp [refsL])]; exact h.u, by rw [k L.l (by simp [refsL])]; exact h.l, by rw [k L.t (by simp [refsL])]; exact h.t, by rw [k L.n (by simp [refsL])]; exact h.n, by rw [k L.w (by simp [refsL])]; exact h.w, h.tl, h.nl,
    fun i r xs e1 e2 => by rw [kt r (List.mem_of_getElem? e1)]; exact h.ts i r xs e1 e2, fun i r xs e1 e2 => by rw [kn r (List.mem_of_getElem? e1)]; exact h.ns i r xs e1 e2, h.nd⟩
theorem Grp.more (h : Grp G g L st) (J : Gp) : Grp (G ++ J) g L st := by
  have k : ∀ (a : Nat) (o : O), G[a]? = some o → (G ++ J)[a]? = some o := fun a o e => by rw [List.getElem?_append_left (lt_of e)]; exact e
  exact ⟨k _ _ h.ins, k _ _ h.p, k _ _ h.u, k _ _ h.l, k _ _ h.t, k _ _ h.n, k _ _ h.w, h.tl, h.nl, fun i r xs e1 e2 => k _ _ (h.ts i r xs e1 e2), fun i r xs e1 e2 => k _ _ (h.ns i r xs e1 e2), h.nd⟩
theorem Grp.setP (h : Grp G g L st) (ps : List Pp) : Grp (G.set L.p (papO ps)) g L { st with papers := ps } := by
  obtain ⟨⟨a1, _⟩, ⟨b1, b2, b3, b4, b5, b6, b7⟩, _⟩ := h.neq
  have k : ∀ a, L.p ≠ a → (G.set L.p (papO ps))[a]? = G[a]? := fun a ha => List.getElem?_set_ne ha
  exact ⟨by rw [k g (Ne.symm a1)]; exact h.ins, List.getElem?_set_self (lt_of h.p), by rw [k _ b1]; exact h.u, by rw [k _ b2]; exact h.l, by rw [k _ b3]; exact h.t, by rw [k _ b4]; exact h.n, by rw [k _ b5]; exact h.w, h.tl, h.nl,
    fun i r xs e1 e2 => by rw [k r (fun e => b6 (e ▸ List.mem_of_getElem? e1))]; exact h.ts i r xs e1 e2, fun i r xs e1 e2 => by rw [k r (fun e => b7 (e ▸ List.mem_of_getElem? e1))]; exact h.ns i r xs e1 e2, h.nd⟩
theorem Grp.setU (h : Grp G g L st) (us : List Bool) : Grp (G.set L.u (blsO us)) g L { st with up := us } := by
  obtain ⟨⟨a1, a2, _⟩, ⟨b1, _⟩, ⟨c1, c2, c3, c4, c5, c6⟩, _⟩ := h.neq
  have k : ∀ a, L.u ≠ a → (G.set L.u (blsO us))[a]? = G[a]? := fun a ha => List.getElem?_set_ne ha
  exact ⟨by rw [k g (Ne.symm a2)]; exact h.ins, by rw [k _ (Ne.symm b1)]; exact h.p, List.getElem?_set_self (lt_of h.u), by rw [k _ c1]; exact h.l, by rw [k _ c2]; exact h.t, by rw [k _ c3]; exact h.n, by rw [k _ c4]; exact h.w, h.tl, h.nl,
    fun i r xs e1 e2 => by rw [k r (fun e => c5 (e ▸ List.mem_of_getElem? e1))]; exact h.ts i r xs e1 e2, fun i r xs e1 e2 => by rw [k r (fun e => c6 (e ▸ List.mem_of_getElem? e1))]; exact h.ns i r xs e1 e2, h.nd⟩
theorem Grp.setL (h : Grp G g L st) (ls : List Int) : Grp (G.set L.l (intsO ls)) g L { st with leads := ls } := by
  obtain ⟨⟨a1, a2, a3, _⟩, ⟨b1, b2, _⟩, ⟨c1, _⟩, ⟨d1, d2, d3, d4, d5⟩, _⟩ := h.neq
  have k : ∀ a, L.l ≠ a → (G.set L.l (intsO ls))[a]? = G[a]? := fun a ha => List.getElem?_set_ne ha
  exact ⟨by rw [k g (Ne.symm a3)]; exact h.ins, by rw [k _ (Ne.symm b2)]; exact h.p, by rw [k _ (Ne.symm c1)]; exact h.u, List.getElem?_set_self (lt_of h.l), by rw [k _ d1]; exact h.t, by rw [k _ d2]; exact h.n, by rw [k _ d3]; exact h.w, h.tl, h.nl,
    fun i r xs e1 e2 => by rw [k r (fun e => d4 (e ▸ List.mem_of_getElem? e1))]; exact h.ts i r xs e1 e2, fun i r xs e1 e2 => by rw [k r (fun e => d5 (e ▸ List.mem_of_getElem? e1))]; exact h.ns i r xs e1 e2, h.nd⟩
theorem Grp.setWd (h : Grp G g L st) (w : Int) : Grp (G.set g (insO L { st with word := w })) g L { st with word := w } := by
  obtain ⟨⟨a1, a2, a3, a4, a5, a6, a7, a8⟩, _⟩ := h.neq
  have k : ∀ a, g ≠ a → (G.set g (insO L { st with word := w }))[a]? = G[a]? := fun a ha => List.getElem?_set_ne ha
  exact ⟨List.getElem?_set_self (lt_of h.ins), by rw [k _ a1]; exact h.p, by rw [k _ a2]; exact h.u, by rw [k _ a3]; exact h.l, by rw [k _ a4]; exact h.t, by rw [k _ a5]; exact h.n, by rw [k _ a6]; exact h.w, h.tl, h.nl,
    fun i r xs e1 e2 => by rw [k r (fun e => a7 (e ▸ List.mem_of_getElem? e1))]; exact h.ts i r xs e1 e2, fun i r xs e1 e2 => by rw [k r (fun e => a8 (e ▸ List.mem_of_getElem? e1))]; exact h.ns i r xs e1 e2, h.nd⟩
theorem Grp.f0 (h : Grp G g L st) : dFld 0 (.ref g) G = .ok (.int st.need) G := by simp [dFld, h.ins, insO, getF]
theorem Grp.f1 (h : Grp G g L st) : dFld 1 (.ref g) G = .ok (.ref L.p) G := by simp [dFld, h.ins, insO, getF]
theorem Grp.f2 (h : Grp G g L st) : dFld 2 (.ref g) G = .ok (.ref L.u) G := by simp [dFld, h.ins, insO, getF]
theorem Grp.f3 (h : Grp G g L st) : dFld 3 (.ref g) G = .ok (.ref L.l) G := by simp [dFld, h.ins, insO, getF]
theorem Grp.f4 (h : Grp G g L st) : dFld 4 (.ref g) G = .ok (.ref L.t) G := by simp [dFld, h.ins, insO, getF]
theorem Grp.f5 (h : Grp G g L st) : dFld 5 (.ref g) G = .ok (.ref L.n) G := by simp [dFld, h.ins, insO, getF]
theorem Grp.f6 (h : Grp G g L st) : dFld 6 (.ref g) G = .ok (.ref L.w) G := by simp [dFld, h.ins, insO, getF]
theorem Grp.f7 (h : Grp G g L st) : dFld 7 (.ref g) G = .ok (.int st.word) G := by simp [dFld, h.ins, insO, getF]
theorem Grp.isI (h : Grp G g L st) : isIn (.ref g) G = .ok () G := by simp [isIn, h.ins, insO]
theorem atI_some {α : Type} {xs : List α} {i : Nat} {x : α} (h : xs[i]? = some x) : atI xs (i : Int) = some x := by
  rw [atI_nat i (List.getElem?_eq_some_iff.mp h).1, h]
theorem ix_map {α : Type} {f : α → D} {xs : List α} {i n : Nat} {x : α} {G : Gp} (g : G[n]? = some (.lst (xs.map f))) (h : xs[i]? = some x) : dIx (.ref n) (.int i) G = .ok (f x) G := by
  refine ix_lst g ?_
  rw [atI_map, atI_some h]
  rfl
theorem Grp.lenP (h : Grp G g L st) : dLen (.ref L.p) G = .ok (.int st.papers.length) G := by
  rw [len_lst h.p, List.length_map]
theorem Grp.ixP (h : Grp G g L st) {i : Nat} {x : Pp} (e : st.papers[i]? = some x) : dIx (.ref L.p) (.int i) G = .ok (ppD x) G := ix_map h.p e
theorem Grp.ixU (h : Grp G g L st) {i : Nat} {x : Bool} (e : st.up[i]? = some x) : dIx (.ref L.u) (.int i) G = .ok (.bl x) G := ix_map h.u e
theorem Grp.ixL (h : Grp G g L st) {i : Nat} {x : Int} (e : st.leads[i]? = some x) : dIx (.ref L.l) (.int i) G = .ok (.int x) G := ix_map h.l e
theorem Grp.ixT (h : Grp G g L st) {i : Nat} {x : Nat} (e : L.ti[i]? = some x) : dIx (.ref L.t) (.int i) G = .ok (.ref x) G := ix_map h.t e
theorem Grp.ixN (h : Grp G g L st) {i : Nat} {x : Nat} (e : L.ni[i]? = some x) : dIx (.ref L.n) (.int i) G = .ok (.ref x) G := ix_map h.n e
end
end Mm
namespace Mm
open PySem L2 Mw
open PyProof.Rows hiding St
def inPl (st : Gst) (d : D) : Bool := isWithin d 0 ((st.papers.length : Int) - 1)
noncomputable def C_Group_look_place : FM := fun ds G => match ds with
  | [.ref g, d] => (match grp? G g with
    | some (L, st) => if okE G d = true then (if inPl st d = true then .ok .non G else .exc 6 G) else .bad
    | none => .bad)
  | _ => .bad
theorem K_Group_look_place {Γ : Fns} {xs : List Nat} (h0 : Kn Γ 0 3 C_is_within) : Cleans 2 (fnRun N_Group_look_place.length (eB Γ xs b_Group_look_place)) C_Group_look_place := by
  intro ds G hl hc hlt
  unfold C_Group_look_place
  split
  · rename_i g d
    split
    · rename_i L st hg
      have h := grp_inv hg
      split
      · rename_i ho
        unfold inPl
        split
        · rename_i hw
          refine clr_ok ⟨[], ?_⟩ (Nat.le_refl _) hc rfl
          simp [fnRun, b_Group_look_place, startD, N_Group_look_place, h.f1, fLen, h.lenP, h0.1, h0.2, within_eq ho, hw]
        · rename_i hw
          have hw' : isWithin d 0 ((st.papers.length : Int) - 1) = false := by simpa using hw
          refine clr_exc ⟨[], ?_⟩ (Nat.le_refl _) hc
          simp [fnRun, b_Group_look_place, startD, N_Group_look_place, h.f1, fLen, h.lenP, h0.1, h0.2, within_eq ho, hw']
      · trivial
    · trivial
  · trivial
section
variable {G : Gp} {g : Nat} {L : Lay} {st : Gst} {d : D}
theorem lkp_ok (h : Grp G g L st) (ho : okE G d = true) (hi : inPl st d = true) : C_Group_look_place [.ref g, d] G = .ok .non G := by
  unfold C_Group_look_place
  dsimp only
  rw [grp_eq h]
  simp only
  rw [if_pos ho, if_pos hi]
theorem lkp_no (h : Grp G g L st) (ho : okE G d = true) (hi : inPl st d = false) : C_Group_look_place [.ref g, d] G = .exc 6 G := by
  unfold C_Group_look_place
  dsimp only
  rw [grp_eq h]
  simp only
  rw [if_pos ho, if_neg (by rw [hi]; decide)]
theorem inPl_inv (h : inPl st d = true) : ∃ i : Nat, d = .int i ∧ i < st.papers.length := by
  obtain ⟨k, rfl, k1, k2⟩ := isWithin_inv h
  exact ⟨k.toNat, by rw [show ((k.toNat : Nat) : Int) = k by omega], by omega⟩
theorem inPl_ok {i : Nat} (h : i < st.papers.length) : inPl st (.int i) = true := within_ok (by omega) (by omega)
end
noncomputable def C_Group_look_up : FM := fun ds G => match ds with
  | [.ref g, d] => (match grp? G g with
    | some (L, st) => if okE G d = true then (if inPl st d = true then (match st.up[(intOf d).toNat]? with
      | some true => .ok .non G
      | some false => .exc 7 G
      | none => .bad) else .exc 6 G) else .bad
    | none => .bad)
  | _ => .bad
theorem K_Group_look_up {Γ : Fns} {xs : List Nat} (h50 : Kn Γ 50 2 C_Group_look_place) : Cleans 2 (fnRun N_Group_look_up.length (eB Γ xs b_Group_look_up)) C_Group_look_up := by
  intro ds G hl hc hlt
  unfold C_Group_look_up
  split
  · rename_i g d
    split
    · rename_i L st hg
      have h := grp_inv hg
      split
      · rename_i ho
        split
        · rename_i hw
          have e50 := lkp_ok h ho hw
          obtain ⟨i, rfl, hi⟩ := inPl_inv hw
          simp only [intOf, Int.toNat_natCast]
          split
          · rename_i hu
            refine clr_ok ⟨[], ?_⟩ (Nat.le_refl _) hc rfl
            simp [fnRun, b_Group_look_up, startD, N_Group_look_up, h.isI, h50.1, h50.2, e50, h.f2, h.ixU hu]
          · rename_i hu
            refine clr_exc ⟨[], ?_⟩ (Nat.le_refl _) hc
            simp [fnRun, b_Group_look_up, startD, N_Group_look_up, h.isI, h50.1, h50.2, e50, h.f2, h.ixU hu]
          · trivial
        · rename_i hw
          have e50 := lkp_no h ho (by simpa using hw)
          refine clr_exc ⟨[], ?_⟩ (Nat.le_refl _) hc
          simp [fnRun, b_Group_look_up, startD, N_Group_look_up, h.isI, h50.1, h50.2, e50]
      · trivial
    · trivial
  · trivial
section
variable {G : Gp} {g : Nat} {L : Lay} {st : Gst} {d : D} {i : Nat}
theorem lku_ok (h : Grp G g L st) (hi : i < st.papers.length) (hu : st.up[i]? = some true) : C_Group_look_up [.ref g, .int i] G = .ok .non G := by
  unfold C_Group_look_up
  dsimp only
  rw [grp_eq h]
  simp only
  rw [if_pos (show okE G (.int i) = true from rfl), if_pos (inPl_ok hi)]
  simp only [intOf, Int.toNat_natCast, hu]
theorem lku_down (h : Grp G g L st) (hi : i < st.papers.length) (hu : st.up[i]? = some false) : C_Group_look_up [.ref g, .int i] G = .exc 7 G := by
  unfold C_Group_look_up
  dsimp only
  rw [grp_eq h]
  simp only
  rw [if_pos (show okE G (.int i) = true from rfl), if_pos (inPl_ok hi)]
  simp only [intOf, Int.toNat_natCast, hu]
theorem lku_no (h : Grp G g L st) (ho : okE G d = true) (hi : inPl st d = false) : C_Group_look_up [.ref g, d] G = .exc 6 G := by
  unfold C_Group_look_up
  dsimp only
  rw [grp_eq h]
  simp only
  rw [if_pos ho, if_neg (by rw [hi]; decide)]
end
/-- whether a place leads, as far as it knows -/
def leadB (st : Gst) (i : Nat) : Option Bool := match st.up[i]?, st.leads[i]?, st.papers[i]? with
  | some u, some l, some p => some (u && (decide (0 < l) && decide (l = p.term)))
  | _, _, _ => none
noncomputable def C_Group_is_leading : FM := fun ds G => match ds with
  | [.ref g, .int k] => (match grp? G g with
    | some (L, st) => if 0 ≤ k then (match leadB st k.toNat with
      | some b => .ok (.bl b) G
      | none => .bad) else .bad
    | none => .bad)
  | _ => .bad
theorem pp_0 (p : Pp) (G : Gp) : dIx (ppD p) (.int 0) G = .ok (.int p.term) G := by simp [ppD, ix_tup]
theorem pp_5 (p : Pp) (G : Gp) : dIx (ppD p) (.int 5) G = .ok (.int p.kept) G := by simp [ppD, dIx, atI, ixN]
theorem pp_4 (p : Pp) (G : Gp) : dIx (ppD p) (.int 4) G = .ok (.tup (p.rows.map rowD)) G := by simp [ppD, ix_tup]
theorem pp_1 (p : Pp) (G : Gp) : dIx (ppD p) (.int 1) G = .ok (.int p.base) G := by simp [ppD, ix_tup]
theorem K_Group_is_leading {Γ : Fns} {xs : List Nat} : Cleans 2 (fnRun N_Group_is_leading.length (eB Γ xs b_Group_is_leading)) C_Group_is_leading := by
  intro ds G hl hc hlt
  unfold C_Group_is_leading
  split
  · rename_i g k
    split
    · rename_i L st hg
      have h := grp_inv hg
      split
      · rename_i hk
        obtain ⟨i, rfl⟩ : ∃ i : Nat, k = i := ⟨k.toNat, by omega⟩
        rw [Int.toNat_natCast]
        split
        · rename_i b hb
          unfold leadB at hb
          split at hb
          · rename_i u l p hu hl' hp
            cases hb
            refine clr_ok ⟨[], ?_⟩ (Nat.le_refl _) hc rfl
            have e1 := h.ixU hu
            have e2 := h.ixL hl'
            have e3 := h.ixP hp
            have e4 := pp_0 p G
            generalize ppD p = PD at e3 e4
            cases u with
            | false => simp [fnRun, b_Group_is_leading, startD, N_Group_is_leading, h.f1, h.f2, h.f3, e1, e2, e3, e4, eq_int]
            | true =>
              by_cases c1 : 0 < l
              · simp [fnRun, b_Group_is_leading, startD, N_Group_is_leading, h.f1, h.f2, h.f3, e1, e2, e3, e4, eq_int, c1]
              · simp [fnRun, b_Group_is_leading, startD, N_Group_is_leading, h.f1, h.f2, h.f3, e1, e2, e3, e4, eq_int, c1]
          · cases hb
        · trivial
      · trivial
    · trivial
  · trivial
section
variable {G : Gp} {g : Nat} {L : Lay} {st : Gst} {i : Nat} {b : Bool}
theorem isl_eq (h : Grp G g L st) (hb : leadB st i = some b) : C_Group_is_leading [.ref g, .int i] G = .ok (.bl b) G := by
  unfold C_Group_is_leading
  dsimp only
  rw [grp_eq h]
  simp only
  rw [if_pos (by omega), Int.toNat_natCast, hb]
end
noncomputable def C_Group_look_leading : FM := fun ds G => match ds with
  | [.ref g, d] => (match grp? G g with
    | some (L, st) => if okE G d = true then (if inPl st d = true then (match st.up[(intOf d).toNat]? with
      | some true => (match leadB st (intOf d).toNat with
        | some true => .ok .non G
        | some false => .exc 8 G
        | none => .bad)
      | some false => .exc 7 G
      | none => .bad) else .exc 6 G) else .bad
    | none => .bad)
  | _ => .bad
theorem K_Group_look_leading {Γ : Fns} {xs : List Nat} (h48 : Kn Γ 48 2 C_Group_is_leading) (h51 : Kn Γ 51 2 C_Group_look_up) : Cleans 2 (fnRun N_Group_look_leading.length (eB Γ xs b_Group_look_leading)) C_Group_look_leading := by
  intro ds G hl hc hlt
  unfold C_Group_look_leading
  split
  · rename_i g d
    split
    · rename_i L st hg
      have h := grp_inv hg
      split
      · rename_i ho
        split
        · rename_i hw
          obtain ⟨i, rfl, hi⟩ := inPl_inv hw
          simp only [intOf, Int.toNat_natCast]
          split
          · rename_i hu
            have e51 := lku_ok h hi hu
            split
            · rename_i hb
              refine clr_ok ⟨[], ?_⟩ (Nat.le_refl _) hc rfl
              simp [fnRun, b_Group_look_leading, startD, N_Group_look_leading, h.isI, h51.1, h51.2, e51, h48.1, h48.2, isl_eq h hb]
            · rename_i hb
              refine clr_exc ⟨[], ?_⟩ (Nat.le_refl _) hc
              simp [fnRun, b_Group_look_leading, startD, N_Group_look_leading, h.isI, h51.1, h51.2, e51, h48.1, h48.2, isl_eq h hb]
            · trivial
          · rename_i hu
            have e51 := lku_down h hi hu
            refine clr_exc ⟨[], ?_⟩ (Nat.le_refl _) hc
            simp [fnRun, b_Group_look_leading, startD, N_Group_look_leading, h.isI, h51.1, h51.2, e51]
          · trivial
        · rename_i hw
          have e51 := lku_no h ho (by simpa using hw)
          refine clr_exc ⟨[], ?_⟩ (Nat.le_refl _) hc
          simp [fnRun, b_Group_look_leading, startD, N_Group_look_leading, h.isI, h51.1, h51.2, e51]
      · trivial
    · trivial
  · trivial
end Mm
namespace Mm
open PySem L2 Mw
open PyProof.Rows hiding St
theorem closed_set {G : Gp} {n : Nat} {o : O} (c : Closed G.length G) (h : ltO G.length o = true) : Closed (G.set n o).length (G.set n o) := fun z hz => by
  rw [List.length_set]
  rcases List.mem_or_eq_of_mem_set hz with q | q
  · exact c z q
  · rw [q]; exact h
theorem lt_papO (m : Nat) (ps : List Pp) : ltO m (papO ps) = true := by
  show ltDs m (ps.map ppD) = true
  rw [ltDs_all]
  intro d hd
  obtain ⟨p, _, rfl⟩ := List.mem_map.mp hd
  exact ltD_pp p
theorem lt_blsO (m : Nat) (ps : List Bool) : ltO m (blsO ps) = true := by
  show ltDs m (ps.map D.bl) = true
  rw [ltDs_all]
  intro d hd
  obtain ⟨p, _, rfl⟩ := List.mem_map.mp hd
  rfl
theorem lt_intsO (m : Nat) (ps : List Int) : ltO m (intsO ps) = true := by
  show ltDs m (ps.map D.int) = true
  rw [ltDs_all]
  intro d hd
  obtain ⟨p, _, rfl⟩ := List.mem_map.mp hd
  rfl
theorem ixN_ok {n i : Nat} (h : i < n) : ixN n (i : Int) = some i := by
  unfold ixN
  rw [if_pos (by omega), if_pos (by omega)]
  rfl
theorem dSet_map {α : Type} {f : α → D} {xs : List α} {n i : Nat} {x : α} {G : Gp} (g : G[n]? = some (.lst (xs.map f))) (h : i < xs.length) : dSet (.ref n) (.int i) (f x) G = some (G.set n (.lst ((xs.set i x).map f))) := by
  unfold dSet
  simp only [g, List.length_map, ixN_ok h, List.map_set]
section
variable {G : Gp} {g : Nat} {L : Lay} {st : Gst} {i : Nat}
theorem Grp.dsP (h : Grp G g L st) (hi : i < st.papers.length) (q : Pp) : dSet (.ref L.p) (.int i) (ppD q) G = some (G.set L.p (papO (st.papers.set i q))) := dSet_map h.p hi
theorem Grp.dsU (h : Grp G g L st) (hi : i < st.up.length) (q : Bool) : dSet (.ref L.u) (.int i) (.bl q) G = some (G.set L.u (blsO (st.up.set i q))) := dSet_map h.u hi
theorem Grp.dsL (h : Grp G g L st) (hi : i < st.leads.length) (q : Int) : dSet (.ref L.l) (.int i) (.int q) G = some (G.set L.l (intsO (st.leads.set i q))) := dSet_map h.l hi
theorem get_lt {α : Type} {xs : List α} {x : α} (h : xs[i]? = some x) : i < xs.length := (List.getElem?_eq_some_iff.mp h).1
end
def addRow (p : Pp) (a : Dd) : Pp := { p with rows := p.rows ++ [(p.term, a)] }
noncomputable def C_Group_with_rows : FM := fun ds G => match ds with
  | [.ref g, .int k, d] => (match grp? G g with
    | some (L, st) => if 0 ≤ k then (match st.papers[k.toNat]?, dd? d with
      | some p, some a => if p.rows.length < 5000 then .ok .non (G.set L.p (papO (st.papers.set k.toNat (addRow p a)))) else .bad
      | _, _ => .bad) else .bad
    | none => .bad)
  | _ => .bad
theorem K_Group_with_rows {Γ : Fns} {xs : List Nat} : Cleans 3 (fnRun N_Group_with_rows.length (eB Γ xs b_Group_with_rows)) C_Group_with_rows := by
  intro ds G hl hc hlt
  unfold C_Group_with_rows
  split
  · rename_i g k d
    split
    · rename_i L st hg
      have h := grp_inv hg
      split
      · rename_i hk
        obtain ⟨i, rfl⟩ : ∃ i : Nat, k = i := ⟨k.toNat, by omega⟩
        rw [Int.toNat_natCast]
        split
        · rename_i p a hp ha
          split
          · rename_i hs
            obtain rfl := dd_inv ha
            refine clr_ok ⟨[], ?_⟩ (by rw [List.length_set]; exact Nat.le_refl _) (closed_set hc (lt_papO _ _)) rfl
            rw [List.append_nil]
            have e1 := h.ixP hp
            have e2 := h.dsP (get_lt hp) (addRow p a)
            have c4 := pp_cut4 p G
            have p0 := pp_0 p G
            have p4 := pp_4 p G
            have p5 := pp_5 p G
            have ra := rows_add (rows := p.rows) (more := [(p.term, a)]) (by simp; omega) G
            rw [List.map_cons, List.map_nil, show rowD (p.term, a) = .tup [.int p.term, ddD a] from rfl] at ra
            have a4 := pp_add4 p (p.rows ++ [(p.term, a)]) p.kept G
            rw [show ({ p with rows := p.rows ++ [(p.term, a)], kept := p.kept } : Pp) = addRow p a from rfl] at a4
            generalize ppD (addRow p a) = QD at e2 a4
            generalize ppD p = PD at e1 c4 p0 p4 p5
            generalize D.tup ((p.rows ++ [(p.term, a)]).map rowD) = RR at ra a4
            generalize D.tup (p.rows.map rowD) = RD at p4 ra
            generalize D.tup [.int p.term, .int p.base, .int p.ahead, .tup (p.things.map Mw.pairD)] = P4 at c4 a4
            simp [fnRun, b_Group_with_rows, startD, N_Group_with_rows, mSetI, h.f1, e1, c4, p0, p4, p5, ra, a4, e2]
          · trivial
        · trivial
      · trivial
    · trivial
  · trivial
section
variable {G : Gp} {g : Nat} {L : Lay} {st : Gst} {i : Nat}
theorem wr_eq (h : Grp G g L st) {p : Pp} {a : Dd} (hp : st.papers[i]? = some p) (hs : p.rows.length < 5000) : C_Group_with_rows [.ref g, .int i, ddD a] G = .ok .non (G.set L.p (papO (st.papers.set i (addRow p a)))) := by
  unfold C_Group_with_rows
  dsimp only
  rw [grp_eq h]
  simp only
  rw [if_pos (by omega), Int.toNat_natCast, hp, dd_D]
  simp only
  rw [if_pos hs]
end
noncomputable def C_Group_rise : FM := fun ds G => match ds with
  | [.ref g, d] => (match grp? G g with
    | some (L, st) => if okE G d = true then (if inPl st d = true then (if (intOf d).toNat < st.up.length then .ok .non (G.set L.u (blsO (st.up.set (intOf d).toNat true))) else .bad) else .exc 6 G) else .bad
    | none => .bad)
  | _ => .bad
theorem K_Group_rise {Γ : Fns} {xs : List Nat} (h50 : Kn Γ 50 2 C_Group_look_place) : Cleans 2 (fnRun N_Group_rise.length (eB Γ xs b_Group_rise)) C_Group_rise := by
  intro ds G hl hc hlt
  unfold C_Group_rise
  split
  · rename_i g d
    split
    · rename_i L st hg
      have h := grp_inv hg
      split
      · rename_i ho
        split
        · rename_i hw
          have e50 := lkp_ok h ho hw
          obtain ⟨i, rfl, hi⟩ := inPl_inv hw
          rw [show (intOf (.int (i : Int))).toNat = i from rfl]
          by_cases hu : i < st.up.length
          · rw [if_pos hu]
            refine clr_ok ⟨[], ?_⟩ (by rw [List.length_set]; exact Nat.le_refl _) (closed_set hc (lt_blsO _ _)) rfl
            simp [fnRun, b_Group_rise, startD, N_Group_rise, h.isI, h50.1, h50.2, e50, mSetI, h.f2, h.dsU hu true]
          · rw [if_neg hu]
            trivial
        · rename_i hw
          have e50 := lkp_no h ho (by simpa using hw)
          refine clr_exc ⟨[], ?_⟩ (Nat.le_refl _) hc
          simp [fnRun, b_Group_rise, startD, N_Group_rise, h.isI, h50.1, h50.2, e50]
      · trivial
    · trivial
  · trivial
noncomputable def C_Group_fall : FM := fun ds G => match ds with
  | [.ref g, d] => (match grp? G g with
    | some (L, st) => if okE G d = true then (if inPl st d = true then (match st.up[(intOf d).toNat]? with
      | some true => if (intOf d).toNat < st.leads.length then .ok .non ((G.set L.u (blsO (st.up.set (intOf d).toNat false))).set L.l (intsO (st.leads.set (intOf d).toNat 0))) else .bad
      | some false => .exc 7 G
      | none => .bad) else .exc 6 G) else .bad
    | none => .bad)
  | _ => .bad
theorem K_Group_fall {Γ : Fns} {xs : List Nat} (h51 : Kn Γ 51 2 C_Group_look_up) : Cleans 2 (fnRun N_Group_fall.length (eB Γ xs b_Group_fall)) C_Group_fall := by
  intro ds G hl hc hlt
  unfold C_Group_fall
  split
  · rename_i g d
    split
    · rename_i L st hg
      have h := grp_inv hg
      split
      · rename_i ho
        split
        · rename_i hw
          obtain ⟨i, rfl, hi⟩ := inPl_inv hw
          rw [show (intOf (.int (i : Int))).toNat = i from rfl]
          split
          · rename_i hu
            have e51 := lku_ok h hi hu
            by_cases hll : i < st.leads.length
            · rw [if_pos hll]
              have h2 := h.setU (st.up.set i false)
              refine clr_ok ⟨[], ?_⟩ (by rw [List.length_set, List.length_set]; exact Nat.le_refl _) (closed_set (closed_set hc (lt_blsO _ _)) (lt_intsO _ _)) rfl
              simp [fnRun, b_Group_fall, startD, N_Group_fall, h.isI, h51.1, h51.2, e51, mSetI, h.f2, h.dsU (get_lt hu) false, h2.f3, h2.dsL hll 0]
            · rw [if_neg hll]
              trivial
          · rename_i hu
            have e51 := lku_down h hi hu
            refine clr_exc ⟨[], ?_⟩ (Nat.le_refl _) hc
            simp [fnRun, b_Group_fall, startD, N_Group_fall, h.isI, h51.1, h51.2, e51]
          · trivial
        · rename_i hw
          have e51 := lku_no h ho (by simpa using hw)
          refine clr_exc ⟨[], ?_⟩ (Nat.le_refl _) hc
          simp [fnRun, b_Group_fall, startD, N_Group_fall, h.isI, h51.1, h51.2, e51]
      · trivial
    · trivial
  · trivial
noncomputable def C_Group_paper : FM := fun ds G => match ds with
  | [.ref g, d] => (match grp? G g with
    | some (L, st) => if okE G d = true then (if inPl st d = true then (match st.papers[(intOf d).toNat]? with
      | some p => .ok (ppD p) G
      | none => .bad) else .exc 6 G) else .bad
    | none => .bad)
  | _ => .bad
theorem K_Group_paper {Γ : Fns} {xs : List Nat} (h50 : Kn Γ 50 2 C_Group_look_place) : Cleans 2 (fnRun N_Group_paper.length (eB Γ xs b_Group_paper)) C_Group_paper := by
  intro ds G hl hc hlt
  unfold C_Group_paper
  split
  · rename_i g d
    split
    · rename_i L st hg
      have h := grp_inv hg
      split
      · rename_i ho
        split
        · rename_i hw
          have e50 := lkp_ok h ho hw
          obtain ⟨i, rfl, hi⟩ := inPl_inv hw
          rw [show (intOf (.int (i : Int))).toNat = i from rfl]
          split
          · rename_i p hp
            refine clr_ok ⟨[], ?_⟩ (Nat.le_refl _) hc (ltD_pp _)
            simp [fnRun, b_Group_paper, startD, N_Group_paper, h.isI, h50.1, h50.2, e50, h.f1, h.ixP hp]
          · trivial
        · rename_i hw
          have e50 := lkp_no h ho (by simpa using hw)
          refine clr_exc ⟨[], ?_⟩ (Nat.le_refl _) hc
          simp [fnRun, b_Group_paper, startD, N_Group_paper, h.isI, h50.1, h50.2, e50]
      · trivial
    · trivial
  · trivial
noncomputable def C_Group_trim : FM := fun ds G => match ds with
  | [.ref g, d] => (match grp? G g with
    | some (L, st) => if okE G d = true then (if inPl st d = true then (match st.up[(intOf d).toNat]?, st.papers[(intOf d).toNat]? with
      | some true, some p => if okP G (ppD p) = true ∧ isPaper (ppD p) = true ∧ p.base ≤ p.kept ∧ small? p p.kept = true then .ok (.int (p.kept - p.base)) (G.set L.p (papO (st.papers.set (intOf d).toNat (trimP p p.kept)))) else .bad
      | some false, _ => .exc 7 G
      | _, _ => .bad) else .exc 6 G) else .bad
    | none => .bad)
  | _ => .bad
theorem K_Group_trim {Γ : Fns} {xs : List Nat} (h26 : Kn Γ 26 2 C_trimmed) (h51 : Kn Γ 51 2 C_Group_look_up) : Cleans 2 (fnRun N_Group_trim.length (eB Γ xs b_Group_trim)) C_Group_trim := by
  intro ds G hl hc hlt
  unfold C_Group_trim
  split
  · rename_i g d
    split
    · rename_i L st hg
      have h := grp_inv hg
      split
      · rename_i ho
        split
        · rename_i hw
          obtain ⟨i, rfl, hi⟩ := inPl_inv hw
          rw [show (intOf (.int (i : Int))).toNat = i from rfl]
          split
          · rename_i p hu hp
            have e51 := lku_ok h hi hu
            split
            · rename_i hcond
              obtain ⟨q1, q2, q3, q4⟩ := hcond
              have e26 := trim_eq (n := p.kept) q1 q2 q3 (Int.le_refl _) q4
              have e1 := h.ixP hp
              have e2 := h.dsP (get_lt hp) (trimP p p.kept)
              have p5 := pp_5 p G
              have p1 := pp_1 p G
              have p5' := pp_5 p (G.set L.p (papO (st.papers.set i (trimP p p.kept))))
              have p1' := pp_1 p (G.set L.p (papO (st.papers.set i (trimP p p.kept))))
              refine clr_ok ⟨[], ?_⟩ (by rw [List.length_set]; exact Nat.le_refl _) (closed_set hc (lt_papO _ _)) rfl
              generalize papO (st.papers.set i (trimP p p.kept)) = PO at e2 p5' p1'
              generalize ppD (trimP p p.kept) = QD at e2 e26
              generalize ppD p = PD at e1 p5 p1 p5' p1' e26
              simp [fnRun, b_Group_trim, startD, N_Group_trim, h.isI, h51.1, h51.2, e51, mSetI, h.f1, e1, p5, p1, h26.1, h26.2, e26, e2, p5', p1']
            · trivial
          · rename_i hu
            have e51 := lku_down h hi hu
            refine clr_exc ⟨[], ?_⟩ (Nat.le_refl _) hc
            simp [fnRun, b_Group_trim, startD, N_Group_trim, h.isI, h51.1, h51.2, e51]
          · trivial
        · rename_i hw
          have e51 := lku_no h ho (by simpa using hw)
          refine clr_exc ⟨[], ?_⟩ (Nat.le_refl _) hc
          simp [fnRun, b_Group_trim, startD, N_Group_trim, h.isI, h51.1, h51.2, e51]
      · trivial
    · trivial
  · trivial
noncomputable def C_Group_look : FM := fun ds G => match ds with
  | [.ref g, d, c] => (match grp? G g with
    | some (L, st) => if okE G d = true ∧ okE G c = true then (if inPl st d = true then (match st.up[(intOf d).toNat]?, st.papers[(intOf d).toNat]? with
      | some true, some p => if isWithin c 0 100000 = true then (if p.kept < intOf c then .exc 11 G else if (keysL p.things).Nodup ∧ p.base ≤ p.kept ∧ small? p p.kept = true then .ok (.tup [.int p.kept, .tup ((thingsP p p.kept).map Mw.pairD)]) G else .bad) else .exc 5 G
      | some false, _ => .exc 7 G
      | _, _ => .bad) else .exc 6 G) else .bad
    | none => .bad)
  | _ => .bad
theorem K_Group_look {Γ : Fns} {xs : List Nat} (h0 : Kn Γ 0 3 C_is_within) (h24 : Kn Γ 24 1 C_things_of) (h51 : Kn Γ 51 2 C_Group_look_up) : Cleans 3 (fnRun N_Group_look.length (eB Γ xs b_Group_look)) C_Group_look := by
  intro ds G hl hc hlt
  unfold C_Group_look
  split
  · rename_i g d c
    split
    · rename_i L st hg
      have h := grp_inv hg
      split
      · rename_i ho
        obtain ⟨ho, ho2⟩ := ho
        split
        · rename_i hw
          obtain ⟨i, rfl, hi⟩ := inPl_inv hw
          rw [show (intOf (.int (i : Int))).toNat = i from rfl]
          split
          · rename_i p hu hp
            have e51 := lku_ok h hi hu
            have e1 := h.ixP hp
            have p5 := pp_5 p G
            split
            · rename_i hwc
              have e0 := within_eq (lo := 0) (hi := 100000) ho2
              rw [hwc] at e0
              obtain ⟨n, rfl, n1, n2⟩ := isWithin_inv hwc
              rw [show intOf (.int n) = n from rfl]
              by_cases hlt2 : p.kept < n
              · rw [if_pos hlt2]
                refine clr_exc ⟨[], ?_⟩ (Nat.le_refl _) hc
                generalize ppD p = PD at e1 p5
                simp [fnRun, b_Group_look, startD, N_Group_look, h.isI, h51.1, h51.2, e51, h0.1, h0.2, e0, h.f1, e1, p5, hlt2]
              · rw [if_neg hlt2]
                by_cases hcond : (keysL p.things).Nodup ∧ p.base ≤ p.kept ∧ small? p p.kept = true
                · rw [if_pos hcond]
                  obtain ⟨q1, q2, q3⟩ := hcond
                  have e24 := thingsof_eq (G := G) q1 q2 q3
                  refine clr_ok ⟨[], ?_⟩ (Nat.le_refl _) hc (by
                    show (true && (ltD _ (.tup ((thingsP p p.kept).map Mw.pairD)) && true)) = true
                    rw [lt_pairs]
                    rfl)
                  generalize ppD p = PD at e1 p5 e24
                  simp [fnRun, b_Group_look, startD, N_Group_look, h.isI, h51.1, h51.2, e51, h0.1, h0.2, e0, h.f1, e1, p5, hlt2, h24.1, h24.2, e24]
                · rw [if_neg hcond]
                  trivial
            · rename_i hwc
              have e0 := within_eq (lo := 0) (hi := 100000) ho2
              rw [show isWithin c 0 100000 = false by simpa using hwc] at e0
              refine clr_exc ⟨[], ?_⟩ (Nat.le_refl _) hc
              simp [fnRun, b_Group_look, startD, N_Group_look, h.isI, h51.1, h51.2, e51, h0.1, h0.2, e0]
          · rename_i hu
            have e51 := lku_down h hi hu
            refine clr_exc ⟨[], ?_⟩ (Nat.le_refl _) hc
            simp [fnRun, b_Group_look, startD, N_Group_look, h.isI, h51.1, h51.2, e51]
          · trivial
        · rename_i hw
          have e51 := lku_no h ho (by simpa using hw)
          refine clr_exc ⟨[], ?_⟩ (Nat.le_refl _) hc
          simp [fnRun, b_Group_look, startD, N_Group_look, h.isI, h51.1, h51.2, e51]
      · trivial
    · trivial
  · trivial
end Mm
namespace Mm
open PySem L2 Mw
open PyProof.Rows hiding St
def C_begun : FM := fun ds G => match ds with
  | [] => .ok (ppD ⟨0, 0, 0, [], [], 0⟩) G
  | _ => .bad
theorem K_begun {Γ : Fns} {xs : List Nat} : Cleans 0 (fnRun N_begun.length (eB Γ xs b_begun)) C_begun := by
  intro ds G hl hc hlt
  unfold C_begun
  split
  · refine clr_ok ⟨[], ?_⟩ (Nat.le_refl _) hc (ltD_pp _)
    simp [fnRun, b_begun, startD, N_begun, ppD]
  · trivial
def leadL (st : Gst) : List Int := (List.range st.papers.length).filterMap fun i => if leadB st i = some true then some (i : Int) else none
def leadF (st : Gst) (d : D) : Option D := match d with
  | .int k => if leadB st k.toNat = some true then some (.int k) else none
  | _ => none
theorem lead_fm (st : Gst) : (rangeD 0 st.papers.length).filterMap (leadF st) = (leadL st).map D.int := by
  unfold rangeD leadL
  rw [List.filterMap_map, List.map_filterMap]
  congr 1
  funext k
  show leadF st (.int (0 + (k : Int))) = _
  rw [Int.zero_add]
  unfold leadF
  simp only [Int.toNat_natCast]
  split <;> rfl
noncomputable def C_Group_leaders : FM := fun ds G => match ds with
  | [.ref g] => (match grp? G g with
    | some (L, st) => if st.up.length = st.papers.length ∧ st.leads.length = st.papers.length ∧ st.papers.length ≤ 5 then .ok (.ref G.length) (G ++ [intsO (leadL st)]) else .bad
    | none => .bad)
  | _ => .bad
theorem leadB_some {st : Gst} {i : Nat} (h1 : st.up.length = st.papers.length) (h2 : st.leads.length = st.papers.length) (hi : i < st.papers.length) : ∃ b, leadB st i = some b := by
  unfold leadB
  rw [List.getElem?_eq_getElem (show i < st.up.length by omega), List.getElem?_eq_getElem (show i < st.leads.length by omega), List.getElem?_eq_getElem hi]
  exact ⟨_, rfl⟩
theorem K_Group_leaders {Γ : Fns} {xs : List Nat} (h48 : Kn Γ 48 2 C_Group_is_leading) : Cleans 1 (fnRun N_Group_leaders.length (eB Γ xs b_Group_leaders)) C_Group_leaders := by
  intro ds G hl hc hlt
  unfold C_Group_leaders
  split
  · rename_i g
    split
    · rename_i L st hg
      have h := grp_inv hg
      split
      · rename_i hcond
        obtain ⟨c1, c2, c3⟩ := hcond
        obtain ⟨J, hJ⟩ := mLc_ok (t := .nm 1) (it := eI Γ (.range1 (.blt .len (.fld 1 (.var 0)) .nil))) (tst := eTst Γ (.some (.meth 48 (.var 0) (.cons (.var 1) .nil)))) (elt := (eP Γ (.var 1)).1) (vs := [1]) (e := [some (.ref g), none]) (G := G) (G1 := G) (s := ⟨rangeD 0 st.papers.length, none⟩) (leadF st) (by
            have z : (-100000 < (st.papers.length : Int) ∧ (st.papers.length : Int) < 100000) := by omega
            simp [eI, h.f1, fLen, h.lenP, z]) rfl (by simp [rangeD]; omega) (fun d hd acc J => by
          unfold rangeD at hd
          obtain ⟨k, hk, rfl⟩ := List.mem_map.mp hd
          have hk' := List.mem_range.mp hk
          obtain ⟨b, hb⟩ := leadB_some c1 c2 hk'
          have hm := h.more (.lst acc :: J)
          have e48 := isl_eq hm hb
          have hI := hm.isI
          have hz : (0 : Int) + (k : Int) = k := by omega
          refine ⟨[some (.ref g), some (.int k)], b, J, by rw [hz]; rfl, ?_, ?_⟩
          · simp [eTst, hI, h48.1, h48.2, e48]
          · cases b with
            | false => exact .inl ⟨rfl, by rw [hz]; unfold leadF; simp [hb]⟩
            | true => exact .inr ⟨rfl, .int k, J, by rw [hz]; unfold leadF; simp [hb], rfl⟩)
        rw [lead_fm] at hJ
        refine clr_new ⟨[], J, ?_⟩ hc (lt_intsO _ _)
        have hJ' : mLc (.nm 1) (eI Γ (.range1 (.blt .len (.fld 1 (.var 0)) .nil))) (eTst Γ (.some (.meth 48 (.var 0) (.cons (.var 1) .nil)))) (eP Γ (.var 1)).1 ([((("place" : Str)), 1)].map (·.2)) [some (.ref g), none] G = _ := hJ
        unfold fnRun b_Group_leaders
        simp only [eB, eS]
        show (match mSeq (mRet (mLc (.nm 1) (eI Γ (.range1 (.blt .len (.fld 1 (.var 0)) .nil))) (eTst Γ (.some (.meth 48 (.var 0) (.cons (.var 1) .nil)))) (eP Γ (.var 1)).1 ([((("place" : Str)), 1)].map (·.2)))) mNext [some (.ref g), none] G with
          | .nx _ G' => Mw.R.ok D.non G'
          | .rt d G' => .ok d G'
          | .exc c _ G' => .exc c G'
          | _ => .bad) = _
        simp only [mSeq, mRet]
        rw [hJ']
        simp [intsO]
      · trivial
    · trivial
  · trivial
section
variable {G : Gp} {g : Nat} {L : Lay} {st : Gst}
theorem leaders_eq (h : Grp G g L st) (c1 : st.up.length = st.papers.length) (c2 : st.leads.length = st.papers.length) (c3 : st.papers.length ≤ 5) : C_Group_leaders [.ref g] G = .ok (.ref G.length) (G ++ [intsO (leadL st)]) := by
  unfold C_Group_leaders
  dsimp only
  rw [grp_eq h]
  simp only
  rw [if_pos ⟨c1, c2, c3⟩]
end
def mineL (tl : List Int) (n i : Nat) : List Int := (List.range n).filterMap fun o => if o = i then none else tl[o]?
def mineF (tl : List Int) (i : Nat) (d : D) : Option D := match d with
  | .int k => if k.toNat = i then none else (tl[k.toNat]?).map D.int
  | _ => none
theorem mine_fm (tl : List Int) (n i : Nat) : (rangeD 0 n).filterMap (mineF tl i) = (mineL tl n i).map D.int := by
  unfold rangeD mineL
  rw [List.filterMap_map, List.map_filterMap]
  congr 1
  funext k
  show mineF tl i (.int (0 + (k : Int))) = _
  rw [Int.zero_add]
  unfold mineF
  simp only [Int.toNat_natCast]
  split <;> rfl
def numN (need : Int) (tl : List Int) (n i : Nat) (p : Pp) : Option Int := (sortI (mineL tl n i ++ [lenP p])).reverse[(need - 1).toNat]?
def cntP (p : Pp) (k : Int) : Pp := if p.kept < k ∧ termAt p k = some p.term then { p with kept := k } else p
noncomputable def C_Group_count : FM := fun ds G => match ds with
  | [.ref g, .int k] => (match grp? G g with
    | some (L, st) => if 0 ≤ k then (match st.papers[k.toNat]?, st.told[k.toNat]? with
      | some p, some tl => (match numN st.need tl st.papers.length k.toNat p with
        | some m => if st.papers.length ≤ 5 ∧ tl.length = st.papers.length ∧ 1 ≤ st.need ∧ (p.kept < m → (termAt p m).isSome = true) then .ok .non (G.set L.p (papO (st.papers.set k.toNat (cntP p m)))) else .bad
        | none => .bad)
      | _, _ => .bad) else .bad
    | none => .bad)
  | _ => .bad
theorem set_same {G : Gp} {n : Nat} {o : O} (h : G[n]? = some o) : G.set n o = G := by
  apply List.ext_getElem?
  intro j
  by_cases hj : n = j
  · subst hj
    rw [List.getElem?_set_self (lt_of h), h]
  · rw [List.getElem?_set_ne hj]
theorem ints_D (xs : List Int) : ints? (xs.map D.int) = some xs := by
  induction xs with
  | nil => rfl
  | cons x xs ih => rw [List.map_cons, ints?, ih]; rfl
theorem pp_cut5 (p : Pp) (G : Gp) : dSl (ppD p) none (some 5) G = .ok (.tup [.int p.term, .int p.base, .int p.ahead, .tup (p.things.map Mw.pairD), .tup (p.rows.map rowD)]) G := by
  show Mw.R.ok (D.tup (Mw.cutD _ none (some 5))) G = _
  rw [cut_take (by decide)]
  rfl
theorem pp_add5 (p : Pp) (k : Int) (G : Gp) : dAdd (.tup [.int p.term, .int p.base, .int p.ahead, .tup (p.things.map Mw.pairD), .tup (p.rows.map rowD)]) (.tup [.int k]) G = .ok (ppD { p with kept := k }) G := by
  rw [add_tup (by simp)]
  rfl
theorem mine_len (tl : List Int) (n i : Nat) : (mineL tl n i).length ≤ n := by
  unfold mineL
  refine Nat.le_trans (List.length_filterMap_le _ _) ?_
  simp
theorem K_Group_count {Γ : Fns} {xs : List Nat} (h19 : Kn Γ 19 1 C_length_of) (h21 : Kn Γ 21 2 C_term_at) : Cleans 2 (fnRun N_Group_count.length (eB Γ xs b_Group_count)) C_Group_count := by
  intro ds G hl hc hlt
  unfold C_Group_count
  split
  · rename_i g k
    split
    · rename_i L st hg
      have h := grp_inv hg
      split
      · rename_i hk
        obtain ⟨i, rfl⟩ : ∃ i : Nat, k = i := ⟨k.toNat, by omega⟩
        rw [Int.toNat_natCast]
        split
        · rename_i p tl hp ht
          split
          · rename_i m hm
            split
            · rename_i hcond
              obtain ⟨c1, c2, c3, c4⟩ := hcond
              refine clr_ok ?_ (by rw [List.length_set]; exact Nat.le_refl _) (closed_set hc (lt_papO _ _)) rfl
              have hip := get_lt hp
              obtain ⟨r, hr⟩ : ∃ r, L.ti[i]? = some r := ⟨L.ti[i]'(by rw [h.tl]; exact get_lt ht), List.getElem?_eq_getElem _⟩
              obtain ⟨J, hJ⟩ := mLc_ok (t := .nm 6) (it := eI Γ (.range1 (.blt .len (.fld 1 (.var 0)) .nil))) (tst := eTst Γ (.some (.cmp .ne (.var 6) (.var 1)))) (elt := (eP Γ (.ix (.ix (.fld 4 (.var 0)) (.var 1)) (.var 6))).1) (vs := [6]) (e := [some (.ref g), some (.int i), some (ppD p), none, none, none, none]) (G := G) (G1 := G) (s := ⟨rangeD 0 st.papers.length, none⟩) (mineF tl i) (by
                  have z : (-100000 < (st.papers.length : Int) ∧ (st.papers.length : Int) < 100000) := by omega
                  simp [eI, h.f1, fLen, h.lenP, z]) rfl (by simp [rangeD]; omega) (fun d hd acc J => by
                unfold rangeD at hd
                obtain ⟨o, ho, rfl⟩ := List.mem_map.mp hd
                have ho' := List.mem_range.mp ho
                have hz : (0 : Int) + (o : Int) = o := by omega
                have hm := h.more (.lst acc :: J)
                have hto : tl[o]? = some (tl[o]'(by omega)) := List.getElem?_eq_getElem _
                have e1 := hm.ixT hr
                have e2 : dIx (.ref r) (.int o) (G ++ .lst acc :: J) = .ok (.int (tl[o]'(by omega))) (G ++ .lst acc :: J) := ix_map (f := D.int) (hm.ts i r tl hr ht) hto
                have e3 := hm.f4
                refine ⟨[some (.ref g), some (.int i), some (ppD p), none, none, none, some (.int o)], !decide ((o : Int) = i), J, by rw [hz]; rfl, ?_, ?_⟩
                · simp [eTst, eq_int]
                · by_cases c : o = i
                  · exact .inl ⟨by simp [c], by rw [hz]; unfold mineF; simp [c]⟩
                  · refine .inr ⟨by simpa using (by omega : ¬ ((o : Int) = i)), .int (tl[o]'(by omega)), J, by rw [hz]; unfold mineF; simp [c, hto], ?_⟩
                    simp [e3, e1, e2])
              rw [mine_fm] at hJ
              generalize hmm : mineL tl st.papers.length i = mm at hJ
              have hmlen : mm.length ≤ 5 := by rw [← hmm]; exact Nat.le_trans (mine_len _ _ _) c1
              unfold fnRun b_Group_count
              simp only [eB]
              have e1 := h.ixP hp
              rw [seq_nx (e1 := [some (.ref g), some (.int i), some (ppD p), none, none, none, none]) (G1 := G) (by
                simp [startD, N_Group_count, h.f1, e1])]
              have hJ' : eS Γ xs (.asgLc 3 (.ix (.ix (.fld 4 (.var 0)) (.var 1)) (.var 6)) (.nm 6) (.range1 (.blt .len (.fld 1 (.var 0)) .nil)) (.some (.cmp .ne (.var 6) (.var 1))) [("other", 6)]) [some (.ref g), some (.int i), some (ppD p), none, none, none, none] G = .nx [some (.ref g), some (.int i), some (ppD p), some (.ref G.length), none, none, none] (G ++ .lst (mm.map D.int) :: J) := by
                rw [eS, mAsg]
                have : mLc (.nm 6) (eI Γ (.range1 (.blt .len (.fld 1 (.var 0)) .nil))) (eTst Γ (.some (.cmp .ne (.var 6) (.var 1)))) (eP Γ (.ix (.ix (.fld 4 (.var 0)) (.var 1)) (.var 6))).1 ([((("other" : Str)), 6)].map (·.2)) [some (.ref g), some (.int i), some (ppD p), none, none, none, none] G = _ := hJ
                rw [this]
                rfl
              rw [seq_nx hJ']
              have hso : fSorted = fSorted := rfl
              generalize hG1 : G ++ .lst (mm.map D.int) :: J = G1
              have hg1 : G1[G.length]? = some (.lst (mm.map D.int)) := by rw [← hG1]; simp
              have h1 : Grp G1 g L st := by rw [← hG1]; exact h.more _
              have e19 := length_eq (G := G1) p
              generalize hsrt : (sortI (mm ++ [lenP p])).reverse = sr
              have hdadd : dAdd (.ref G.length) (.ref G1.length) (G1 ++ [.lst [.int (lenP p)]]) = .ok (.ref (G1.length + 1)) (G1 ++ [.lst [.int (lenP p)]] ++ [.lst ((mm ++ [lenP p]).map D.int)]) := by
                have q1 : (G1 ++ [O.lst [.int (lenP p)]])[G.length]? = some (.lst (mm.map D.int)) := by rw [List.getElem?_append_left (lt_of hg1)]; exact hg1
                have q2 : (G1 ++ [O.lst [.int (lenP p)]])[G1.length]? = some (.lst [.int (lenP p)]) := by simp
                unfold dAdd
                simp only [q1, q2]
                rw [if_pos (by simp; omega)]
                simp
              have hsorted : fSorted [.ref (G1.length + 1)] (G1 ++ [.lst [.int (lenP p)]] ++ [.lst ((mm ++ [lenP p]).map D.int)]) = .ok (.ref (G1.length + 2)) (G1 ++ [.lst [.int (lenP p)]] ++ [.lst ((mm ++ [lenP p]).map D.int)] ++ [.lst ((sortI (mm ++ [lenP p])).map D.int)]) := by
                have q2 : (G1 ++ [O.lst [.int (lenP p)]] ++ [.lst ((mm ++ [lenP p]).map D.int)])[G1.length + 1]? = some (.lst ((mm ++ [lenP p]).map D.int)) := by simp
                unfold fSorted
                simp only [q2, ints_D]
                simp
              have hrev : dRev (.ref (G1.length + 2)) (.int (-1)) (G1 ++ [.lst [.int (lenP p)]] ++ [.lst ((mm ++ [lenP p]).map D.int)] ++ [.lst ((sortI (mm ++ [lenP p])).map D.int)]) = .ok (.ref (G1.length + 3)) (G1 ++ [.lst [.int (lenP p)]] ++ [.lst ((mm ++ [lenP p]).map D.int)] ++ [.lst ((sortI (mm ++ [lenP p])).map D.int)] ++ [.lst (sr.map D.int)]) := by
                have q2 : (G1 ++ [O.lst [.int (lenP p)]] ++ [.lst ((mm ++ [lenP p]).map D.int)] ++ [.lst ((sortI (mm ++ [lenP p])).map D.int)])[G1.length + 2]? = some (.lst ((sortI (mm ++ [lenP p])).map D.int)) := by simp
                unfold dRev
                simp only [q2]
                rw [← hsrt, List.map_reverse]
                simp
              generalize hG4 : G1 ++ [O.lst [.int (lenP p)]] ++ [.lst ((mm ++ [lenP p]).map D.int)] ++ [.lst ((sortI (mm ++ [lenP p])).map D.int)] = G4 at hsorted hrev
              generalize hG3 : G1 ++ [O.lst [.int (lenP p)]] ++ [.lst ((mm ++ [lenP p]).map D.int)] = G3 at hdadd hsorted
              rw [seq_nx (e1 := [some (.ref g), some (.int i), some (ppD p), some (.ref G.length), some (.ref (G1.length + 3)), none, none]) (G1 := G4 ++ [.lst (sr.map D.int)]) (by
                generalize ppD p = PD at e19
                simp [h19.1, h19.2, e19, hdadd, hsorted, hrev])]
              have hG5 : ∃ J5, G4 ++ [O.lst (sr.map D.int)] = G ++ J5 := ⟨_, by rw [← hG4, ← hG1]; simp only [List.append_assoc]; rfl⟩
              have hsr : (G4 ++ [O.lst (sr.map D.int)])[G1.length + 3]? = some (.lst (sr.map D.int)) := by rw [← hG4]; simp
              obtain ⟨J5, hJ5⟩ := hG5
              rw [hJ5] at hsr ⊢
              have h5 := h.more J5
              obtain ⟨nd, hnd⟩ : ∃ nd : Nat, st.need - 1 = nd := ⟨(st.need - 1).toNat, by omega⟩
              have hms : sr[nd]? = some m := by
                rw [← hsrt]
                have := hm
                unfold numN at this
                rw [hmm, hnd, Int.toNat_natCast] at this
                exact this
              have hix := ix_map (f := D.int) hsr hms
              rw [seq_nx (e1 := [some (.ref g), some (.int i), some (ppD p), some (.ref G.length), some (.ref (G1.length + 3)), some (.int m), none]) (G1 := G ++ J5) (by
                generalize ppD p = PD
                simp [h5.f0, hnd, hix])]
              refine ⟨J5, ?_⟩
              have p5 := pp_5 p (G ++ J5)
              have p0 := pp_0 p (G ++ J5)
              unfold cntP
              by_cases d1 : p.kept < m
              · obtain ⟨t, htm⟩ := Option.isSome_iff_exists.mp (c4 d1)
                have e21 := term_eq (G := G ++ J5) htm
                by_cases d2 : t = p.term
                · rw [if_pos ⟨d1, by rw [htm, d2]⟩]
                  have cut5 := pp_cut5 p (G ++ J5)
                  have add5 := pp_add5 p m (G ++ J5)
                  have es := h5.dsP hip { p with kept := m }
                  rw [List.set_append_left _ _ (lt_of h.p)] at es
                  generalize ppD { p with kept := m } = QD at add5 es
                  generalize ppD p = PD at p5 p0 e21 cut5
                  generalize D.tup [.int p.term, .int p.base, .int p.ahead, .tup (p.things.map Mw.pairD), .tup (p.rows.map rowD)] = P5 at cut5 add5
                  simp [p5, p0, d1, h21.1, h21.2, e21, eq_int, d2, mSetI, h5.f1, cut5, add5, es]
                · rw [if_neg (fun z => d2 (by rw [htm] at z; exact Option.some.inj z.2))]
                  have hset : st.papers.set i p = st.papers := by
                    apply List.ext_getElem?
                    intro q
                    by_cases hq : i = q
                    · subst hq; rw [List.getElem?_set_self hip, hp]
                    · rw [List.getElem?_set_ne hq]
                  rw [hset, set_same h.p]
                  generalize ppD p = PD at p5 p0 e21
                  simp [p5, p0, d1, h21.1, h21.2, e21, eq_int, d2]
              · rw [if_neg (fun z => d1 z.1)]
                have hset : st.papers.set i p = st.papers := by
                  apply List.ext_getElem?
                  intro q
                  by_cases hq : i = q
                  · subst hq; rw [List.getElem?_set_self hip, hp]
                  · rw [List.getElem?_set_ne hq]
                rw [hset, set_same h.p]
                generalize ppD p = PD at p5 p0
                simp [p5, p0, d1]
            · trivial
          · trivial
        · trivial
      · trivial
    · trivial
  · trivial
end Mm
namespace Mm
open PySem L2 Mw
open PyProof.Rows hiding St
section
variable {G : Gp} {g : Nat} {L : Lay} {st : Gst} {i : Nat} {p : Pp} {tl : List Int} {m : Int}
theorem cnt_eq (h : Grp G g L st) (hp : st.papers[i]? = some p) (ht : st.told[i]? = some tl) (hm : numN st.need tl st.papers.length i p = some m) (c1 : st.papers.length ≤ 5) (c2 : tl.length = st.papers.length) (c3 : 1 ≤ st.need) (c4 : p.kept < m → (termAt p m).isSome = true) : C_Group_count [.ref g, .int i] G = .ok .non (G.set L.p (papO (st.papers.set i (cntP p m)))) := by
  unfold C_Group_count
  dsimp only
  rw [grp_eq h]
  simp only
  rw [if_pos (by omega), Int.toNat_natCast, hp, ht]
  simp only
  rw [hm]
  simp only
  rw [if_pos ⟨c1, c2, c3, c4⟩]
theorem lkl_ok (h : Grp G g L st) (hi : i < st.papers.length) (hu : st.up[i]? = some true) (hb : leadB st i = some true) : C_Group_look_leading [.ref g, .int i] G = .ok .non G := by
  unfold C_Group_look_leading
  dsimp only
  rw [grp_eq h]
  simp only
  rw [if_pos (show okE G (.int i) = true from rfl), if_pos (inPl_ok hi)]
  simp only [intOf, Int.toNat_natCast, hu, hb]
theorem lenP_add (p : Pp) (a : Dd) : lenP (addRow p a) = lenP p + 1 := by
  unfold lenP addRow
  simp
  omega
theorem lenP_cnt (p : Pp) (m : Int) : lenP (cntP p m) = lenP p := by
  unfold cntP
  split <;> rfl
end
noncomputable def C_Group_write : FM := fun ds G => match ds with
  | [.ref g, .int k, d] => (match grp? G g with
    | some (L, st) => if 0 ≤ k then (match st.papers[k.toNat]?, st.told[k.toNat]?, dd? d with
      | some p, some tl, some a => (match numN st.need tl st.papers.length k.toNat (addRow p a) with
        | some m => if st.up[k.toNat]? = some true ∧ leadB st k.toNat = some true ∧ okT G d = true ∧ isDeed d = true ∧ p.rows.length < 5000 ∧ st.papers.length ≤ 5 ∧ tl.length = st.papers.length ∧ 1 ≤ st.need ∧ (p.kept < m → (termAt (addRow p a) m).isSome = true) then .ok (.int (lenP p)) (G.set L.p (papO (st.papers.set k.toNat (cntP (addRow p a) m)))) else .bad
        | none => .bad)
      | _, _, _ => .bad) else .bad
    | none => .bad)
  | _ => .bad
theorem set_set' {G : Gp} {n : Nat} (a b : O) : (G.set n a).set n b = G.set n b := by rw [List.set_set]
theorem K_Group_write {Γ : Fns} {xs : List Nat} (h2 : Kn Γ 2 1 C_is_deed) (h19 : Kn Γ 19 1 C_length_of) (h52 : Kn Γ 52 2 C_Group_look_leading) (h58 : Kn Γ 58 2 C_Group_count) (h66 : Kn Γ 66 3 C_Group_with_rows) : Cleans 3 (fnRun N_Group_write.length (eB Γ xs b_Group_write)) C_Group_write := by
  intro ds G hl hc hlt
  unfold C_Group_write
  split
  · rename_i g k d
    split
    · rename_i L st hg
      have h := grp_inv hg
      split
      · rename_i hk
        obtain ⟨i, rfl⟩ : ∃ i : Nat, k = i := ⟨k.toNat, by omega⟩
        rw [Int.toNat_natCast]
        split
        · rename_i p tl a hp ht ha
          split
          · rename_i m hm
            split
            · rename_i hcond
              obtain ⟨c1, c2, c3, c4, c5, c6, c7, c8, c9⟩ := hcond
              have hi := get_lt hp
              obtain rfl := dd_inv ha
              have e52 := lkl_ok h hi c1 c2
              have e2 := deed_eq c3
              rw [c4] at e2
              have e66 := wr_eq (a := a) h hp c5
              have h1 := h.setP (st.papers.set i (addRow p a))
              have hp1 : (st.papers.set i (addRow p a))[i]? = some (addRow p a) := List.getElem?_set_self hi
              have e58 := cnt_eq (i := i) (p := addRow p a) (tl := tl) (m := m) h1 hp1 ht (by rw [List.length_set]; exact hm) (by rw [List.length_set]; exact c6) (by rw [List.length_set]; exact c7) c8 c9
              rw [List.set_set, List.set_set] at e58
              have h2' := h.setP (st.papers.set i (cntP (addRow p a) m))
              have hp2 : (st.papers.set i (cntP (addRow p a) m))[i]? = some (cntP (addRow p a) m) := List.getElem?_set_self hi
              have e3 := h2'.ixP hp2
              have e19 := length_eq (G := G.set L.p (papO (st.papers.set i (cntP (addRow p a) m)))) (cntP (addRow p a) m)
              rw [lenP_cnt, lenP_add] at e19
              have f1 := h2'.f1
              have I1 := h1.isI
              have I0 := h.isI
              refine clr_ok ⟨[], ?_⟩ (by rw [List.length_set]; exact Nat.le_refl _) (closed_set hc (lt_papO _ _)) rfl
              rw [List.append_nil]
              generalize G.set L.p (papO (st.papers.set i (cntP (addRow p a) m))) = G2 at e58 e3 e19 f1
              generalize G.set L.p (papO (st.papers.set i (addRow p a))) = G1 at e66 e58 I1
              generalize ppD (cntP (addRow p a) m) = QD at e3 e19
              generalize ddD a = DD at e2 e66
              simp [fnRun, b_Group_write, startD, N_Group_write, I0, I1, h52.1, h52.2, e52, h2.1, h2.2, e2, h66.1, h66.2, e66, h58.1, h58.2, e58, f1, e3, h19.1, h19.2, e19]
            · trivial
          · trivial
        · trivial
      · trivial
    · trivial
  · trivial
section
variable {G : Gp} {g : Nat} {L : Lay} {st : Gst} {i : Nat} {p : Pp} {tl : List Int} {m : Int}
theorem write_eq (h : Grp G g L st) {a : Dd} (hp : st.papers[i]? = some p) (ht : st.told[i]? = some tl) (hm : numN st.need tl st.papers.length i (addRow p a) = some m) (c1 : st.up[i]? = some true) (c2 : leadB st i = some true) (c3 : okT G (ddD a) = true) (c4 : isDeed (ddD a) = true) (c5 : p.rows.length < 5000) (c6 : st.papers.length ≤ 5) (c7 : tl.length = st.papers.length) (c8 : 1 ≤ st.need) (c9 : p.kept < m → (termAt (addRow p a) m).isSome = true) :
    C_Group_write [.ref g, .int i, ddD a] G = .ok (.int (lenP p)) (G.set L.p (papO (st.papers.set i (cntP (addRow p a) m)))) := by
  unfold C_Group_write
  dsimp only
  rw [grp_eq h]
  simp only
  rw [if_pos (by omega), Int.toNat_natCast, hp, ht, dd_D]
  simp only
  rw [hm]
  simp only
  rw [if_pos ⟨c1, c2, c3, c4, c5, c6, c7, c8, c9⟩]
end
def lay0 (n k : Nat) : Lay := ⟨n, n + 1, n + 2, n + 3, n + 4 + k, n + 5 + 2 * k, (List.range k).map (n + 4 + ·), (List.range k).map (n + 5 + k + ·)⟩
def p0 : Pp := ⟨0, 0, 0, [], [], 0⟩
def gst0 (k : Nat) (need : Int) : Gst := ⟨need, List.replicate k p0, List.replicate k true, List.replicate k 0, List.replicate k (List.replicate k 0), List.replicate k (List.replicate k 0), [], 0⟩
def new0 (n k : Nat) : Gp := [papO (List.replicate k p0), blsO (List.replicate k true), intsO (List.replicate k 0), refsO (lay0 n k).ti] ++ List.replicate k (intsO (List.replicate k 0)) ++ [refsO (lay0 n k).ni] ++ List.replicate k (intsO (List.replicate k 0)) ++ [.lst []]
def C_Group___init__ : FM := fun ds G => match ds with
  | [.ref g, .int many, .int need] => (match G[g]? with
    | some (.ins []) => if 1 ≤ many ∧ many ≤ 5 ∧ 1 ≤ need ∧ need ≤ many then .ok .non (G.set g (insO (lay0 G.length many.toNat) (gst0 many.toNat need)) ++ new0 G.length many.toNat) else .bad
    | _ => .bad)
  | _ => .bad
theorem lcGo_pure {i : Nat} {elt : ME0} {ds0 : List D} {e : En} {f : D → D} {G0 : Gp} : ∀ (ds acc : List D) (J : Gp), (∀ d ∈ ds, ∀ H, elt (e.set i (some d)) H = .ok (f d) H) → acc.length + ds.length ≤ 1000 → lcGo (.nm i) mYes elt ⟨ds0, none⟩ G0.length e ds (G0 ++ .lst acc :: J) = .ok (.ref G0.length) (G0 ++ .lst (acc ++ ds.map f) :: J)
  | [], acc, J, _, _ => by simp [lcGo]
  | d :: ds, acc, J, h, hl => by
    rw [List.length_cons] at hl
    have ih := lcGo_pure (i := i) (elt := elt) (ds0 := ds0) (e := e) (f := f) (G0 := G0) ds (acc ++ [f d]) J (fun z hz => h z (List.mem_cons_of_mem _ hz)) (by simp; omega)
    rw [lcGo]
    simp only [Tg.set, mYes]
    rw [h d List.mem_cons_self]
    dsimp only
    rw [mid]
    dsimp only
    have e3 : (G0 ++ .lst acc :: J).set G0.length (.lst (acc ++ [f d])) = G0 ++ .lst (acc ++ [f d]) :: J := by simp
    rw [e3, if_pos ⟨by simp; omega, rfl⟩, ih]
    simp
theorem mLc_pure {i : Nat} {it : MI0} {elt : ME0} {ds : List D} {vs : List Nat} {e : En} {f : D → D} {G : Gp} (hi : it e G = .ok ⟨ds, none⟩ G) (h : ∀ d ∈ ds, ∀ H, elt ((wipeE e vs).set i (some d)) H = .ok (f d) H) (hl : ds.length ≤ 1000) : mLc (.nm i) it mYes elt vs e G = .ok (.ref G.length) (G ++ [.lst (ds.map f)]) := by
  have q := lcGo_pure (i := i) (elt := elt) (ds0 := ds) (e := wipeE e vs) (f := f) (G0 := G) ds [] [] h (by simpa using hl)
  unfold mLc
  rw [hi]
  dsimp only
  rw [if_pos ⟨rfl, rfl⟩, q]
  simp
theorem lcGo_nest {i : Nat} {elt : ME0} {ds0 : List D} {e : En} {o : O} {G0 : Gp} : ∀ (ds acc : List D) (J : Gp), (∀ d ∈ ds, ∀ H, elt (e.set i (some d)) H = .ok (.ref H.length) (H ++ [o])) → acc.length + ds.length ≤ 1000 → lcGo (.nm i) mYes elt ⟨ds0, none⟩ G0.length e ds (G0 ++ .lst acc :: J) = .ok (.ref G0.length) (G0 ++ .lst (acc ++ (List.range ds.length).map (fun j => D.ref (G0.length + 1 + J.length + j))) :: (J ++ List.replicate ds.length o))
  | [], acc, J, _, _ => by simp [lcGo]
  | d :: ds, acc, J, h, hl => by
    rw [List.length_cons] at hl
    have ih := lcGo_nest (i := i) (elt := elt) (ds0 := ds0) (e := e) (o := o) (G0 := G0) ds (acc ++ [.ref (G0.length + 1 + J.length)]) (J ++ [o]) (fun z hz => h z (List.mem_cons_of_mem _ hz)) (by simp; omega)
    rw [lcGo]
    simp only [Tg.set, mYes]
    rw [h d List.mem_cons_self]
    dsimp only
    have g1 : (G0 ++ .lst acc :: J ++ [o])[G0.length]? = some (.lst acc) := by simp
    rw [g1]
    dsimp only
    have e4 : (G0 ++ O.lst acc :: J).length = G0.length + 1 + J.length := by simp; omega
    have e3 : (G0 ++ .lst acc :: J ++ [o]).set G0.length (.lst (acc ++ [.ref (G0 ++ O.lst acc :: J).length])) = G0 ++ .lst (acc ++ [.ref (G0.length + 1 + J.length)]) :: (J ++ [o]) := by rw [e4]; simp
    rw [e3, if_pos ⟨by simp; omega, rfl⟩, ih]
    congr 3
    · rw [List.length_cons, List.range_succ_eq_map, List.map_cons, List.map_map]
      simp only [List.append_assoc, List.singleton_append]
      congr 2
      rw [List.cons.injEq]
      exact ⟨rfl, List.map_congr_left fun j _ => by simp; omega⟩
    · rw [List.length_cons, List.replicate_succ]
      simp
theorem mLc_nest {i : Nat} {it : MI0} {elt : ME0} {ds : List D} {vs : List Nat} {e : En} {o : O} {G : Gp} (hi : it e G = .ok ⟨ds, none⟩ G) (h : ∀ d ∈ ds, ∀ H, elt ((wipeE e vs).set i (some d)) H = .ok (.ref H.length) (H ++ [o])) (hl : ds.length ≤ 1000) : mLc (.nm i) it mYes elt vs e G = .ok (.ref G.length) (G ++ .lst ((List.range ds.length).map (fun j => D.ref (G.length + 1 + j))) :: List.replicate ds.length o) := by
  have q := lcGo_nest (i := i) (elt := elt) (ds0 := ds) (e := wipeE e vs) (o := o) (G0 := G) ds [] [] h (by simpa using hl)
  unfold mLc
  rw [hi]
  dsimp only
  rw [if_pos ⟨rfl, rfl⟩, q]
  simp
theorem lt_refsO {m : Nat} {xs : List Nat} (h : ∀ r ∈ xs, r < m) : ltO m (refsO xs) = true := by
  show ltDs m (xs.map D.ref) = true
  rw [ltDs_all]
  intro d hd
  obtain ⟨p, hp, rfl⟩ := List.mem_map.mp hd
  exact decide_eq_true (h p hp)
theorem hh_get {G : Gp} {g : Nat} {o : O} {J : Gp} (h : g < G.length) : (G.set g o ++ J)[g]? = some o := by
  rw [List.getElem?_append_left (by rw [List.length_set]; exact h), List.getElem?_set_self h]
theorem hh_set {G : Gp} {g : Nat} {o o' : O} {J : Gp} (h : g < G.length) : (G.set g o ++ J).set g o' = G.set g o' ++ J := by
  rw [List.set_append_left _ _ (by rw [List.length_set]; exact h), List.set_set]
theorem mSetF_ok {f g : Nat} {v : ME0} {e : En} {G H J : Gp} {z : D} {fs : List (Nat × D)} (hg : g < G.length) (hv : v e H = .ok z (G.set g (.ins fs) ++ J)) (he : e[0]? = some (some (.ref g))) (hl : fs.length < 100) : mSetF f (mVar 0) v e H = .nx e (G.set g (.ins (putFd f z fs)) ++ J) := by
  unfold mSetF
  rw [hv]
  simp only [Mw.R.bind_ok, mVar, he]
  unfold dSetF
  simp only [hh_get hg]
  rw [if_pos hl, hh_set hg]
theorem lay0_ti (n k : Nat) : refsO (lay0 n k).ti = .lst ((List.range k).map (fun j => D.ref (n + 3 + 1 + j))) := by
  unfold refsO lay0
  simp only
  rw [List.map_map]
  congr 1
theorem lay0_ni (n k : Nat) : refsO (lay0 n k).ni = .lst ((List.range k).map (fun j => D.ref (n + 4 + k + 1 + j))) := by
  unfold refsO lay0
  simp only
  rw [List.map_map]
  congr 1
  apply List.map_congr_left
  intro j _
  simp
  omega
theorem K_Group___init__ {Γ : Fns} {xs : List Nat} (h0 : Kn Γ 0 3 C_is_within) (h46 : Kn Γ 46 0 C_begun) : Cleans 3 (fnRun N_Group___init__.length (eB Γ xs b_Group___init__)) C_Group___init__ := by
  intro ds G hl hc hlt
  unfold C_Group___init__
  split
  · rename_i g many need
    split
    · rename_i hg
      split
      · rename_i hcond
        obtain ⟨m1, m2, n1, n2⟩ := hcond
        have hgl := lt_of hg
        obtain ⟨k, rfl⟩ : ∃ k : Nat, many = k := ⟨many.toNat, by omega⟩
        rw [Int.toNat_natCast]
        have hk : 1 ≤ k ∧ k ≤ 5 := by omega
        have hset0 : G.set g (.ins []) ++ [] = G := by rw [set_same hg, List.append_nil]
        have rl : (rangeD 0 k).length = k := by simp [rangeD]
        have z : (-100000 < (k : Int) ∧ (k : Int) < 100000) := by omega
        have hrng : ∀ (e : En) (H : Gp), e[1]? = some (some (.int k)) → eI Γ (.range1 (.var 1)) e H = .ok ⟨rangeD 0 k, none⟩ H := fun e H he => by simp [eI, he, z]
        generalize hE : [some (D.ref g), some (.int (k : Int)), some (.int need), none, none] = E
        have e0 : E[0]? = some (some (.ref g)) := by rw [← hE]; rfl
        have e1 : E[1]? = some (some (.int k)) := by rw [← hE]; rfl
        have e2 : E[2]? = some (some (.int need)) := by rw [← hE]; rfl
        have repD : ∀ {α : Type} (x : α), (rangeD 0 k).map (fun _ => x) = List.replicate k x := fun x => by
          rw [List.map_const', rl]
        -- the three plain lists
        have L1 : ∀ H, mLc (.nm 3) (eI Γ (.range1 (.var 1))) mYes (eP Γ (.call 46 .nil)).1 [3] E H = .ok (.ref H.length) (H ++ [papO (List.replicate k p0)]) := fun H => by
          rw [mLc_pure (f := fun _ => ppD p0) (hrng E H e1) (fun d _ H' => by simp [h46.1, h46.2, C_begun, p0]) (by rw [rl]; omega), repD]
          simp [papO]
        have L2 : ∀ H, mLc (.nm 3) (eI Γ (.range1 (.var 1))) mYes (eP Γ (.bl true)).1 [3] E H = .ok (.ref H.length) (H ++ [blsO (List.replicate k true)]) := fun H => by
          rw [mLc_pure (f := fun _ => D.bl true) (hrng E H e1) (fun d _ H' => by simp) (by rw [rl]; omega), repD]
          simp [blsO]
        have L3 : ∀ H, mLc (.nm 3) (eI Γ (.range1 (.var 1))) mYes (eP Γ (.int 0)).1 [3] E H = .ok (.ref H.length) (H ++ [intsO (List.replicate k 0)]) := fun H => by
          rw [mLc_pure (f := fun _ => D.int 0) (hrng E H e1) (fun d _ H' => by simp) (by rw [rl]; omega), repD]
          simp [intsO]
        have L4 : ∀ H, mLc (.nm 3) (eI Γ (.range1 (.var 1))) mYes (eP Γ (.lc (.int 0) (.nm 4) (.range1 (.var 1)) .none [("other", 4)])).1 [3] E H = .ok (.ref H.length) (H ++ .lst ((List.range k).map (fun j => D.ref (H.length + 1 + j))) :: List.replicate k (intsO (List.replicate k 0))) := fun H => by
          rw [mLc_nest (o := intsO (List.replicate k 0)) (hrng E H e1) (fun d _ H' => by
            have hw : ((wipeE E [3]).set 3 (some d))[1]? = some (some (.int k)) := by rw [← hE]; rfl
            have : mLc (.nm 4) (eI Γ (.range1 (.var 1))) mYes (eP Γ (.int 0)).1 [4] ((wipeE E [3]).set 3 (some d)) H' = .ok (.ref H'.length) (H' ++ [intsO (List.replicate k 0)]) := by
              rw [mLc_pure (f := fun _ => D.int 0) (hrng _ H' hw) (fun d _ H' => by simp) (by rw [rl]; omega), repD]
              simp [intsO]
            exact this) (by rw [rl]; omega), rl]
        refine clr_ok ⟨[], ?_⟩ ?_ ?_ rfl
        · rw [List.append_nil]
          unfold fnRun b_Group___init__
          simp only [eB]
          have hst : startD N_Group___init__.length [.ref g, .int (k : Int), .int need] = E := by rw [← hE]; rfl
          rw [hst]
          have w1 : isWithin (.int (k : Int)) 1 5 = true := within_ok m1 m2
          have w2 : isWithin (.int need) 1 k = true := within_ok n1 n2
          rw [seq_nx (e1 := E) (G1 := G) (by
            have q1 := within_eq (G := G) (d := .int (k : Int)) (lo := 1) (hi := 5) rfl
            have q2 := within_eq (G := G) (d := .int need) (lo := 1) (hi := (k : Int)) rfl
            rw [w1] at q1
            rw [w2] at q2
            simp [e1, e2, h0.1, h0.2, q1, q2])]
          rw [seq_nx (e1 := E) (G1 := G.set g (.ins [(0, .int need)]) ++ []) (by
            exact mSetF_ok (f := 0) (v := mVar 2) (z := .int need) (fs := []) hgl (by rw [hset0]; simp [e2]) e0 (by simp))]
          rw [seq_nx (e1 := E) (G1 := G.set g (.ins [(0, .int need), (1, .ref G.length)]) ++ [papO (List.replicate k p0)]) (by
            refine mSetF_ok (f := 1) (fs := [(0, .int need)]) hgl ?_ e0 (by simp)
            have := L1 (G.set g (.ins [(0, .int need)]) ++ [])
            rw [List.append_nil, List.length_set] at this
            rw [List.append_nil]
            exact this)]
          rw [seq_nx (e1 := E) (G1 := G.set g (.ins [(0, .int need), (1, .ref G.length), (2, .ref (G.length + 1))]) ++ [papO (List.replicate k p0), blsO (List.replicate k true)]) (by
            refine mSetF_ok (f := 2) (fs := [(0, .int need), (1, .ref G.length)]) hgl ?_ e0 (by simp)
            have := L2 (G.set g (.ins [(0, .int need), (1, .ref G.length)]) ++ [papO (List.replicate k p0)])
            rw [List.length_append, List.length_set, List.append_assoc] at this
            exact this)]
          rw [seq_nx (e1 := E) (G1 := G.set g (.ins [(0, .int need), (1, .ref G.length), (2, .ref (G.length + 1)), (3, .ref (G.length + 2))]) ++ [papO (List.replicate k p0), blsO (List.replicate k true), intsO (List.replicate k 0)]) (by
            refine mSetF_ok (f := 3) (fs := [(0, .int need), (1, .ref G.length), (2, .ref (G.length + 1))]) hgl ?_ e0 (by simp)
            have := L3 (G.set g (.ins [(0, .int need), (1, .ref G.length), (2, .ref (G.length + 1))]) ++ [papO (List.replicate k p0), blsO (List.replicate k true)])
            rw [List.length_append, List.length_set, List.append_assoc] at this
            exact this)]
          rw [seq_nx (e1 := E) (G1 := G.set g (.ins [(0, .int need), (1, .ref G.length), (2, .ref (G.length + 1)), (3, .ref (G.length + 2)), (4, .ref (G.length + 3))]) ++ ([papO (List.replicate k p0), blsO (List.replicate k true), intsO (List.replicate k 0), refsO (lay0 G.length k).ti] ++ List.replicate k (intsO (List.replicate k 0)))) (by
            refine mSetF_ok (f := 4) (fs := [(0, .int need), (1, .ref G.length), (2, .ref (G.length + 1)), (3, .ref (G.length + 2))]) hgl ?_ e0 (by simp)
            have := L4 (G.set g (.ins [(0, .int need), (1, .ref G.length), (2, .ref (G.length + 1)), (3, .ref (G.length + 2))]) ++ [papO (List.replicate k p0), blsO (List.replicate k true), intsO (List.replicate k 0)])
            rw [List.length_append, List.length_set, List.append_assoc] at this
            rw [lay0_ti]
            exact this)]
          rw [seq_nx (e1 := E) (G1 := G.set g (.ins [(0, .int need), (1, .ref G.length), (2, .ref (G.length + 1)), (3, .ref (G.length + 2)), (4, .ref (G.length + 3)), (5, .ref (G.length + 4 + k))]) ++ ([papO (List.replicate k p0), blsO (List.replicate k true), intsO (List.replicate k 0), refsO (lay0 G.length k).ti] ++ List.replicate k (intsO (List.replicate k 0)) ++ [refsO (lay0 G.length k).ni] ++ List.replicate k (intsO (List.replicate k 0)))) (by
            refine mSetF_ok (f := 5) (fs := [(0, .int need), (1, .ref G.length), (2, .ref (G.length + 1)), (3, .ref (G.length + 2)), (4, .ref (G.length + 3))]) hgl ?_ e0 (by simp)
            have := L4 (G.set g (.ins [(0, .int need), (1, .ref G.length), (2, .ref (G.length + 1)), (3, .ref (G.length + 2)), (4, .ref (G.length + 3))]) ++ ([papO (List.replicate k p0), blsO (List.replicate k true), intsO (List.replicate k 0), refsO (lay0 G.length k).ti] ++ List.replicate k (intsO (List.replicate k 0))))
            have hln : (G.set g (.ins [(0, .int need), (1, .ref G.length), (2, .ref (G.length + 1)), (3, .ref (G.length + 2)), (4, .ref (G.length + 3))]) ++ ([papO (List.replicate k p0), blsO (List.replicate k true), intsO (List.replicate k 0), refsO (lay0 G.length k).ti] ++ List.replicate k (intsO (List.replicate k 0)))).length = G.length + 4 + k := by simp; omega
            rw [hln, List.append_assoc] at this
            rw [lay0_ni]
            simpa using this)]
          rw [seq_nx (e1 := E) (G1 := G.set g (.ins [(0, .int need), (1, .ref G.length), (2, .ref (G.length + 1)), (3, .ref (G.length + 2)), (4, .ref (G.length + 3)), (5, .ref (G.length + 4 + k)), (6, .ref (G.length + 5 + 2 * k))]) ++ new0 G.length k) (by
            refine mSetF_ok (f := 6) (fs := [(0, .int need), (1, .ref G.length), (2, .ref (G.length + 1)), (3, .ref (G.length + 2)), (4, .ref (G.length + 3)), (5, .ref (G.length + 4 + k))]) hgl ?_ e0 (by simp)
            have hln : (G.set g (.ins [(0, .int need), (1, .ref G.length), (2, .ref (G.length + 1)), (3, .ref (G.length + 2)), (4, .ref (G.length + 3)), (5, .ref (G.length + 4 + k))]) ++ ([papO (List.replicate k p0), blsO (List.replicate k true), intsO (List.replicate k 0), refsO (lay0 G.length k).ti] ++ List.replicate k (intsO (List.replicate k 0)) ++ [refsO (lay0 G.length k).ni] ++ List.replicate k (intsO (List.replicate k 0)))).length = G.length + 5 + 2 * k := by simp; omega
            show mLst maNil E _ = _
            simp only [mLst, maNil, Mw.R.bind_ok]
            rw [hln, List.append_assoc]
            rfl)]
          rw [seq_nx (e1 := E) (G1 := G.set g (insO (lay0 G.length k) (gst0 k need)) ++ new0 G.length k) (by
            exact mSetF_ok (f := 7) (v := mC (.int 0)) (z := .int 0) (fs := [(0, .int need), (1, .ref G.length), (2, .ref (G.length + 1)), (3, .ref (G.length + 2)), (4, .ref (G.length + 3)), (5, .ref (G.length + 4 + k)), (6, .ref (G.length + 5 + 2 * k))]) hgl rfl e0 (by simp))]
          rfl
        · rw [List.length_append, List.length_set]
          omega
        · have hnl : (G.set g (insO (lay0 G.length k) (gst0 k need)) ++ new0 G.length k).length = G.length + (6 + 2 * k) := by
            rw [List.length_append, List.length_set]
            unfold new0
            simp
            omega
          intro o ho
          rw [hnl]
          rcases List.mem_append.mp ho with q | q
          · rcases List.mem_or_eq_of_mem_set q with q | q
            · exact ltO_mono (by omega) o (hc o q)
            · rw [q]
              simp [insO, ltO, ltDs, ltD, lay0]
              omega
          · unfold new0 at q
            simp only [List.mem_append, List.mem_cons, List.not_mem_nil, or_false, List.mem_replicate] at q
            rcases q with ((((q | q | q | q) | ⟨_, q⟩) | q) | ⟨_, q⟩) | q <;> rw [q]
            · exact lt_papO _ _
            · exact lt_blsO _ _
            · exact lt_intsO _ _
            · refine lt_refsO fun r hr => ?_
              obtain ⟨j, hj, rfl⟩ := List.mem_map.mp hr
              have := List.mem_range.mp hj
              omega
            · exact lt_intsO _ _
            · refine lt_refsO fun r hr => ?_
              obtain ⟨j, hj, rfl⟩ := List.mem_map.mp hr
              have := List.mem_range.mp hj
              omega
            · exact lt_intsO _ _
            · rfl
      · trivial
    · trivial
  · trivial
end Mm
namespace Mm
open PySem L2 Mw
open PyProof.Rows hiding St
section
variable {G : Gp} {g : Nat} {L : Lay} {st : Gst} {i : Nat}
theorem Grp.lts (h : Grp G g L st) : ∀ a ∈ refsL g L, a < G.length := fun a ha => by
  unfold refsL at ha
  simp only [List.mem_cons, List.mem_append] at ha
  rcases ha with rfl | rfl | rfl | rfl | rfl | rfl | rfl | ha | ha
  · exact lt_of h.ins
  · exact lt_of h.p
  · exact lt_of h.u
  · exact lt_of h.l
  · exact lt_of h.t
  · exact lt_of h.n
  · exact lt_of h.w
  · obtain ⟨j, hj⟩ := List.getElem?_of_mem ha
    have hl : j < st.told.length := by rw [← h.tl]; exact (List.getElem?_eq_some_iff.mp hj).1
    exact lt_of (h.ts j a _ hj (List.getElem?_eq_getElem hl))
  · obtain ⟨j, hj⟩ := List.getElem?_of_mem ha
    have hl : j < st.nexts.length := by rw [← h.nl]; exact (List.getElem?_eq_some_iff.mp hj).1
    exact lt_of (h.ns j a _ hj (List.getElem?_eq_getElem hl))
theorem nodup_set {xs : List Nat} {i r : Nat} (h : xs.Nodup) (hr : r ∉ xs) : (xs.set i r).Nodup := by
  refine List.pairwise_iff_getElem.mpr fun a b ha hb hab e0 => ?_
  have e : (xs.set i r)[a]? = (xs.set i r)[b]? := by rw [List.getElem?_eq_getElem ha, List.getElem?_eq_getElem hb, e0]
  have ha' : a < xs.length := by simpa using ha
  have hb' : b < xs.length := by simpa using hb
  clear e0
  by_cases hai : a = i
  · by_cases hbi : b = i
    · omega
    · subst hai
      rw [List.getElem?_set_self (by omega), List.getElem?_set_ne (by omega)] at e
      exact hr (List.mem_of_getElem? e.symm)
  · by_cases hbi : b = i
    · subst hbi
      rw [List.getElem?_set_self hb', List.getElem?_set_ne (by omega)] at e
      exact hr (List.mem_of_getElem? e)
    · rw [List.getElem?_set_ne (Ne.symm hai), List.getElem?_set_ne (Ne.symm hbi), List.getElem?_eq_getElem ha', List.getElem?_eq_getElem hb'] at e
      exact List.pairwise_iff_getElem.mp h a b ha' hb' hab (Option.some.inj e)
theorem Grp.newT (h : Grp G g L st) (hi : i < L.ti.length) (xs : List Int) : Grp ((G ++ [intsO xs]).set L.t (refsO (L.ti.set i G.length))) g { L with ti := L.ti.set i G.length } { st with told := st.told.set i xs } := by
  obtain ⟨⟨a1, a2, a3, a4, a5, a6, a7, a8⟩, ⟨b1, b2, b3, b4, b5, b6, b7⟩, ⟨c1, c2, c3, c4, c5, c6⟩, ⟨d1, d2, d3, d4, d5⟩, ⟨e1, e2, e3, e4⟩, ⟨f1, f2, f3⟩, ⟨k1, k2⟩, m1, m2, m3⟩ := h.neq
  have hm := h.more [intsO xs]
  have hlt := h.lts
  have k : ∀ a, L.t ≠ a → ((G ++ [intsO xs]).set L.t (refsO (L.ti.set i G.length)))[a]? = (G ++ [intsO xs])[a]? := fun a ha => List.getElem?_set_ne ha
  refine ⟨by rw [k g (Ne.symm a4)]; exact hm.ins, by rw [k _ (Ne.symm b3)]; exact hm.p, by rw [k _ (Ne.symm c2)]; exact hm.u, by rw [k _ (Ne.symm d1)]; exact hm.l, List.getElem?_set_self (lt_of hm.t), by rw [k _ e1]; exact hm.n, by rw [k _ e2]; exact hm.w, by simp [h.tl], h.nl, fun j r ys q1 q2 => ?_, fun j r ys q1 q2 => ?_, ?_⟩
  · by_cases hj : i = j
    · subst hj
      simp only at q1 q2
      rw [List.getElem?_set_self hi] at q1
      rw [List.getElem?_set_self (by rw [← h.tl]; exact hi)] at q2
      cases q1
      cases q2
      rw [k _ (fun e => by have := lt_of h.t; omega)]
      simp
    · simp only at q1 q2
      rw [List.getElem?_set_ne hj] at q1 q2
      rw [k r (fun e => e3 (e ▸ List.mem_of_getElem? q1))]
      exact hm.ts j r ys q1 q2
  · rw [k r (fun e => e4 (e ▸ List.mem_of_getElem? q1))]
    exact hm.ns j r ys q1 q2
  · have hfr : ∀ a ∈ refsL g L, a ≠ G.length := fun a ha e => by have := hlt a ha; omega
    have hmem : ∀ a, a ∈ L.ti.set i G.length → a = G.length ∨ a ∈ L.ti := fun a ha => (List.mem_or_eq_of_mem_set ha).symm
    have hnot : ∀ a ∈ refsL g L, a ∉ L.ti → a ∉ L.ti.set i G.length := fun a ha hn hx => by
      rcases hmem a hx with q | q
      · exact hfr a ha q
      · exact hn q
    have hti : (L.ti.set i G.length).Nodup := nodup_set m1 (fun hx => hfr _ (by simp [refsL, hx]) rfl)
    unfold refsL
    simp only [List.nodup_cons, List.mem_cons, List.mem_append, not_or, List.nodup_append]
    refine ⟨⟨a1, a2, a3, a4, a5, a6, hnot g (by simp [refsL]) a7, a8⟩, ⟨b1, b2, b3, b4, b5, hnot _ (by simp [refsL]) b6, b7⟩, ⟨c1, c2, c3, c4, hnot _ (by simp [refsL]) c5, c6⟩, ⟨d1, d2, d3, hnot _ (by simp [refsL]) d4, d5⟩, ⟨e1, e2, hnot _ (by simp [refsL]) e3, e4⟩, ⟨f1, hnot _ (by simp [refsL]) f2, f3⟩, ⟨hnot _ (by simp [refsL]) k1, k2⟩, hti, m2, fun a ha b hb e => ?_⟩
    subst e
    rcases hmem a ha with q | q
    · exact hfr a (by simp [refsL, hb]) q
    · exact m3 a q hb
theorem Grp.newN (h : Grp G g L st) (hi : i < L.ni.length) (xs : List Int) : Grp ((G ++ [intsO xs]).set L.n (refsO (L.ni.set i G.length))) g { L with ni := L.ni.set i G.length } { st with nexts := st.nexts.set i xs } := by
  obtain ⟨⟨a1, a2, a3, a4, a5, a6, a7, a8⟩, ⟨b1, b2, b3, b4, b5, b6, b7⟩, ⟨c1, c2, c3, c4, c5, c6⟩, ⟨d1, d2, d3, d4, d5⟩, ⟨e1, e2, e3, e4⟩, ⟨f1, f2, f3⟩, ⟨k1, k2⟩, m1, m2, m3⟩ := h.neq
  have hm := h.more [intsO xs]
  have hlt := h.lts
  have k : ∀ a, L.n ≠ a → ((G ++ [intsO xs]).set L.n (refsO (L.ni.set i G.length)))[a]? = (G ++ [intsO xs])[a]? := fun a ha => List.getElem?_set_ne ha
  refine ⟨by rw [k g (Ne.symm a5)]; exact hm.ins, by rw [k _ (Ne.symm b4)]; exact hm.p, by rw [k _ (Ne.symm c3)]; exact hm.u, by rw [k _ (Ne.symm d2)]; exact hm.l, by rw [k _ (Ne.symm e1)]; exact hm.t, List.getElem?_set_self (lt_of hm.n), by rw [k _ f1]; exact hm.w, h.tl, by simp [h.nl], fun j r ys q1 q2 => ?_, fun j r ys q1 q2 => ?_, ?_⟩
  · rw [k r (fun e => f2 (e ▸ List.mem_of_getElem? q1))]
    exact hm.ts j r ys q1 q2
  · by_cases hj : i = j
    · subst hj
      simp only at q1 q2
      rw [List.getElem?_set_self hi] at q1
      rw [List.getElem?_set_self (by rw [← h.nl]; exact hi)] at q2
      cases q1
      cases q2
      rw [k _ (fun e => by have := lt_of h.n; omega)]
      simp
    · simp only at q1 q2
      rw [List.getElem?_set_ne hj] at q1 q2
      rw [k r (fun e => f3 (e ▸ List.mem_of_getElem? q1))]
      exact hm.ns j r ys q1 q2
  · have hfr : ∀ a ∈ refsL g L, a ≠ G.length := fun a ha e => by have := hlt a ha; omega
    have hmem : ∀ a, a ∈ L.ni.set i G.length → a = G.length ∨ a ∈ L.ni := fun a ha => (List.mem_or_eq_of_mem_set ha).symm
    have hnot : ∀ a ∈ refsL g L, a ∉ L.ni → a ∉ L.ni.set i G.length := fun a ha hn hx => by
      rcases hmem a hx with q | q
      · exact hfr a ha q
      · exact hn q
    have hni : (L.ni.set i G.length).Nodup := nodup_set m2 (fun hx => hfr _ (by simp [refsL, hx]) rfl)
    unfold refsL
    simp only [List.nodup_cons, List.mem_cons, List.mem_append, not_or, List.nodup_append]
    refine ⟨⟨a1, a2, a3, a4, a5, a6, a7, hnot g (by simp [refsL]) a8⟩, ⟨b1, b2, b3, b4, b5, b6, hnot _ (by simp [refsL]) b7⟩, ⟨c1, c2, c3, c4, c5, hnot _ (by simp [refsL]) c6⟩, ⟨d1, d2, d3, d4, hnot _ (by simp [refsL]) d5⟩, ⟨e1, e2, e3, hnot _ (by simp [refsL]) e4⟩, ⟨f1, f2, hnot _ (by simp [refsL]) f3⟩, ⟨k1, hnot _ (by simp [refsL]) k2⟩, m1, hni, fun a ha b hb e => ?_⟩
    subst e
    rcases hmem a hb with q | q
    · exact hfr a (by simp [refsL, ha]) q
    · exact m3 a ha q
end
def shiftN (n k : Nat) (i : Nat) : Nat := if i < n then i else i + k
theorem clr_two {B J N J2 : Gp} {r : R D} {d : D} {n : Nat} (hn : B.length = n) (hr : r = .ok d (B.map (renO (shiftN n J.length)) ++ J ++ N ++ J2)) (hB : Closed (n + N.length) B) (hN : Closed n N) (hd : ltD n d = true) : ClR n r (.ok d (B ++ N)) := by
  refine ⟨shiftN n J.length, d, _, hr, ⟨by rw [List.length_append]; omega, fun i hi => if_pos hi, fun i j hi hj e => ?_, fun i o e => ?_⟩, (renD_id (m := n) (fun i hi => if_pos hi) d hd).symm, ltD_mono (by rw [List.length_append]; omega) d hd⟩
  · unfold shiftN at e
    split at e <;> split at e <;> omega
  · rw [List.length_append, hn]
    by_cases hl : i < n
    · rw [List.getElem?_append_left (by omega)] at e
      refine ⟨hB o (List.mem_of_getElem? e), ?_⟩
      rw [show shiftN n J.length i = i from if_pos hl, List.append_assoc, List.append_assoc, List.getElem?_append_left (by rw [List.length_map]; omega), List.getElem?_map, e]
      rfl
    · rw [List.getElem?_append_right (by omega)] at e
      have ho := hN o (List.mem_of_getElem? e)
      have hlt := (List.getElem?_eq_some_iff.mp e).1
      refine ⟨ltO_mono (by omega) o ho, ?_⟩
      rw [show shiftN n J.length i = i + J.length from if_neg hl, renO_id (φ := shiftN n J.length) (m := n) (fun i hi => if_pos hi) o ho]
      rw [List.append_assoc (B.map _ ++ J), List.getElem?_append_right (by rw [List.length_append, List.length_map]; omega), List.length_append, List.length_map, hn, show i + J.length - (n + J.length) = i - n by omega, List.getElem?_append_left (by omega), ← hn]
      exact e
end Mm
namespace Mm
open PySem L2 Mw
open PyProof.Rows hiding St
theorem mLc_one {i : Nat} {it : MI0} {tst : En → Gp → R Bool} {elt : ME0} {vs : List Nat} {e : En} {G : Gp} {ds : List D} {at_ : Option Nat} {d y : D} {b : Bool} (e1 : En) (hw : (wipeE e vs).set i (some d) = e1) (hi : it e G = .ok ⟨ds, at_⟩ G) (hd : ds = [d]) (hs : ∀ J, Src.still ⟨ds, at_⟩ (G ++ J) = true) (ht : tst e1 (G ++ [.lst []]) = .ok b (G ++ [.lst []])) (he : b = true → elt e1 (G ++ [.lst []]) = .ok y (G ++ [.lst []])) : mLc (.nm i) it tst elt vs e G = .ok (.ref G.length) (G ++ [.lst (if b = true then [y] else [])]) := by
  subst hd hw
  have s0 : Src.still ⟨[d], at_⟩ G = true := by have := hs []; rwa [List.append_nil] at this
  unfold mLc
  rw [hi]
  dsimp only
  rw [if_pos ⟨s0, hs _⟩, lcGo]
  simp only [Tg.set]
  rw [ht]
  cases b with
  | false =>
    dsimp only
    rw [if_pos (hs _), lcGo]
    simp
  | true =>
    dsimp only
    rw [he rfl]
    dsimp only
    have g1 : (G ++ [O.lst []])[G.length]? = some (.lst []) := by simp
    rw [g1]
    dsimp only
    have e3 : (G ++ [O.lst []]).set G.length (.lst ([] ++ [y])) = G ++ [.lst [y]] := by simp
    rw [e3, if_pos ⟨by simp, hs _⟩, lcGo]
    simp
def setT (p : Pp) (w : Int) : Pp := { p with term := w }
/-- the one place's paper behind being handed over to -/
def over1 (p : Pp) (w : Int) : Pp := cntP (addRow (setT p w) .non) (lenP p + 1)
def overB (G : Gp) (g : Nat) (L : Lay) (st : Gst) (p : Pp) : Gp := ((((G.set g (insO L { st with word := st.word + 1 })).set L.p (papO [over1 p (st.word + 1)])).set L.l (intsO [st.word + 1])).set L.t (refsO [G.length])).set L.n (refsO [G.length + 1])
noncomputable def C_Group_hand_over : FM := fun ds G => match ds with
  | [.ref g, .int 0] => (match grp? G g with
    | some (L, st) => (match st.papers, st.up, st.leads, st.told, st.nexts with
      | [p], [true], [_], [[_]], [[_]] => if st.need = 1 ∧ p.rows.length < 5000 ∧ (termAt p (lenP p)).isSome = true ∧ (p.kept < lenP p + 1 → (termAt (addRow (setT p (st.word + 1)) .non) (lenP p + 1)).isSome = true) then .ok (.int (st.word + 1)) (overB G g L st p ++ [intsO [0], intsO [lenP p]]) else .bad
      | _, _, _, _, _ => .bad)
    | none => .bad)
  | _ => .bad
theorem sortI_one (x : Int) : sortI [x] = [x] := by simp [sortI]
theorem num_one (t0 x : Int) (p : Pp) (h : lenP p = x) : numN 1 [t0] 1 0 p = some x := by
  unfold numN mineL
  simp [List.range_succ, sortI_one, h]
theorem lenP_setT (p : Pp) (w : Int) : lenP (setT p w) = lenP p := rfl
theorem ltPair_irr (a b : Int) : ltPair a b a b = false := by simp [ltPair]
theorem overB_len (G : Gp) (g : Nat) (L : Lay) (st : Gst) (p : Pp) : (overB G g L st p).length = G.length := by
  unfold overB
  simp only [List.length_set]
theorem K_Group_hand_over {Γ : Fns} {xs : List Nat} (h19 : Kn Γ 19 1 C_length_of) (h22 : Kn Γ 22 1 C_last_of) (h51 : Kn Γ 51 2 C_Group_look_up) (h58 : Kn Γ 58 2 C_Group_count) (h66 : Kn Γ 66 3 C_Group_with_rows) : Cleans 2 (fnRun N_Group_hand_over.length (eB Γ xs b_Group_hand_over)) C_Group_hand_over := by
  intro ds G hl hc hlt
  unfold C_Group_hand_over
  split
  · rename_i g
    split
    · rename_i L st hg
      have h := grp_inv hg
      split
      · rename_i p l t0 x0 hp hu hle hto hne
        split
        · rename_i hcond
          obtain ⟨c1, c2, c3, c4⟩ := hcond
          obtain ⟨tt, htt⟩ := Option.isSome_iff_exists.mp c3
          have hp0 : st.papers[0]? = some p := by rw [hp]; rfl
          have hu0 : st.up[0]? = some true := by rw [hu]; rfl
          have hpl : st.papers.length = 1 := by rw [hp]; rfl
          have e51 := lku_ok (i := 0) h (by omega) hu0
          obtain ⟨r1, hr1⟩ : ∃ r, L.ti = [r] := by
            have := h.tl
            rw [hto] at this
            exact List.length_eq_one_iff.mp this
          obtain ⟨r2, hr2⟩ : ∃ r, L.ni = [r] := by
            have := h.nl
            rw [hne] at this
            exact List.length_eq_one_iff.mp this
          obtain ⟨need, papers, up, leads, told, nexts, wire, word⟩ := st
          obtain ⟨Lp, Lu, Ll, Lt, Ln, Lw, Lti, Lni⟩ := L
          simp only at hp hu hle hto hne hr1 hr2 c1 c2 c3 c4 hp0 hu0 hpl htt h e51
          subst hp hu hle hto hne hr1 hr2 c1
          simp only at *
          generalize hw : word + 1 = w
          clear hg
          -- some
          have r01 : rangeD 0 1 = [.int 0] := by simp [rangeD, List.range_succ]
          have S2 := mLc_one (i := 3) (it := eI Γ (.range1 (.blt .len (.fld 1 (.var 0)) .nil))) (tst := eTst Γ (.some (.ix (.fld 2 (.var 0)) (.var 3)))) (elt := (eP Γ (.var 3)).1) (vs := [3]) (e := [some (.ref g), some (.int 0), none, none, none]) (G := G) (ds := rangeD 0 1) (at_ := none) (d := .int 0) (y := .int 0) (b := true) [some (.ref g), some (.int 0), none, some (.int 0), none] rfl (by
            have q : dLen (.ref Lp) G = .ok (.int 1) G := h.lenP
            simp [eI, h.f1, fLen, q]) r01 (fun _ => rfl) (by
            have hm := h.more [.lst []]
            have q : dIx (.ref Lu) (.int 0) (G ++ [.lst []]) = .ok (.bl true) (G ++ [.lst []]) := hm.ixU hu0
            simp [eTst, hm.f2, q]) (fun _ => rfl)
          rw [if_pos rfl] at S2
          generalize hG1 : G ++ [O.lst [D.int 0]] = G1 at S2
          have h1 : Grp G1 g ⟨Lp, Lu, Ll, Lt, Ln, Lw, [r1], [r2]⟩ ⟨1, [p], [true], [l], [[t0]], [[x0]], wire, word⟩ := by rw [← hG1]; exact h.more _
          have n1 : G1.length = G.length + 1 := by rw [← hG1]; simp
          have g1 : G1[G.length]? = some (.lst [.int 0]) := by rw [← hG1]; simp
          have st1 : ∀ J, Src.still ⟨[.int 0], some G.length⟩ (G1 ++ J) = true := fun J => Src.still_some (by rw [List.getElem?_append_left (by omega)]; exact g1)
          have S4 := mLc_one (i := 3) (it := eI Γ (.val (.var 2))) (tst := eTst Γ (.some (.cmp .gt (.call 22 (.cons (.ix (.fld 1 (.var 0)) (.var 3)) .nil)) (.call 22 (.cons (.ix (.fld 1 (.var 0)) (.var 1)) .nil))))) (elt := (eP Γ (.var 3)).1) (vs := [3]) (e := [some (.ref g), some (.int 0), some (.ref G.length), none, none]) (G := G1) (ds := [.int 0]) (at_ := some G.length) (d := .int 0) (y := .int 0) (b := false) [some (.ref g), some (.int 0), some (.ref G.length), some (.int 0), none] rfl (by
            simp [eI, src_lst g1]) rfl st1 (by
            have hm := h1.more [.lst []]
            have q : dIx (.ref Lp) (.int 0) (G1 ++ [.lst []]) = .ok (ppD p) (G1 ++ [.lst []]) := hm.ixP hp0
            have q2 := last_eq (G := G1 ++ [.lst []]) htt
            generalize ppD p = PD at q q2
            simp [eTst, hm.f1, q, h22.1, h22.2, q2, dLt, ltPair_irr]) (fun z => nomatch z)
          rw [if_neg (by decide)] at S4
          generalize hG2 : G1 ++ [O.lst []] = G2 at S4
          have h2 : Grp G2 g ⟨Lp, Lu, Ll, Lt, Ln, Lw, [r1], [r2]⟩ ⟨1, [p], [true], [l], [[t0]], [[x0]], wire, word⟩ := by rw [← hG2]; exact h1.more _
          have n2 : G2.length = G.length + 2 := by rw [← hG2]; simp; omega
          have g2 : G2[G.length]? = some (.lst [.int 0]) := by rw [← hG2, List.getElem?_append_left (by omega)]; exact g1
          have g2b : G2[G1.length]? = some (.lst []) := by rw [← hG2]; simp
          have h3 : Grp (G2.set g (insO ⟨Lp, Lu, Ll, Lt, Ln, Lw, [r1], [r2]⟩ ⟨1, [p], [true], [l], [[t0]], [[x0]], wire, w⟩)) g ⟨Lp, Lu, Ll, Lt, Ln, Lw, [r1], [r2]⟩ ⟨1, [p], [true], [l], [[t0]], [[x0]], wire, w⟩ := h2.setWd w
          generalize hG3 : G2.set g (insO ⟨Lp, Lu, Ll, Lt, Ln, Lw, [r1], [r2]⟩ ⟨1, [p], [true], [l], [[t0]], [[x0]], wire, w⟩) = G3 at h3
          have hlts := h.lts
          have nq : ∀ a ∈ refsL g ⟨Lp, Lu, Ll, Lt, Ln, Lw, [r1], [r2]⟩, a ≠ G.length := fun a ha e => by have := hlts a ha; omega
          have g3 : G3[G.length]? = some (.lst [.int 0]) := by rw [← hG3, List.getElem?_set_ne (nq g (by simp [refsL]))]; exact g2
          have h4 : Grp (G3.set Lp (papO [setT p w])) g ⟨Lp, Lu, Ll, Lt, Ln, Lw, [r1], [r2]⟩ ⟨1, [setT p w], [true], [l], [[t0]], [[x0]], wire, w⟩ := h3.setP [setT p w]
          generalize hG4 : G3.set Lp (papO [setT p w]) = G4 at h4
          have g4 : G4[G.length]? = some (.lst [.int 0]) := by rw [← hG4, List.getElem?_set_ne (nq Lp (by simp [refsL]))]; exact g3
          have h5 : Grp (G4.set Ll (intsO [w])) g ⟨Lp, Lu, Ll, Lt, Ln, Lw, [r1], [r2]⟩ ⟨1, [setT p w], [true], [w], [[t0]], [[x0]], wire, w⟩ := h4.setL [w]
          generalize hG5 : G4.set Ll (intsO [w]) = G5 at h5
          have h6 : Grp ((G5 ++ [intsO [0]]).set Lt (refsO [G5.length])) g ⟨Lp, Lu, Ll, Lt, Ln, Lw, [G5.length], [r2]⟩ ⟨1, [setT p w], [true], [w], [[0]], [[x0]], wire, w⟩ := h5.newT (i := 0) (by simp) [0]
          have m5 := h5.more [intsO [0]]
          have ds6 : dSet (.ref Lt) (.int 0) (.ref G5.length) (G5 ++ [intsO [0]]) = some ((G5 ++ [intsO [0]]).set Lt (refsO [G5.length])) := dSet_map (f := D.ref) (i := 0) m5.t (by simp)
          generalize hG6 : (G5 ++ [intsO [0]]).set Lt (refsO [G5.length]) = G6 at h6 ds6
          have h7 : Grp ((G6 ++ [intsO [lenP p]]).set Ln (refsO [G6.length])) g ⟨Lp, Lu, Ll, Lt, Ln, Lw, [G5.length], [G6.length]⟩ ⟨1, [setT p w], [true], [w], [[0]], [[lenP p]], wire, w⟩ := h6.newN (i := 0) (by simp) [lenP p]
          have m6 := h6.more [intsO [lenP p]]
          have ds7 : dSet (.ref Ln) (.int 0) (.ref G6.length) (G6 ++ [intsO [lenP p]]) = some ((G6 ++ [intsO [lenP p]]).set Ln (refsO [G6.length])) := dSet_map (f := D.ref) (i := 0) m6.n (by simp)
          generalize hG7 : (G6 ++ [intsO [lenP p]]).set Ln (refsO [G6.length]) = G7 at h7 ds7
          have e66 := wr_eq (i := 0) (p := setT p w) (a := .non) h7 rfl c2
          have h8 : Grp (G7.set Lp (papO [addRow (setT p w) .non])) g ⟨Lp, Lu, Ll, Lt, Ln, Lw, [G5.length], [G6.length]⟩ ⟨1, [addRow (setT p w) .non], [true], [w], [[0]], [[lenP p]], wire, w⟩ := h7.setP [addRow (setT p w) .non]
          have e66' : C_Group_with_rows [.ref g, .int 0, .tup [.str "none"]] G7 = .ok .non (G7.set Lp (papO [addRow (setT p w) .non])) := e66
          generalize hG8 : G7.set Lp (papO [addRow (setT p w) .non]) = G8 at h8 e66'
          have hnum : numN 1 [0] 1 0 (addRow (setT p w) .non) = some (lenP p + 1) := num_one 0 _ _ (by rw [lenP_add, lenP_setT])
          rw [hw] at c4
          have e58 := cnt_eq (i := 0) (p := addRow (setT p w) .non) (tl := [0]) (m := lenP p + 1) h8 rfl rfl hnum (by simp) rfl (by simp) c4
          have e58' : C_Group_count [.ref g, .int 0] G8 = .ok .non (G8.set Lp (papO [over1 p w])) := e58
          have h9 : Grp (G8.set Lp (papO [over1 p w])) g ⟨Lp, Lu, Ll, Lt, Ln, Lw, [G5.length], [G6.length]⟩ ⟨1, [over1 p w], [true], [w], [[0]], [[lenP p]], wire, w⟩ := h8.setP [over1 p w]
          generalize hG9 : G8.set Lp (papO [over1 p w]) = G9 at h9 e58'
          have hfin : fnRun N_Group_hand_over.length (eB Γ xs b_Group_hand_over) [.ref g, .int 0] G = .ok (.int w) G9 := by
            unfold fnRun b_Group_hand_over
            simp only [eB]
            rw [seq_nx (e1 := [some (.ref g), some (.int 0), none, none, none]) (G1 := G) (by
              have e51' : C_Group_look_up [.ref g, .int 0] G = .ok .non G := e51
              simp [startD, N_Group_hand_over, h.isI, h51.1, h51.2, e51'])]
            rw [seq_nx (e1 := [some (.ref g), some (.int 0), some (.ref G.length), none, none]) (G1 := G1) (by
              rw [eS, mAsg]
              have q : mLc (.nm 3) (eI Γ (.range1 (.blt .len (.fld 1 (.var 0)) .nil))) (eTst Γ (.some (.ix (.fld 2 (.var 0)) (.var 3)))) (eP Γ (.var 3)).1 ([((("other" : Str)), 3)].map (·.2)) [some (.ref g), some (.int 0), none, none, none] G = _ := S2
              rw [q]
              rfl)]
            rw [seq_nx (e1 := [some (.ref g), some (.int 0), some (.ref G.length), none, none]) (G1 := G1) (by
              have q : dLen (.ref Lp) G1 = .ok (.int 1) G1 := h1.lenP
              simp [fLen, len_lst g1, h1.f1, q, h1.f0])]
            rw [seq_nx (e1 := [some (.ref g), some (.int 0), some (.ref G.length), none, none]) (G1 := G2) (by
              rw [eS, mIfS]
              have q : (eP Γ (.lc (.var 3) (.nm 3) (.val (.var 2)) (.some (.cmp .gt (.call 22 (.cons (.ix (.fld 1 (.var 0)) (.var 3)) .nil)) (.call 22 (.cons (.ix (.fld 1 (.var 0)) (.var 1)) .nil)))) [("other", 3)])).2 [some (.ref g), some (.int 0), some (.ref G.length), none, none] G1 = .ok false G2 := by
                show ((mLc (.nm 3) (eI Γ (.val (.var 2))) (eTst Γ (.some (.cmp .gt (.call 22 (.cons (.ix (.fld 1 (.var 0)) (.var 3)) .nil)) (.call 22 (.cons (.ix (.fld 1 (.var 0)) (.var 1)) .nil))))) (eP Γ (.var 3)).1 [3] [some (.ref g), some (.int 0), some (.ref G.length), none, none] G1).bind fun x G => dTru x G) = _
                rw [S4, Mw.R.bind_ok, tru_lst g2b]
                rfl
              rw [q]
              rfl)]
            rw [seq_nx (e1 := [some (.ref g), some (.int 0), some (.ref G.length), none, none]) (G1 := G3) (by
              have q : dSetF 7 (.ref g) (.int w) G2 = some G3 := by
                unfold dSetF
                simp only [h2.ins, insO]
                rw [if_pos (by simp), ← hG3]
                rfl
              simp [mAugF, h2.f7, hw, q])]
            rw [seq_nx (e1 := [some (.ref g), some (.int 0), some (.ref G.length), some (.int 0), none]) (G1 := G4) (by
              have q1 : dIx (.ref Lp) (.int 0) G3 = .ok (ppD p) G3 := h3.ixP (i := 0) hp0
              have q2 := pp_cut1 p G3
              have q3 := pp_add1 p w G3
              have q4 : dSet (.ref Lp) (.int 0) (ppD { p with term := w }) G3 = some G4 := by
                rw [← hG4]
                exact h3.dsP (i := 0) (by simp) (setT p w)
              have f7 := h3.f7
              have f1 := h3.f1
              have s3 := Src.still_some g3
              have s4 := Src.still_some g4
              generalize ppD { p with term := w } = QD at q3 q4
              generalize ppD p = PD at q1 q2
              generalize D.tup [.int p.base, .int p.ahead, .tup (p.things.map Mw.pairD), .tup (p.rows.map rowD), .int p.kept] = TL at q2 q3
              simp [mFor, forGo, src_lst g3, s3, s4, mSetI, f7, f1, q1, q2, q3, q4])]
            rw [seq_nx (e1 := [some (.ref g), some (.int 0), some (.ref G.length), some (.int 0), none]) (G1 := G5) (by
              have q : dSet (.ref Ll) (.int 0) (.int w) G4 = some G5 := by
                rw [← hG5]
                exact h4.dsL (i := 0) (by simp) w
              simp [mSetI, h4.f3, h4.f7, q])]
            rw [seq_nx (e1 := [some (.ref g), some (.int 0), some (.ref G.length), some (.int 0), some (.int (lenP p))]) (G1 := G5) (by
              have q1 : dIx (.ref Lp) (.int 0) G5 = .ok (ppD (setT p w)) G5 := h5.ixP (i := 0) rfl
              have q2 := length_eq (G := G5) (setT p w)
              rw [lenP_setT] at q2
              generalize ppD (setT p w) = PD at q1 q2
              simp [h5.f1, q1, h19.1, h19.2, q2])]
            rw [seq_nx (e1 := [some (.ref g), some (.int 0), some (.ref G.length), some (.int 0), some (.int (lenP p))]) (G1 := G6) (by
              have hsrc : G5[Lp]? = some (.lst [ppD (setT p w)]) := h5.p
              have q := mLc_one (i := 3) (it := eI Γ (.val (.fld 1 (.var 0)))) (tst := mYes) (elt := (eP Γ (.int 0)).1) (vs := [3]) (e := [some (.ref g), some (.int 0), some (.ref G.length), some (.int 0), some (.int (lenP p))]) (G := G5) (ds := [ppD (setT p w)]) (at_ := some Lp) (d := ppD (setT p w)) (y := .int 0) (b := true) [some (.ref g), some (.int 0), some (.ref G.length), some (ppD (setT p w)), some (.int (lenP p))] rfl (by
                simp [eI, h5.f1, src_lst hsrc]) rfl (fun J => Src.still_some (by rw [List.getElem?_append_left (lt_of hsrc)]; exact hsrc)) rfl (fun _ => rfl)
              rw [if_pos rfl] at q
              have q' : (eP Γ (.lc (.int 0) (.nm 3) (.val (.fld 1 (.var 0))) .none [("other", 3)])).1 [some (.ref g), some (.int 0), some (.ref G.length), some (.int 0), some (.int (lenP p))] G5 = .ok (.ref G5.length) (G5 ++ [intsO [0]]) := q
              rw [eS, mSetI]
              rw [q']
              simp [m5.f4, ds6])]
            rw [seq_nx (e1 := [some (.ref g), some (.int 0), some (.ref G.length), some (.int 0), some (.int (lenP p))]) (G1 := G7) (by
              have hsrc : G6[Lp]? = some (.lst [ppD (setT p w)]) := h6.p
              have q := mLc_one (i := 3) (it := eI Γ (.val (.fld 1 (.var 0)))) (tst := mYes) (elt := (eP Γ (.var 4)).1) (vs := [3]) (e := [some (.ref g), some (.int 0), some (.ref G.length), some (.int 0), some (.int (lenP p))]) (G := G6) (ds := [ppD (setT p w)]) (at_ := some Lp) (d := ppD (setT p w)) (y := .int (lenP p)) (b := true) [some (.ref g), some (.int 0), some (.ref G.length), some (ppD (setT p w)), some (.int (lenP p))] rfl (by
                simp [eI, h6.f1, src_lst hsrc]) rfl (fun J => Src.still_some (by rw [List.getElem?_append_left (lt_of hsrc)]; exact hsrc)) rfl (fun _ => rfl)
              rw [if_pos rfl] at q
              have q' : (eP Γ (.lc (.var 4) (.nm 3) (.val (.fld 1 (.var 0))) .none [("other", 3)])).1 [some (.ref g), some (.int 0), some (.ref G.length), some (.int 0), some (.int (lenP p))] G6 = .ok (.ref G6.length) (G6 ++ [intsO [lenP p]]) := q
              rw [eS, mSetI]
              rw [q']
              simp [m6.f5, ds7])]
            rw [seq_nx (e1 := [some (.ref g), some (.int 0), some (.ref G.length), some (.int 0), some (.int (lenP p))]) (G1 := G8) (by
              simp [h7.isI, h66.1, h66.2, e66'])]
            rw [seq_nx (e1 := [some (.ref g), some (.int 0), some (.ref G.length), some (.int 0), some (.int (lenP p))]) (G1 := G9) (by
              simp [h8.isI, h58.1, h58.2, e58'])]
            simp [h9.f7]
          have q0 : g < G.length := hlts g (by simp [refsL])
          have q1 : Lp < G.length := hlts Lp (by simp [refsL])
          have q3 : Ll < G.length := hlts Ll (by simp [refsL])
          have q4 : Lt < G.length := hlts Lt (by simp [refsL])
          have q5 : Ln < G.length := hlts Ln (by simp [refsL])
          obtain ⟨_, ⟨_, np3, np4, np5, _⟩, _⟩ := h.neq
          simp only at np3 np4 np5
          have sl : ∀ {A B : Gp} {i : Nat} {o : O}, i < A.length → (A ++ B).set i o = A.set i o ++ B := fun hh => List.set_append_left _ _ hh
          have k2 : G2 = G ++ [O.lst [.int 0], .lst []] := by rw [← hG2, ← hG1]; simp
          generalize hio : insO ⟨Lp, Lu, Ll, Lt, Ln, Lw, [r1], [r2]⟩ ⟨1, [p], [true], [l], [[t0]], [[x0]], wire, w⟩ = io at hG3
          have k3 : G3 = G.set g io ++ [O.lst [.int 0], .lst []] := by rw [← hG3, k2, sl q0]
          have k4 : G4 = (G.set g io).set Lp (papO [setT p w]) ++ [O.lst [.int 0], .lst []] := by rw [← hG4, k3, sl (by simpa using q1)]
          have k5 : G5 = ((G.set g io).set Lp (papO [setT p w])).set Ll (intsO [w]) ++ [O.lst [.int 0], .lst []] := by rw [← hG5, k4, sl (by simpa using q3)]
          have n5 : G5.length = G.length + 2 := by rw [k5]; simp
          have k6 : G6 = (((G.set g io).set Lp (papO [setT p w])).set Ll (intsO [w])).set Lt (refsO [G.length + 2]) ++ [O.lst [.int 0], .lst [], intsO [0]] := by rw [← hG6, n5, k5, List.append_assoc, sl (by simpa using q4)]; rfl
          have n6 : G6.length = G.length + 3 := by rw [k6]; simp
          have k7 : G7 = ((((G.set g io).set Lp (papO [setT p w])).set Ll (intsO [w])).set Lt (refsO [G.length + 2])).set Ln (refsO [G.length + 3]) ++ [O.lst [.int 0], .lst [], intsO [0], intsO [lenP p]] := by rw [← hG7, n6, k6, List.append_assoc, sl (by simpa using q5)]; rfl
          have k9 : G9 = ((((G.set g io).set Lp (papO [over1 p w])).set Ll (intsO [w])).set Lt (refsO [G.length + 2])).set Ln (refsO [G.length + 3]) ++ [O.lst [.int 0], .lst [], intsO [0], intsO [lenP p]] := by
            rw [← hG9, ← hG8, k7, sl (by simpa using q1), sl (by simpa using q1), List.set_set]
            congr 1
            rw [List.set_comm _ _ (Ne.symm np5), List.set_comm _ _ (Ne.symm np4), List.set_comm _ _ (Ne.symm np3), List.set_set]
          have hov : overB G g ⟨Lp, Lu, Ll, Lt, Ln, Lw, [r1], [r2]⟩ ⟨1, [p], [true], [l], [[t0]], [[x0]], wire, word⟩ p = ((((G.set g io).set Lp (papO [over1 p w])).set Ll (intsO [w])).set Lt (refsO [G.length])).set Ln (refsO [G.length + 1]) := by
            unfold overB
            simp only
            rw [hw, ← hio]
          rw [hov]
          have hren : ∀ o, ltO G.length o = true → renO (shiftN G.length 2) o = o := fun o ho => renO_id (φ := shiftN G.length 2) (m := G.length) (fun i hi => if_pos hi) o ho
          have hmapG : G.map (renO (shiftN G.length 2)) = G := by
            rw [List.map_congr_left (g := id) fun o ho => hren o (hc o ho), List.map_id]
          have hioL : ltO G.length io = true := by
            rw [← hio]
            have q2 : Lu < G.length := hlts Lu (by simp [refsL])
            have q6 : Lw < G.length := hlts Lw (by simp [refsL])
            simp [insO, ltO, ltDs, ltD, q1, q2, q3, q4, q5, q6]
          refine clr_two (J := [O.lst [.int 0], .lst []]) (J2 := []) (by simp) ?_ ?_ ?_ rfl
          · rw [hfin, k9]
            congr 1
            simp only [List.map_set]
            rw [show List.map (renO (shiftN G.length [O.lst [D.int 0], O.lst []].length)) G = G from hmapG]
            rw [show renO (shiftN G.length [O.lst [D.int 0], O.lst []].length) io = io from hren io hioL]
            rw [show renO (shiftN G.length [O.lst [D.int 0], O.lst []].length) (papO [over1 p w]) = papO [over1 p w] from hren _ (lt_papO _ _)]
            rw [show renO (shiftN G.length [O.lst [D.int 0], O.lst []].length) (intsO [w]) = intsO [w] from hren _ (lt_intsO _ _)]
            rw [show renO (shiftN G.length [O.lst [D.int 0], O.lst []].length) (refsO [G.length]) = refsO [G.length + 2] from by
              simp [refsO, renO, renDs, renD, shiftN]]
            rw [show renO (shiftN G.length [O.lst [D.int 0], O.lst []].length) (refsO [G.length + 1]) = refsO [G.length + 3] from by
              simp [refsO, renO, renDs, renD, shiftN]]
            simp
          · have cc : Closed (G.length + [intsO [0], intsO [lenP p]].length) G := fun o ho => ltO_mono (by simp) o (hc o ho)
            intro o ho
            rcases List.mem_or_eq_of_mem_set ho with ho | ho
            · rcases List.mem_or_eq_of_mem_set ho with ho | ho
              · rcases List.mem_or_eq_of_mem_set ho with ho | ho
                · rcases List.mem_or_eq_of_mem_set ho with ho | ho
                  · rcases List.mem_or_eq_of_mem_set ho with ho | ho
                    · exact cc o ho
                    · rw [ho]; exact ltO_mono (by simp) _ hioL
                  · rw [ho]; exact lt_papO _ _
                · rw [ho]; exact lt_intsO _ _
              · rw [ho]; exact lt_refsO fun r hr => by rw [List.mem_singleton.mp hr]; simp
            · rw [ho]; exact lt_refsO fun r hr => by rw [List.mem_singleton.mp hr]; simp
          · intro o ho
            simp only [List.mem_cons, List.not_mem_nil, or_false] at ho
            rcases ho with ho | ho <;> rw [ho] <;> exact lt_intsO _ _
        · trivial
      · trivial
    · trivial
  · trivial
end Mm
namespace Mm
open PySem L2 Mw
open PyProof.Rows hiding St
theorem addRow_law {R : List Rw} {b k t : Int} (b0 : 0 ≤ b) (bk : b ≤ R.length) (a : Dd) : addRow (lawP R b k t) a = lawP (R ++ [(t, a)]) b k t := by
  have hl : b.toNat ≤ R.length := by omega
  have e1 : aheadOf (R ++ [(t, a)]) b = aheadOf R b := by
    have := take_ahead (R ++ [(t, a)]) (a := R.length) (n := b) (by omega)
    rw [List.take_left'] at this
    · exact this.symm
    · rfl
  have e2 : thingsOf (R ++ [(t, a)]) b.toNat = thingsOf R b.toNat := by
    have := take_things (R ++ [(t, a)]) (a := R.length) (n := b.toNat) hl
    rw [List.take_left'] at this
    · exact this.symm
    · rfl
  unfold addRow lawP
  simp only
  rw [e1, e2, List.drop_append_of_le_length hl]
theorem top_snoc (R : List Rw) (t : Int) (a : Dd) : topOf (R ++ [(t, a)]) = t := by
  unfold topOf
  rw [List.getLast?_append]
  rfl
theorem cnt_law {R : List Rw} {b k t : Int} (b0 : 0 ≤ b) (bk : b ≤ R.length) (hk : k < R.length) (ht : topOf R = t) : cntP (lawP R b k t) R.length = lawP R b R.length t := by
  unfold cntP
  rw [if_pos ⟨hk, by rw [lawP_term b0 bk (Int.le_refl _), ahead_top', ht]; rfl⟩]
  rfl
theorem setT_law {R : List Rw} {b k t w : Int} : setT (lawP R b k t) w = lawP R b k w := rfl
theorem over_law {R : List Rw} {b t w : Int} (b0 : 0 ≤ b) (bk : b ≤ R.length) : over1 (lawP R b R.length t) w = lawP (R ++ [(w, .non)]) b (R ++ [(w, Dd.non)]).length w := by
  unfold over1
  rw [setT_law, addRow_law b0 bk, lawP_len b0 bk]
  have := cnt_law (R := R ++ [(w, .non)]) (b := b) (k := R.length) (t := w) b0 (by simp; omega) (by simp; omega) (top_snoc R w .non)
  rw [← this]
  congr 1
  simp
theorem write_law {R : List Rw} {b t : Int} (b0 : 0 ≤ b) (bk : b ≤ R.length) (a : Dd) : cntP (addRow (lawP R b R.length t) a) (R.length + 1) = lawP (R ++ [(t, a)]) b (R ++ [(t, a)]).length t := by
  rw [addRow_law b0 bk]
  have := cnt_law (R := R ++ [(t, a)]) (b := b) (k := R.length) (t := t) b0 (by simp; omega) (by simp; omega) (top_snoc R t a)
  rw [← this]
  congr 1
  simp
def st1 (q : Pp) (u : Bool) (lv x y t : Int) : Gst := ⟨1, [q], [u], [lv], [[x]], [[y]], [], t⟩
structure I32 (G : Gp) (L : Lay) (R : List Rw) (ds : List Dd) (b t lv x y : Int) : Prop where
  grp : Grp G 0 L (st1 (lawP R b R.length t) true lv x y t)
  dd : G[9]? = some (.lst (ds.map ddD))
  dn : 9 ∉ refsL 0 L
  ok : HistOk R
  top : topOf R = t
  b0 : 0 ≤ b
  bk : b ≤ R.length
  lv : lv = 0 ∨ (lv = t ∧ 0 < t)
  fold : (R.map (·.2)).foldl app [] = ds.foldl app []
section
variable {G : Gp} {L : Lay} {R : List Rw} {ds : List Dd} {b t lv x y : Int}
theorem I32.more (h : I32 G L R ds b t lv x y) (J : Gp) : I32 (G ++ J) L R ds b t lv x y :=
  ⟨h.grp.more J, by rw [List.getElem?_append_left (lt_of h.dd)]; exact h.dd, h.dn, h.ok, h.top, h.b0, h.bk, h.lv, h.fold⟩
theorem I32.paper (h : I32 G L R ds b t lv x y) (hR : R.length ≤ 900) (ht : t ≤ 9000) (G' : Gp) : isPaper (ppD (lawP R b R.length t)) = true ∧ okP G' (ppD (lawP R b R.length t)) = true := lawP_paper h.ok hR h.b0 h.bk (Int.le_refl _) (by rw [h.top]; exact Int.le_refl _) ht G'
theorem I32.pap (h : I32 G L R ds b t lv x y) : C_Group_paper [.ref 0, .int 0] G = .ok (ppD (lawP R b R.length t)) G := by
  unfold C_Group_paper
  dsimp only
  rw [grp_eq h.grp]
  rfl
theorem I32.after (h : I32 G L R ds b t lv x y) (hl : ds.length < 1000) : C__law_after [.tup [], .ref 9] G = .ok (.tup ((thingsOf R R.length).map Mw.pairD)) G := by
  have := laft_eq (G := G) (l := []) (d := .ref 9) (as := ds) (by simp [seqOf, h.dd]) List.nodup_nil (by simpa using hl)
  rw [← h.fold] at this
  rw [List.map_nil] at this
  rw [this]
  unfold thingsOf
  rw [List.take_length]
theorem I32.look (h : I32 G L R ds b t lv x y) (hR : R.length ≤ 900) : C_Group_look [.ref 0, .int 0, .int R.length] G = .ok (.tup [.int R.length, .tup ((thingsOf R R.length).map Mw.pairD)]) G := by
  unfold C_Group_look
  dsimp only
  rw [grp_eq h.grp]
  simp only
  rw [if_pos ⟨rfl, rfl⟩, if_pos (show inPl (st1 (lawP R b R.length t) true lv x y t) (.int 0) = true from rfl)]
  show (if isWithin (.int R.length) 0 100000 = true then (if (R.length : Int) < R.length then Mw.R.exc 11 G else if (keysL (lawP R b R.length t).things).Nodup ∧ b ≤ R.length ∧ small? (lawP R b R.length t) R.length = true then Mw.R.ok (D.tup [D.int R.length, D.tup ((thingsP (lawP R b R.length t) R.length).map Mw.pairD)]) G else Mw.R.bad) else Mw.R.exc 5 G) = _
  rw [if_pos (within_ok (by omega) (by omega)), if_neg (by omega), if_pos ⟨(thingsOf_good h.ok _).nd, h.bk, lawP_small h.ok hR⟩, lawP_eq2, lp_things h.ok h.b0 h.bk, Int.toNat_natCast]
theorem I32.leadB_eq (h : I32 G L R ds b t lv x y) : leadB (st1 (lawP R b R.length t) true lv x y t) 0 = some (decide (0 < lv)) := by
  show some (true && (decide (0 < lv) && decide (lv = t))) = _
  congr 1
  rcases h.lv with e | ⟨e, e2⟩
  · subst e; simp
  · subst e; simp
theorem I32.leads (h : I32 G L R ds b t lv x y) : C_Group_leaders [.ref 0] G = .ok (.ref G.length) (G ++ [intsO (if 0 < lv then [0] else [])]) := by
  rw [leaders_eq h.grp rfl rfl (by show 1 ≤ 5; decide)]
  have hL : leadL (st1 (lawP R b R.length t) true lv x y t) = if 0 < lv then [0] else [] := by
    unfold leadL
    show (List.range 1).filterMap (fun i => if leadB (st1 (lawP R b R.length t) true lv x y t) i = some true then some (i : Int) else none) = _
    rw [show List.range 1 = [0] from rfl]
    simp only [List.filterMap_cons, List.filterMap_nil]
    rw [h.leadB_eq]
    by_cases c : 0 < lv
    · simp [c]
    · simp [c]
  rw [hL]
theorem I32.rise (h : I32 G L R ds b t lv x y) : ∃ G', C_Group_rise [.ref 0, .int 0] G = .ok .non G' ∧ I32 G' L R ds b t lv x y := by
  refine ⟨G.set L.u (blsO [true]), ?_, h.grp.setU [true], ?_, h.dn, h.ok, h.top, h.b0, h.bk, h.lv, h.fold⟩
  · unfold C_Group_rise
    dsimp only
    rw [grp_eq h.grp]
    rfl
  · rw [List.getElem?_set_ne (fun e => h.dn (by rw [← e]; simp [refsL]))]
    exact h.dd
theorem I32.fallRise (h : I32 G L R ds b t lv x y) : ∃ G' G'', C_Group_fall [.ref 0, .int 0] G = .ok .non G' ∧ isIn (.ref 0) G' = .ok () G' ∧ C_Group_rise [.ref 0, .int 0] G' = .ok .non G'' ∧ I32 G'' L R ds b t 0 x y := by
  have h1 : Grp (G.set L.u (blsO [false])) 0 L (st1 (lawP R b R.length t) false lv x y t) := h.grp.setU [false]
  have h2 : Grp ((G.set L.u (blsO [false])).set L.l (intsO [0])) 0 L (st1 (lawP R b R.length t) false 0 x y t) := h1.setL [0]
  have h3 : Grp (((G.set L.u (blsO [false])).set L.l (intsO [0])).set L.u (blsO [true])) 0 L (st1 (lawP R b R.length t) true 0 x y t) := h2.setU [true]
  refine ⟨_, _, ?_, h2.isI, ?_, h3, ?_, h.dn, h.ok, h.top, h.b0, h.bk, .inl rfl, h.fold⟩
  · unfold C_Group_fall
    dsimp only
    rw [grp_eq h.grp]
    rfl
  · unfold C_Group_rise
    dsimp only
    rw [grp_eq h2]
    rfl
  · rw [List.getElem?_set_ne (fun e => h.dn (by rw [← e]; simp [refsL])), List.getElem?_set_ne (fun e => h.dn (by rw [← e]; simp [refsL])), List.getElem?_set_ne (fun e => h.dn (by rw [← e]; simp [refsL]))]
    exact h.dd
theorem I32.trim (h : I32 G L R ds b t lv x y) (hR : R.length ≤ 900) (ht : t ≤ 9000) : ∃ v G', C_Group_trim [.ref 0, .int 0] G = .ok v G' ∧ I32 G' L R ds R.length t lv x y := by
  have hp := h.paper hR ht G
  have htr : trimP (lawP R b R.length t) R.length = lawP R R.length R.length t := by
    rw [lawP_eq2, lp_trim h.ok h.b0 h.bk (Int.le_refl _), ← lawP_eq2]
  refine ⟨.int (R.length - b), G.set L.p (papO [lawP R R.length R.length t]), ?_, h.grp.setP [lawP R R.length R.length t], ?_, h.dn, h.ok, h.top, by omega, Int.le_refl _, h.lv, h.fold⟩
  · unfold C_Group_trim
    dsimp only
    rw [grp_eq h.grp]
    simp only
    rw [if_pos (show okE G (.int 0) = true from rfl), if_pos (show inPl (st1 (lawP R b R.length t) true lv x y t) (.int 0) = true from rfl)]
    show (if okP G (ppD (lawP R b R.length t)) = true ∧ isPaper (ppD (lawP R b R.length t)) = true ∧ b ≤ (R.length : Int) ∧ small? (lawP R b R.length t) R.length = true then Mw.R.ok (D.int ((R.length : Int) - b)) (G.set L.p (papO [trimP (lawP R b R.length t) R.length])) else .bad) = _
    rw [if_pos ⟨hp.2, hp.1, h.bk, lawP_small h.ok hR⟩, htr]
  · rw [List.getElem?_set_ne (fun e => h.dn (by rw [← e]; simp [refsL]))]
    exact h.dd
theorem I32.write (h : I32 G L R ds b t lv x y) (hR : R.length ≤ 900) (ht : t ≤ 9000) (hlv : 0 < lv) {a : Dd} (ha : GoodD a) : ∃ G', C_Group_write [.ref 0, .int 0, ddD a] G = .ok (.int R.length) G' ∧ (∀ G2, G2 = G'.set 9 (.lst ((ds ++ [a]).map ddD)) → I32 G2 L (R ++ [(t, a)]) (ds ++ [a]) b t lv x y) ∧ G'[9]? = some (.lst (ds.map ddD)) := by
  have tpos : 0 < t := by rcases h.lv with e | e <;> omega
  have hlen : lenP (lawP R b R.length t) = R.length := lawP_len h.b0 h.bk
  have e := write_eq (i := 0) (a := a) (tl := [x]) (m := R.length + 1) (p := lawP R b R.length t) h.grp rfl rfl (num_one x _ _ (by rw [lenP_add, hlen])) rfl (by rw [h.leadB_eq, decide_eq_true hlv]) (good_deed ha G).2 (good_deed ha G).1 (by show (R.drop b.toNat).length < 5000; rw [List.length_drop]; omega) (by show 1 ≤ 5; decide) rfl (by show (1 : Int) ≤ 1; decide) (fun _ => by
    rw [addRow_law h.b0 h.bk, lawP_term h.b0 (by have := h.bk; omega) (by simp)]
    rfl)
  rw [hlen, write_law h.b0 h.bk] at e
  have g1 : (G.set L.p (papO [lawP (R ++ [(t, a)]) b (R ++ [(t, a)]).length t]))[9]? = some (.lst (ds.map ddD)) := by
    rw [List.getElem?_set_ne (fun e => h.dn (by rw [← e]; simp [refsL]))]
    exact h.dd
  refine ⟨G.set L.p (papO [lawP (R ++ [(t, a)]) b (R ++ [(t, a)]).length t]), e, fun G2 hG2 => ?_, g1⟩
  have hgr : Grp (G.set L.p (papO [lawP (R ++ [(t, a)]) b (R ++ [(t, a)]).length t])) 0 L (st1 (lawP (R ++ [(t, a)]) b (R ++ [(t, a)]).length t) true lv x y t) := h.grp.setP _
  subst hG2
  obtain ⟨k1, k2⟩ := hist_snoc (t := t) (d := a) h.ok (by omega) (by rw [h.top]; exact Int.le_refl _) ht ha
  refine ⟨hgr.out h.dn _, List.getElem?_set_self (lt_of g1), h.dn, k1, k2, h.b0, by have := h.bk; simp; omega, h.lv, ?_⟩
  rw [List.map_append, List.foldl_append, h.fold, List.foldl_append]
  rfl
theorem I32.over (h : I32 G L R ds b t lv x y) (hR : R.length ≤ 900) (ht : t < 9000) : ∃ G' L' x' y', C_Group_hand_over [.ref 0, .int 0] G = .ok (.int (t + 1)) G' ∧ I32 G' L' (R ++ [(t + 1, .non)]) ds b (t + 1) (t + 1) x' y' := by
  have hlen : lenP (lawP R b R.length t) = R.length := lawP_len h.b0 h.bk
  have t0 : 0 ≤ t := by
    have := ahead_bd h.ok (b := 0) (Int.le_refl _) (by omega)
    rw [h.top] at this
    exact this.2.2.2.2
  obtain ⟨k1, k2⟩ := hist_snoc (t := t + 1) (d := .non) h.ok (by omega) (by rw [h.top]; omega) (by omega) trivial
  have hov := over_law (R := R) (b := b) (t := t) (w := t + 1) h.b0 h.bk
  have e : C_Group_hand_over [.ref 0, .int 0] G = .ok (.int (t + 1)) (overB G 0 L (st1 (lawP R b R.length t) true lv x y t) (lawP R b R.length t) ++ [intsO [0], intsO [lenP (lawP R b R.length t)]]) := by
    unfold C_Group_hand_over
    simp only [grp_eq h.grp, st1]
    rw [if_pos]
    refine ⟨trivial, ?_, ?_, fun _ => ?_⟩
    · show (R.drop b.toNat).length < 5000
      rw [List.length_drop]
      omega
    · rw [hlen, lawP_term h.b0 h.bk (Int.le_refl _)]
      rfl
    · rw [hlen, setT_law, addRow_law h.b0 h.bk, lawP_term h.b0 (by have := h.bk; omega) (by simp)]
      rfl
  have hlts := h.grp.lts
  have q0 : 0 < G.length := hlts 0 (by simp [refsL])
  have q1 : L.p < G.length := hlts L.p (by simp [refsL])
  have q3 : L.l < G.length := hlts L.l (by simp [refsL])
  have q4 : L.t < G.length := hlts L.t (by simp [refsL])
  have q5 : L.n < G.length := hlts L.n (by simp [refsL])
  have sl : ∀ {A B : Gp} {i : Nat} {o : O}, i < A.length → (A ++ B).set i o = A.set i o ++ B := fun hh => List.set_append_left _ _ hh
  have hti : L.ti.length = 1 := h.grp.tl
  have hni : L.ni.length = 1 := h.grp.nl
  obtain ⟨r1, hr1⟩ := List.length_eq_one_iff.mp hti
  obtain ⟨r2, hr2⟩ := List.length_eq_one_iff.mp hni
  have g1 := ((h.grp.setWd (t + 1)).setP [over1 (lawP R b R.length t) (t + 1)]).setL [t + 1]
  generalize hA : ((G.set 0 (insO L { st1 (lawP R b R.length t) true lv x y t with word := t + 1 })).set L.p (papO [over1 (lawP R b R.length t) (t + 1)])).set L.l (intsO [t + 1]) = A at g1
  have hAl : A.length = G.length := by rw [← hA]; simp
  have g2 := g1.newT (i := 0) (by rw [hti]; decide) [0]
  rw [hAl, hr1, sl (by omega)] at g2
  have g3 := g2.newN (i := 0) (by show 0 < L.ni.length; omega) [lenP (lawP R b R.length t)]
  have hBl : (A.set L.t (refsO ([r1].set 0 G.length)) ++ [intsO [0]]).length = G.length + 1 := by simp [hAl]
  rw [hBl, List.append_assoc, sl (by simp [hAl]; exact q5)] at g3
  have hheap : overB G 0 L (st1 (lawP R b R.length t) true lv x y t) (lawP R b R.length t) = (A.set L.t (refsO [G.length])).set L.n (refsO [G.length + 1]) := by
    unfold overB
    rw [← hA]
    rfl
  rw [hheap] at e
  refine ⟨_, { p := L.p, u := L.u, l := L.l, t := L.t, n := L.n, w := L.w, ti := [G.length], ni := [G.length + 1] }, 0, lenP (lawP R b R.length t), e, ?_, ?_, ?_, k1, k2, h.b0, by have := h.bk; simp; omega, .inr ⟨rfl, by omega⟩, ?_⟩
  · have g4 : Grp ((A.set L.t (refsO [G.length])).set L.n (refsO (L.ni.set 0 (G.length + 1))) ++ [intsO [0], intsO [lenP (lawP R b R.length t)]]) 0 { p := L.p, u := L.u, l := L.l, t := L.t, n := L.n, w := L.w, ti := [G.length], ni := L.ni.set 0 (G.length + 1) } (st1 (over1 (lawP R b R.length t) (t + 1)) true (t + 1) 0 (lenP (lawP R b R.length t)) (t + 1)) := g3
    rw [hr2] at g4
    rw [hov] at g4
    exact g4
  · have d9 := lt_of h.dd
    rw [List.getElem?_append_left (by simp [hAl]; exact d9), List.getElem?_set_ne (fun e => h.dn (by rw [← e]; simp [refsL])), List.getElem?_set_ne (fun e => h.dn (by rw [← e]; simp [refsL])), ← hA]
    rw [List.getElem?_set_ne (fun e => h.dn (by rw [← e]; simp [refsL])), List.getElem?_set_ne (fun e => h.dn (by rw [← e]; simp [refsL])), List.getElem?_set_ne (by decide)]
    exact h.dd
  · have d9 := lt_of h.dd
    intro hx
    have h9 := h.dn
    unfold refsL at hx h9
    simp only [List.mem_cons, List.mem_append, List.not_mem_nil, or_false, not_or] at hx h9
    obtain ⟨a1, a2, a3, a4, a5, a6, a7, a8⟩ := h9
    omega
  · rw [List.map_append, List.foldl_append, h.fold]
    rfl
end
end Mm
namespace Mm
open PySem L2 Mw
open PyProof.Rows hiding St
def Ev32 (ns : List Int) (t n : Int) (w5 w6 w7 w8 : Option D) : En := [some (.scr ns), some (.ref 0), some (.ref 9), some (.int t), some (.int n), w5, w6, w7, w8]
def body32 : MB := forBody (nthS b_law_k32 4)
section
variable {Γ : Fns} {xs : List Nat} {ns : List Int} {G : Gp} {L : Lay} {R : List Rw} {ds : List Dd} {b t lv x y : Int} {w5 w6 w7 w8 : Option D}
/-- it leads, or it is handed over to -/
theorem k32_lead (h49 : Kn Γ 49 1 C_Group_leaders) (h63 : Kn Γ 63 2 C_Group_rise) (h67 : Kn Γ 67 2 C_Group_hand_over) (h : I32 G L R ds b t lv x y) (hR : R.length ≤ 900) (ht : t < 9000) :
    ∃ G' L' R' t' lv' x' y', eS Γ xs (nthS body32 1) (Ev32 ns t R.length w5 w6 w7 w8) G = .nx (Ev32 ns t' R'.length w5 w6 w7 w8) G' ∧ I32 G' L' R' ds b t' lv' x' y' ∧ 0 < lv' ∧ R'.length ≤ R.length + 1 ∧ t' ≤ t + 1 := by
  have hI := h.grp.isI
  have e49 := h.leads
  have h1 := h.more [intsO (if 0 < lv then [0] else []), .lst []]
  have hI1 := h1.grp.isI
  simp only [body32, b_law_k32, nthS, forBody]
  by_cases c : 0 < lv
  · rw [if_pos c] at e49 h1
    refine ⟨_, L, R, t, lv, x, y, ?_, h1, c, by omega, by omega⟩
    have q : dEq (.ref G.length) (.ref (G.length + 1)) (G ++ [intsO [0], .lst []]) = .ok false (G ++ [intsO [0], .lst []]) := by
      simp [dEq, py, intsO, PyData.eqv, PyData.eqvAll]
    simp [Ev32, hI, h49.1, h49.2, e49, q]
  · rw [if_neg c] at e49 h1 hI1
    obtain ⟨G2, e63, h2⟩ := h1.rise
    obtain ⟨G3, L3, x3, y3, e67, h3⟩ := h2.over hR ht
    have hI2 := h2.grp.isI
    have t0 : 0 ≤ t := by
      have := ahead_bd h.ok (b := 0) (Int.le_refl _) (by omega)
      rw [h.top] at this
      exact this.2.2.2.2
    refine ⟨G3, L3, R ++ [(t + 1, .non)], t + 1, t + 1, x3, y3, ?_, h3, by omega, by simp, by omega⟩
    have q : dEq (.ref G.length) (.ref (G.length + 1)) (G ++ [intsO [], .lst []]) = .ok true (G ++ [intsO [], .lst []]) := by
      simp [dEq, py, intsO, PyData.eqv, PyData.eqvAll]
    simp [Ev32, hI, hI1, hI2, h49.1, h49.2, e49, q, h63.1, h63.2, e63, h67.1, h67.2, e67, eq_int]
/-- one of the three things that are done -/
theorem k32_do (h8 : Kn Γ 8 2 C__law_seed) (h10 : Kn Γ 10 1 C__law_deed) (h11 : Kn Γ 11 2 C__law_after) (h62 : Kn Γ 62 2 C_Group_fall) (h63 : Kn Γ 63 2 C_Group_rise) (h64 : Kn Γ 64 2 C_Group_trim) (h68 : Kn Γ 68 3 C_Group_write) (h87 : Kn Γ 87 2 C_Group_paper) (h : I32 G L R ds b t lv x y) (hlv : 0 < lv) (hR : R.length ≤ 900) (ht : t < 9000) (hd : ds.length < 900) {c pk : Int} :
    ∃ G' R' ds' b' lv' v8, eS Γ xs (nthS body32 3) (Ev32 ns t R.length w5 (some (.int c)) (some (.int pk)) w8) G = .nx (Ev32 ns t R'.length w5 (some (.int c)) (some (.int pk)) v8) G' ∧ I32 G' L R' ds' b' t lv' x y ∧ R'.length ≤ R.length + 1 ∧ ds'.length ≤ ds.length + 1 := by
  have hI := h.grp.isI
  simp only [body32, b_law_k32, nthS, forBody]
  by_cases c1 : pk < 4
  · have ha := deedN_good (seedN c 1)
    obtain ⟨G1, e68, h1, g9⟩ := h.write hR (by omega) hlv ha
    have h2 := h1 _ rfl
    generalize hdd : deedN (seedN c 1) = a at ha e68 h1 h2
    refine ⟨_, R ++ [(t, a)], ds ++ [a], b, lv, some (ddD a), ?_, h2, by simp, by simp⟩
    have hz : (ds.map ddD).length < 100000 := by rw [List.length_map]; omega
    have q1 : isL (.ref 9) G1 = .ok () G1 := by simp [isL, g9]
    have q2 : dApp (.ref 9) (ddD a) G1 = .ok .non (G1.set 9 (.lst ((ds ++ [a]).map ddD))) := by
      simp [dApp, g9]
      omega
    simp [Ev32, c1, h8.1, h8.2, seed_eq, h10.1, h10.2, ldeed_eq, hdd, hI, h68.1, h68.2, e68, eq_int, q1, q2]
  · by_cases c2 : pk = 4
    · subst c2
      obtain ⟨v, G1, e64, h1⟩ := h.trim hR (by omega)
      have hI1 := h1.grp.isI
      have e87 := h1.pap
      have e11 := h1.after (by omega)
      have cut := pp_cut1 (lawP R R.length R.length t) G1
      have hT : D.tup [.int (lawP R R.length R.length t).base, .int (lawP R R.length R.length t).ahead, .tup ((lawP R R.length R.length t).things.map Mw.pairD), .tup ((lawP R R.length R.length t).rows.map rowD), .int (lawP R R.length R.length t).kept] = .tup [.int R.length, .int t, .tup ((thingsOf R R.length).map Mw.pairD), .tup [], .int R.length] := by
        show D.tup [.int R.length, .int (aheadOf R R.length), .tup ((thingsOf R (R.length : Int).toNat).map Mw.pairD), .tup ((R.drop (R.length : Int).toNat).map rowD), .int R.length] = _
        rw [ahead_top', h.top, Int.toNat_natCast, List.drop_length]
        rfl
      rw [hT] at cut
      have hpl : plainD 20 (.tup [.int R.length, .int t, .tup ((thingsOf R R.length).map Mw.pairD), .tup [], .int R.length]) = true := by
        show (true && (true && (plainD 19 (.tup ((thingsOf R R.length).map Mw.pairD)) && (true && (true && true))))) = true
        rw [plain_things (thingsOf_good h.ok _) 17]
        rfl
      have heq := eq_self (G := G1) hpl
      refine ⟨G1, R, ds, R.length, lv, w8, ?_, h1, by omega, by omega⟩
      generalize ppD (lawP R R.length R.length t) = PD at e87 cut
      generalize D.tup ((thingsOf R R.length).map Mw.pairD) = TH at e11 cut heq
      simp [Ev32, eq_int, hI, h64.1, h64.2, e64, hI1, h87.1, h87.2, e87, cut, h11.1, h11.2, e11, heq]
    · obtain ⟨G1, G2, e62, hI1, e63, h2⟩ := h.fallRise
      refine ⟨G2, R, ds, b, 0, w8, ?_, h2, by omega, by omega⟩
      simp [Ev32, c1, c2, eq_int, hI, h62.1, h62.2, e62, hI1, h63.1, h63.2, e63]
theorem k32_chk (h11 : Kn Γ 11 2 C__law_after) (h65 : Kn Γ 65 3 C_Group_look) (h87 : Kn Γ 87 2 C_Group_paper) (h : I32 G L R ds b t lv x y) (hR : R.length ≤ 900) (hd : ds.length < 900) : eS Γ xs (nthS body32 4) (Ev32 ns t R.length w5 w6 w7 w8) G = .nx (Ev32 ns t R.length w5 w6 w7 w8) G := by
  have hI := h.grp.isI
  have e87 := h.pap
  have e65 := h.look hR
  have e11 := h.after (by omega)
  have p5 := pp_5 (lawP R b R.length t) G
  rw [show (lawP R b R.length t).kept = R.length from rfl] at p5
  have hpl : plainD 20 (.tup [.int R.length, .tup ((thingsOf R R.length).map Mw.pairD)]) = true := by
    show (true && (plainD 19 (.tup ((thingsOf R R.length).map Mw.pairD)) && true)) = true
    rw [plain_things (thingsOf_good h.ok _) 17]
    rfl
  have heq := eq_self (G := G) hpl
  simp only [body32, b_law_k32, nthS, forBody]
  generalize ppD (lawP R b R.length t) = PD at e87 p5
  generalize D.tup ((thingsOf R R.length).map Mw.pairD) = TH at e11 e65 heq
  simp [Ev32, hI, h87.1, h87.2, e87, p5, eq_int, h65.1, h65.2, e65, h11.1, h11.2, e11, heq]
/-- one turn -/
theorem k32_body (h7 : Kn Γ 7 2 C__law_cell) (h8 : Kn Γ 8 2 C__law_seed) (h9 : Kn Γ 9 2 C__law_pick) (h10 : Kn Γ 10 1 C__law_deed) (h11 : Kn Γ 11 2 C__law_after) (h49 : Kn Γ 49 1 C_Group_leaders) (h62 : Kn Γ 62 2 C_Group_fall) (h63 : Kn Γ 63 2 C_Group_rise) (h64 : Kn Γ 64 2 C_Group_trim) (h65 : Kn Γ 65 3 C_Group_look) (h67 : Kn Γ 67 2 C_Group_hand_over) (h68 : Kn Γ 68 3 C_Group_write) (h87 : Kn Γ 87 2 C_Group_paper)
    (h : I32 G L R ds b t lv x y) (hR : R.length ≤ 800) (ht : t < 8000) (hd : ds.length < 800) {k : Int} :
    ∃ G' L' R' ds' b' t' lv' x' y' v6 v7 v8, eB Γ xs body32 (Ev32 ns t R.length (some (.int k)) w6 w7 w8) G = .nx (Ev32 ns t' R'.length (some (.int k)) v6 v7 v8) G' ∧ I32 G' L' R' ds' b' t' lv' x' y' ∧ R'.length ≤ R.length + 2 ∧ ds'.length ≤ ds.length + 1 ∧ t' ≤ t + 1 := by
  have hcl : ∀ (k : Int) (G : Gp), 0 ≤ k → C__law_cell [.scr ns, .int k] G = .ok (.int (cell ns k)) G := fun k G h => if_pos h
  have k6 : 0 ≤ 1 + k % 6 := by omega
  have m103 := mul_small (i := 103) (j := k) (G := G) ⟨by omega, by omega⟩
  generalize hc : seedN (cell ns (1 + k % 6) + 103 * k) k = c
  have hb : body32 = .cons (nthS body32 0) (.cons (nthS body32 1) (.cons (nthS body32 2) (.cons (nthS body32 3) (.cons (nthS body32 4) .nil)))) := rfl
  rw [hb]
  simp only [eB]
  rw [seq_nx (e1 := Ev32 ns t R.length (some (.int k)) (some (.int c)) w7 w8) (G1 := G) (by
    simp only [body32, b_law_k32, nthS, forBody]
    simp [Ev32, h7.1, h7.2, hcl _ _ k6, dMod, m103, h8.1, h8.2, seed_eq, hc])]
  obtain ⟨G1, L1, R1, t1, lv1, x1, y1, e1, i1, p1, q1, q2⟩ := k32_lead (xs := xs) (ns := ns) (w5 := some (.int k)) (w6 := some (.int c)) (w7 := w7) (w8 := w8) h49 h63 h67 h (by omega) (by omega)
  rw [seq_nx e1]
  rw [seq_nx (e1 := Ev32 ns t1 R1.length (some (.int k)) (some (.int c)) (some (.int (c / 97 % 6))) w8) (G1 := G1) (by
    simp only [body32, b_law_k32, nthS, forBody]
    simp [Ev32, h9.1, h9.2, pick_eq])]
  obtain ⟨G2, R2, ds2, b2, lv2, v8, e2, i2, q3, q4⟩ := k32_do (xs := xs) (ns := ns) (w5 := some (.int k)) (w8 := w8) (c := c) (pk := c / 97 % 6) h8 h10 h11 h62 h63 h64 h68 h87 i1 p1 (by omega) (by omega) (by omega)
  rw [seq_nx e2]
  have e3 := k32_chk (xs := xs) (ns := ns) (w5 := some (.int k)) (w6 := some (.int c)) (w7 := some (.int (c / 97 % 6))) (w8 := v8) h11 h65 h87 i2 (by omega) (by omega)
  rw [seq_nx e3]
  exact ⟨G2, L1, R2, ds2, b2, t1, lv2, x1, y1, _, _, _, rfl, i2, by omega, q4, q2⟩
end
theorem T_law_k32 {Γ : Fns} (h7 : Kn Γ 7 2 C__law_cell) (h8 : Kn Γ 8 2 C__law_seed) (h9 : Kn Γ 9 2 C__law_pick) (h10 : Kn Γ 10 1 C__law_deed) (h11 : Kn Γ 11 2 C__law_after) (h20 : Kn Γ 20 1 C_length) (h47 : Kn Γ 47 3 C_Group___init__) (h49 : Kn Γ 49 1 C_Group_leaders) (h62 : Kn Γ 62 2 C_Group_fall) (h63 : Kn Γ 63 2 C_Group_rise) (h64 : Kn Γ 64 2 C_Group_trim) (h65 : Kn Γ 65 3 C_Group_look) (h67 : Kn Γ 67 2 C_Group_hand_over) (h68 : Kn Γ 68 3 C_Group_write) (h87 : Kn Γ 87 2 C_Group_paper) :
    ∀ ns : List Int, ns.length ≤ 63 → ∃ G, fnRun N_law_k32.length (eB Γ [0, 1, 3, 5, 6, 7, 8, 9, 10, 11] b_law_k32) [.scr ns] [] = .ok (.bl true) G := by
  intro ns _
  have hcl : ∀ (k : Int) (G : Gp), 0 ≤ k → C__law_cell [.scr ns, .int k] G = .ok (.int (cell ns k)) G := fun k G h => if_pos h
  refine law_ret ?_
  unfold b_law_k32
  simp only [eB]
  have e47 : C_Group___init__ [.ref 0, .int 1, .int 1] [.ins []] = .ok .non ([insO (lay0 1 1) (gst0 1 1)] ++ new0 1 1) := rfl
  generalize hG0 : ([insO (lay0 1 1) (gst0 1 1)] ++ new0 1 1 : Gp) = G0 at e47
  have hn0 : G0.length = 9 := by rw [← hG0]; rfl
  have I0 : I32 (G0 ++ [.lst []]) (lay0 1 1) [] [] 0 0 0 0 0 := by
    refine ⟨?_, by rw [← hG0]; rfl, by decide, ⟨.nil, (fun _ h => nomatch h), (fun _ h => nomatch h), (fun _ h => nomatch h)⟩, rfl, Int.le_refl _, Int.le_refl _, .inl rfl, rfl⟩
    rw [← hG0]
    refine ⟨rfl, ?_, rfl, rfl, rfl, rfl, rfl, rfl, rfl, fun i r xs e1 e2 => ?_, fun i r xs e1 e2 => ?_, by decide⟩
    · show some (papO [p0]) = some (papO [lawP [] 0 0 0])
      congr 2
      simp [p0, lawP, aheadOf, thingsOf, sortKV]
    · match i, e1, e2 with
      | 0, e1, e2 => cases e1; cases e2; rfl
      | i + 1, e1, e2 => simp [st1] at e2
    · match i, e1, e2 with
      | 0, e1, e2 => cases e1; cases e2; rfl
      | i + 1, e1, e2 => simp [st1] at e2
  rw [seq_nx (e1 := [some (.scr ns), some (.ref 0), none, none, none, none, none, none, none]) (G1 := G0) (by
    simp [startD, N_law_k32, h47.1, h47.2, e47, Mw.isNon])]
  rw [seq_nx (e1 := [some (.scr ns), some (.ref 0), some (.ref 9), none, none, none, none, none, none]) (G1 := G0 ++ [.lst []]) (by
    simp [hn0])]
  rw [seq_nx (e1 := [some (.scr ns), some (.ref 0), some (.ref 9), some (.int 0), none, none, none, none, none]) (G1 := G0 ++ [.lst []]) (by
    simp)]
  rw [seq_nx (e1 := Ev32 ns 0 0 none none none none) (G1 := G0 ++ [.lst []]) (by
    simp [Ev32])]
  generalize hn : (cell ns 0 % 31).toNat = N
  have hN : N ≤ 30 := by omega
  have eN : cell ns 0 % 31 = (N : Int) := by omega
  obtain ⟨⟨j, G1, L1, R1, ds1, b1, t1, lv1, x1, y1, w5, w6, w7, w8⟩, f1, f2⟩ := mFor_relT (α := Nat × Gp × Lay × List Rw × List Dd × Int × Int × Int × Int × Int × Option D × Option D × Option D × Option D) (t := .nm 5) (it := eI Γ (.range1 (.bin .mod (.call 7 (.cons (.var 0) (.cons (.int 0) .nil))) (.int 31)))) (B := eB Γ [0, 1, 3, 5, 6, 7, 8, 9, 10, 11] body32) (s := ⟨rangeD 0 N, none⟩) (e := Ev32 ns 0 0 none none none none) (G := G0 ++ [.lst []])
    (fun a => Ev32 ns a.2.2.2.2.2.2.1 a.2.2.2.1.length a.2.2.2.2.2.2.2.2.2.2.1 a.2.2.2.2.2.2.2.2.2.2.2.1 a.2.2.2.2.2.2.2.2.2.2.2.2.1 a.2.2.2.2.2.2.2.2.2.2.2.2.2) (fun a => a.2.1) (fun a rest => a.1 ≤ N ∧ rest = (rangeD 0 N).drop a.1 ∧ I32 a.2.1 a.2.2.1 a.2.2.2.1 a.2.2.2.2.1 a.2.2.2.2.2.1 a.2.2.2.2.2.2.1 a.2.2.2.2.2.2.2.1 a.2.2.2.2.2.2.2.2.1 a.2.2.2.2.2.2.2.2.2.1 ∧ a.2.2.2.1.length ≤ 2 * a.1 ∧ a.2.2.2.2.1.length ≤ a.1 ∧ a.2.2.2.2.2.2.1 ≤ a.1) (0, G0 ++ [.lst []], lay0 1 1, [], [], 0, 0, 0, 0, 0, none, none, none, none) rfl (by
      have z : (-100000 < (N : Int) ∧ (N : Int) < 100000) := by omega
      simp [eI, Ev32, h7.1, h7.2, hcl, dMod, eN, z]) ⟨Nat.zero_le _, rfl, I0, Nat.le_refl _, Nat.le_refl _, Int.le_refl _⟩ (fun _ _ _ => rfl) (fun a d rest hq => by
      obtain ⟨j, G1, L1, R1, ds1, b1, t1, lv1, x1, y1, w5, w6, w7, w8⟩ := a
      obtain ⟨r1, r2, r3, r4, r5, r6⟩ := hq
      obtain ⟨hk, rfl, hrest⟩ := range_drop r2
      simp only at r1 r3 r4 r5 r6
      obtain ⟨G2, L2, R2, ds2, b2, t2, lv2, x2, y2, v6, v7, v8, hb, hi, s1, s2, s3⟩ := k32_body (Γ := Γ) (xs := [0, 1, 3, 5, 6, 7, 8, 9, 10, 11]) (ns := ns) (w6 := w6) (w7 := w7) (w8 := w8) h7 h8 h9 h10 h11 h49 h62 h63 h64 h65 h67 h68 h87 r3 (by omega) (by omega) (by omega) (k := (j : Int))
      exact ⟨_, (j + 1, G2, L2, R2, ds2, b2, t2, lv2, x2, y2, some (.int j), v6, v7, v8), rfl, hb, hk, hrest, hi, by dsimp only; omega, by dsimp only; omega, by dsimp only; push_cast; omega⟩)
  obtain ⟨r1, r2, r3, r4, r5, r6⟩ := f2
  simp only at r1 r2 r3 r4 r5 r6
  have f1' : eS Γ [0, 1, 3, 5, 6, 7, 8, 9, 10, 11] (nthS b_law_k32 4) (Ev32 ns 0 0 none none none none) (G0 ++ [.lst []]) = .nx (Ev32 ns t1 R1.length w5 w6 w7 w8) G1 := f1
  simp only [b_law_k32, nthS] at f1'
  rw [seq_nx f1']
  have hI := r3.grp.isI
  have e87 := r3.pap
  have p0' := pp_0 (lawP R1 b1 R1.length t1) G1
  rw [show (lawP R1 b1 R1.length t1).term = t1 from rfl] at p0'
  have e20 := end_length (t := t1) (b := b1) (k := R1.length) r3.ok (by omega) r3.b0 r3.bk (Int.le_refl _) (by rw [r3.top]; exact Int.le_refl _) (by omega) G1
  generalize ppD (lawP R1 b1 R1.length t1) = PD at e87 p0' e20
  refine ⟨G1, ?_⟩
  simp [Ev32, hI, h87.1, h87.2, e87, h20.1, h20.2, e20, eq_int, p0']
end Mm
namespace HT
open PySem L2 Mw Mm
open PyProof.Rows hiding St
def S : Sx := ⟨["ValueError", "bool", "dict", "int", "isinstance", "len", "max", "range", "sorted", "str", "tuple"], [("ROUND", 10000), ("MOST", 100000), ("MOST_ROWS", 3), ("MOST_PLACES", 5)], [("SMALL", "abcdefghijklmnopqrstuvwxyz")], [0, 1, 3, 5, 6, 7, 8, 9, 10, 11], true⟩
def L_0 : Fl := []
noncomputable def L_1 : Fl := (0, ⟨false, "is_within", ["thing", "low", "high"], C_is_within⟩) :: L_0
noncomputable def L_2 : Fl := (1, ⟨false, "is_key", ["thing"], C_is_key⟩) :: L_1
noncomputable def L_3 : Fl := (3, ⟨false, "are_things", ["thing"], C_are_things⟩) :: L_2
noncomputable def L_4 : Fl := (2, ⟨false, "is_deed", ["thing"], C_is_deed⟩) :: L_3
noncomputable def L_5 : Fl := (13, ⟨false, "are_rows", ["thing", "low", "high"], C_are_rows⟩) :: L_4
noncomputable def L_6 : Fl := (14, ⟨false, "is_paper", ["thing"], C_is_paper⟩) :: L_5
noncomputable def L_7 : Fl := (18, ⟨false, "look", ["paper"], C_look⟩) :: L_6
noncomputable def L_8 : Fl := (19, ⟨false, "length_of", ["paper"], C_length_of⟩) :: L_7
noncomputable def L_9 : Fl := (20, ⟨false, "length", ["paper"], C_length⟩) :: L_8
noncomputable def L_10 : Fl := (46, ⟨false, "begun", [], C_begun⟩) :: L_9
noncomputable def L_11 : Fl := (47, ⟨true, "__init__", ["self", "many", "need"], C_Group___init__⟩) :: L_10
noncomputable def L_12 : Fl := (21, ⟨false, "term_at", ["paper", "number"], C_term_at⟩) :: L_11
noncomputable def L_13 : Fl := (22, ⟨false, "last_of", ["paper"], C_last_of⟩) :: L_12
noncomputable def L_14 : Fl := (50, ⟨true, "look_place", ["self", "place"], C_Group_look_place⟩) :: L_13
noncomputable def L_15 : Fl := (51, ⟨true, "look_up", ["self", "place"], C_Group_look_up⟩) :: L_14
noncomputable def L_16 : Fl := (66, ⟨true, "with_rows", ["self", "place", "deed"], C_Group_with_rows⟩) :: L_15
noncomputable def L_17 : Fl := (58, ⟨true, "count", ["self", "place"], C_Group_count⟩) :: L_16
noncomputable def L_18 : Fl := (67, ⟨true, "hand_over", ["self", "place"], C_Group_hand_over⟩) :: L_17
noncomputable def L_19 : Fl := (48, ⟨true, "is_leading", ["self", "place"], C_Group_is_leading⟩) :: L_18
noncomputable def L_20 : Fl := (52, ⟨true, "look_leading", ["self", "place"], C_Group_look_leading⟩) :: L_19
noncomputable def L_21 : Fl := (68, ⟨true, "write", ["self", "place", "deed"], C_Group_write⟩) :: L_20
noncomputable def L_22 : Fl := (62, ⟨true, "fall", ["self", "place"], C_Group_fall⟩) :: L_21
noncomputable def L_23 : Fl := (63, ⟨true, "rise", ["self", "place"], C_Group_rise⟩) :: L_22
noncomputable def L_24 : Fl := (4, ⟨false, "after", ["things", "deed"], C_after⟩) :: L_23
noncomputable def L_25 : Fl := (5, ⟨false, "after_all", ["things", "deeds"], C_after_all⟩) :: L_24
noncomputable def L_26 : Fl := (26, ⟨false, "trimmed", ["paper", "number"], C_trimmed⟩) :: L_25
noncomputable def L_27 : Fl := (64, ⟨true, "trim", ["self", "place"], C_Group_trim⟩) :: L_26
noncomputable def L_28 : Fl := (24, ⟨false, "things_of", ["paper"], C_things_of⟩) :: L_27
noncomputable def L_29 : Fl := (65, ⟨true, "look", ["self", "place", "least"], C_Group_look⟩) :: L_28
noncomputable def L_30 : Fl := (87, ⟨true, "paper", ["self", "place"], C_Group_paper⟩) :: L_29
noncomputable def L_31 : Fl := (49, ⟨true, "leaders", ["self"], C_Group_leaders⟩) :: L_30
noncomputable def L_32 : Fl := (7, ⟨false, "_law_cell", ["script", "k"], C__law_cell⟩) :: L_31
noncomputable def L_33 : Fl := (8, ⟨false, "_law_seed", ["seed", "k"], C__law_seed⟩) :: L_32
noncomputable def L_34 : Fl := (9, ⟨false, "_law_pick", ["seed", "many"], C__law_pick⟩) :: L_33
noncomputable def L_35 : Fl := (10, ⟨false, "_law_deed", ["seed"], C__law_deed⟩) :: L_34
noncomputable def L_36 : Fl := (11, ⟨false, "_law_after", ["some", "deeds"], C__law_after⟩) :: L_35
end HT
namespace HT
open PySem PySem.Spec PyProof.Rows L2
def top (i : Nat) : Stmt := PySem.Challenge.pw_copyrows_k32_whole_one_place.main.body.getD i (.Pass ⟨0, 0, 0, 0⟩)
abbrev s_is_within : Stmt := top 15
def d_is_within : He.DefD := ⟨("is_within", none), "is_within", "is_within", defArgs s_is_within, defBody s_is_within, defScope s_is_within, [], []⟩
abbrev s_is_key : Stmt := top 16
def d_is_key : He.DefD := ⟨("is_key", none), "is_key", "is_key", defArgs s_is_key, defBody s_is_key, defScope s_is_key, [], []⟩
abbrev s_are_things : Stmt := top 18
def d_are_things : He.DefD := ⟨("are_things", none), "are_things", "are_things", defArgs s_are_things, defBody s_are_things, defScope s_are_things, [], []⟩
abbrev s_is_deed : Stmt := top 17
def d_is_deed : He.DefD := ⟨("is_deed", none), "is_deed", "is_deed", defArgs s_is_deed, defBody s_is_deed, defScope s_is_deed, [], []⟩
abbrev s_are_rows : Stmt := top 23
def d_are_rows : He.DefD := ⟨("are_rows", none), "are_rows", "are_rows", defArgs s_are_rows, defBody s_are_rows, defScope s_are_rows, [], []⟩
abbrev s_is_paper : Stmt := top 24
def d_is_paper : He.DefD := ⟨("is_paper", none), "is_paper", "is_paper", defArgs s_is_paper, defBody s_is_paper, defScope s_is_paper, [], []⟩
abbrev s_look : Stmt := top 25
def d_look : He.DefD := ⟨("look", none), "look", "look", defArgs s_look, defBody s_look, defScope s_look, [], []⟩
abbrev s_length_of : Stmt := top 27
def d_length_of : He.DefD := ⟨("length_of", none), "length_of", "length_of", defArgs s_length_of, defBody s_length_of, defScope s_length_of, [], []⟩
abbrev s_length : Stmt := top 31
def d_length : He.DefD := ⟨("length", none), "length", "length", defArgs s_length, defBody s_length, defScope s_length, [], []⟩
abbrev s_begun : Stmt := top 26
def d_begun : He.DefD := ⟨("begun", none), "begun", "begun", defArgs s_begun, defBody s_begun, defScope s_begun, [], []⟩
abbrev s_Group___init__ : Stmt := inClass (top 38) 0
def d_Group___init__ : He.DefD := ⟨("Group", some "__init__"), "__init__", "Group.__init__", defArgs s_Group___init__, defBody s_Group___init__, defScope s_Group___init__, [], []⟩
abbrev s_term_at : Stmt := top 28
def d_term_at : He.DefD := ⟨("term_at", none), "term_at", "term_at", defArgs s_term_at, defBody s_term_at, defScope s_term_at, [], []⟩
abbrev s_last_of : Stmt := top 29
def d_last_of : He.DefD := ⟨("last_of", none), "last_of", "last_of", defArgs s_last_of, defBody s_last_of, defScope s_last_of, [], []⟩
abbrev s_Group_look_place : Stmt := inClass (top 38) 1
def d_Group_look_place : He.DefD := ⟨("Group", some "look_place"), "look_place", "Group.look_place", defArgs s_Group_look_place, defBody s_Group_look_place, defScope s_Group_look_place, [], []⟩
abbrev s_Group_look_up : Stmt := inClass (top 38) 2
def d_Group_look_up : He.DefD := ⟨("Group", some "look_up"), "look_up", "Group.look_up", defArgs s_Group_look_up, defBody s_Group_look_up, defScope s_Group_look_up, [], []⟩
abbrev s_Group_with_rows : Stmt := inClass (top 38) 5
def d_Group_with_rows : He.DefD := ⟨("Group", some "with_rows"), "with_rows", "Group.with_rows", defArgs s_Group_with_rows, defBody s_Group_with_rows, defScope s_Group_with_rows, [], []⟩
abbrev s_Group_count : Stmt := inClass (top 38) 6
def d_Group_count : He.DefD := ⟨("Group", some "count"), "count", "Group.count", defArgs s_Group_count, defBody s_Group_count, defScope s_Group_count, [], []⟩
abbrev s_Group_hand_over : Stmt := inClass (top 38) 7
def d_Group_hand_over : He.DefD := ⟨("Group", some "hand_over"), "hand_over", "Group.hand_over", defArgs s_Group_hand_over, defBody s_Group_hand_over, defScope s_Group_hand_over, [], []⟩
abbrev s_Group_is_leading : Stmt := inClass (top 38) 3
def d_Group_is_leading : He.DefD := ⟨("Group", some "is_leading"), "is_leading", "Group.is_leading", defArgs s_Group_is_leading, defBody s_Group_is_leading, defScope s_Group_is_leading, [], []⟩
abbrev s_Group_look_leading : Stmt := inClass (top 38) 4
def d_Group_look_leading : He.DefD := ⟨("Group", some "look_leading"), "look_leading", "Group.look_leading", defArgs s_Group_look_leading, defBody s_Group_look_leading, defScope s_Group_look_leading, [], []⟩
abbrev s_Group_write : Stmt := inClass (top 38) 8
def d_Group_write : He.DefD := ⟨("Group", some "write"), "write", "Group.write", defArgs s_Group_write, defBody s_Group_write, defScope s_Group_write, [], []⟩
abbrev s_Group_fall : Stmt := inClass (top 38) 15
def d_Group_fall : He.DefD := ⟨("Group", some "fall"), "fall", "Group.fall", defArgs s_Group_fall, defBody s_Group_fall, defScope s_Group_fall, [], []⟩
abbrev s_Group_rise : Stmt := inClass (top 38) 16
def d_Group_rise : He.DefD := ⟨("Group", some "rise"), "rise", "Group.rise", defArgs s_Group_rise, defBody s_Group_rise, defScope s_Group_rise, [], []⟩
abbrev s_after : Stmt := top 19
def d_after : He.DefD := ⟨("after", none), "after", "after", defArgs s_after, defBody s_after, defScope s_after, [], []⟩
abbrev s_after_all : Stmt := top 20
def d_after_all : He.DefD := ⟨("after_all", none), "after_all", "after_all", defArgs s_after_all, defBody s_after_all, defScope s_after_all, [], []⟩
abbrev s_trimmed : Stmt := top 32
def d_trimmed : He.DefD := ⟨("trimmed", none), "trimmed", "trimmed", defArgs s_trimmed, defBody s_trimmed, defScope s_trimmed, [], []⟩
abbrev s_Group_trim : Stmt := inClass (top 38) 17
def d_Group_trim : He.DefD := ⟨("Group", some "trim"), "trim", "Group.trim", defArgs s_Group_trim, defBody s_Group_trim, defScope s_Group_trim, [], []⟩
abbrev s_things_of : Stmt := top 30
def d_things_of : He.DefD := ⟨("things_of", none), "things_of", "things_of", defArgs s_things_of, defBody s_things_of, defScope s_things_of, [], []⟩
abbrev s_Group_look : Stmt := inClass (top 38) 18
def d_Group_look : He.DefD := ⟨("Group", some "look"), "look", "Group.look", defArgs s_Group_look, defBody s_Group_look, defScope s_Group_look, [], []⟩
abbrev s_Group_paper : Stmt := inClass (top 38) 19
def d_Group_paper : He.DefD := ⟨("Group", some "paper"), "paper", "Group.paper", defArgs s_Group_paper, defBody s_Group_paper, defScope s_Group_paper, [], []⟩
abbrev s_Group_leaders : Stmt := inClass (top 38) 20
def d_Group_leaders : He.DefD := ⟨("Group", some "leaders"), "leaders", "Group.leaders", defArgs s_Group_leaders, defBody s_Group_leaders, defScope s_Group_leaders, [], []⟩
abbrev s__law_cell : Stmt := top 40
def d__law_cell : He.DefD := ⟨("_law_cell", none), "_law_cell", "_law_cell", defArgs s__law_cell, defBody s__law_cell, defScope s__law_cell, [], []⟩
abbrev s__law_seed : Stmt := top 41
def d__law_seed : He.DefD := ⟨("_law_seed", none), "_law_seed", "_law_seed", defArgs s__law_seed, defBody s__law_seed, defScope s__law_seed, [], []⟩
abbrev s__law_pick : Stmt := top 42
def d__law_pick : He.DefD := ⟨("_law_pick", none), "_law_pick", "_law_pick", defArgs s__law_pick, defBody s__law_pick, defScope s__law_pick, [], []⟩
abbrev s__law_deed : Stmt := top 43
def d__law_deed : He.DefD := ⟨("_law_deed", none), "_law_deed", "_law_deed", defArgs s__law_deed, defBody s__law_deed, defScope s__law_deed, [], []⟩
abbrev s__law_after : Stmt := top 44
def d__law_after : He.DefD := ⟨("_law_after", none), "_law_after", "_law_after", defArgs s__law_after, defBody s__law_after, defScope s__law_after, [], []⟩
abbrev s_law_k32 : Stmt := top 45
def d_law_k32 : He.DefD := ⟨("law", none), "law", "law", defArgs s_law_k32, defBody s_law_k32, defScope s_law_k32, [], []⟩
def fn : List He.DefD := [d_is_within, d_is_key, d_are_things, d_is_deed, d_are_rows, d_is_paper, d_look, d_length_of, d_length, d_begun, d_Group___init__, d_term_at, d_last_of, d_Group_look_place, d_Group_look_up, d_Group_with_rows, d_Group_count, d_Group_hand_over, d_Group_is_leading, d_Group_look_leading, d_Group_write, d_Group_fall, d_Group_rise, d_after, d_after_all, d_trimmed, d_Group_trim, d_things_of, d_Group_look, d_Group_paper, d_Group_leaders, d__law_cell, d__law_seed, d__law_pick, d__law_deed, d__law_after, d_law_k32]
def gl : List PySem.Str := ["is_within", "is_key", "are_things", "is_deed", "are_rows", "is_paper", "look", "length_of", "length", "begun", "term_at", "last_of", "after", "after_all", "trimmed", "things_of", "_law_cell", "_law_seed", "_law_pick", "_law_deed", "_law_after", "law"]
def ms : List PySem.Str := ["look_place", "look_up", "with_rows", "count", "hand_over", "is_leading", "look_leading", "write", "fall", "rise", "trim", "look", "paper", "leaders"]
def fa : List He.Fa := Mw.faOf S gl ms
def loose : List PySem.Str := ("BadDeed" :: "BadNumber" :: "BadPaper" :: "Behind" :: "CopyError" :: "Down" :: "Group" :: "MOST" :: "MOST_PLACES" :: "MOST_ROWS" :: "NoPlace" :: "NotLeading" :: "ROUND" :: "SMALL" :: "TooFew" :: "TooOld" :: "_law_after" :: "_law_cell" :: "_law_deed" :: "_law_pick" :: "_law_seed" :: "_wall" :: "after" :: "after_all" :: "are_rows" :: "are_things" :: "begun" :: "is_deed" :: "is_key" :: "is_paper" :: "is_within" :: "last_of" :: "length" :: "length_of" :: "look" :: "sent" :: "term_at" :: "things_of" :: "trimmed" :: [])
abbrev R : PySem.W.OpenRow := PySem.W.OpenLaw.row PySem.Challenge.rw_copyrows_k32_whole_one_place
abbrev hk : PySem.W.Hook := He.hookD 5 fa fn
def ob (s : PySem.W.SharedT) : He.AlD := He.obsDG 5 fa fn (HandSHeadRun.getT s)
theorem ob_eq (s : PySem.W.SharedT) : ob s = hk.obs s.abs := He.obsDG_eq (HandSHeadRun.getT_eq s)
theorem run (w : World) : HandSHeadRun.RunEq R (PySem.W.view R.prog [45]) hk ob 60000 loose w := by
  intro os
  kernel_rfl
end HT
namespace HT
open PySem L2 Mw Mm
open PyProof.Rows hiding St
theorem chk_0 : (C8.scC N_is_within ["thing", "low", "high"] (defScope s_is_within) && mtB (ctOf L_0 S) N_is_within b_is_within (defScope s_is_within) (defBody s_is_within)) = true := by decide +kernel
theorem chk_1 : (C8.scC N_is_key ["thing"] (defScope s_is_key) && mtB (ctOf L_1 S) N_is_key b_is_key (defScope s_is_key) (defBody s_is_key)) = true := by decide +kernel
theorem chk_2 : (C8.scC N_are_things ["thing"] (defScope s_are_things) && mtB (ctOf L_2 S) N_are_things b_are_things (defScope s_are_things) (defBody s_are_things)) = true := by decide +kernel
theorem chk_3 : (C8.scC N_is_deed ["thing"] (defScope s_is_deed) && mtB (ctOf L_3 S) N_is_deed b_is_deed (defScope s_is_deed) (defBody s_is_deed)) = true := by decide +kernel
theorem chk_4 : (C8.scC N_are_rows ["thing", "low", "high"] (defScope s_are_rows) && mtB (ctOf L_4 S) N_are_rows b_are_rows (defScope s_are_rows) (defBody s_are_rows)) = true := by decide +kernel
theorem chk_5 : (C8.scC N_is_paper ["thing"] (defScope s_is_paper) && mtB (ctOf L_5 S) N_is_paper b_is_paper (defScope s_is_paper) (defBody s_is_paper)) = true := by decide +kernel
theorem chk_6 : (C8.scC N_look ["paper"] (defScope s_look) && mtB (ctOf L_6 S) N_look b_look (defScope s_look) (defBody s_look)) = true := by decide +kernel
theorem chk_7 : (C8.scC N_length_of ["paper"] (defScope s_length_of) && mtB (ctOf L_7 S) N_length_of b_length_of (defScope s_length_of) (defBody s_length_of)) = true := by decide +kernel
theorem chk_8 : (C8.scC N_length ["paper"] (defScope s_length) && mtB (ctOf L_8 S) N_length b_length (defScope s_length) (defBody s_length)) = true := by decide +kernel
theorem chk_9 : (C8.scC N_begun [] (defScope s_begun) && mtB (ctOf L_9 S) N_begun b_begun (defScope s_begun) (defBody s_begun)) = true := by decide +kernel
theorem chk_10 : (C8.scC N_Group___init__ ["self", "many", "need"] (defScope s_Group___init__) && mtB (ctOf L_10 S) N_Group___init__ b_Group___init__ (defScope s_Group___init__) (defBody s_Group___init__)) = true := by decide +kernel
theorem chk_11 : (C8.scC N_term_at ["paper", "number"] (defScope s_term_at) && mtB (ctOf L_11 S) N_term_at b_term_at (defScope s_term_at) (defBody s_term_at)) = true := by decide +kernel
theorem chk_12 : (C8.scC N_last_of ["paper"] (defScope s_last_of) && mtB (ctOf L_12 S) N_last_of b_last_of (defScope s_last_of) (defBody s_last_of)) = true := by decide +kernel
theorem chk_13 : (C8.scC N_Group_look_place ["self", "place"] (defScope s_Group_look_place) && mtB (ctOf L_13 S) N_Group_look_place b_Group_look_place (defScope s_Group_look_place) (defBody s_Group_look_place)) = true := by decide +kernel
theorem chk_14 : (C8.scC N_Group_look_up ["self", "place"] (defScope s_Group_look_up) && mtB (ctOf L_14 S) N_Group_look_up b_Group_look_up (defScope s_Group_look_up) (defBody s_Group_look_up)) = true := by decide +kernel
theorem chk_15 : (C8.scC N_Group_with_rows ["self", "place", "deed"] (defScope s_Group_with_rows) && mtB (ctOf L_15 S) N_Group_with_rows b_Group_with_rows (defScope s_Group_with_rows) (defBody s_Group_with_rows)) = true := by decide +kernel
theorem chk_16 : (C8.scC N_Group_count ["self", "place"] (defScope s_Group_count) && mtB (ctOf L_16 S) N_Group_count b_Group_count (defScope s_Group_count) (defBody s_Group_count)) = true := by decide +kernel
theorem chk_17 : (C8.scC N_Group_hand_over ["self", "place"] (defScope s_Group_hand_over) && mtB (ctOf L_17 S) N_Group_hand_over b_Group_hand_over (defScope s_Group_hand_over) (defBody s_Group_hand_over)) = true := by decide +kernel
theorem chk_18 : (C8.scC N_Group_is_leading ["self", "place"] (defScope s_Group_is_leading) && mtB (ctOf L_18 S) N_Group_is_leading b_Group_is_leading (defScope s_Group_is_leading) (defBody s_Group_is_leading)) = true := by decide +kernel
theorem chk_19 : (C8.scC N_Group_look_leading ["self", "place"] (defScope s_Group_look_leading) && mtB (ctOf L_19 S) N_Group_look_leading b_Group_look_leading (defScope s_Group_look_leading) (defBody s_Group_look_leading)) = true := by decide +kernel
theorem chk_20 : (C8.scC N_Group_write ["self", "place", "deed"] (defScope s_Group_write) && mtB (ctOf L_20 S) N_Group_write b_Group_write (defScope s_Group_write) (defBody s_Group_write)) = true := by decide +kernel
theorem chk_21 : (C8.scC N_Group_fall ["self", "place"] (defScope s_Group_fall) && mtB (ctOf L_21 S) N_Group_fall b_Group_fall (defScope s_Group_fall) (defBody s_Group_fall)) = true := by decide +kernel
theorem chk_22 : (C8.scC N_Group_rise ["self", "place"] (defScope s_Group_rise) && mtB (ctOf L_22 S) N_Group_rise b_Group_rise (defScope s_Group_rise) (defBody s_Group_rise)) = true := by decide +kernel
theorem chk_23 : (C8.scC N_after ["things", "deed"] (defScope s_after) && mtB (ctOf L_23 S) N_after b_after (defScope s_after) (defBody s_after)) = true := by decide +kernel
theorem chk_24 : (C8.scC N_after_all ["things", "deeds"] (defScope s_after_all) && mtB (ctOf L_24 S) N_after_all b_after_all (defScope s_after_all) (defBody s_after_all)) = true := by decide +kernel
theorem chk_25 : (C8.scC N_trimmed ["paper", "number"] (defScope s_trimmed) && mtB (ctOf L_25 S) N_trimmed b_trimmed (defScope s_trimmed) (defBody s_trimmed)) = true := by decide +kernel
theorem chk_26 : (C8.scC N_Group_trim ["self", "place"] (defScope s_Group_trim) && mtB (ctOf L_26 S) N_Group_trim b_Group_trim (defScope s_Group_trim) (defBody s_Group_trim)) = true := by decide +kernel
theorem chk_27 : (C8.scC N_things_of ["paper"] (defScope s_things_of) && mtB (ctOf L_27 S) N_things_of b_things_of (defScope s_things_of) (defBody s_things_of)) = true := by decide +kernel
theorem chk_28 : (C8.scC N_Group_look ["self", "place", "least"] (defScope s_Group_look) && mtB (ctOf L_28 S) N_Group_look b_Group_look (defScope s_Group_look) (defBody s_Group_look)) = true := by decide +kernel
theorem chk_29 : (C8.scC N_Group_paper ["self", "place"] (defScope s_Group_paper) && mtB (ctOf L_29 S) N_Group_paper b_Group_paper (defScope s_Group_paper) (defBody s_Group_paper)) = true := by decide +kernel
theorem chk_30 : (C8.scC N_Group_leaders ["self"] (defScope s_Group_leaders) && mtB (ctOf L_30 S) N_Group_leaders b_Group_leaders (defScope s_Group_leaders) (defBody s_Group_leaders)) = true := by decide +kernel
theorem chk_31 : (C8.scC N__law_cell ["script", "k"] (defScope s__law_cell) && mtB (ctOf L_31 S) N__law_cell b__law_cell (defScope s__law_cell) (defBody s__law_cell)) = true := by decide +kernel
theorem chk_32 : (C8.scC N__law_seed ["seed", "k"] (defScope s__law_seed) && mtB (ctOf L_32 S) N__law_seed b__law_seed (defScope s__law_seed) (defBody s__law_seed)) = true := by decide +kernel
theorem chk_33 : (C8.scC N__law_pick ["seed", "many"] (defScope s__law_pick) && mtB (ctOf L_33 S) N__law_pick b__law_pick (defScope s__law_pick) (defBody s__law_pick)) = true := by decide +kernel
theorem chk_34 : (C8.scC N__law_deed ["seed"] (defScope s__law_deed) && mtB (ctOf L_34 S) N__law_deed b__law_deed (defScope s__law_deed) (defBody s__law_deed)) = true := by decide +kernel
theorem chk_35 : (C8.scC N__law_after ["some", "deeds"] (defScope s__law_after) && mtB (ctOf L_35 S) N__law_after b__law_after (defScope s__law_after) (defBody s__law_after)) = true := by decide +kernel
theorem chk_36 : (C8.scC N_law_k32 ["script"] (defScope s_law_k32) && mtB (ctOf L_36 S) N_law_k32 b_law_k32 (defScope s_law_k32) (defBody s_law_k32)) = true := by decide +kernel
section
variable {P : Program} {w : World} {K : PySem.W.Frag} {h base : Heap} {mg : Str → Option Value}
theorem wd_0 : WdOk P w K mg base 0 L_0 := WdOk.nil
theorem wd_1 (X : K.In h) (G : h.Ns mainGlobals mg) (c : He.SaysD fa fn K) : WdOk P w K mg base 1 L_1 := by
  obtain ⟨fd, F⟩ := c.def_ 0 (d := d_is_within) rfl
  exact WdOk.add wd_0 ⟨(fun _ => ⟨_, fd, fa_glo X G c (by decide), F.kp, F.bindsN fun _ _ _ _ _ _ us hl => match us, hl with | [_, _, _], _ => rfl, cleans (fn_ok F chk_0 (fx_of wd_0 (bs_of X G c))) (K_is_within )⟩), (fun z => nomatch z), (fun z => nomatch z)⟩
theorem wd_2 (X : K.In h) (G : h.Ns mainGlobals mg) (c : He.SaysD fa fn K) : WdOk P w K mg base 2 L_2 := by
  obtain ⟨fd, F⟩ := c.def_ 1 (d := d_is_key) rfl
  exact WdOk.add (wd_1 X G c) ⟨(fun _ => ⟨_, fd, fa_glo X G c (by decide), F.kp, F.bindsN fun _ _ _ _ _ _ us hl => match us, hl with | [_], _ => rfl, cleans (fn_ok F chk_1 (fx_of (wd_1 X G c) (bs_of X G c))) (K_is_key )⟩), (fun z => nomatch z), (fun z => nomatch z)⟩
theorem wd_3 (X : K.In h) (G : h.Ns mainGlobals mg) (c : He.SaysD fa fn K) : WdOk P w K mg base 3 L_3 := by
  obtain ⟨fd, F⟩ := c.def_ 2 (d := d_are_things) rfl
  exact WdOk.add (wd_2 X G c) ⟨(fun _ => ⟨_, fd, fa_glo X G c (by decide), F.kp, F.bindsN fun _ _ _ _ _ _ us hl => match us, hl with | [_], _ => rfl, cleans (fn_ok F chk_2 (fx_of (wd_2 X G c) (bs_of X G c))) (K_are_things ⟨rfl, rfl⟩ ⟨rfl, rfl⟩)⟩), (fun z => nomatch z), (fun z => nomatch z)⟩
theorem wd_4 (X : K.In h) (G : h.Ns mainGlobals mg) (c : He.SaysD fa fn K) : WdOk P w K mg base 4 L_4 := by
  obtain ⟨fd, F⟩ := c.def_ 3 (d := d_is_deed) rfl
  exact WdOk.add (wd_3 X G c) ⟨(fun _ => ⟨_, fd, fa_glo X G c (by decide), F.kp, F.bindsN fun _ _ _ _ _ _ us hl => match us, hl with | [_], _ => rfl, cleans (fn_ok F chk_3 (fx_of (wd_3 X G c) (bs_of X G c))) (K_is_deed ⟨rfl, rfl⟩ ⟨rfl, rfl⟩)⟩), (fun z => nomatch z), (fun z => nomatch z)⟩
theorem wd_5 (X : K.In h) (G : h.Ns mainGlobals mg) (c : He.SaysD fa fn K) : WdOk P w K mg base 5 L_5 := by
  obtain ⟨fd, F⟩ := c.def_ 4 (d := d_are_rows) rfl
  exact WdOk.add (wd_4 X G c) ⟨(fun _ => ⟨_, fd, fa_glo X G c (by decide), F.kp, F.bindsN fun _ _ _ _ _ _ us hl => match us, hl with | [_, _, _], _ => rfl, cleans (fn_ok F chk_4 (fx_of (wd_4 X G c) (bs_of X G c))) (K_are_rows ⟨rfl, rfl⟩ ⟨rfl, rfl⟩)⟩), (fun z => nomatch z), (fun z => nomatch z)⟩
theorem wd_6 (X : K.In h) (G : h.Ns mainGlobals mg) (c : He.SaysD fa fn K) : WdOk P w K mg base 6 L_6 := by
  obtain ⟨fd, F⟩ := c.def_ 5 (d := d_is_paper) rfl
  exact WdOk.add (wd_5 X G c) ⟨(fun _ => ⟨_, fd, fa_glo X G c (by decide), F.kp, F.bindsN fun _ _ _ _ _ _ us hl => match us, hl with | [_], _ => rfl, cleans (fn_ok F chk_5 (fx_of (wd_5 X G c) (bs_of X G c))) (K_is_paper ⟨rfl, rfl⟩ ⟨rfl, rfl⟩ ⟨rfl, rfl⟩)⟩), (fun z => nomatch z), (fun z => nomatch z)⟩
theorem wd_7 (X : K.In h) (G : h.Ns mainGlobals mg) (c : He.SaysD fa fn K) : WdOk P w K mg base 7 L_7 := by
  obtain ⟨fd, F⟩ := c.def_ 6 (d := d_look) rfl
  exact WdOk.add (wd_6 X G c) ⟨(fun _ => ⟨_, fd, fa_glo X G c (by decide), F.kp, F.bindsN fun _ _ _ _ _ _ us hl => match us, hl with | [_], _ => rfl, cleans (fn_ok F chk_6 (fx_of (wd_6 X G c) (bs_of X G c))) (K_look ⟨rfl, rfl⟩)⟩), (fun z => nomatch z), (fun z => nomatch z)⟩
theorem wd_8 (X : K.In h) (G : h.Ns mainGlobals mg) (c : He.SaysD fa fn K) : WdOk P w K mg base 8 L_8 := by
  obtain ⟨fd, F⟩ := c.def_ 7 (d := d_length_of) rfl
  exact WdOk.add (wd_7 X G c) ⟨(fun _ => ⟨_, fd, fa_glo X G c (by decide), F.kp, F.bindsN fun _ _ _ _ _ _ us hl => match us, hl with | [_], _ => rfl, cleans (fn_ok F chk_7 (fx_of (wd_7 X G c) (bs_of X G c))) (K_length_of )⟩), (fun z => nomatch z), (fun z => nomatch z)⟩
theorem wd_9 (X : K.In h) (G : h.Ns mainGlobals mg) (c : He.SaysD fa fn K) : WdOk P w K mg base 9 L_9 := by
  obtain ⟨fd, F⟩ := c.def_ 8 (d := d_length) rfl
  exact WdOk.add (wd_8 X G c) ⟨(fun _ => ⟨_, fd, fa_glo X G c (by decide), F.kp, F.bindsN fun _ _ _ _ _ _ us hl => match us, hl with | [_], _ => rfl, cleans (fn_ok F chk_8 (fx_of (wd_8 X G c) (bs_of X G c))) (K_length ⟨rfl, rfl⟩ ⟨rfl, rfl⟩)⟩), (fun z => nomatch z), (fun z => nomatch z)⟩
theorem wd_10 (X : K.In h) (G : h.Ns mainGlobals mg) (c : He.SaysD fa fn K) : WdOk P w K mg base 10 L_10 := by
  obtain ⟨fd, F⟩ := c.def_ 9 (d := d_begun) rfl
  exact WdOk.add (wd_9 X G c) ⟨(fun _ => ⟨_, fd, fa_glo X G c (by decide), F.kp, F.bindsN fun _ _ _ _ _ _ us hl => match us, hl with | [], _ => rfl, cleans (fn_ok F chk_9 (fx_of (wd_9 X G c) (bs_of X G c))) (K_begun )⟩), (fun z => nomatch z), (fun z => nomatch z)⟩
theorem wd_11 (X : K.In h) (G : h.Ns mainGlobals mg) (c : He.SaysD fa fn K) : WdOk P w K mg base 12 L_11 := by
  obtain ⟨fd, F⟩ := c.def_ 10 (d := d_Group___init__) rfl
  exact WdOk.add2 (wd_10 X G c) ⟨(fun z => nomatch z), (fun _ z => nomatch z), (fun _ _ => ⟨11, _, fd, Nat.le_refl _, fa_mkr rfl c, F.bindsN fun _ _ _ _ _ _ us hl => match us, hl with | [_, _, _], _ => rfl, cleans (fn_ok F chk_10 (fx_of (wd_10 X G c) (bs_of X G c))) (K_Group___init__ ⟨rfl, rfl⟩ ⟨rfl, rfl⟩)⟩)⟩
theorem wd_12 (X : K.In h) (G : h.Ns mainGlobals mg) (c : He.SaysD fa fn K) : WdOk P w K mg base 13 L_12 := by
  obtain ⟨fd, F⟩ := c.def_ 11 (d := d_term_at) rfl
  exact WdOk.add (wd_11 X G c) ⟨(fun _ => ⟨_, fd, fa_glo X G c (by decide), F.kp, F.bindsN fun _ _ _ _ _ _ us hl => match us, hl with | [_, _], _ => rfl, cleans (fn_ok F chk_11 (fx_of (wd_11 X G c) (bs_of X G c))) (K_term_at )⟩), (fun z => nomatch z), (fun z => nomatch z)⟩
theorem wd_13 (X : K.In h) (G : h.Ns mainGlobals mg) (c : He.SaysD fa fn K) : WdOk P w K mg base 14 L_13 := by
  obtain ⟨fd, F⟩ := c.def_ 12 (d := d_last_of) rfl
  exact WdOk.add (wd_12 X G c) ⟨(fun _ => ⟨_, fd, fa_glo X G c (by decide), F.kp, F.bindsN fun _ _ _ _ _ _ us hl => match us, hl with | [_], _ => rfl, cleans (fn_ok F chk_12 (fx_of (wd_12 X G c) (bs_of X G c))) (K_last_of ⟨rfl, rfl⟩ ⟨rfl, rfl⟩)⟩), (fun z => nomatch z), (fun z => nomatch z)⟩
theorem wd_14 (X : K.In h) (G : h.Ns mainGlobals mg) (c : He.SaysD fa fn K) : WdOk P w K mg base 15 L_14 := by
  obtain ⟨fd, F⟩ := c.def_ 13 (d := d_Group_look_place) rfl
  exact WdOk.add (wd_13 X G c) ⟨(fun z => nomatch z), (fun _ _ => ⟨_, fd, fa_meth c (by decide), F.bindsN fun _ _ _ _ _ _ us hl => match us, hl with | [_, _], _ => rfl, cleans (fn_ok F chk_13 (fx_of (wd_13 X G c) (bs_of X G c))) (K_Group_look_place ⟨rfl, rfl⟩)⟩), (fun _ z => nomatch z)⟩
theorem wd_15 (X : K.In h) (G : h.Ns mainGlobals mg) (c : He.SaysD fa fn K) : WdOk P w K mg base 16 L_15 := by
  obtain ⟨fd, F⟩ := c.def_ 14 (d := d_Group_look_up) rfl
  exact WdOk.add (wd_14 X G c) ⟨(fun z => nomatch z), (fun _ _ => ⟨_, fd, fa_meth c (by decide), F.bindsN fun _ _ _ _ _ _ us hl => match us, hl with | [_, _], _ => rfl, cleans (fn_ok F chk_14 (fx_of (wd_14 X G c) (bs_of X G c))) (K_Group_look_up ⟨rfl, rfl⟩)⟩), (fun _ z => nomatch z)⟩
theorem wd_16 (X : K.In h) (G : h.Ns mainGlobals mg) (c : He.SaysD fa fn K) : WdOk P w K mg base 17 L_16 := by
  obtain ⟨fd, F⟩ := c.def_ 15 (d := d_Group_with_rows) rfl
  exact WdOk.add (wd_15 X G c) ⟨(fun z => nomatch z), (fun _ _ => ⟨_, fd, fa_meth c (by decide), F.bindsN fun _ _ _ _ _ _ us hl => match us, hl with | [_, _, _], _ => rfl, cleans (fn_ok F chk_15 (fx_of (wd_15 X G c) (bs_of X G c))) (K_Group_with_rows )⟩), (fun _ z => nomatch z)⟩
theorem wd_17 (X : K.In h) (G : h.Ns mainGlobals mg) (c : He.SaysD fa fn K) : WdOk P w K mg base 18 L_17 := by
  obtain ⟨fd, F⟩ := c.def_ 16 (d := d_Group_count) rfl
  exact WdOk.add (wd_16 X G c) ⟨(fun z => nomatch z), (fun _ _ => ⟨_, fd, fa_meth c (by decide), F.bindsN fun _ _ _ _ _ _ us hl => match us, hl with | [_, _], _ => rfl, cleans (fn_ok F chk_16 (fx_of (wd_16 X G c) (bs_of X G c))) (K_Group_count ⟨rfl, rfl⟩ ⟨rfl, rfl⟩)⟩), (fun _ z => nomatch z)⟩
theorem wd_18 (X : K.In h) (G : h.Ns mainGlobals mg) (c : He.SaysD fa fn K) : WdOk P w K mg base 19 L_18 := by
  obtain ⟨fd, F⟩ := c.def_ 17 (d := d_Group_hand_over) rfl
  exact WdOk.add (wd_17 X G c) ⟨(fun z => nomatch z), (fun _ _ => ⟨_, fd, fa_meth c (by decide), F.bindsN fun _ _ _ _ _ _ us hl => match us, hl with | [_, _], _ => rfl, cleans (fn_ok F chk_17 (fx_of (wd_17 X G c) (bs_of X G c))) (K_Group_hand_over ⟨rfl, rfl⟩ ⟨rfl, rfl⟩ ⟨rfl, rfl⟩ ⟨rfl, rfl⟩ ⟨rfl, rfl⟩)⟩), (fun _ z => nomatch z)⟩
theorem wd_19 (X : K.In h) (G : h.Ns mainGlobals mg) (c : He.SaysD fa fn K) : WdOk P w K mg base 20 L_19 := by
  obtain ⟨fd, F⟩ := c.def_ 18 (d := d_Group_is_leading) rfl
  exact WdOk.add (wd_18 X G c) ⟨(fun z => nomatch z), (fun _ _ => ⟨_, fd, fa_meth c (by decide), F.bindsN fun _ _ _ _ _ _ us hl => match us, hl with | [_, _], _ => rfl, cleans (fn_ok F chk_18 (fx_of (wd_18 X G c) (bs_of X G c))) (K_Group_is_leading )⟩), (fun _ z => nomatch z)⟩
theorem wd_20 (X : K.In h) (G : h.Ns mainGlobals mg) (c : He.SaysD fa fn K) : WdOk P w K mg base 21 L_20 := by
  obtain ⟨fd, F⟩ := c.def_ 19 (d := d_Group_look_leading) rfl
  exact WdOk.add (wd_19 X G c) ⟨(fun z => nomatch z), (fun _ _ => ⟨_, fd, fa_meth c (by decide), F.bindsN fun _ _ _ _ _ _ us hl => match us, hl with | [_, _], _ => rfl, cleans (fn_ok F chk_19 (fx_of (wd_19 X G c) (bs_of X G c))) (K_Group_look_leading ⟨rfl, rfl⟩ ⟨rfl, rfl⟩)⟩), (fun _ z => nomatch z)⟩
theorem wd_21 (X : K.In h) (G : h.Ns mainGlobals mg) (c : He.SaysD fa fn K) : WdOk P w K mg base 22 L_21 := by
  obtain ⟨fd, F⟩ := c.def_ 20 (d := d_Group_write) rfl
  exact WdOk.add (wd_20 X G c) ⟨(fun z => nomatch z), (fun _ _ => ⟨_, fd, fa_meth c (by decide), F.bindsN fun _ _ _ _ _ _ us hl => match us, hl with | [_, _, _], _ => rfl, cleans (fn_ok F chk_20 (fx_of (wd_20 X G c) (bs_of X G c))) (K_Group_write ⟨rfl, rfl⟩ ⟨rfl, rfl⟩ ⟨rfl, rfl⟩ ⟨rfl, rfl⟩ ⟨rfl, rfl⟩)⟩), (fun _ z => nomatch z)⟩
theorem wd_22 (X : K.In h) (G : h.Ns mainGlobals mg) (c : He.SaysD fa fn K) : WdOk P w K mg base 23 L_22 := by
  obtain ⟨fd, F⟩ := c.def_ 21 (d := d_Group_fall) rfl
  exact WdOk.add (wd_21 X G c) ⟨(fun z => nomatch z), (fun _ _ => ⟨_, fd, fa_meth c (by decide), F.bindsN fun _ _ _ _ _ _ us hl => match us, hl with | [_, _], _ => rfl, cleans (fn_ok F chk_21 (fx_of (wd_21 X G c) (bs_of X G c))) (K_Group_fall ⟨rfl, rfl⟩)⟩), (fun _ z => nomatch z)⟩
theorem wd_23 (X : K.In h) (G : h.Ns mainGlobals mg) (c : He.SaysD fa fn K) : WdOk P w K mg base 24 L_23 := by
  obtain ⟨fd, F⟩ := c.def_ 22 (d := d_Group_rise) rfl
  exact WdOk.add (wd_22 X G c) ⟨(fun z => nomatch z), (fun _ _ => ⟨_, fd, fa_meth c (by decide), F.bindsN fun _ _ _ _ _ _ us hl => match us, hl with | [_, _], _ => rfl, cleans (fn_ok F chk_22 (fx_of (wd_22 X G c) (bs_of X G c))) (K_Group_rise ⟨rfl, rfl⟩)⟩), (fun _ z => nomatch z)⟩
theorem wd_24 (X : K.In h) (G : h.Ns mainGlobals mg) (c : He.SaysD fa fn K) : WdOk P w K mg base 25 L_24 := by
  obtain ⟨fd, F⟩ := c.def_ 23 (d := d_after) rfl
  exact WdOk.add (wd_23 X G c) ⟨(fun _ => ⟨_, fd, fa_glo X G c (by decide), F.kp, F.bindsN fun _ _ _ _ _ _ us hl => match us, hl with | [_, _], _ => rfl, cleans (fn_ok F chk_23 (fx_of (wd_23 X G c) (bs_of X G c))) (K_after )⟩), (fun z => nomatch z), (fun z => nomatch z)⟩
theorem wd_25 (X : K.In h) (G : h.Ns mainGlobals mg) (c : He.SaysD fa fn K) : WdOk P w K mg base 26 L_25 := by
  obtain ⟨fd, F⟩ := c.def_ 24 (d := d_after_all) rfl
  exact WdOk.add (wd_24 X G c) ⟨(fun _ => ⟨_, fd, fa_glo X G c (by decide), F.kp, F.bindsN fun _ _ _ _ _ _ us hl => match us, hl with | [_, _], _ => rfl, cleans (fn_ok F chk_24 (fx_of (wd_24 X G c) (bs_of X G c))) (K_after_all ⟨rfl, rfl⟩)⟩), (fun z => nomatch z), (fun z => nomatch z)⟩
theorem wd_26 (X : K.In h) (G : h.Ns mainGlobals mg) (c : He.SaysD fa fn K) : WdOk P w K mg base 27 L_26 := by
  obtain ⟨fd, F⟩ := c.def_ 25 (d := d_trimmed) rfl
  exact WdOk.add (wd_25 X G c) ⟨(fun _ => ⟨_, fd, fa_glo X G c (by decide), F.kp, F.bindsN fun _ _ _ _ _ _ us hl => match us, hl with | [_, _], _ => rfl, cleans (fn_ok F chk_25 (fx_of (wd_25 X G c) (bs_of X G c))) (K_trimmed ⟨rfl, rfl⟩ ⟨rfl, rfl⟩ ⟨rfl, rfl⟩ ⟨rfl, rfl⟩)⟩), (fun z => nomatch z), (fun z => nomatch z)⟩
theorem wd_27 (X : K.In h) (G : h.Ns mainGlobals mg) (c : He.SaysD fa fn K) : WdOk P w K mg base 28 L_27 := by
  obtain ⟨fd, F⟩ := c.def_ 26 (d := d_Group_trim) rfl
  exact WdOk.add (wd_26 X G c) ⟨(fun z => nomatch z), (fun _ _ => ⟨_, fd, fa_meth c (by decide), F.bindsN fun _ _ _ _ _ _ us hl => match us, hl with | [_, _], _ => rfl, cleans (fn_ok F chk_26 (fx_of (wd_26 X G c) (bs_of X G c))) (K_Group_trim ⟨rfl, rfl⟩ ⟨rfl, rfl⟩)⟩), (fun _ z => nomatch z)⟩
theorem wd_28 (X : K.In h) (G : h.Ns mainGlobals mg) (c : He.SaysD fa fn K) : WdOk P w K mg base 29 L_28 := by
  obtain ⟨fd, F⟩ := c.def_ 27 (d := d_things_of) rfl
  exact WdOk.add (wd_27 X G c) ⟨(fun _ => ⟨_, fd, fa_glo X G c (by decide), F.kp, F.bindsN fun _ _ _ _ _ _ us hl => match us, hl with | [_], _ => rfl, cleans (fn_ok F chk_27 (fx_of (wd_27 X G c) (bs_of X G c))) (K_things_of ⟨rfl, rfl⟩)⟩), (fun z => nomatch z), (fun z => nomatch z)⟩
theorem wd_29 (X : K.In h) (G : h.Ns mainGlobals mg) (c : He.SaysD fa fn K) : WdOk P w K mg base 30 L_29 := by
  obtain ⟨fd, F⟩ := c.def_ 28 (d := d_Group_look) rfl
  exact WdOk.add (wd_28 X G c) ⟨(fun z => nomatch z), (fun _ _ => ⟨_, fd, fa_meth c (by decide), F.bindsN fun _ _ _ _ _ _ us hl => match us, hl with | [_, _, _], _ => rfl, cleans (fn_ok F chk_28 (fx_of (wd_28 X G c) (bs_of X G c))) (K_Group_look ⟨rfl, rfl⟩ ⟨rfl, rfl⟩ ⟨rfl, rfl⟩)⟩), (fun _ z => nomatch z)⟩
theorem wd_30 (X : K.In h) (G : h.Ns mainGlobals mg) (c : He.SaysD fa fn K) : WdOk P w K mg base 31 L_30 := by
  obtain ⟨fd, F⟩ := c.def_ 29 (d := d_Group_paper) rfl
  exact WdOk.add (wd_29 X G c) ⟨(fun z => nomatch z), (fun _ _ => ⟨_, fd, fa_meth c (by decide), F.bindsN fun _ _ _ _ _ _ us hl => match us, hl with | [_, _], _ => rfl, cleans (fn_ok F chk_29 (fx_of (wd_29 X G c) (bs_of X G c))) (K_Group_paper ⟨rfl, rfl⟩)⟩), (fun _ z => nomatch z)⟩
theorem wd_31 (X : K.In h) (G : h.Ns mainGlobals mg) (c : He.SaysD fa fn K) : WdOk P w K mg base 32 L_31 := by
  obtain ⟨fd, F⟩ := c.def_ 30 (d := d_Group_leaders) rfl
  exact WdOk.add (wd_30 X G c) ⟨(fun z => nomatch z), (fun _ _ => ⟨_, fd, fa_meth c (by decide), F.bindsN fun _ _ _ _ _ _ us hl => match us, hl with | [_], _ => rfl, cleans (fn_ok F chk_30 (fx_of (wd_30 X G c) (bs_of X G c))) (K_Group_leaders ⟨rfl, rfl⟩)⟩), (fun _ z => nomatch z)⟩
theorem wd_32 (X : K.In h) (G : h.Ns mainGlobals mg) (c : He.SaysD fa fn K) : WdOk P w K mg base 33 L_32 := by
  obtain ⟨fd, F⟩ := c.def_ 31 (d := d__law_cell) rfl
  exact WdOk.add (wd_31 X G c) ⟨(fun _ => ⟨_, fd, fa_glo X G c (by decide), F.kp, F.bindsN fun _ _ _ _ _ _ us hl => match us, hl with | [_, _], _ => rfl, cleans (fn_ok F chk_31 (fx_of (wd_31 X G c) (bs_of X G c))) (K__law_cell )⟩), (fun z => nomatch z), (fun z => nomatch z)⟩
theorem wd_33 (X : K.In h) (G : h.Ns mainGlobals mg) (c : He.SaysD fa fn K) : WdOk P w K mg base 34 L_33 := by
  obtain ⟨fd, F⟩ := c.def_ 32 (d := d__law_seed) rfl
  exact WdOk.add (wd_32 X G c) ⟨(fun _ => ⟨_, fd, fa_glo X G c (by decide), F.kp, F.bindsN fun _ _ _ _ _ _ us hl => match us, hl with | [_, _], _ => rfl, cleans (fn_ok F chk_32 (fx_of (wd_32 X G c) (bs_of X G c))) (K__law_seed )⟩), (fun z => nomatch z), (fun z => nomatch z)⟩
theorem wd_34 (X : K.In h) (G : h.Ns mainGlobals mg) (c : He.SaysD fa fn K) : WdOk P w K mg base 35 L_34 := by
  obtain ⟨fd, F⟩ := c.def_ 33 (d := d__law_pick) rfl
  exact WdOk.add (wd_33 X G c) ⟨(fun _ => ⟨_, fd, fa_glo X G c (by decide), F.kp, F.bindsN fun _ _ _ _ _ _ us hl => match us, hl with | [_, _], _ => rfl, cleans (fn_ok F chk_33 (fx_of (wd_33 X G c) (bs_of X G c))) (K__law_pick )⟩), (fun z => nomatch z), (fun z => nomatch z)⟩
theorem wd_35 (X : K.In h) (G : h.Ns mainGlobals mg) (c : He.SaysD fa fn K) : WdOk P w K mg base 36 L_35 := by
  obtain ⟨fd, F⟩ := c.def_ 34 (d := d__law_deed) rfl
  exact WdOk.add (wd_34 X G c) ⟨(fun _ => ⟨_, fd, fa_glo X G c (by decide), F.kp, F.bindsN fun _ _ _ _ _ _ us hl => match us, hl with | [_], _ => rfl, cleans (fn_ok F chk_34 (fx_of (wd_34 X G c) (bs_of X G c))) (K__law_deed ⟨rfl, rfl⟩)⟩), (fun z => nomatch z), (fun z => nomatch z)⟩
theorem wd_36 (X : K.In h) (G : h.Ns mainGlobals mg) (c : He.SaysD fa fn K) : WdOk P w K mg base 37 L_36 := by
  obtain ⟨fd, F⟩ := c.def_ 35 (d := d__law_after) rfl
  exact WdOk.add (wd_35 X G c) ⟨(fun _ => ⟨_, fd, fa_glo X G c (by decide), F.kp, F.bindsN fun _ _ _ _ _ _ us hl => match us, hl with | [_, _], _ => rfl, cleans (fn_ok F chk_35 (fx_of (wd_35 X G c) (bs_of X G c))) (K__law_after )⟩), (fun z => nomatch z), (fun z => nomatch z)⟩
noncomputable abbrev F_law : FM := fnRun N_law_k32.length (eB (fnsOf L_36) S.xs b_law_k32)
theorem facts {f : Addr} (X : K.In h) (G : h.Ns mainGlobals mg) (hfa : mg ("law" : Str) = some (.ref f)) (c : He.SaysD fa fn K) :
    ∃ fd : FuncData, (∀ (s : Shared) (v : Value), BindsTo s fd ⟨[v], []⟩ [("script", v)]) ∧ ∀ base : Heap, K.In base → base.Ns mainGlobals mg → FnOk P w K mg base (L2.CX P w) 38 f fd ["script"] (spM K 1 F_law) := by
  obtain ⟨fd, F⟩ := c.def_ 36 (d := d_law_k32) rfl
  have e := hfa.symm.trans (fa_glo X G c (x := "law") (by decide))
  cases e
  have b := FunD.bindsA (ps := ["script"]) F fun _ _ _ _ _ _ us hl => match us, hl with | [_], _ => rfl
  exact ⟨fd, fun s v => b s [v] rfl, fun base _ _ => fn_ok F chk_36 (fx_of (wd_36 X G c) (bs_of X G c))⟩
end
theorem law_true : ∀ ns : List Int, ns.length ≤ 63 → ∃ G, F_law [.scr ns] [] = .ok (.bl true) G := T_law_k32 ⟨rfl, rfl⟩ ⟨rfl, rfl⟩ ⟨rfl, rfl⟩ ⟨rfl, rfl⟩ ⟨rfl, rfl⟩ ⟨rfl, rfl⟩ ⟨rfl, rfl⟩ ⟨rfl, rfl⟩ ⟨rfl, rfl⟩ ⟨rfl, rfl⟩ ⟨rfl, rfl⟩ ⟨rfl, rfl⟩ ⟨rfl, rfl⟩ ⟨rfl, rfl⟩ ⟨rfl, rfl⟩
end HT
open PySem PySem.W PySem.Calls PyProof.Rows
set_option maxHeartbeats 0 in
theorem PySem.Challenge.cw_copyrows_k32_whole_one_place_holds : PySem.Challenge.rw_copyrows_k32_whole_one_place.Holds := by
  w_on; o_law
  refine HandSHeadRun.head_any (r := OpenLaw.row PySem.Challenge.rw_copyrows_k32_whole_one_place) (q := view (OpenLaw.row PySem.Challenge.rw_copyrows_k32_whole_one_place).prog [45]) (H := HT.hk) (ob := HT.ob) (M := 60000) (loose := HT.loose) (d := HandSHeadRun.topDef (OpenLaw.row PySem.Challenge.rw_copyrows_k32_whole_one_place).prog 45) (kwd := []) HT.ob_eq
    (by kernel_rfl) (fun s => by kernel_rfl) HT.run (by kernel_rfl) (by kernel_rfl) (by kernel_rfl) (by rfl) (by first | assumption | decide +kernel) (by decide +kernel) ⟨rfl, rfl, rfl, rfl, rfl, by decide +kernel⟩ ?hw ?hc
  case hw => w_witness2
  case hc =>
    refine Mw.walk_W (l := PySem.Challenge.rw_copyrows_k32_whole_one_place) (n := 63) (k := 38) (x := "script") (CX := L2.CX (PySem.Challenge.rw_copyrows_k32_whole_one_place).prog) rfl (by decide) (by kernel_rfl) ⟨rfl, by decide, by decide⟩ ?F ?X
    case X => exact fun w H s e s' z => Mw.noCX H s e s' z
    case F =>
      intro w mg fa h Y G hmg0
      obtain ⟨K, KX, c⟩ := Y
      have hmg : mg ("law" : PySem.Str) = some (.ref fa) := by
        have e : (HandSHeadRun.topDef (OpenLaw.row PySem.Challenge.rw_copyrows_k32_whole_one_place).prog 45).name = ("law" : PySem.Str) := by kernel_rfl
        rw [← e]
        exact hmg0
      obtain ⟨fd, hb, hF⟩ := HT.facts (P := (PySem.Challenge.rw_copyrows_k32_whole_one_place).prog) (w := w) KX G hmg c
      exact ⟨K, fd, Mw.spM K 1 HT.F_law, KX, hb, fun H a ns hl ho hS => Mw.law_sp (n := 63) HT.law_true H a ns hl ho hS, hF⟩
